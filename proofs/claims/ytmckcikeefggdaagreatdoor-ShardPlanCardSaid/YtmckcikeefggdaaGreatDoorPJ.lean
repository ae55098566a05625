/- Part 10 of the proof. -/
import Derived.Test.YtmckcikeefggdaaGreatDoorPI
set_option linter.unusedVariables false
set_option linter.unusedSimpArgs false
set_option linter.unusedSectionVars false
set_option maxRecDepth 100000
set_option maxHeartbeats 16000000
namespace Go.Proofs.YtmckcikeefggdaaGreatDoor
open Go.Pi Go.Pi.S
section
variable {p:Prg} [Has p] [HasRx p] [HasK p] {h:Mem}
attribute [local simp] qY
theorem d19(q:Ex):q.ck=0->D19 p q:=by
 induction q using Ex.ind
 rename_i k f ms ra of nu de na wi mt st pt te ar ih;obtain⟨pk,pc,pa⟩:=pt;intro hck;obtain⟨-,hlen,hsub,hE⟩:=ck0 hck;have hna:nA k<=2:=by unfold nA;split;omega;split<;>omega
 have hk6:k=6->ar.length=1:=by
  rintro rfl
  simp[nA]at hlen;omega
 cases hp:zk (Ex.mk k f ms ra of nu de na wi mt st (.mk pk pc pa) te ar) with
 | true=>exact Zgd k f ms ra of nu de na wi mt st pk pc pa te ar hk6 hp
 | false=>exact Zge k f ms ra of nu de na wi mt st pk pc pa te ar hk6 hp (by omega) λ a ha=>ih a ha (hsub a ha)
theorem c7(q:Ex)(hq:q.ok):Zi (Zo p) h 7 [.c q.cv]=some (.c (.tup [q.plV,.int .i64 q.plE]),h):=by
 have h18:=λ h=>c18 (p:=p) (h:=h) q hq
 have h19:q.typ.2=0->∀ h,Zi (Zo p) h 19 [.c q.cv,.c (.sl false [])]=some (.c (.tup [(q.rest 0).cv,.sl false (q.parts.map Ex.cv)]),h):=λ ht h=>by
  obtain⟨h1,h2,h3⟩:=Fz (yl ht);exact d19 (p:=p) q h3 false [] (by have:=VW q;simp;omega) h
 obtain⟨k,f,ms,ra,of,nu,de,na,wi,mt,st,pk,pc,pa,te,ar,hsh⟩:=q.shape;obtain⟨k2,f2,ms2,ra2,of2,nu2,de2,na2,wi2,mt2,st2,pk2,pc2,pa2,te2,ar2,hr⟩:=(q.rest 0).shape;have hzE:X5 [] OG=.agg [.sl false [],.int .i64 0,.int .i64 0,.sl false [],.int .i64 0,.int .i64 0,.int .i64 0,.int .i64 0,.sl false [],.bool false,.int .i64 0,.sl false [],.int .i64 0,.sl false [],.sl false [],.str [],.sl false []]:=by rw[OG,Wb];rfl
 have hq1:=congrArg Ex.cv hsh
 rw[Ex.cv_mk]at hq1;have hP:X5 q.parts (q.rest 0)=X5 q.parts (Ex.mk k2 f2 ms2 ra2 of2 nu2 de2 na2 wi2 mt2 st2 (.mk pk2 pc2 pa2) te2 ar2):=by rw[hr]
 rw[Wb]at hP;rw[hr,Ex.cv_mk,hq1]at h19;obtain⟨t1,t2,hty⟩:∃ t1 t2,q.typ=(t1,t2):=⟨_,_,rfl⟩;rw[hty]at h18 h19;rw[hq1]at h18;simp only at h18 h19;refine ZB Has.h7 ?_;have hE:q.plE=if t2=0 then(if t1=1\/t1=2 then 0 else 15) else t2:=by simp only[Ex.plE,hty]
 simp only[Ex.plV,hE];rw[hP,hzE,hq1];by_cases ht:t2=0
 ·subst ht;have h19:=h19 rfl
  by_cases h1:t1=1\/t1=2
  ·simp only[if_pos h1,if_true];rcases h1 with rfl | rfl
   ·refine⟨1,Zk rfl ?_⟩;show W _ _ b7 _ _ _ _;simp[b7,h18,h19,ZH];refine⟨.inr rfl,?_⟩;simp[ZD,f7,Pi.results,ZN,Nat.ble,Z7,Yr,closedL,oneOf,Yl,ZL,X.ids.idsL,X.ids,ZM,X.wk,CV.wk,CV.wk0]
   ·refine⟨1,Zk rfl ?_⟩;show W _ _ b7 _ _ _ _;simp[b7,h18,h19,ZH];refine⟨.inr rfl,?_⟩;simp[ZD,f7,Pi.results,ZN,Nat.ble,Z7,Yr,closedL,oneOf,Yl,ZL,X.ids.idsL,X.ids,ZM,X.wk,CV.wk,CV.wk0]
  ·have a1:(t1 != 1)=true:=by simpa using λ e=>h1 (.inl e)
   have a2:(t1 != 2)=true:=by simpa using λ e=>h1 (.inr e)
   simp only[if_neg h1,if_true,show ¬ (15:Int)=0 by decide,if_false]
   refine⟨1,Zk rfl ?_⟩;show W _ _ b7 _ _ _ _;simp[b7,h18,ZH,a1,a2];refine⟨.inr rfl,?_⟩;simp[ZD,f7,Pi.results,ZN,Nat.ble,Z7,Yr,closedL,oneOf,Yl,ZL,X.ids.idsL,X.ids,ZM,X.wk,CV.wk,CV.wk0]
 ·have a1:(t2 != 0)=true:=by simpa using ht
  simp only[if_neg ht];refine⟨1,Zk rfl ?_⟩;show W _ _ b7 _ _ _ _;simp[b7,h18,ZH,a1];refine⟨.inr rfl,?_⟩;simp[ZD,f7,Pi.results,ZN,Nat.ble,Z7,Yr,closedL,oneOf,Yl,ZL,X.ids.idsL,X.ids,ZM,X.wk,CV.wk,CV.wk0]
end
section
variable {p:Prg} [Has p] [HasL p] [HasW p] [HasPr p] [HasI p] [HasG p] [HasRx p] [HasK p] {h:Mem}
attribute [local simp] qY
theorem c8(ps:List Ex)(r:Ex)(hps:∀ x∈ps,x.ok/\x.chk=0)(hr:r.ok/\r.chk=0)(hl:ps.length<=200):Zi (Zo p) h 8 [.c (X5 ps r),.c (X5 ps r)]=some (.c (.bool true),h):=by
 have h20:=λ h=>c20 (p:=p) (h:=h) r hr.1 hr.2
 have h20s:=fun (x:Ex) (hx:x∈ps) h=>c20 (p:=p) (h:=h) x (hps x hx).1 (hps x hx).2
 obtain⟨k,f,ms,ra,of,nu,de,na,wi,mt,st,pk,pc,pa,te,ar,rfl⟩:=r.shape;rw[Wb];rw[Ex.cv_mk]at h20;have h20':=X0 (vs:=[_,_]) h20
 simp only[List.map_cons,List.map_nil]at h20';obtain⟨PS,hPS⟩:∃ PS,PS=ps.map Ex.cv:=⟨_,rfl⟩;have hPl:PS.length=ps.length:=by rw[hPS,List.length_map]
 rw[<- hPS];refine Ym Has.h8 ?_;refine⟨PS.length+1,Zk rfl ?_⟩;show W _ _ b8 _ _ _ _;simp[b8];refine ZU (λ i sl h=>h=[Ob.cells 38 [.c (.sl false PS),.c (.int .i64 k),.c (.int .i64 f),.c (.sl false (ms.map Mt.cv)),.c (.int .i64 ra),.c (.int .i64 of),.c (.int .i64 nu),.c (.int .i64 de),.c (.sl false (na.map CV.str)),.c (.bool wi),.c (.int .i64 mt),.c (.sl false (st.map Sg.cv)),.c (.int .i64 pk),.c (.sl false (pc.map Cd.cv)),.c (.sl false (pa.map Pt.cv)),.c (.str te),.c (.sl false (ar.map Ex.cv))],Ob.cells 38 [.c (.sl false PS),.c (.int .i64 k),.c (.int .i64 f),.c (.sl false (ms.map Mt.cv)),.c (.int .i64 ra),.c (.int .i64 of),.c (.int .i64 nu),.c (.int .i64 de),.c (.sl false (na.map CV.str)),.c (.bool wi),.c (.int .i64 mt),.c (.sl false (st.map Sg.cv)),.c (.int .i64 pk),.c (.sl false (pc.map Cd.cv)),.c (.sl false (pa.map Pt.cv)),.c (.str te),.c (.sl false (ar.map Ex.cv))]]/\Zm sl 2=.ptr 0 0/\Zm sl 3=.ptr 1 0/\Zm sl 5=.c (.int .i64 i)/\(True)) (PS.length) (by omega) ⟨rfl,by simp,by simp,by simp,by simp⟩ ?_
 rintro i sl h hi ⟨rfl,h2,h3,h5,hq⟩
 rcases Zl i (PS.length) with hlt | hge
 ·have hw:IntKind.i64.wrap ((i:Int)+1)=(i:Int)+1:=ZA (by omega) (by omega)
  have hia:i < ps.length:=by omega
  have hx:PS[i]=ps[i].cv:=by simp[hPS]
  have h20s:=h20s ps[i] (Zh hia)
  obtain⟨k2,f2,ms2,ra2,of2,nu2,de2,na2,wi2,mt2,st2,pk2,pc2,pa2,te2,ar2,hsh⟩:=Ex.shape ps[i];rw[hsh,Ex.cv_mk]at hx h20s;have h20s':=X0 (vs:=[_,_]) h20s
  simp only[List.map_cons,List.map_nil]at h20s';simp[h2,h3,h5,hlt,hw,Zn];refine Zw rfl (by simp[Mem.same,Ze,Zj]) ?_
  simp[h2,h3,h5,hlt,hw,Zn,hx,h20s,h20s']
 ·obtain rfl:i=(PS.length):=by omega
  simp[h2,h3,h5,h20];exact⟨.inr rfl,by simp[f8,ZD,Pi.results,ZL,Ob.lt,Ob.ids,X.ids.idsL,X.ids,ZM,oneOf,Yl,closedL,frz.frzL,frz,ZN]⟩
end
def Sb(x q:Ex):Prop:=x.sz<=q.sz/\x.dep<=q.dep/\(q.ck=0->x.ck=0)/\(q.ok->x.ok)
theorem Sb.refl(q:Ex):Sb q q:=⟨Nat.le_refl _,Nat.le_refl _,λ h=>h,λ h=>h⟩
theorem Sb.trans{x y z:Ex}(h1:Sb x y)(h2:Sb y z):Sb x z:=⟨Nat.le_trans h1.1 h2.1,Nat.le_trans h1.2.1 h2.2.1,λ h=>h1.2.2.1 (h2.2.2.1 h),λ h=>h1.2.2.2 (h2.2.2.2 h)⟩
theorem sz_mem:∀ {l:List Ex} {q:Ex},q∈l->q.sz<=Ex.szs l
 | p::r,q,h=>by
  simp only[Ex.szs];rcases List.mem_cons.1 h with rfl | h
  ·omega
  ·have:=sz_mem h;omega
theorem yT:∀ {l:List Ex} {q:Ex},q∈l->Ex.cks l=0->q.ck=0
 | p::r,q,h,hc=>by
  simp only[Ex.cks]at hc;split at hc
  ·rename_i hp;rcases List.mem_cons.1 h with rfl | h
   ·exact hp
   ·exact yT h hc
  ·rename_i hp;exact absurd hc hp
theorem Da:∀ {l:List Ex},(∀ q∈l,q.ck=0)->Ex.cks l=0
 | [],_=>by simp[Ex.cks]
 | p::r,h=>by
  simp only[Ex.cks,h p Zv,if_true];exact Da λ q hq=>h q (Zq _ hq)
theorem Sb.arg{k f ms ra of nu de na wi mt st pa te ar}{x:Ex}(hx:x∈ar):Sb x (.mk k f ms ra of nu de na wi mt st pa te ar):=by
 refine⟨?_,?_,λ h=>?_,λ h=>?_⟩
 ·have:=sz_mem hx;simp only[Ex.sz];omega
 ·have:=Ex.dep_mem hx;simp only[Ex.dep];omega
 ·simp only[Ex.ck]at h;split at h
  ·exact yT hx h
  ·rename_i hp;exact absurd h hp
 ·simp only[Ex.ok]at h;exact Ex.oks_mem h.2.2.2.2.2.2.2.2.2 x hx
theorem GX:∀ {l:List Ex} {x:Ex},x∈ZV l->∃ a∈l,x∈a.parts
 | a::r,x,h=>by
  simp only[ZV,List.mem_append]at h;rcases h with h | h
  ·exact⟨a,Zv,h⟩
  ·obtain⟨b,h1,h2⟩:=GX h;exact⟨b,Zq _ h1,h2⟩
theorem zh(q:Ex):∀ x∈q.parts,Sb x q:=by
 induction q using Ex.ind
 rename_i k f ms ra of nu de na wi mt st pt te ar ih;intro x hx;simp only[Ex.parts]at hx;split at hx
 ·rw[ZF.1 hx];exact .refl _
 ·obtain⟨a,ha,hxa⟩:=GX hx;exact(ih a ha x hxa).trans (.arg ha)
mutual
def Ex.lvs:Ex->List Ex
 | .mk k f ms ra of nu de na wi mt st pa te ar=>if QV k then .mk k f ms ra of nu de na wi mt st pa te ar::Ya ar else Ya ar
def Ya:List Ex->List Ex
 | []=>[]
 | a::r=>a.lvs++Ya r
end
theorem zJ:∀ {l:List Ex} {x:Ex},x∈Ya l->∃ a∈l,x∈a.lvs
 | a::r,x,h=>by
  simp only[Ya,List.mem_append]at h;rcases h with h | h
  ·exact⟨a,Zv,h⟩
  ·obtain⟨b,h1,h2⟩:=zJ h;exact⟨b,Zq _ h1,h2⟩
theorem F9(q:Ex):∀ x∈q.lvs,Sb x q:=by
 induction q using Ex.ind
 rename_i k f ms ra of nu de na wi mt st pt te ar ih;intro x hx;have hgo:x∈Ya ar->Sb x (.mk k f ms ra of nu de na wi mt st pt te ar):=λ hx=>by
  obtain⟨a,ha,hxa⟩:=zJ hx;exact(ih a ha x hxa).trans (.arg ha)
 simp only[Ex.lvs]at hx;split at hx
 ·rcases List.mem_cons.1 hx with rfl | hx
  ·exact .refl _
  ·exact hgo hx
 ·exact hgo hx
theorem KP:∀ (a b:List Ex),Ya (a++b)=Ya a++Ya b
 | [],b=>by simp[Ya]
 | x::a,b=>by simp only[List.cons_append,Ya,KP a b,List.append_assoc]
theorem gZ(q:Ex):Ya q.parts=q.lvs:=by
 induction q using Ex.ind
 rename_i k f ms ra of nu de na wi mt st pt te ar ih;have hL:∀ l:List Ex,(∀ a∈l,Ya a.parts=a.lvs)->Ya (ZV l)=Ya l:=by
  intro l
  induction l with
  | nil=>intro _;rfl
  | cons a r ihr=>
   intro h;simp only[ZV,Ya,KP,h a Zv,ihr λ b hb=>h b (Zq _ hb)]
 simp only[Ex.parts];cases hp:zk (.mk k f ms ra of nu de na wi mt st pt te ar) with
 | true=>simp[Ya]
 | false=>
  have hlf:QV k=false:=by simp only[zk,ZZ]at hp;exact hp.1
  simp only[Bool.false_eq_true,if_false,Ex.lvs,hlf];exact hL ar ih
theorem Ek:∀ n:Nat,n<=200->QO (Vd (XE n))=0:=by
 have h:∀ n:Fin 201,QO (Vd (XE n.1))=0:=by decide +kernel
 intro n hn;exact h ⟨n,by omega⟩
theorem Fx{k f ms ra of nu de na wi mt st pt te}{a b:List Ex}(h:a.length=b.length):QO (.mk k f ms ra of nu de na wi mt st pt te a)=QO (.mk k f ms ra of nu de na wi mt st pt te b):=by
 obtain⟨pk,pc,pa⟩:=pt;simp only[QO,h]
theorem restL_len:∀ (l:List Ex) (n:Nat),(Z3 l n).length=l.length
 | [],n=>by simp[Z3]
 | a::r,n=>by simp only[Z3,List.length_cons,restL_len r]
theorem BQ:∀ {l:List Ex},(∀ q∈l,q.ok)->Ex.oks l
 | [],_=>by simp[Ex.oks]
 | p::r,h=>by simp only[Ex.oks];exact⟨h p Zv,BQ λ q hq=>h q (Zq _ hq)⟩
theorem Ey(q:Ex):q.ok->∀ n,(q.rest n).ok:=by
 induction q using Ex.ind
 rename_i k f ms ra of nu de na wi mt st pt te ar ih;intro hok n;have hL:∀ (l:List Ex),(∀ a∈l,a.ok->∀ n,(a.rest n).ok)->(∀ a∈l,a.ok)->∀ n,∀ x∈Z3 l n,x.ok:=by
  intro l
  induction l with
  | nil=>intro _ _ n x hx;simp[Z3]at hx
  | cons a r ihr=>
   intro h1 h2 n x hx;simp only[Z3,List.mem_cons]at hx;rcases hx with rfl | hx
   ·exact h1 a Zv (h2 a Zv) n
   ·exact ihr (λ b hb=>h1 b (Zq _ hb)) (λ b hb=>h2 b (Zq _ hb)) _ x hx
 simp only[Ex.rest]
 split
 ·simp[Vd,Ex.ok,Pt.ok,Pt.oks,Ex.oks,ZX,XE]
 ·simp only[Ex.ok]at hok ⊢;refine⟨hok.1,hok.2.1,hok.2.2.1,hok.2.2.2.1,hok.2.2.2.2.1,hok.2.2.2.2.2.1,hok.2.2.2.2.2.2.1,hok.2.2.2.2.2.2.2.1,by rw[restL_len];exact hok.2.2.2.2.2.2.2.2.1,?_⟩
  exact BQ (hL ar ih (Ex.oks_mem hok.2.2.2.2.2.2.2.2.2) n)
theorem uv(q:Ex):∀ n,(q.rest n).sz<=q.sz/\(q.rest n).dep<=q.dep:=by
 induction q using Ex.ind
 rename_i k f ms ra of nu de na wi mt st pt te ar ih;intro n;have hL:∀ (l:List Ex),(∀ a∈l,∀ n,(a.rest n).sz<=a.sz/\(a.rest n).dep<=a.dep)->∀ n,Ex.szs (Z3 l n)<=Ex.szs l/\Ex.deps (Z3 l n)<=Ex.deps l:=by
  intro l
  induction l with
  | nil=>intro _ n;simp[Z3]
  | cons a r ihr=>
   intro h1 n;have h2:=h1 a Zv n
   have h3:=ihr (λ b hb=>h1 b (Zq _ hb)) (n+a.parts.length)
   simp only[Z3,Ex.szs,Ex.deps];omega
 simp only[Ex.rest]
 split
 ·simp[Vd,Ex.sz,Pt.psz,Vi,Ex.szs,Ex.dep,Ex.deps];omega
 ·have:=hL ar ih n
  simp only[Ex.sz,Ex.dep];omega
theorem Ez(q:Ex):q.ck=0->∀ n,n+q.parts.length<=200->(q.rest n).ck=0:=by
 induction q using Ex.ind
 rename_i k f ms ra of nu de na wi mt st pt te ar ih;intro hck n hn;have hL:∀ (l:List Ex),(∀ a∈l,a.ck=0->∀ n,n+a.parts.length<=200->(a.rest n).ck=0)->(∀ a∈l,a.ck=0)->∀ n,n+(ZV l).length<=200->∀ x∈Z3 l n,x.ck=0:=by
  intro l
  induction l with
  | nil=>intro _ _ n _ x hx;simp[Z3]at hx
  | cons a r ihr=>
   intro h1 h2 n hn x hx;simp only[ZV,List.length_append]at hn;simp only[Z3,List.mem_cons]at hx;rcases hx with rfl | hx
   ·exact h1 a Zv (h2 a Zv) n (by omega)
   ·exact ihr (λ b hb=>h1 b (Zq _ hb)) (λ b hb=>h2 b (Zq _ hb)) _ (by omega) x hx
 cases hp:zk (.mk k f ms ra of nu de na wi mt st pt te ar) with
 | true=>
  simp only[Ex.parts,hp,if_true,List.length_singleton]at hn;simp only[Ex.rest,hp,if_true];have:=Ek n (by omega)
  unfold Vd at this ⊢;simp only[Ex.ck,this,if_true,Ex.cks]
 | false=>
  simp only[Ex.parts,hp,Bool.false_eq_true,if_false]at hn;simp only[Ex.rest,hp,Bool.false_eq_true,if_false];simp only[Ex.ck]at hck ⊢;rw[Fx (restL_len ar n)];split at hck
  ·rename_i he;simp only[he,if_true];exact Da (hL ar ih (λ a ha=>yT ha hck) n hn)
  ·rename_i he;exact absurd hck he
theorem Df{q:Ex}(h1:q.sz<=100)(h2:q.dep<=12)(h3:q.ck=0):q.chk=0:=by
 unfold Ex.chk;rw[if_neg (by omega),if_neg (by omega),h3]
section
variable {p:Prg} [Has p] [HasRx p] {h:Mem}
abbrev jM(v:Nat):Ob:=.tip v 16 33
def TL(h:Mem)(B:X)(es:List CV):Option Nat->Prop
 | none=>B=.c (.sl true [])/\es=[]
 | some k=>∃ v,B=.own es k v/\h[k]?=some (jM v)
def CL(p:Prg)(a:CV)(ls:List CV):Prop:=
 (∃ z H ko,(Zo p).call 22 [.c a,.c (.sl true [])] []=some (z,H)/\SM H/\TL H z ls ko/\(ko=none->H=[]))/\
 ∀ es v,es.length+ls.length<=10000->∃ v',(Zo p).call 22 [.c a,.own es 0 v] [jM v]=some (.own (es++ls) 0 v',[jM v'])
theorem TL.push{h:Mem}{B:X}{es:List CV}{ko:Option Nat}(hs:TL h B es ko)(o:Ob):TL (h++[o]) B es ko:=by
 cases ko with
 | none=>exact hs
 | some k=>obtain⟨v,h1,h2⟩:=hs;exact⟨v,h1,Y7 h2⟩
theorem TL.app{h:Mem}{B:X}{es:List CV}{ko:Option Nat}(hs:TL h B es ko)(hm:SM h)(y:CV)(hl:es.length<=10000):∃ B1 h1 ko1,ZP h 33 16 232 B [y]=some (B1,h1)/\TL h1 B1 (es++[y]) ko1/\SM h1/\h.length<=h1.length/\KO h.length ko ko1/\∀ j,j < h.length->ko ≠ some j->h1[j]?=h[j]?:=by
 cases ko with
 | none=>
  obtain⟨rfl,rfl⟩:=hs;refine⟨_,_,some h.length,qI (by simp) (by omega),⟨0,rfl,by simp⟩,hm.push (.inr ⟨_,_,_,rfl⟩),by simp,λ k hk=>by injection hk with hk;omega,λ j hj _=>?_⟩
  rw[Zr hj]
 | some k=>
  obtain⟨v,rfl,h2⟩:=hs;have hkl:=(Za.1 h2).1
  refine⟨_,_,some k,y9 h2 (by omega) (by omega),⟨v+1,rfl,ZG hkl⟩,hm.set _ (.inr ⟨_,_,_,rfl⟩),by simp,rfl,λ j hj hjk=>?_⟩
  rw[Zx (λ e=>hjk (by rw[e]))]
theorem uY{h:Mem}{a:CV}{B:X}{es ls:List CV}{ko:Option Nat}(hc:CL p a ls)(hs:TL h B es ko)(hm:SM h)(hl:es.length+ls.length<=10000):∃ B' h' ko',Zi (Zo p) h 22 [.c a,B]=some (B',h')/\TL h' B' (es++ls) ko'/\SM h'/\h.length<=h'.length/\KO h.length ko ko'/\∀ j,j < h.length->ko ≠ some j->h'[j]?=h[j]?:=by
 cases ko with
 | none=>
  obtain⟨rfl,rfl⟩:=hs;obtain⟨⟨z,H,ko1,hcall,hSM,hTL,hn⟩,-⟩:=hc;cases ko1 with
  | none=>
   have hH:=hn rfl
   subst hH;obtain⟨rfl,rfl⟩:=hTL;refine⟨.c (.sl true []),h,none,?_,⟨rfl,rfl⟩,hm,Nat.le_refl _,λ k hk=>(by cases hk),λ j _ _=>rfl⟩
   simp only[Zi,X.ids.idsL,X.ids,hcall];rfl
  | some k=>
   obtain⟨v,rfl,h2⟩:=hTL;have hkl:=(Za.1 h2).1
   obtain⟨H',hr1,hr2,hr3,hr4⟩:=uh (n':=h.length+H.length) (ρ:=λ k=>some (h.length+k)) (λ j hj=>⟨_,rfl,by omega⟩) hSM
   obtain⟨o2,h3,h4⟩:=hr4 k _ h2;have:(jM v).ren (λ k=>some (h.length+k))=some (jM v):=rfl
   rw[this]at h3;injection h3 with h3;subst h3
   refine⟨.own ls (h.length+k) v,h++H',some (h.length+k),?_,⟨v,rfl,?_⟩,?_,by simp,λ q hq=>by injection hq with hq;omega,λ j hj _=>Zr hj⟩
   ·cases H with
    | nil=>simp at hkl
    | cons o t=>simp only[Zi,X.ids.idsL,X.ids,hcall,List.append_nil,List.nil_append,X.ren,hr1]
   ·rw[Zp (by omega),Yk];exact h4
   ·intro q hq;rw[List.length_append,hr3];rcases List.mem_append.1 hq with h5 | h5
    ·exact(hm q h5).mono (by omega)
    ·exact hr2 q h5
 | some k=>
  obtain⟨v,rfl,h2⟩:=hs;have hkl:=(Za.1 h2).1
  obtain⟨v',hcall⟩:=hc.2 es v hl;have hpk:Xw k [k]=some 0:=by simp only[Xw,Nat.beq_refl,cond_true]
  refine⟨.own (es++ls) k v',h.set k (jM v'),some k,?_,⟨v',rfl,ZG hkl⟩,hm.set _ (.inr ⟨_,_,_,rfl⟩),by simp,rfl,λ j _ hjk=>?_⟩
  ·have h1:X.ids.idsL 6 [.c a,.own es k v]=some [k]:=rfl
   have h3:Xp h 1000 [k] []=some [k]:=(ZS (n:=999) rfl h2 rfl).trans YI
   have h4:X.ren.renL (λ j=>Xw j [k]) 6 [.c a,.own es k v]=some [.c a,.own es 0 v]:=by simp only[X.ren.renL,X.ren,hpk]
   have h5:YM h [k]=some [jM v]:=by simp only[YM,h2]
   have h6:Mem.ren (λ j=>Xw j [k]) [jM v]=some [jM v]:=rfl
   simp only[Zi,h1,h3,h4,h5,h6,hcall];have h7:X.ren (λ q=>bif Nat.ble [k].length q then some (h.length+(q - [k].length)) else[k][q]?) 6 (.own (es++ls) 0 v')=some (.own (es++ls) k v'):=rfl
   have h8:Mem.ren (λ q=>bif Nat.ble [k].length q then some (h.length+(q - [k].length)) else[k][q]?) [jM v']=some [jM v']:=rfl
   simp only[h7,h8];simp[YS]
  ·rw[Zx (λ e=>hjk (by rw[e]))]
theorem jh{h:Mem}{sl:Zf}{live:List Nat}{L q:Nat}{es:List CV}{ko:Option Nat}(hq:q∈live)(hT:TL h (Zm sl q) es ko)(hm:SM h)(hL:L<=h.length):∃ h',clean (some live) L ⟨sl,h⟩=⟨ZK live sl,h'⟩/\SM h'/\L<=h'.length/\(∀ j,j < L->h'[j]?=h[j]?)/\TL h' (Zm sl q) es ko:=by
 simp only[clean,gc];cases hb:Nat.ble h.length L with
 | true=>exact⟨h,rfl,hm,hL,λ _ _=>rfl,hT⟩
 | false=>
  cases hc:(Yy L (ZK live sl)&&ZL L (List.take L h)) with
  | false=>exact⟨h,rfl,hm,hL,λ _ _=>rfl,hT⟩
  | true=>
   rw[Bool.and_eq_true]at hc;have hlen:(h.take L).length=L:=by simp;omega
   refine⟨h.take L,rfl,λ o ho=>?_,by omega,λ j hj=>List.getElem?_take_of_lt hj,?_⟩
   ·rw[hlen];exact HK (hm o (List.mem_of_mem_take ho)) (QD.1 hc.2 o ho)
   ·cases ko with
    | none=>exact hT
    | some k=>
     obtain⟨v,h1,h2⟩:=hT;have:=UX hq hc.1
     rw[h1]at this;simp only[X.lt,X.ids,ZM,Bool.and_true]at this;have:=Zg this
     exact⟨v,h1,by rw[List.getElem?_take_of_lt (by omega)];exact h2⟩
end
section
variable {p:Prg} [Has p] [HasRx p] [HasK p] {h:Mem}
attribute [local simp] qY
def Q22(m:Nat)(ko:Option Nat)(es:List CV)(x:Pi.Exit)(sl:Zf)(h':Mem):Prop:=x=.ret/\∃ ko',TL h' (Zm sl 4) es ko'/\SM h'/\KO m ko ko'/\m<=h'.length
theorem Ku:∀ (l:List Ex) (i:Nat) (h:i < l.length),Ya (l.take (i+1))=Ya (l.take i)++l[i].lvs
 | a::r,0,h=>by simp[Ya]
 | a::r,i+1,h=>by
  have:=Ku r i (by simpa using h)
  simp only[List.take_succ_cons,Ya,this,List.getElem_cons_succ,List.append_assoc]
theorem JP(l:List Ex)(i:Nat):(Ya (l.take i)).length<=(Ya l).length:=by
 induction l generalizing i with
 | nil=>simp
 | cons a r ih=>
  cases i with
  | zero=>simp[Ya]
  | succ i=>simp only[List.take_succ_cons,Ya,List.length_append];have:=ih i;omega
theorem w22(k f ms ra of nu de na wi mt st pk pc pa te ar)(har:ar.length<=2)(ih:∀ a∈ar,CL p a.cv (a.lvs.map Ex.cv))(h0:Mem)(B:X)(es:List CV)(ko:Option Nat)(hs:TL h0 B es ko)(hm:SM h0)(hl:es.length+(Ex.lvs (Ex.mk k f ms ra of nu de na wi mt st (.mk pk pc pa) te ar)).length<=10000):W (Zo p) 4 b22 [(0,.c (Ex.mk k f ms ra of nu de na wi mt st (.mk pk pc pa) te ar).cv),(1,B)] h0 [] (Q22 h0.length ko (es++(Ex.lvs (Ex.mk k f ms ra of nu de na wi mt st (.mk pk pc pa) te ar)).map Ex.cv)):=by
 have hlv:Ex.lvs (Ex.mk k f ms ra of nu de na wi mt st (.mk pk pc pa) te ar)=(if QV k then[(Ex.mk k f ms ra of nu de na wi mt st (.mk pk pc pa) te ar)] else[])++Ya ar:=by simp only[Ex.lvs];split<;>rfl
 rw[hlv]at hl ⊢;rw[List.map_append,<- List.append_assoc];have hxc:=Ex.cv_mk k f ms ra of nu de na wi mt st pk pc pa te ar
 obtain⟨al,hal⟩:∃ al,al=ar.map Ex.cv:=⟨_,rfl⟩;have hall:al.length=ar.length:=by rw[hal];simp
 rw[<- hal]at hxc;obtain⟨m,hmm⟩:∃ m,m=h0.length:=⟨_,rfl⟩;rw[<- hmm];obtain⟨h1,hh1⟩:∃ h1,h1=h0++[oE k f ms ra of nu de na wi mt st pk pc pa te al]:=⟨_,rfl⟩;have soE:∀ n,SO n (oE k f ms ra of nu de na wi mt st pk pc pa te al):=λ n=>.inl ⟨_,_,rfl,WH [.int .i64 k,.int .i64 f,.sl false (ms.map Mt.cv),.int .i64 ra,.int .i64 of,.int .i64 nu,.int .i64 de,.sl false (na.map CV.str),.bool wi,.int .i64 mt,.sl false (st.map Sg.cv),.int .i64 pk,.sl false (pc.map Cd.cv),.sl false (pa.map Pt.cv),.str te,.sl false al]⟩
 have hl1:h1.length=m+1:=by rw[hh1,hmm];simp
 have hb:h1[m]?=some (oE k f ms ra of nu de na wi mt st pk pc pa te al):=by rw[hh1,hmm];simp
 have hs1:TL h1 B es ko:=by rw[hh1];exact hs.push _
 have hm1:SM h1:=by rw[hh1];exact hm.push (soE _)
 have hkm:ko ≠ some m:=by
  rintro rfl
  obtain⟨v,_,q⟩:=hs1;rw[hb]at q;cases q
 obtain⟨es1,hes1⟩:∃ es1,es1=es++List.map Ex.cv (if QV k then[(Ex.mk k f ms ra of nu de na wi mt st (.mk pk pc pa) te ar)] else[]):=⟨_,rfl⟩;rw[<- hes1];have hel:es1.length<=es.length+1:=by rw[hes1];split<;>simp
 have hell:es1.length+(Ya ar).length<=10000:=by rw[hes1];simp at hl ⊢;omega
 unfold b22;refine JB (λ s h=>h=h1/\Zm s 1=B/\Zm s 2=.ptr m 0) ?_ ?_
 ·rw[hxc];simp[hh1,hmm]
 rintro s h ⟨rfl,s1,s2⟩
 refine JB (λ s h=>∃ ko1,Zm s 2=.ptr m 0/\TL h (Zm s 1) es1 ko1/\SM h/\m+1<=h.length/\KO m ko ko1/\h[m]?=some (oE k f ms ra of nu de na wi mt st pk pc pa te al)) ?_ ?_
 ·cases hlf:QV k with
  | true=>
   obtain⟨B1,h2,ko1,ha,t1,t2,t3,t4,t5⟩:=hs1.app hm1 (Ex.mk k f ms ra of nu de na wi mt st (.mk pk pc pa) te ar).cv (by omega)
   rw[hxc]at ha t1;have hq:(k==2)=true\/(k==2)=false/\((k==3)=true\/(k==3)=false/\((k==4)=true\/(k==4)=false/\(k==5)=true)):=by
    simp only[QV]at hlf;cases a2:(k==2)<;>cases a3:(k==3)<;>cases a4:(k==4)<;>cases a5:(k==5)<;>simp[a2,a3,a4,a5]at hlf ⊢
   have hfin:∃ ko1',TL h2 B1 es1 ko1'/\SM h2/\m+1<=h2.length/\KO m ko ko1'/\h2[m]?=some (oE k f ms ra of nu de na wi mt st pk pc pa te al):=⟨ko1,by rw[hes1,hlf];simp only[if_true,List.map_cons,List.map_nil,hxc];exact t1,t2,by omega,KO.trans (KO.self m ko) t4 (by omega),by rw[t5 m (by omega) hkm];exact hb⟩
   rcases hq with a2 | ⟨a2,a3 | ⟨a3,a4 | ⟨a4,a5⟩⟩⟩
   ·simp[s1,s2,hb,a2,Xo,D7,ha];exact hfin
   ·simp[s1,s2,hb,a2,a3,Xo,D7,ha];exact hfin
   ·simp[s1,s2,hb,a2,a3,a4,Xo,D7,ha];exact hfin
   ·simp[s1,s2,hb,a2,a3,a4,a5,Xo,D7,ha];exact hfin
  | false=>
   have hq:(k==2)=false/\(k==3)=false/\(k==4)=false/\(k==5)=false:=by
    simp only[QV]at hlf;cases a2:(k==2)<;>cases a3:(k==3)<;>cases a4:(k==4)<;>cases a5:(k==5)<;>simp[a2,a3,a4,a5]at hlf ⊢
   obtain⟨a2,a3,a4,a5⟩:=hq;have hfin:∃ ko1',TL h B es1 ko1'/\SM h/\m+1<=h.length/\KO m ko ko1'/\h[m]?=some (oE k f ms ra of nu de na wi mt st pk pc pa te al):=⟨ko,by rw[hes1,hlf];simpa using hs1,hm1,by omega,KO.self m ko,hb⟩
   simp[s1,s2,hb,a2,a3,a4,a5];obtain⟨a,b,c,d,e,_⟩:=hfin;exact⟨a,b,c,d,e⟩
 clear hs1 hm1 hl1 hb s1 s2 s hh1
 rintro s h ⟨ko1,s2,hT,hm2,hl2,hK,hb2⟩
 obtain⟨B1,s1⟩:∃ B1,Zm s 1=B1:=⟨_,rfl⟩;rw[s1]at hT;simp[s1,s2,hb2];obtain⟨J,hJ⟩:∃ J:Nat->Zf->Mem->Prop,J=λ i sl h'=>(∃ ko2,TL h' (Zm sl 1) (es1++(Ya (ar.take i)).map Ex.cv) ko2/\KO m ko ko2)/\SM h'/\h.length<=h'.length/\Zm sl 19=.c (.sl false al)/\Zm sl 20=.c (.int .i64 al.length)/\Zm sl 21=.c (.int .i64 i):=⟨_,rfl⟩
 refine ZU J al.length (by omega) ?_ ?_
 ·rw[hJ];exact⟨⟨ko1,by simpa [Ya] using hT,hK⟩,hm2,Nat.le_refl _,by simp,by simp,by simp⟩
 intro i sl h' hi hJi;rw[hJ]at hJi;obtain⟨⟨ko2,jT,jK⟩,jm,jl,g19,g20,g21⟩:=hJi;obtain⟨h3,hcl,cm,cl,-,cT⟩:=jh (sl:=sl) (live:=[1,19,20,21]) (L:=h.length) (q:=1) (by simp) jT jm jl
 rw[hcl];clear hcl jm jl jT;obtain⟨Bi,g1⟩:∃ Bi,Zm sl 1=Bi:=⟨_,rfl⟩;rw[g1]at cT;rcases Zl i al.length with hlt | hge
 ·have hw:IntKind.i64.wrap ((i:Int)+1)=(i:Int)+1:=ZA (by omega) (by omega)
  have hia:i < ar.length:=by omega
  have hxa:al[i]=ar[i].cv:=by simp[hal]
  have h22:=ih ar[i] (Zh hia)
  have hpt:=Ku ar i hia
  have hple:=JP ar (i+1)
  rw[hpt,List.length_append]at hple;obtain⟨k2,f2,ms2,ra2,of2,nu2,de2,na2,wi2,mt2,st2,pk2,pc2,pa2,te2,ar2,hsh⟩:=Ex.shape ar[i];have soC:∀ n,SO n (oE k2 f2 ms2 ra2 of2 nu2 de2 na2 wi2 mt2 st2 pk2 pc2 pa2 te2 (ar2.map Ex.cv)):=λ n=>.inl ⟨_,_,rfl,WH [.int .i64 k2,.int .i64 f2,.sl false (ms2.map Mt.cv),.int .i64 ra2,.int .i64 of2,.int .i64 nu2,.int .i64 de2,.sl false (na2.map CV.str),.bool wi2,.int .i64 mt2,.sl false (st2.map Sg.cv),.int .i64 pk2,.sl false (pc2.map Cd.cv),.sl false (pa2.map Pt.cv),.str te2,.sl false (ar2.map Ex.cv)]⟩
  obtain⟨B',h4,ko4,d22,dT,dm,dl,dK,-⟩:=uY (p:=p) h22 (cT.push (oE k2 f2 ms2 ra2 of2 nu2 de2 na2 wi2 mt2 st2 pk2 pc2 pa2 te2 (ar2.map Ex.cv))) (cm.push (soC _)) (by simp;omega)
  rw[hsh,Ex.cv_mk]at d22;rw[hsh,Ex.cv_mk]at hxa;have hfin:∀ sl,Zm sl 1=B'->Zm sl 19=.c (.sl false al)->Zm sl 20=.c (.int .i64 al.length)->Zm sl 21=.c (.int .i64 ((i:Int)+1))->J (i+1) sl h4:=by
   intro sl b1 b2 b3 b4;rw[hJ];simp only[List.length_append,List.length_cons,List.length_nil]at dl dK;refine⟨⟨ko4,?_,KO.trans jK dK (by omega)⟩,dm,by omega,b2,b3,by rw[b4];simp⟩
   rw[b1,hpt,List.map_append,<- List.append_assoc];exact dT
  simp[g1,g19,g20,g21,hlt,hw,Zn,hxa,d22,Vq];exact hfin _ rfl rfl rfl rfl
 ·obtain rfl:i=al.length:=by omega
  rw[hall,List.take_length]at cT;simp[g1,g19,g20,g21];exact⟨rfl,ko2,cT,cm,jK,by omega⟩
theorem Zcf{q:Ex}(hw:∀ h0 B es ko,TL h0 B es ko->SM h0->es.length+q.lvs.length<=10000->W (Zo p) 4 b22 [(0,.c q.cv),(1,B)] h0 [] (Q22 h0.length ko (es++q.lvs.map Ex.cv)))(hl:q.lvs.length<=10000):CL p q.cv (q.lvs.map Ex.cv):=by
 constructor
 ·obtain⟨x,sl,h',hex,hx,ko',hT,hm,hK,-⟩:=hw [] (.c (.sl true [])) [] none ⟨rfl,rfl⟩ (λ o ho=>by cases ho) (by simpa using hl)
  rw[List.nil_append]at hT;cases ko' with
  | none=>
   obtain⟨h1,h2⟩:=hT;refine⟨.c (.sl true []),[],none,Z4 Has.h22 (N:=4) (Zk rfl ⟨x,sl,h',hex,.inr hx,?_⟩),(λ o ho=>by cases ho),⟨rfl,h2⟩,λ _=>rfl⟩
   simp[ZD,ON,Pi.results,h1,ZL,X.ids.idsL,X.ids,ZM,oneOf]
  | some k=>
   obtain⟨v,h1,h2⟩:=hT;refine⟨.own (q.lvs.map Ex.cv) k v,h',some k,Z4 Has.h22 (N:=4) (Zk rfl ⟨x,sl,h',hex,.inr hx,?_⟩),hm,⟨v,rfl,h2⟩,λ e=>by cases e⟩
   simp[ZD,ON,Pi.results,h1,ZL,X.ids.idsL,X.ids,ZM,oneOf]
 ·intro es v hes;rw[List.length_map]at hes;obtain⟨x,sl,h',hex,hx,ko',hT,hm,hK,-⟩:=hw [jM v] (.own es 0 v) es (some 0) ⟨v,rfl,rfl⟩ (λ o ho=>by rw[ZF.1 ho];exact .inr ⟨_,_,_,rfl⟩) hes
  have hK2:ko'=some 0:=hK
  subst hK2;obtain⟨v',h1,h2⟩:=hT;refine⟨v',Z4 Has.h22 (N:=4) (Zk rfl ⟨x,sl,h',hex,.inr hx,?_⟩)⟩;have ht:h'.take 1=[jM v']:=by
   cases h' with
   | nil=>simp at h2
   | cons o t=>
    have:o=jM v':=by simpa using h2
    subst this;rfl
  have hlt:ZL 1 [jM v']=true:=rfl
  simp only[ZD,ON,Pi.results,h1,List.length_cons,List.length_nil,ht];rfl
theorem Zgl(q:Ex):q.ck=0->q.lvs.length<=10000->CL p q.cv (q.lvs.map Ex.cv):=by
 induction q using Ex.ind
 rename_i k f ms ra of nu de na wi mt st pt te ar ih;obtain⟨pk,pc,pa⟩:=pt;intro hck hl;obtain⟨-,hlen,hsub,hE⟩:=ck0 hck;have hna:nA k<=2:=by unfold nA;split;omega;split<;>omega
 have hle:∀ {l:List Ex} {a:Ex},a∈l->a.lvs.length<=(Ya l).length:=by
  intro l a h
  induction l with
  | nil=>cases h
  | cons x r ihr=>
   simp only[Ya,List.length_append];rcases List.mem_cons.1 h with rfl | h
   ·omega
   ·have:=ihr h;omega
 have hll:(Ya ar).length<=(Ex.lvs (Ex.mk k f ms ra of nu de na wi mt st (.mk pk pc pa) te ar)).length:=by simp only[Ex.lvs];split<;>simp
 exact Zcf (λ h0 B es ko hs hm hb=>w22 k f ms ra of nu de na wi mt st pk pc pa te ar (by omega) (λ a ha=>ih a ha (hsub a ha) (by have:=hle ha;omega)) h0 B es ko hs hm hb) hl
end
section
variable {p:Prg} [Has p] [HasL p] [HasW p] [HasPr p] [HasI p] [HasG p] [HasRx p] [HasK p] {h:Mem}
attribute [local simp] qY
mutual
theorem QT:∀ q:Ex,q.lvs.length<=q.sz
 | .mk k f ms ra of nu de na wi mt st pa te ar=>by
  have:=K4 ar
  simp only[Ex.lvs,Ex.sz]
  split
  ·simp;omega
  ·omega
theorem K4:∀ l:List Ex,(Ya l).length<=Ex.szs l
 | []=>by simp[Ya]
 | a::r=>by
  have:=QT a
  have:=K4 r
  simp only[Ya,Ex.szs,List.length_append];omega
end
theorem c9(q:Ex)(hq:q.ok)(hc:q.chk=0):Zi (Zo p) h 9 [.c q.cv]=some (.c (.tup [.sl false (q.lvs.map Ex.cv),.int .i64 0]),h):=by
 obtain⟨hsz,-,hck⟩:=Fz hc;have h21:=λ h=>c21 (p:=p) (h:=h) q hq
 have hcl:=Zgl (p:=p) q hck (by have:=QT q;omega)
 rw[hc]at h21;obtain⟨k,f,ms,ra,of,nu,de,na,wi,mt,st,pk,pc,pa,te,ar,hsh⟩:=q.shape;have hq1:=congrArg Ex.cv hsh
 rw[Ex.cv_mk]at hq1;obtain⟨ls,hls⟩:∃ ls,ls=q.lvs.map Ex.cv:=⟨_,rfl⟩;rw[<- hls]at hcl ⊢;have hlsl:ls.length<=100:=by rw[hls,List.length_map];have:=QT q;omega
 have hm:SM [oE k f ms ra of nu de na wi mt st pk pc pa te (ar.map Ex.cv)]:=by
  intro o ho;rw[ZF.1 ho];exact .inl ⟨_,_,rfl,WH [.int .i64 k,.int .i64 f,.sl false (ms.map Mt.cv),.int .i64 ra,.int .i64 of,.int .i64 nu,.int .i64 de,.sl false (na.map CV.str),.bool wi,.int .i64 mt,.sl false (st.map Sg.cv),.int .i64 pk,.sl false (pc.map Cd.cv),.sl false (pa.map Pt.cv),.str te,.sl false (ar.map Ex.cv)]⟩
 obtain⟨B',h',ko',d22,dT,-⟩:=uY (p:=p) hcl (h:=[oE k f ms ra of nu de na wi mt st pk pc pa te (ar.map Ex.cv)]) (B:=.c (.sl true [])) (es:=[]) (ko:=none) ⟨rfl,rfl⟩ hm (by simp;omega)
 have hB:B'.wk=.c (.sl false ls):=by
  rw[List.nil_append]at dT;cases ko' with
  | none=>obtain⟨h1,h2⟩:=dT;rw[h1,h2];rfl
  | some k=>obtain⟨v,h1,_⟩:=dT;rw[h1];rfl
 rw[hq1]at h21 d22 ⊢;refine ZB Has.h9 ?_;refine⟨1,Zk rfl ?_⟩;show W _ _ b9 _ _ _ _;simp[b9,h21,d22];refine⟨.inr rfl,?_⟩;have hI:X.wk (.c (.int .i64 0))=.c (.int .i64 0):=rfl
 simp[-X.wk,ZD,f9,Pi.results,ZL,hB,hI,X.ids.idsL,X.ids,ZM,oneOf,Yl,closedL]
theorem c10(ps:List Ex)(f1 f2:Bool)(hps:∀ x∈ps,x.ok/\x.chk=0)(hl:ps.length<=10000):Zi (Zo p) h 10 [.c (.sl f1 (ps.map Ex.cv)),.c (.sl f2 (ps.map Ex.cv)),.c (.func 11 [])]=some (.c (.bool true),h):=by
 obtain⟨PS,hPS⟩:∃ PS,PS=ps.map Ex.cv:=⟨_,rfl⟩;have hPl:PS.length=ps.length:=by rw[hPS,List.length_map]
 rw[<- hPS];refine uM Has.h10 ?_;refine⟨PS.length+1,Zk rfl ?_⟩;show W _ _ b10 _ _ _ _;simp[b10];refine ZU (λ i sl h=>Cm [1,2,15,16,17] [] sl h/\Zm sl 1=.c (.sl f2 PS)/\Zm sl 2=.c (.func 11 [])/\Zm sl 15=.c (.sl f1 PS)/\Zm sl 16=.c (.int .i64 PS.length)/\Zm sl 17=.c (.int .i64 i)/\(True)) (PS.length) (by omega) ⟨Xh,by simp,by simp,by simp,by simp,by simp,by simp⟩ ?_
 rintro i sl h hi ⟨hcm,h1,h2,h15,h16,h17,hq⟩
 simp only[Cm]at hcm;rw[hcm];rcases Zl i (PS.length) with hlt | hge
 ·have hw:IntKind.i64.wrap ((i:Int)+1)=(i:Int)+1:=ZA (by omega) (by omega)
  have hia:i < ps.length:=by omega
  have hx:PS[i]=ps[i].cv:=by simp[hPS]
  have h11:=λ h=>c11 (p:=p) (h:=h) ps[i] (hps _ (Zh hia)).1 (hps _ (Zh hia)).2
  obtain⟨k2,f2,ms2,ra2,of2,nu2,de2,na2,wi2,mt2,st2,pk2,pc2,pa2,te2,ar2,hsh⟩:=Ex.shape ps[i];rw[hsh,Ex.cv_mk]at hx h11;simp[h1,h2,h15,h16,h17,hlt,hw,Zn,hx,h11];exact Zu rfl rfl rfl
 ·obtain rfl:i=(PS.length):=by omega
  simp[h1,h2,h15,h16,h17];exact⟨.inr rfl,by simp[f10,ZD,Pi.results,ZL,Ob.lt,Ob.ids,X.ids.idsL,X.ids,ZM,oneOf,Yl,closedL,frz.frzL,frz,ZN]⟩
end
section
class HasA(p:Prg):Prop where
 k5:Ul p 5 [] []=some (.c (.bool true),[])
variable {p:Prg} [Has p] [HasL p] [HasW p] [HasPr p] [HasI p] [HasG p] [HasRx p] [HasK p] [HasA p] {h:Mem}
attribute [local simp] qY
theorem c5:Zi (Zo p) h 5 []=some (.c (.bool true),h):=W6 (vs:=[]) HasA.k5
theorem TL.apps{h:Mem}{B:X}{es:List CV}{ko:Option Nat}(hs:TL h B es ko)(hm:SM h)(ys:List CV)(hl:es.length+ys.length<=10000):∃ B1 h1 ko1,ZP h 33 16 232 B ys=some (B1,h1)/\TL h1 B1 (es++ys) ko1/\SM h1/\h.length<=h1.length:=by
 cases ys with
 | nil=>
  rw[List.append_nil];cases ko with
  | none=>obtain⟨rfl,rfl⟩:=hs;exact⟨_,h,none,rfl,⟨rfl,rfl⟩,hm,Nat.le_refl _⟩
  | some k=>obtain⟨v,rfl,h2⟩:=hs;exact⟨_,h,some k,rfl,⟨v,rfl,h2⟩,hm,Nat.le_refl _⟩
 | cons y ys=>
  simp only[List.length_cons]at hl;cases ko with
  | none=>
   obtain⟨rfl,rfl⟩:=hs;exact⟨_,_,some h.length,qI (by omega) (by omega),⟨0,rfl,by simp⟩,hm.push (.inr ⟨_,_,_,rfl⟩),by simp⟩
  | some k=>
   obtain⟨v,rfl,h2⟩:=hs;have hkl:=(Za.1 h2).1
   have h1:Nat.ble (es.length+(y::ys).length) Qq=true:=ZE (by simp[Qq];omega)
   refine⟨.own (es++y::ys) k (v+1),h.set k (jM (v+1)),some k,?_,⟨v+1,rfl,ZG hkl⟩,hm.set _ (.inr ⟨_,_,_,rfl⟩),by simp⟩
   have hb:Nat.ble 232 4096=true:=rfl
   simp only[ZP,h2,Nat.beq_refl,h1,hb,Bool.and_self,cond_true]
theorem TL.wk{h:Mem}{B:X}{es:List CV}{ko:Option Nat}(hs:TL h B es ko):B.wk=.c (.sl false es):=by
 cases ko with
 | none=>obtain⟨rfl,rfl⟩:=hs;rfl
 | some k=>obtain⟨v,rfl,h2⟩:=hs;rfl
theorem CR(h:Mem)(fl:Bool)(l:List Ex):ZO h true 16 (.c (.sl fl (l.map Ex.cv)))=some (l.map Ex.cv):=by
 simp only[ZO,wE,cond_true]
theorem law(q:Ex)(hq:q.ok):∃ N,Z5 (Zo p) N f3 [.c q.cv] []=some (.c (.bool true),[]):=by
 obtain⟨b,h4⟩:=g4 (p:=p) q hq;simp only[List.map_cons,List.map_nil]at h4;have h5:=λ h=>c5 (p:=p) (h:=h)
 have h6:=λ h=>c6 (p:=p) (h:=h) q hq
 have h7:=λ h=>c7 (p:=p) (h:=h) q hq
 obtain⟨k,f,ms,ra,of,nu,de,na,wi,mt,st,pk,pc,pa,te,ar,hsh⟩:=q.shape;have hq1:=congrArg Ex.cv hsh
 rw[Ex.cv_mk]at hq1;cases b with
 | true=>
  rw[hq1]at h4 ⊢;refine⟨1,Zk rfl ?_⟩;show W _ _ b3 _ _ _ _;simp[b3,h4,h5];exact⟨.inr rfl,by simp[f3,ZD,Pi.results,ZL,Ob.lt,Ob.ids,X.ids.idsL,X.ids,ZM,oneOf,Yl,closedL,frz.frzL,frz,ZN]⟩
 | false=>
  by_cases hE:q.plE=0
  ·have ht2:q.typ.2=0:=by
    unfold Ex.plE at hE;split at hE
    ·assumption
    ·rename_i hx;exact absurd hE hx
   have hchk:=yl ht2
   obtain⟨hsz,hdep,hck⟩:=Fz hchk;have hpl:=VW q
   have hll:=QT q
   have hsub:∀ {x:Ex},Sb x q->x.ok/\x.chk=0:=λ hx=>⟨hx.2.2.2 hq,Df (Nat.le_trans hx.1 hsz) (Nat.le_trans hx.2.1 hdep) (hx.2.2.1 hck)⟩
   have hR:(q.rest 0).ok/\(q.rest 0).chk=0:=⟨Ey q hq 0,Df (Nat.le_trans (uv q 0).1 hsz) (Nat.le_trans (uv q 0).2 hdep) (Ez q hck 0 (by omega))⟩
   have h8:=λ h=>c8 (p:=p) (h:=h) q.parts (q.rest 0) (λ x hx=>hsub (zh q x hx)) hR (by omega)
   have h9:=λ h=>c9 (p:=p) (h:=h) q hq hchk
   have h9s:=fun (x:Ex) (hx:x∈q.parts) h=>c9 (p:=p) (h:=h) x (hsub (zh q x hx)).1 (hsub (zh q x hx)).2
   have h10:=λ h=>c10 (p:=p) (h:=h) q.lvs false false (λ x hx=>hsub (F9 q x hx)) (by omega)
   have hlp:=gZ q
   have hP:q.plV=X5 q.parts (q.rest 0):=by simp only[Ex.plV,if_pos hE]
   rw[hP,hE]at h6 h7;obtain⟨k2,f2,ms2,ra2,of2,nu2,de2,na2,wi2,mt2,st2,pk2,pc2,pa2,te2,ar2,hr⟩:=(q.rest 0).shape;rw[hr,Wb]at h6 h7 h8;obtain⟨ps,hps⟩:∃ ps,ps=q.parts:=⟨_,rfl⟩;rw[<- hps]at h6 h7 h8 hlp hpl h9s;obtain⟨PS,hPS⟩:∃ PS,PS=ps.map Ex.cv:=⟨_,rfl⟩;have hPl:PS.length=ps.length:=by rw[hPS,List.length_map]
   rw[<- hPS]at h6 h7 h8;obtain⟨LS,hLS⟩:∃ LS,LS=q.lvs.map Ex.cv:=⟨_,rfl⟩;rw[<- hLS]at h9 h10;have hLl:LS.length<=100:=by rw[hLS,List.length_map];omega
   rw[hq1]at h4 h6 h7 h9 ⊢;have soE:∀ n,SO n (oE k f ms ra of nu de na wi mt st pk pc pa te (ar.map Ex.cv)):=λ n=>.inl ⟨_,_,rfl,WH [.int .i64 k,.int .i64 f,.sl false (ms.map Mt.cv),.int .i64 ra,.int .i64 of,.int .i64 nu,.int .i64 de,.sl false (na.map CV.str),.bool wi,.int .i64 mt,.sl false (st.map Sg.cv),.int .i64 pk,.sl false (pc.map Cd.cv),.sl false (pa.map Pt.cv),.str te,.sl false (ar.map Ex.cv)]⟩
   have soP:∀ n,SO n (.cells 38 [.c (.sl false PS),.c (.int .i64 k2),.c (.int .i64 f2),.c (.sl false (ms2.map Mt.cv)),.c (.int .i64 ra2),.c (.int .i64 of2),.c (.int .i64 nu2),.c (.int .i64 de2),.c (.sl false (na2.map CV.str)),.c (.bool wi2),.c (.int .i64 mt2),.c (.sl false (st2.map Sg.cv)),.c (.int .i64 pk2),.c (.sl false (pc2.map Cd.cv)),.c (.sl false (pa2.map Pt.cv)),.c (.str te2),.c (.sl false (ar2.map Ex.cv))]):=λ n=>.inl ⟨_,_,rfl,WH [.sl false PS,.int .i64 k2,.int .i64 f2,.sl false (ms2.map Mt.cv),.int .i64 ra2,.int .i64 of2,.int .i64 nu2,.int .i64 de2,.sl false (na2.map CV.str),.bool wi2,.int .i64 mt2,.sl false (st2.map Sg.cv),.int .i64 pk2,.sl false (pc2.map Cd.cv),.sl false (pa2.map Pt.cv),.str te2,.sl false (ar2.map Ex.cv)]⟩
   refine⟨PS.length+1,Zk rfl ?_⟩;show W _ _ b3 _ _ _ _;simp[b3,h4,h5,h6,h7,h8,h9];obtain⟨J,hJ⟩:∃ J:Nat->Zf->Mem->Prop,J=λ i sl h=>(∃ ko,TL h (Zm sl 9) ((Ya (ps.take i)).map Ex.cv) ko)/\SM h/\3<=h.length/\Zm sl 7=.c (.sl false LS)/\Zm sl 8=.c (.int .i64 0)/\Zm sl 59=.c (.sl false PS)/\Zm sl 60=.c (.int .i64 PS.length)/\Zm sl 61=.c (.int .i64 i):=⟨_,rfl⟩
   refine ZU J PS.length (by omega) ?_ ?_
   ·rw[hJ];refine⟨⟨none,by simp[TL,Ya]⟩,?_,by simp,by simp,by simp,by simp,by simp,by simp⟩
    intro o ho;simp only[List.mem_cons,List.not_mem_nil,or_false]at ho;rcases ho with rfl | rfl | rfl
    ·exact soE _
    ·exact soP _
    ·exact soP _
   intro i sl h' hi hJi;rw[hJ]at hJi;obtain⟨⟨ko,jT⟩,jm,jl,g7,g8,g59,g60,g61⟩:=hJi;obtain⟨h3,hcl,cm,cl,-,cT⟩:=jh (sl:=sl) (live:=[7,8,9,59,60,61]) (L:=3) (q:=9) (by simp) jT jm jl
   have hcl':clean (some [7,8,9,59,60,61]) 3 ⟨sl,h'⟩=⟨ZK [7,8,9,59,60,61] sl,h3⟩:=hcl
   obtain⟨Bi,g9⟩:∃ Bi,Zm sl 9=Bi:=⟨_,rfl⟩;rw[g9]at cT;rcases Zl i PS.length with hlt | hge
   ·have hw:IntKind.i64.wrap ((i:Int)+1)=(i:Int)+1:=ZA (by omega) (by omega)
    have hia:i < ps.length:=by omega
    have hxa:PS[i]=ps[i].cv:=by simp[hPS]
    have h9i:=h9s ps[i] (Zh hia)
    have hpt:=Ku ps i hia
    have hple:=JP ps (i+1)
    rw[hpt,List.length_append,hlp]at hple;obtain⟨k3,f3,ms3,ra3,of3,nu3,de3,na3,wi3,D3,st3,pk3,pc3,pa3,te3,ar3,hsh3⟩:=Ex.shape ps[i];have hxa3:=congrArg Ex.cv hsh3
    rw[Ex.cv_mk]at hxa3;obtain⟨ls,hls⟩:∃ ls,ls=ps[i].lvs.map Ex.cv:=⟨_,rfl⟩;have hel:∀ h:Mem,ZO h true 16 (.c (.sl false ls))=some ls:=λ h=>by rw[hls];exact CR h false _
    have hlsl:ls.length<=100:=by rw[hls,List.length_map];omega
    rw[hxa3]at h9i hxa;rw[<- hls]at h9i;have soC:∀ n t,SO n (.cells t [.c (.int .i64 k3),.c (.int .i64 f3),.c (.sl false (ms3.map Mt.cv)),.c (.int .i64 ra3),.c (.int .i64 of3),.c (.int .i64 nu3),.c (.int .i64 de3),.c (.sl false (na3.map CV.str)),.c (.bool wi3),.c (.int .i64 D3),.c (.sl false (st3.map Sg.cv)),.c (.int .i64 pk3),.c (.sl false (pc3.map Cd.cv)),.c (.sl false (pa3.map Pt.cv)),.c (.str te3),.c (.sl false (ar3.map Ex.cv))]):=λ n t=>.inl ⟨_,_,rfl,WH [.int .i64 k3,.int .i64 f3,.sl false (ms3.map Mt.cv),.int .i64 ra3,.int .i64 of3,.int .i64 nu3,.int .i64 de3,.sl false (na3.map CV.str),.bool wi3,.int .i64 D3,.sl false (st3.map Sg.cv),.int .i64 pk3,.sl false (pc3.map Cd.cv),.sl false (pa3.map Pt.cv),.str te3,.sl false (ar3.map Ex.cv)]⟩
    obtain⟨B1,h4,ko1,hap,dT,dm,dl⟩:=(cT.push _).apps (cm.push (soC _ 46)) ls (by simp;omega)
    have hfin:∀ sl,Zm sl 9=B1->Zm sl 7=.c (.sl false LS)->Zm sl 8=.c (.int .i64 0)->Zm sl 59=.c (.sl false PS)->Zm sl 60=.c (.int .i64 PS.length)->Zm sl 61=.c (.int .i64 ((i:Int)+1))->J (i+1) sl h4:=by
     intro sl a9 a7 a8 a59 a60 a61;rw[hJ];simp only[List.length_append,List.length_cons,List.length_nil]at dl;exact⟨⟨ko1,by rw[a9,hpt,List.map_append,<- hls];exact dT⟩,dm,by omega,a7,a8,a59,a60,by rw[a61];simp⟩
    simp[hcl',g7,g8,g9,g59,g60,g61,hlt,hw,Zn,hxa,h9i,hel,hap,Vq];exact hfin _ rfl rfl rfl rfl rfl rfl
   ·obtain rfl:i=PS.length:=by omega
    rw[hPl,List.take_length,hlp,<- hLS]at cT;have hB:=cT.wk
    have w1:X.wk (.c (.sl false LS))=.c (.sl false LS):=rfl
    have w2:X.wk (.c (.func 11 []))=.c (.func 11 []):=rfl
    simp[-X.wk,hcl',g7,g8,g9,g59,g60,g61,hB,w1,w2,h10,h5];exact⟨.inr rfl,by simp[f3,ZD,Pi.results,ZL,Ob.lt,Ob.ids,X.ids.idsL,X.ids,ZM,oneOf,Yl,closedL,frz.frzL,frz,ZN]⟩
  ·have hE2:(q.plE != 0)=true:=by simpa using hE
   have hE3:(q.plE==0)=false:=by simpa using hE
   have hP:q.plV=.agg [.sl false [],.int .i64 0,.int .i64 0,.sl false [],.int .i64 0,.int .i64 0,.int .i64 0,.int .i64 0,.sl false [],.bool false,.int .i64 0,.sl false [],.int .i64 0,.sl false [],.sl false [],.str [],.sl false []]:=by
    simp only[Ex.plV,if_neg hE];rw[OG,Wb];rfl
   rw[hP]at h6 h7;rw[hq1]at h4 h6 h7 ⊢;refine⟨1,Zk rfl ?_⟩;show W _ _ b3 _ _ _ _;simp[b3,h4,h5,h6,h7,hE2,hE3];exact⟨.inr rfl,by simp[f3,ZD,Pi.results,ZL,Ob.lt,Ob.ids,X.ids.idsL,X.ids,ZM,oneOf,Yl,closedL,frz.frzL,frz,ZN]⟩
end
instance:Has WF:=by constructor<;>kernel_rfl
instance:HasI WF:=by constructor<;>kernel_rfl
instance:HasPr WF:=⟨by kernel_rfl⟩
instance:HasL WF:=⟨by kernel_rfl,by kernel_rfl,by kernel_rfl⟩
instance:HasG WF:=⟨pows,by kernel_rfl,rfl⟩
instance:HasK WF:=⟨(Good.call e4).trans (by kernel_rfl)⟩
instance:HasW WF:=⟨⟨false,Good.call e20⟩,⟨false,Good.call e21⟩,⟨false,Good.call e22⟩⟩
instance:HasA WF:=⟨Good.call e8⟩
theorem Zfb(q:Ex)(hq:q.ok):∃ N,Z5 (Zo WF) N f3 [.c q.cv] []=some (.c (.bool true),[]):=law q hq
section
open Go Go.Pi
noncomputable abbrev P:=Tryz.prog
theorem u3:P.underlying 3=some (.int .i64):=by kernel_rfl
theorem u4:P.underlying 4=some .bool:=by kernel_rfl
theorem u9:P.underlying 9=some .string:=by kernel_rfl
theorem u22:P.underlying 22=some (.slice 91):=by kernel_rfl
theorem u25:P.underlying 25=some (.slice 9):=by kernel_rfl
theorem u26:P.underlying 26=some (.slice 93):=by kernel_rfl
theorem u27:P.underlying 27=some (.slice 95):=by kernel_rfl
theorem O6:P.underlying 28=some (.slice 30):=by kernel_rfl
theorem O5:P.underlying 31=some (.slice 33):=by kernel_rfl
theorem WT.int_inv{t:TypeId}{k:IntKind}(hu:P.underlying t=some (.int k)){cs:List CV}(h:WT P t cs):∃ n,cs=[.int k n]:=by
 cases h<;>rename_i h1<;>first|(rw[hu]at h1;cases h1;exact⟨_,rfl⟩)|skip
 all_goals simp_all
theorem WT.str_inv{t:TypeId}(hu:P.underlying t=some .string){cs:List CV}(h:WT P t cs):∃ s,cs=[.str s]/\ZX s.length:=by
 cases h<;>simp_all
 have hr:reachBytes=140737488351232:=rfl
 simp only[ZX];omega
theorem WT.bool_inv{t:TypeId}(hu:P.underlying t=some .bool){cs:List CV}(h:WT P t cs):∃ b,cs=[.bool b]:=by
 cases h<;>simp_all
theorem WT.sl_inv{t e:TypeId}(hu:P.underlying t=some (.slice e)){cs:List CV}(h:WT P t cs):∃ es:List (List CV),cs=[.sl false (es.map (zj P e))]/\ZX es.length/\∀ c,c∈es->WT P e c:=by
 cases h<;>simp_all
 have hr:reachBytes=140737488351232:=rfl
 exact⟨_,rfl,by simp only[ZX];omega,by assumption⟩
end
section
open Go Go.Pi
theorem agP(t:TypeId)(h:QZ P t=true)(cs:List CV):zj P t cs=.agg cs:=by simp[zj,h]
theorem Zil:QZ P 91=true:=by kernel_rfl
theorem Zik:QZ P 93=true:=by kernel_rfl
theorem Zij:QZ P 95=true:=by kernel_rfl
theorem Zin:QZ P 30=true:=by kernel_rfl
theorem Zim:QZ P 33=true:=by kernel_rfl
theorem ag9:QZ P 9=false:=by kernel_rfl
theorem Zgh:P.cellsOf 91=3:=by kernel_rfl
theorem Zgg:P.cellsOf 93=4:=by kernel_rfl
theorem Zgf:P.cellsOf 95=4:=by kernel_rfl
theorem Zgj:P.cellsOf 30=3:=by kernel_rfl
theorem Zgi:P.cellsOf 33=16:=by kernel_rfl
noncomputable def fieldsOf(t:TypeId):List (Nat × TypeId × Nat):=match P.underlying t with
 | some (.struct fs)=>fs.toList.map λ f=>(f.offset,f.type,P.cellsOf f.type)
 | _=>[]
theorem WV{t:TypeId}(hs:(match P.underlying t with | some (.struct _)=>true | _=>false)=true){cs:List CV}(h:WT P t cs):cs.length=P.cellsOf t/\∀ q∈fieldsOf t,WT P q.2.1 ((cs.drop q.1).take q.2.2):=by
 cases h with
 | struct _ fs _ hu hl hf=>
  refine⟨hl,λ q hq=>?_⟩
  unfold fieldsOf at hq;rw[hu]at hq;obtain⟨f,hf',rfl⟩:=List.mem_map.1 hq;exact hf f hf'
 | _=>simp_all
end
section
open Go Go.Pi
theorem Zfg:fieldsOf 91=[(0,3,1),(1,9,1),(2,9,1)]:=by kernel_rfl
theorem Zff:fieldsOf 93=[(0,3,1),(1,9,1),(2,22,1),(3,25,1)]:=by kernel_rfl
theorem Zfe:fieldsOf 95=[(0,9,1),(1,3,1),(2,9,1),(3,3,1)]:=by kernel_rfl
theorem Zfi:fieldsOf 30=[(0,3,1),(1,27,1),(2,28,1)]:=by kernel_rfl
theorem Zfh:fieldsOf 33=[(0,3,1),(1,3,1),(2,22,1),(3,3,1),(4,3,1),(5,24,2),(7,25,1),(8,4,1),(9,3,1),(10,26,1),(11,30,3),(14,9,1),(15,31,1)]:=by kernel_rfl
theorem Hq{cs:List CV}(h:WT P 91 cs):∃ m:Mt,zj P 91 cs=m.cv/\m.ok:=by
 obtain⟨hl,hf⟩:=WV (by kernel_rfl) h
 rw[Zfg]at hf;rw[Zgh]at hl
 match cs,hl with
 | [a,b,c],_=>
  obtain⟨n,e0⟩:=WT.int_inv u3 (hf (0,3,1) (by simp))
  obtain⟨s,e1,o1⟩:=WT.str_inv u9 (hf (1,9,1) (by simp))
  obtain⟨t,e2,o2⟩:=WT.str_inv u9 (hf (2,9,1) (by simp))
  simp at e0 e1 e2;exact⟨⟨n,s,t⟩,by rw[agP 91 Zil,e0,e1,e2];rfl,o1,o2⟩
theorem ZaG{cs:List CV}(h:WT P 95 cs):∃ m:Cd,zj P 95 cs=m.cv/\m.ok:=by
 obtain⟨hl,hf⟩:=WV (by kernel_rfl) h
 rw[Zfe]at hf;rw[Zgf]at hl
 match cs,hl with
 | [a,b,c,d],_=>
  obtain⟨n,e0,o0⟩:=WT.str_inv u9 (hf (0,9,1) (by simp))
  obtain⟨s,e1⟩:=WT.int_inv u3 (hf (1,3,1) (by simp))
  obtain⟨t,e2,o2⟩:=WT.str_inv u9 (hf (2,9,1) (by simp))
  obtain⟨r,e3⟩:=WT.int_inv u3 (hf (3,3,1) (by simp))
  simp at e0 e1 e2 e3;exact⟨⟨n,s,t,r⟩,by rw[agP 95 Zij,e0,e1,e2,e3];rfl,o0,o2⟩
theorem Js{α:Type}{e:TypeId}(f:α->CV)(R:α->Prop)(hf:∀ cs,WT P e cs->∃ a,zj P e cs=f a/\R a):∀ {es:List (List CV)},(∀ c,c∈es->WT P e c)->∃ l:List α,es.map (zj P e)=l.map f/\(∀ a∈l,R a)/\l.length=es.length
 | [],_=>⟨[],rfl,λ a ha=>(by cases ha),rfl⟩
 | c::es,h=>by
  obtain⟨l,hl,hr,hn⟩:=Js f R hf (es:=es) λ c hc=>h c (Zq _ hc)
  obtain⟨a,ha,hra⟩:=hf c (h c Zv);exact⟨a::l,by rw[List.map_cons,List.map_cons,hl,ha],List.forall_mem_cons.2 ⟨hra,hr⟩,by simp[hn]⟩
theorem uE{cs:List CV}(h:WT P 9 cs):∃ s:By,zj P 9 cs=.str s/\ZX s.length:=by
 obtain⟨s,rfl,ho⟩:=WT.str_inv u9 h;exact⟨s,by simp[zj,ag9],ho⟩
theorem O9{cs:List CV}(h:WT P 93 cs):∃ m:Sg,zj P 93 cs=m.cv/\m.ok:=by
 obtain⟨hl,hf⟩:=WV (by kernel_rfl) h
 rw[Zff]at hf;rw[Zgg]at hl
 match cs,hl with
 | [a,b,c,d],_=>
  obtain⟨n,e0⟩:=WT.int_inv u3 (hf (0,3,1) (by simp))
  obtain⟨s,e1,o1⟩:=WT.str_inv u9 (hf (1,9,1) (by simp))
  obtain⟨t,e2,l2,q2⟩:=WT.sl_inv u22 (hf (2,22,1) (by simp))
  obtain⟨r,e3,l3,q3⟩:=WT.sl_inv u25 (hf (3,25,1) (by simp))
  obtain⟨ms,hms,oms,nms⟩:=Js Mt.cv Mt.ok (λ cs=>Hq) q2
  obtain⟨ns,hns,ons,nns⟩:=Js CV.str (λ s=>ZX s.length) (λ cs=>uE) q3
  rw[hms]at e2;rw[hns]at e3;simp only[List.drop_zero,List.take_succ_cons,List.take_zero,List.drop_succ_cons,List.cons.injEq,and_true]at e0 e1 e2 e3;exact⟨⟨n,s,ms,ns⟩,by rw[agP 93 Zik,e0,e1,e2,e3];rfl,o1,by rw[nms];exact l2,oms,by rw[nns];exact l3,ons⟩
end
section
open Go Go.Pi
theorem Ig{t:TypeId}{cs:List CV}(h:WT P t cs):(t=30->∃ p:Pt,cs=p.cells/\p.ok)/\(t=28->∃ l:List Pt,cs=[.sl false (Pt.cvs l)]/\Pt.oks l/\ZX l.length):=by
 induction h with
 | bool t b hu=>exact⟨λ e=>by subst e;have:=(show(match P.underlying 30 with | some (.struct _)=>true | _=>false)=true by kernel_rfl);simp_all,λ e=>by subst e;rw[O6]at hu;cases hu⟩
 | int t k n hu=>exact⟨λ e=>by subst e;have:=(show(match P.underlying 30 with | some (.struct _)=>true | _=>false)=true by kernel_rfl);simp_all,λ e=>by subst e;rw[O6]at hu;cases hu⟩
 | str t s hu hl=>exact⟨λ e=>by subst e;have:=(show(match P.underlying 30 with | some (.struct _)=>true | _=>false)=true by kernel_rfl);simp_all,λ e=>by subst e;rw[O6]at hu;cases hu⟩
 | sl t e es hu hl hc ih=>
  refine⟨λ e'=>by subst e';have:=(show(match P.underlying 30 with | some (.struct _)=>true | _=>false)=true by kernel_rfl);simp_all,λ e'=>?_⟩
  subst e';rw[O6]at hu;cases hu;have:∃ l:List Pt,es.map (zj P 30)=Pt.cvs l/\Pt.oks l/\l.length=es.length:=by
   clear hl hc
   induction es with
   | nil=>exact⟨[],rfl,by simp[Pt.oks],rfl⟩
   | cons c r ihr=>
    obtain⟨l,hl,ol,nl⟩:=ihr λ cs hcs=>ih cs (Zq _ hcs)
    obtain⟨p,hp,op⟩:=(ih c Zv).1 rfl;exact⟨p::l,by rw[List.map_cons,hl,agP 30 Zin,hp];rfl,by simp only[Pt.oks];exact⟨op,ol⟩,by simp[nl]⟩
  obtain⟨l,hl',ol,nl⟩:=this;exact⟨l,by rw[hl'],ol,by rw[nl];simp only[reachBytes]at hl;simp only[ZX];omega⟩
 | struct t fs cs hu hl hf ih=>
  refine⟨λ e=>?_,λ e=>by subst e;rw[O6]at hu;cases hu⟩
  subst e;have hF:∀ q∈fieldsOf 30,WT P q.2.1 ((cs.drop q.1).take q.2.2)/\(q.2.1=28->∃ l:List Pt,(cs.drop q.1).take q.2.2=[.sl false (Pt.cvs l)]/\Pt.oks l/\ZX l.length):=by
   intro q hq;unfold fieldsOf at hq;rw[hu]at hq;obtain⟨f,hf',rfl⟩:=List.mem_map.1 hq;exact⟨hf f hf',(ih f hf').2⟩
  rw[Zfi]at hF;rw[Zgj]at hl
  match cs,hl with
  | [a,b,c],_=>
   obtain⟨n,e0⟩:=WT.int_inv u3 (hF (0,3,1) (by simp)).1
   obtain⟨t,e1,l1,q1⟩:=WT.sl_inv u27 (hF (1,27,1) (by simp)).1
   obtain⟨l,e2,ol,nl⟩:=(hF (2,28,1) (by simp)).2 rfl
   obtain⟨ms,hms,oms,nms⟩:=Js Cd.cv Cd.ok (λ cs=>ZaG) q1
   rw[hms]at e1;simp only[List.drop_zero,List.take_succ_cons,List.take_zero,List.drop_succ_cons,List.cons.injEq,and_true]at e0 e1 e2;exact⟨.mk n ms l,by rw[e0,e1,e2];simp[Pt.cells,cI],by simp only[Pt.ok];exact⟨by rw[nms];exact l1,oms,nl,ol⟩⟩
theorem Pm{cs:List CV}(h:WT P 30 cs):∃ p:Pt,cs=p.cells/\p.ok:=(Ig h).1 rfl
end
section
open Go Go.Pi
theorem Eo:(match P.underlying 33 with | some (.struct _)=>true | _=>false)=true:=by kernel_rfl
theorem CO{cs:List CV}(hl:cs.length=16)(hF:∀ q∈fieldsOf 33,WT P q.2.1 ((cs.drop q.1).take q.2.2)/\(q.2.1=31->∃ l:List Ex,(cs.drop q.1).take q.2.2=[.sl false (Ex.cvs l)]/\Ex.oks l/\ZX l.length))(h24:∀ c,WT P 24 c->∃ a b,c=[cI a,cI b]):∃ e:Ex,cs=e.cells/\e.ok:=by
 rw[Zfh]at hF
 match cs,hl with
 | [c0,c1,c2,c3,c4,c5,c6,c7,c8,c9,c10,c11,c12,c13,c14,c15],_=>
  obtain⟨k,e0⟩:=WT.int_inv u3 (hF (0,3,1) (by simp)).1
  obtain⟨f,e1⟩:=WT.int_inv u3 (hF (1,3,1) (by simp)).1
  obtain⟨m,e2,l2,q2⟩:=WT.sl_inv u22 (hF (2,22,1) (by simp)).1
  obtain⟨r,e3⟩:=WT.int_inv u3 (hF (3,3,1) (by simp)).1
  obtain⟨o,e4⟩:=WT.int_inv u3 (hF (4,3,1) (by simp)).1
  obtain⟨nu,de,e5⟩:=h24 _ (hF (5,24,2) (by simp)).1
  obtain⟨n,e7,l7,q7⟩:=WT.sl_inv u25 (hF (7,25,1) (by simp)).1
  obtain⟨w,e8⟩:=WT.bool_inv u4 (hF (8,4,1) (by simp)).1
  obtain⟨mt,e9⟩:=WT.int_inv u3 (hF (9,3,1) (by simp)).1
  obtain⟨s,e10,l10,q10⟩:=WT.sl_inv u26 (hF (10,26,1) (by simp)).1
  obtain⟨p,e11,o11⟩:=Pm (hF (11,30,3) (by simp)).1
  obtain⟨te,e14,o14⟩:=WT.str_inv u9 (hF (14,9,1) (by simp)).1
  obtain⟨l,e15,o15,n15⟩:=(hF (15,31,1) (by simp)).2 rfl
  obtain⟨ms,hms,oms,nms⟩:=Js Mt.cv Mt.ok (λ cs=>Hq) q2
  obtain⟨ns,hns,ons,nns⟩:=Js CV.str (λ s=>ZX s.length) (λ cs=>uE) q7
  obtain⟨ss,hss,oss,nss⟩:=Js Sg.cv Sg.ok (λ cs=>O9) q10
  rw[hms]at e2;rw[hns]at e7;rw[hss]at e10;simp only[List.drop_zero,List.take_succ_cons,List.take_zero,List.drop_succ_cons,List.cons.injEq,and_true]at e0 e1 e2 e3 e4 e5 e7 e8 e9 e10 e11 e14 e15;refine⟨.mk k f ms r o nu de ns w mt ss p te l,?_,by simp only[Ex.ok];exact⟨by rw[nms];exact l2,oms,by rw[nns];exact l7,ons,by rw[nss];exact l10,oss,o11,o14,n15,o15⟩⟩
  simp only[Ex.cells,<- e11];rw[e0,e1,e2,e3,e4,e5.1,e5.2,e7,e8,e9,e10,e14,e15];rfl
end
section
open Go Go.Pi
theorem Zfj:fieldsOf 24=[(0,3,1),(1,3,1)]:=by kernel_rfl
theorem Zgk:P.cellsOf 24=2:=by kernel_rfl
theorem Pl(cs:List CV)(h:WT P 24 cs):∃ a b,cs=[cI a,cI b]:=by
 obtain⟨hl,hf⟩:=WV (by kernel_rfl) h
 rw[Zfj]at hf;rw[Zgk]at hl
 match cs,hl with
 | [a,b],_=>
  obtain⟨n,e0⟩:=WT.int_inv u3 (hf (0,3,1) (by simp))
  obtain⟨s,e1⟩:=WT.int_inv u3 (hf (1,3,1) (by simp))
  simp at e0 e1;exact⟨n,s,by rw[e0,e1];rfl⟩
theorem Mg{t:TypeId}{cs:List CV}(h:WT P t cs):(t=33->∃ e:Ex,cs=e.cells/\e.ok)/\(t=31->∃ l:List Ex,cs=[.sl false (Ex.cvs l)]/\Ex.oks l/\ZX l.length):=by
 induction h with
 | bool t b hu=>exact⟨λ e=>by subst e;have:=Eo;simp_all,λ e=>by subst e;rw[O5]at hu;cases hu⟩
 | int t k n hu=>exact⟨λ e=>by subst e;have:=Eo;simp_all,λ e=>by subst e;rw[O5]at hu;cases hu⟩
 | str t s hu hl=>exact⟨λ e=>by subst e;have:=Eo;simp_all,λ e=>by subst e;rw[O5]at hu;cases hu⟩
 | sl t e es hu hl hc ih=>
  refine⟨λ e'=>by subst e';have:=Eo;simp_all,λ e'=>?_⟩
  subst e';rw[O5]at hu;cases hu;have:∃ l:List Ex,es.map (zj P 33)=Ex.cvs l/\Ex.oks l/\l.length=es.length:=by
   clear hl hc
   induction es with
   | nil=>exact⟨[],rfl,by simp[Ex.oks],rfl⟩
   | cons c r ihr=>
    obtain⟨l,hl,ol,nl⟩:=ihr λ cs hcs=>ih cs (Zq _ hcs)
    obtain⟨p,hp,op⟩:=(ih c Zv).1 rfl;exact⟨p::l,by rw[List.map_cons,hl,agP 33 Zim,hp];rfl,by simp only[Ex.oks];exact⟨op,ol⟩,by simp[nl]⟩
  obtain⟨l,hl',ol,nl⟩:=this;exact⟨l,by rw[hl'],ol,by rw[nl];simp only[reachBytes]at hl;simp only[ZX];omega⟩
 | struct t fs cs hu hl hf ih=>
  refine⟨λ e=>?_,λ e=>by subst e;rw[O5]at hu;cases hu⟩
  subst e;rw[Zgi]at hl;refine CO hl (λ q hq=>?_) Pl
  unfold fieldsOf at hq;rw[hu]at hq;obtain⟨f,hf',rfl⟩:=List.mem_map.1 hq;exact⟨hf f hf',(ih f hf').2⟩
theorem Zay{cs:List CV}(h:WT P 33 cs):∃ e:Ex,cs=e.cells/\e.ok:=(Mg h).1 rfl
end
end Go.Proofs.YtmckcikeefggdaaGreatDoor
namespace Go.Pi
section
open Go
theorem vV{P:Program}{e:Env}{G:Gh}{h h':Mem}{w:World}(hm:P.follows .mixedOrders=true)(hB:KH P e)(hL:Xd P e){f:Nat}{fn:PFn}(hf:FnOk P f fn){N:Nat}{args:List X}{z:X}(hr:Z5 e N fn args h=some (z,h'))(hi:Inv G h w)(hg:GlobOk e G){vs:List Value}(hv:RdL G vs args) :
  Calls P f vs.toArray w λ e w'=>∃ v G',e=.returned v/\Step G h w G' h' w'/\RdX G' v z:=by
 have hC:CallOk P e:=Qv hB
 obtain⟨fu,c,h1,h2,h3,h4,h5,h6⟩:=hf.ok;unfold Z5 at hr;cases hb:Nat.beq args.length fn.np with
 | false=>rw[hb]at hr;simp at hr
 | true=>
  rw[hb]at hr;simp only[cond_true]at hr;have hlen:=Zd hb
  have body:∀ x σ,Yn e N fn.body ⟨Xb 0 args,h⟩=some (x,σ)->(x=.normal\/x=.ret)->ZD fn h.length σ=some (z,h')->
    Calls P f vs.toArray w λ e w'=>∃ v G',e=.returned v/\Step G h w G' h' w'/\RdX G' v z:=by
   intro x σ he hx hfin;refine calls_of_wp h1 h2 ?_;refine uT hC hL (uX hm hC hL) N fn.body c (Xb 0 args) h x σ G w _ _ h4 he hi (jA hv (by omega)) hg ?_
   intro w' G' a' st ss hdf;obtain⟨v,G2,r1,r2,r3⟩:=wJ hfin st ss h5;rcases hx with rfl | rfl
   ·exact⟨hdf,v,r1,v,G2,rfl,r2,r3⟩
   ·exact⟨hdf,v,r1,v,G2,rfl,r2,r3⟩
  split at hr
  ·rename_i σ he;exact body _ σ he (.inl rfl) hr
  ·rename_i σ he;exact body _ σ he (.inr rfl) hr
  ·cases hr
theorem Ac{P:Program}{e:Env}{w:World}(hm:P.follows .mixedOrders=true)(hB:KH P e)(hL:Xd P e){f:Nat}{fn:PFn}(hf:FnOk P f fn){N:Nat}{args:List X}{h':Mem}(hr:Z5 e N fn args []=some (.c (.bool true),h'))(hg:GlobOk e (Xq w)){vs:List Value}(hv:RdL (Xq w) vs args) :
  Calls P f vs.toArray w λ e w'=>e=.returned (.bool true)/\Go.RowKit.Below w.heap.size w w':=by
 refine(vV hm hB hL hf hr (vt w) hg hv).mono ?_
 rintro en w' ⟨v,G',rfl,st,rx⟩
 refine⟨?_,st.toBelow⟩;cases rx with
 | c _ _ h=>cases h;rfl
end
end Go.Pi
