/- Part 6 of the proof. -/
import Derived.Test.YtmckcikeefggdaaGreatDoorPE
set_option linter.unusedVariables false
set_option linter.unusedSimpArgs false
set_option linter.unusedSectionVars false
set_option maxRecDepth 100000
set_option maxHeartbeats 16000000
namespace Go.Proofs.YtmckcikeefggdaaGreatDoor
open Go.Pi Go.Pi.S
section
variable {p:Prg} [Has p] {h:Mem}
attribute [local simp] KD Wu XY QA Qz Vn Vm UC WK WM Uf Kb QQ Us Qn
attribute [-simp] List.map_append
theorem qQ{fn:PFn}{r q t:Nat}{u v w:CV}{x:Pi.Exit}{s:Zf}(hx:x=.normal\/x=.ret)(hr:fn.res=[.t r,.t q,.t t])(hs:Zm s r=.c u)(ht:Zm s q=.c v)(ht2:Zm s t=.c w)(hu:u.wk=u)(hv:v.wk=v)(hw:w.wk=w):Gu fn 0 (.c (.tup [u,v,w])) [] x s h:=by
 refine⟨hx,?_⟩;have h1:X.wk (.c u)=.c u:=by simp[X.wk,hu]
 have h2:X.wk (.c v)=.c v:=by simp[X.wk,hv]
 have h3:X.wk (.c w)=.c w:=by simp[X.wk,hw]
 cases hk:fn.keep<;>simp[ZD,Pi.results,hr,hs,ht,ht2,h1,h2,h3,hu,hv,hw,hk,ZL,X.ids.idsL,X.ids,ZM,oneOf,Yl,closedL]
theorem QB(k:IntKind)(n:Nat):YA (.c (.int k ((n:Int)+1)))=some (n+1):=Jo k (n+1)
attribute [local simp] QB 
theorem ZaU(s:By)(i:Nat)(hi:i<=s.length)(hs:s.length<=200):∃ x j,j<=s.length/\i<=j/\(∀ y q,XB (s.drop i)=some (y,q)->x=y/\i < j/\s.drop j=q)/\∀ h,Zi (Zo p) h 244 [.c (.str s),.c (.int .i64 i)]=some (.c (.tup [Zt x,.int .i64 j,.bool (XB (s.drop i)).isSome]),h):=by
 rcases Zl i s.length with hlt | hge
 ·rw[ZW hlt];have hx:s[i]?=some s[i]:=Zb hlt
  have hw:IntKind.i64.wrap ((i:Int)+1)=(i:Int)+1:=ZA (by omega) (by omega)
  have hw2:IntKind.i64.wrap ((i:Int)+2)=(i:Int)+2:=ZA (by omega) (by omega)
  have hl:¬ (s.length:Int)<=i:=by omega
  have hl2:¬ s.length<=i:=by omega
  generalize s[i]=c at *
  by_cases h93:c=93
  ·refine⟨0,i,hi,Nat.le_refl _,λ y q h=>by simp[XB,h93]at h,λ h=>Ym Has.h244 ?_⟩
   have e:(XB (c::s.drop (i+1))).isSome=false:=by simp[XB,h93]
   rw[e];refine⟨1,Zk rfl ?_⟩;show W _ _ qF _ _ _ _;simp[qF,hl,hl2,hx,Zt,yY,h93];exact qQ (.inr rfl) rfl rfl rfl rfl rfl rfl rfl
  ·by_cases h92:c=92
   ·rcases Zl (i+1) s.length with hlt1 | hge1
    ·rw[ZW hlt1];have hx1:s[i+1]?=some s[i+1]:=Zb hlt1
     have hl3:¬ (s.length:Int)<=(i:Int)+1:=by omega
     have hl4:¬ s.length<=i+1:=by omega
     generalize s[i+1]=d at *
     obtain⟨x,hxx,h242⟩:=ZaW (p:=p) d;simp only[Zt]at h242;refine⟨x,i+2,by omega,by omega,λ y q h=>?_,λ h=>Ym Has.h244 ?_⟩
     ·simp only[XB,h93,h92,if_true,if_false]at h;cases he:XS d with
      | none=>rw[he]at h;simp at h
      | some z=>rw[he]at h;simp at h;exact⟨by rw[<- h.1];exact hxx z he,by omega,h.2⟩
     ·have e:(XB (c::d::s.drop (i+1+1))).isSome=(XS d).isSome:=by
       simp only[XB,h93,h92,if_true,if_false];cases XS d<;>rfl
      rw[e];refine⟨1,Zk rfl ?_⟩;show W _ _ qF _ _ _ _;simp[qF,hl,hl2,hl3,hl4,hx,hx1,Zt,yY,FI,h93,h92,hw,hw2,Zn,h242];exact qQ (.inr rfl) rfl rfl rfl rfl rfl rfl rfl
    ·rw[Ys hge1];have hl3:(s.length:Int)<=(i:Int)+1:=by omega
     refine⟨0,i,hi,Nat.le_refl _,λ y q h=>by simp[XB,h93,h92]at h,λ h=>Ym Has.h244 ?_⟩
     have e:(XB [c]).isSome=false:=by simp[XB,h92]
     rw[e];refine⟨1,Zk rfl ?_⟩;show W _ _ qF _ _ _ _;simp[qF,hl,hl2,hl3,hge1,hx,Zt,yY,FI,h93,h92,hw,Zn];exact qQ (.inr rfl) rfl rfl rfl rfl rfl rfl rfl
   ·refine⟨c,i+1,by omega,by omega,λ y q h=>by simp[XB,h93,h92]at h;exact⟨h.1,by omega,h.2⟩,λ h=>Ym Has.h244 ?_⟩
    have e:(XB (c::s.drop (i+1))).isSome=true:=by simp[XB,h93,h92]
    rw[e];refine⟨1,Zk rfl ?_⟩;show W _ _ qF _ _ _ _;simp[qF,hl,hl2,hx,Zt,yY,FI,h93,h92,hw,Zn];exact qQ (.inr rfl) rfl rfl rfl rfl rfl rfl rfl
 ·rw[Ys hge];have hl:(s.length:Int)<=i:=by omega
  refine⟨0,i,hi,Nat.le_refl _,λ y q h=>by simp[XB]at h,λ h=>Ym Has.h244 ?_⟩
  have e:(XB []).isSome=false:=rfl
  rw[e];refine⟨1,Zk rfl ?_⟩;show W _ _ qF _ _ _ _;simp[qF,hl,hge,Zt];exact qQ (.inr rfl) rfl rfl rfl rfl rfl rfl rfl
def RN(p:Prg)(f:Nat)(args:List CV)(s:By)(i:Nat)(o:Option By):Prop:=∃ v j,NV v/\j<=s.length/\i<=j/\(∀ q,o=some q->s.drop j=q)/\∀ h,Zi (Zo p) h f (args.map X.c)=some (.c (.tup [v,.int .i64 (j:Nat),.bool o.isSome]),h)
def OW(s:By)(i:Nat)(o:Option By)(v:CV):Prop:=∃ w j,NV w/\j<=s.length/\i<=j/\(∀ q,o=some q->s.drop j=q)/\v=.tup [w,.int .i64 (j:Nat),.bool o.isSome]
theorem DV{f:Nat}{fn:PFn}{args:List CV}{s:By}{i:Nat}{o:Option By}(hf:p.fn f=some (.body fn))
  (hr:∃ N,∃ z h',(∃ v,z=.c v/\h'=[]/\OW s i o v)/\Z5 (Zo p) N fn (args.map X.c) []=some (z,h')):RN p f args s i o:=by
 obtain⟨v,⟨w,j,h1,h2,h3,h4,rfl⟩,h⟩:=VN _ hf hr;exact⟨w,j,h1,h2,h3,h4,h⟩
def it2(r:By):Option By:=if r.head?=some 93 then some r.tail else YL r
theorem qm:YL []=none:=by rw[Xz];rfl
theorem Af(r:By):YL (93::r)=none:=by rw[Xz,qo];rfl
theorem vm(r:By):YL r=match Q6 r with | none=>none | some z=>it2 z:=Xz r
theorem Uv(L:V256)(k:Int)(s:Bool)(aZ:List CV):NV (.agg (UD L k s (.sl false aZ))):=⟨L,k,s,aZ,rfl⟩
theorem Oy{s:By}{i j:Nat}{w:CV}(hw:NV w)(hj:j<=s.length)(hij:i<=j){o:Option By}(ho:o=none):OW s i o (.tup [w,.int .i64 j,.bool false]):=by
 subst ho;exact⟨w,j,hw,hj,hij,λ q e=>(by cases e),rfl⟩
theorem DU{s:By}{i j:Nat}{w:CV}(hw:NV w)(hj:j<=s.length)(hij:i<=j){o:Option By}(ho:o=some (s.drop j)):OW s i o (.tup [w,.int .i64 j,.bool true]):=by
 subst ho;exact⟨w,j,hw,hj,hij,λ q e=>(by injection e),rfl⟩
theorem Q0{fn:PFn}{r q t id t':Nat}{L:V256}{k:Int}{b:Bool}{B:X}{aZ:List CV}{s:By}{i j:Nat}{x:Pi.Exit}{sl:Zf}{h:Mem}{o:Option By}(hx:x=.normal\/x=.ret)(hk:fn.keep=false)(hr:fn.res=[.cell r true 259,.t q,.t t])(hs:Zm sl r=.ptr id 0)(hm:h[id]?=some (.cells t' (WN L k b B)))(hB:B.wk0=.c (.sl false aZ))
  (h2:Zm sl q=.c (.int .i64 j)) (h3:Zm sl t=.c (.bool false)) (hj:j<=s.length) (hij:i<=j) (ho:o=none):∃ z h',(∃ v,z=.c v/\h'=[]/\OW s i o v)/\Gu fn 0 z h' x sl h:=
 ⟨_,_,⟨_,rfl,rfl,Oy (Uv L k b aZ) hj hij ho⟩,Vb (us:=[.int .i64 j,.bool false]) hx hk hr hs hm hB (by simp[Pi.results,h2,h3]) rfl⟩
theorem V8{fn:PFn}{r q t id t':Nat}{L:V256}{k:Int}{b:Bool}{B:X}{aZ:List CV}{s:By}{i j:Nat}{x:Pi.Exit}{sl:Zf}{h:Mem}{o:Option By}(hx:x=.normal\/x=.ret)(hk:fn.keep=false)(hr:fn.res=[.cell r true 259,.t q,.t t])(hs:Zm sl r=.ptr id 0)(hm:h[id]?=some (.cells t' (WN L k b B)))(hB:B.wk0=.c (.sl false aZ))
  (h2:Zm sl q=.c (.int .i64 (j:Nat))) (h3:Zm sl t=.c (.bool true)) (hj:j<=s.length) (hij:i<=j) (ho:o=some (s.drop j)):∃ z h',(∃ v,z=.c v/\h'=[]/\OW s i o v)/\Gu fn 0 z h' x sl h:=
 ⟨_,_,⟨_,rfl,rfl,DU (Uv L k b aZ) hj hij ho⟩,Vb (us:=[.int .i64 j,.bool true]) hx hk hr hs hm hB (by simp[Pi.results,h2,h3]) rfl⟩
abbrev Y1(L:V256)(k:Int):Ob:=.cells 252 (WN L k false (.c (.sl true [])))
theorem ZaX(s:By)(i0:Nat)(hi0:i0<=s.length)(hs:s.length<=200)(b:Bool):RN p 240 [.str s,.int .i64 i0,.bool b] s i0 (YL (s.drop i0)):=by
 refine DV Has.h240 ⟨s.length+300,Z6 _ rfl ?_⟩;simp only[List.map_cons,List.map_nil];show W _ _ MX _ _ _ _;simp only[MX,AO];simp[ZH];obtain⟨I,hI⟩:∃ I:Nat->Zf->Mem->Prop,I=λ k sl h=>∃ (j:Nat) (L:V256),j<=s.length/\i0+k<=j/\h=[Y1 BL 0,Y1 L 1]/\Zm sl 0=.c (.str s)/\Zm sl 1=.c (.int .i64 j)/\Zm sl 2=.c (.bool b)/\Zm sl 6=.ptr 0 0/\Zm sl 9=.ptr 1 0/\Zm sl 10=.c (.int .i64 i0)/\((j=i0)\/(i0 < j/\YL (s.drop i0)=it2 (s.drop j))):=⟨_,rfl⟩
 refine ZU I (s.length+1) (by omega) (by rw[hI];exact⟨i0,BL,hi0,by omega,rfl,by simp,by simp,by simp,by simp,by simp,by simp,.inl rfl⟩) ?_
 intro k sl h hkn hik;rw[hI]at hik;obtain⟨j,L,hj,hij,rfl,h0,h1,h2,h6,h9,h10,hq⟩:=hik;have hcl:clean (some [0,1,2,6,9,10]) 2 ⟨sl,[Y1 BL 0,Y1 L 1]⟩=⟨ZK [0,1,2,6,9,10] sl,[Y1 BL 0,Y1 L 1]⟩:=Yf (by simp)
 by_cases hex:j < s.length/\s[j]? ≠ some 93
 ·obtain⟨hlt,hne⟩:=hex;have hx:s[j]?=some s[j]:=Zb hlt
  have hn93:¬ s[j]=93:=λ e=>hne (by rw[hx,e])
  have hlt':(j:Int) < s.length:=by omega
  have hq1:YL (s.drop i0)=YL (s.drop j):=by
   rcases hq with rfl | ⟨_,hq⟩
   ·rfl
   ·rw[hq,it2,List.head?_drop,if_neg hne]
  rw[vm (s.drop j),qo]at hq1;obtain⟨x,j2,hj2,hjj2,hx2,h244⟩:=ZaU (p:=p) s j hj hs;cases hit:XB (s.drop j) with
  | none=>
   rw[hit]at hq1 h244;have hb:(none:Option (UInt8 × By)).isSome=false:=rfl
   rw[hb]at h244;simp only[Zt]at h244;simp[hcl,h0,h1,h2,h6,h9,h10,hlt,hlt',hx,y6,hn93,h244,Zt];exact Q0 (.inr rfl) rfl rfl rfl rfl rfl rfl rfl hj (by omega) hq1
  | some w=>
   obtain⟨lo,q⟩:=w;obtain⟨rfl,hjj3,hd2⟩:=hx2 lo q hit;rw[hit]at hq1 h244;have hb:(some (x,q):Option (UInt8 × By)).isSome=true:=rfl
   rw[hb]at h244;simp only[Zt]at h244;have hlo256:=x.toNat_lt
   have hwlo:IntKind.i64.wrap (x.toNat:Int)=(x.toNat:Int):=ZA (by omega) (by omega)
   have hw1:IntKind.i64.wrap ((j2:Int)+1)=(j2:Int)+1:=ZA (by omega) (by omega)
   by_cases hr:XT q=true
   ·have hr2:∃ d,j2+1 < s.length/\s[j2]?=some 45/\s[j2+1]?=some d/\d ≠ 93/\q.tail=s.drop (j2+1):=by
     rw[<- hd2]at hr ⊢;rcases Zl (j2+1) s.length with q1 | q1
     ·rw[ZW (by omega),ZW q1]at hr ⊢
      have e1:s[j2]?=some s[j2]:=Zb (by omega)
      have e2:s[j2+1]?=some s[j2+1]:=Zb q1
      rw[e1,e2];unfold XT at hr;split at hr
      ·rename_i d z e;injection e with e3 e4
       injection e4 with e4 e5
       exact⟨_,q1,by rw[e3],rfl,by rw[e4];simpa using hr,rfl⟩
      ·cases hr
     ·rcases Zl j2 s.length with q2 | q2
      ·rw[ZW q2,Ys q1]at hr;simp[XT]at hr
      ·rw[Ys q2]at hr;simp[XT]at hr
    obtain⟨d,hl1,e45,ed,hd93,htl⟩:=hr2;have hl1':(j2:Int)+1 < s.length:=by omega
    have hl0:j2 < s.length:=by omega
    have e45':s[j2]=45:=by have:=Zb hl0;rw[e45]at this;injection this with e;exact e.symm
    have ed':¬ s[j2+1]=93:=by have:=Zb hl1;rw[ed]at this;injection this with e;rw[<- e];exact hd93
    obtain⟨y,j3,hj3,hj23,hy,h244b⟩:=ZaU (p:=p) s (j2+1) (by omega) hs
    simp only[hr,if_true,htl]at hq1;simp only[Zt]at h244b;have hhi256:=y.toNat_lt
    have hwhi:IntKind.i64.wrap (y.toNat:Int)=(y.toNat:Int):=ZA (by omega) (by omega)
    cases hit2:XB (s.drop (j2+1)) with
    | none=>
     rw[hit2]at hq1 h244b;have hb:(none:Option (UInt8 × By)).isSome=false:=rfl
     rw[hb]at h244b;simp at h244b;simp[hcl,h0,h1,h2,h6,h9,h10,hlt,hlt',hx,y6,hn93,h244,Zt,hw1,Zn,hl1,hl1',hl0,e45',ed',h244b];exact Q0 (.inr rfl) rfl rfl rfl rfl rfl rfl rfl hj (by omega) hq1
    | some w=>
     obtain⟨y',z⟩:=w;obtain⟨rfl,hj34,hd3⟩:=hy y' z hit2;rw[hit2]at hq1 h244b;have hb:(some (y,z):Option (UInt8 × By)).isSome=true:=rfl
     rw[hb]at h244b;simp at h244b;by_cases hlh:y < x
     ·have hlt2:y.toNat < x.toNat:=UInt8.lt_iff_toNat_lt.1 hlh
      simp only[hlh,if_true]at hq1;simp[hcl,h0,h1,h2,h6,h9,h10,hlt,hlt',hx,y6,hn93,h244,Zt,hw1,Zn,hl1,hl1',hl0,e45',ed',h244b,hlt2];exact Q0 (.inr rfl) rfl rfl rfl rfl rfl rfl rfl hj (by omega) hq1
     have hlt2:¬ y.toNat < x.toNat:=λ q=>hlh (UInt8.lt_iff_toNat_lt.2 q)
     simp only[hlh,if_false,<- hd3]at hq1;simp[hcl,h0,h1,h2,h6,h9,h10,hlt,hlt',hx,y6,hn93,h244,Zt,hw1,Zn,hl1,hl1',hl0,e45',ed',h244b,hlt2];refine ZU (λ m sl h=>∃ L:V256,h=[Y1 BL 0,Y1 L 1]/\Zm sl 0=.c (.str s)/\Zm sl 2=.c (.bool b)/\Zm sl 6=.ptr 0 0/\Zm sl 9=.ptr 1 0/\Zm sl 10=.c (.int .i64 i0)/\Zm sl 12=.c (.int .i64 j3)/\Zm sl 14=.c (.int .u8 y.toNat)/\Zm sl 15=.c (.int .i64 ((x.toNat+m:Nat):Int))/\x.toNat+m<=y.toNat+1) 256 (by omega) ⟨L,rfl,by simp,by simp,by simp,by simp,by simp,by simp,by simp,by simp[Zn,hwlo],by omega⟩ ?_
     rintro m sl2 h2 hm ⟨L2,rfl,g0,g2,g6,g9,g10,g12,g14,g15,hmh⟩
     have hcl2:clean (some [0,2,6,9,10,12,14,15]) 2 ⟨sl2,[Y1 BL 0,Y1 L2 1]⟩=⟨ZK [0,2,6,9,10,12,14,15] sl2,[Y1 BL 0,Y1 L2 1]⟩:=Yf (by simp)
     by_cases hle:x.toNat+m<=y.toNat
     ·have hle':((x.toNat+m:Nat):Int)<=(y.toNat:Int):=by omega
      have hw2:IntKind.i64.wrap (((x.toNat+m:Nat):Int)+1)=((x.toNat+(m+1):Nat):Int):=by rw[ZA (by omega) (by omega)];omega
      have hix:x.toNat+m<=255:=by omega
      have hix2:1+(x.toNat+m)<=258:=by omega
      have hset:=fun (L:V256) k s B b=>VL (L:=L) (k:=k) (s:=s) (B:=B) (i:=x.toNat+m) (b:=b) (by omega)
      have hmh':x.toNat+(m+1)<=y.toNat+1:=by omega
      generalize hgn:x.toNat+m=gn at *
      simp[hcl2,g0,g2,g6,g9,g10,g12,g14,g15,hwhi,hle',hw2,hix,hix2,Zn,hle,hset];exact⟨by omega,⟨_,rfl⟩,by omega⟩
     ·have hle':¬ ((x.toNat+m:Nat):Int)<=(y.toNat:Int):=by omega
      generalize x.toNat+m=gn at *
      simp[hcl2,g0,g2,g6,g9,g10,g12,g14,g15,hwhi,hle',hle,Zn];refine⟨by omega,?_⟩
      rw[hI];exact⟨j3,L2,hj3,by omega,rfl,rfl,rfl,rfl,rfl,rfl,rfl,.inr ⟨by omega,hq1⟩⟩
   ·have hwhi:=hwlo
    obtain⟨y,rfl⟩:∃ y:UInt8,y=x:=⟨_,rfl⟩;obtain⟨j3,rfl⟩:∃ j3:Nat,j3=j2:=⟨_,rfl⟩;have hj3:=hj2
    rw[<- hd2]at hq1 hr;simp only[hr,if_false]at hq1;by_cases hl1:j3+1 < s.length
    ·have hl1':(j3:Int)+1 < s.length:=by omega
     have e1:s[j3]?=some s[j3]:=Zb (by omega)
     have e2:s[j3+1]?=some s[j3+1]:=Zb hl1
     by_cases e45:s[j3]=45
     ·have ed:s[j3+1]=93:=by
       refine Z0 λ q=>hr ?_
       rw[ZW (by omega),ZW hl1,e45]
       exact decide_eq_true q
      simp[hcl,h0,h1,h2,h6,h9,h10,hlt,hlt',hx,y6,hn93,h244,Zt,hw1,Zn,hl1,hl1',e1,e2,FF,e45,ed];refine ZU (λ m sl h=>∃ L:V256,h=[Y1 BL 0,Y1 L 1]/\Zm sl 0=.c (.str s)/\Zm sl 2=.c (.bool b)/\Zm sl 6=.ptr 0 0/\Zm sl 9=.ptr 1 0/\Zm sl 10=.c (.int .i64 i0)/\Zm sl 12=.c (.int .i64 j3)/\Zm sl 14=.c (.int .u8 y.toNat)/\Zm sl 15=.c (.int .i64 ((y.toNat+m:Nat):Int))/\y.toNat+m<=y.toNat+1) 256 (by omega) ⟨L,rfl,by simp,by simp,by simp,by simp,by simp,by simp,by simp,by simp[Zn,hwlo],by omega⟩ ?_
      rintro m sl2 h2 hm ⟨L2,rfl,g0,g2,g6,g9,g10,g12,g14,g15,hmh⟩
      have hcl2:clean (some [0,2,6,9,10,12,14,15]) 2 ⟨sl2,[Y1 BL 0,Y1 L2 1]⟩=⟨ZK [0,2,6,9,10,12,14,15] sl2,[Y1 BL 0,Y1 L2 1]⟩:=Yf (by simp)
      by_cases hle:y.toNat+m<=y.toNat
      ·have hle':((y.toNat+m:Nat):Int)<=(y.toNat:Int):=by omega
       have hw2:IntKind.i64.wrap (((y.toNat+m:Nat):Int)+1)=((y.toNat+(m+1):Nat):Int):=by rw[ZA (by omega) (by omega)];omega
       have hix:y.toNat+m<=255:=by omega
       have hix2:1+(y.toNat+m)<=258:=by omega
       have hset:=fun (L:V256) k s B b=>VL (L:=L) (k:=k) (s:=s) (B:=B) (i:=y.toNat+m) (b:=b) (by omega)
       have hmh':y.toNat+(m+1)<=y.toNat+1:=by omega
       generalize hgn:y.toNat+m=gn at *
       simp[hcl2,g0,g2,g6,g9,g10,g12,g14,g15,hwhi,hle',hw2,hix,hix2,Zn,hle,hset];exact⟨by omega,⟨_,rfl⟩,by omega⟩
      ·have hle':¬ ((y.toNat+m:Nat):Int)<=(y.toNat:Int):=by omega
       generalize y.toNat+m=gn at *
       simp[hcl2,g0,g2,g6,g9,g10,g12,g14,g15,hwhi,hle',hle,Zn];refine⟨by omega,?_⟩
       rw[hI];exact⟨j3,L2,hj3,by omega,rfl,rfl,rfl,rfl,rfl,rfl,rfl,.inr ⟨by omega,hq1⟩⟩
     ·simp[hcl,h0,h1,h2,h6,h9,h10,hlt,hlt',hx,y6,hn93,h244,Zt,hw1,Zn,hl1,hl1',e1,e2,FF,e45];refine ZU (λ m sl h=>∃ L:V256,h=[Y1 BL 0,Y1 L 1]/\Zm sl 0=.c (.str s)/\Zm sl 2=.c (.bool b)/\Zm sl 6=.ptr 0 0/\Zm sl 9=.ptr 1 0/\Zm sl 10=.c (.int .i64 i0)/\Zm sl 12=.c (.int .i64 j3)/\Zm sl 14=.c (.int .u8 y.toNat)/\Zm sl 15=.c (.int .i64 ((y.toNat+m:Nat):Int))/\y.toNat+m<=y.toNat+1) 256 (by omega) ⟨L,rfl,by simp,by simp,by simp,by simp,by simp,by simp,by simp,by simp[Zn,hwlo],by omega⟩ ?_
      rintro m sl2 h2 hm ⟨L2,rfl,g0,g2,g6,g9,g10,g12,g14,g15,hmh⟩
      have hcl2:clean (some [0,2,6,9,10,12,14,15]) 2 ⟨sl2,[Y1 BL 0,Y1 L2 1]⟩=⟨ZK [0,2,6,9,10,12,14,15] sl2,[Y1 BL 0,Y1 L2 1]⟩:=Yf (by simp)
      by_cases hle:y.toNat+m<=y.toNat
      ·have hle':((y.toNat+m:Nat):Int)<=(y.toNat:Int):=by omega
       have hw2:IntKind.i64.wrap (((y.toNat+m:Nat):Int)+1)=((y.toNat+(m+1):Nat):Int):=by rw[ZA (by omega) (by omega)];omega
       have hix:y.toNat+m<=255:=by omega
       have hix2:1+(y.toNat+m)<=258:=by omega
       have hset:=fun (L:V256) k s B b=>VL (L:=L) (k:=k) (s:=s) (B:=B) (i:=y.toNat+m) (b:=b) (by omega)
       have hmh':y.toNat+(m+1)<=y.toNat+1:=by omega
       generalize hgn:y.toNat+m=gn at *
       simp[hcl2,g0,g2,g6,g9,g10,g12,g14,g15,hwhi,hle',hw2,hix,hix2,Zn,hle,hset];exact⟨by omega,⟨_,rfl⟩,by omega⟩
      ·have hle':¬ ((y.toNat+m:Nat):Int)<=(y.toNat:Int):=by omega
       generalize y.toNat+m=gn at *
       simp[hcl2,g0,g2,g6,g9,g10,g12,g14,g15,hwhi,hle',hle,Zn];refine⟨by omega,?_⟩
       rw[hI];exact⟨j3,L2,hj3,by omega,rfl,rfl,rfl,rfl,rfl,rfl,rfl,.inr ⟨by omega,hq1⟩⟩
    ·have hl1':¬ (j3:Int)+1 < s.length:=by omega
     simp[hcl,h0,h1,h2,h6,h9,h10,hlt,hlt',hx,y6,hn93,h244,Zt,hw1,Zn,hl1,hl1'];refine ZU (λ m sl h=>∃ L:V256,h=[Y1 BL 0,Y1 L 1]/\Zm sl 0=.c (.str s)/\Zm sl 2=.c (.bool b)/\Zm sl 6=.ptr 0 0/\Zm sl 9=.ptr 1 0/\Zm sl 10=.c (.int .i64 i0)/\Zm sl 12=.c (.int .i64 j3)/\Zm sl 14=.c (.int .u8 y.toNat)/\Zm sl 15=.c (.int .i64 ((y.toNat+m:Nat):Int))/\y.toNat+m<=y.toNat+1) 256 (by omega) ⟨L,rfl,by simp,by simp,by simp,by simp,by simp,by simp,by simp,by simp[Zn,hwlo],by omega⟩ ?_
     rintro m sl2 h2 hm ⟨L2,rfl,g0,g2,g6,g9,g10,g12,g14,g15,hmh⟩
     have hcl2:clean (some [0,2,6,9,10,12,14,15]) 2 ⟨sl2,[Y1 BL 0,Y1 L2 1]⟩=⟨ZK [0,2,6,9,10,12,14,15] sl2,[Y1 BL 0,Y1 L2 1]⟩:=Yf (by simp)
     by_cases hle:y.toNat+m<=y.toNat
     ·have hle':((y.toNat+m:Nat):Int)<=(y.toNat:Int):=by omega
      have hw2:IntKind.i64.wrap (((y.toNat+m:Nat):Int)+1)=((y.toNat+(m+1):Nat):Int):=by rw[ZA (by omega) (by omega)];omega
      have hix:y.toNat+m<=255:=by omega
      have hix2:1+(y.toNat+m)<=258:=by omega
      have hset:=fun (L:V256) k s B b=>VL (L:=L) (k:=k) (s:=s) (B:=B) (i:=y.toNat+m) (b:=b) (by omega)
      have hmh':y.toNat+(m+1)<=y.toNat+1:=by omega
      generalize hgn:y.toNat+m=gn at *
      simp[hcl2,g0,g2,g6,g9,g10,g12,g14,g15,hwhi,hle',hw2,hix,hix2,Zn,hle,hset];exact⟨by omega,⟨_,rfl⟩,by omega⟩
     ·have hle':¬ ((y.toNat+m:Nat):Int)<=(y.toNat:Int):=by omega
      generalize y.toNat+m=gn at *
      simp[hcl2,g0,g2,g6,g9,g10,g12,g14,g15,hwhi,hle',hle,Zn];refine⟨by omega,?_⟩
      rw[hI];exact⟨j3,L2,hj3,by omega,rfl,rfl,rfl,rfl,rfl,rfl,rfl,.inr ⟨by omega,hq1⟩⟩
 ·
  by_cases hge:s.length<=j
  ·have hge':¬ (j:Int) < s.length:=by omega
   have hge2:(s.length:Int)<=j:=by omega
   have hq1:YL (s.drop i0)=none:=by
    rcases hq with rfl | ⟨_,hq⟩
    ·rw[Ys hge,qm]
    ·rw[hq,Ys hge,it2];exact qm
   simp[hcl,h0,h1,h2,h6,h9,h10,hge,hge',hge2,Nat.not_lt.2 hge];exact Q0 (.inr rfl) rfl rfl rfl rfl rfl rfl rfl hj (by omega) hq1
  have hlt:j < s.length:=by omega
  have hx:s[j]?=some s[j]:=Zb hlt
  have h93:s[j]=93:=by
   have:¬ s[j]? ≠ some 93:=λ q=>hex ⟨hlt,q⟩
   rw[hx]at this
   simpa using this
  have hlt':(j:Int) < s.length:=by omega
  have hge2:¬ (s.length:Int)<=j:=by omega
  have hw:IntKind.i64.wrap ((j:Int)+1)=(j:Int)+1:=ZA (by omega) (by omega)
  by_cases hji:j=i0
  ·subst hji;have hq1:YL (s.drop j)=none:=by rw[ZW hlt,h93,Af]
   simp[hcl,h0,h1,h2,h6,h9,h10,hlt,hlt',hx,h93,hge2,Zt];exact Q0 (.inr rfl) rfl rfl rfl rfl rfl rfl rfl hj (by omega) hq1
  ·have hq1:YL (s.drop i0)=some (s.drop (j+1)):=by
    rcases hq with rfl | ⟨_,hq⟩
    ·exact absurd rfl hji
    ·rw[hq,it2,ZW hlt,h93];rfl
   have hne:((j:Int)==(i0:Int))=false:=by simp;omega
   simp[hcl,h0,h1,h2,h6,h9,h10,hlt,hlt',hx,h93,hge2,Zt,hne,hge];refine ZU (λ m sl h=>∃ L:V256,h=[Y1 BL 0,Y1 L 1]/\Zm sl 1=.c (.int .i64 j)/\Zm sl 2=.c (.bool b)/\Zm sl 6=.ptr 0 0/\Zm sl 9=.ptr 1 0/\Zm sl 16=.c (.int .i64 m)) 256 (by omega) ⟨L,rfl,by simp,by simp,by simp,by simp,by simp⟩ ?_
   rintro m sl2 h2 hm ⟨L2,rfl,g1,g2,g6,g9,g16⟩
   have hcl2:clean (some [1,2,6,9,16]) 2 ⟨sl2,[Y1 BL 0,Y1 L2 1]⟩=⟨ZK [1,2,6,9,16] sl2,[Y1 BL 0,Y1 L2 1]⟩:=Yf (by simp)
   rcases Zl m 256 with hm1 | hm1
   ·have hm':(m:Int) < 256:=by omega
    have hw2:IntKind.i64.wrap ((m:Int)+1)=(m:Int)+1:=ZA (by omega) (by omega)
    have hix:m<=255:=by omega
    have hix2:1+m<=258:=by omega
    have hset:=fun (L:V256) k s B b=>VL (L:=L) (k:=k) (s:=s) (B:=B) (i:=m) (b:=b) hm1
    obtain⟨u,hu⟩:=BZ (L:=L2) (k:=1) (s:=false) (B:=.c (.sl true [])) hm1;simp[hcl2,g1,g2,g6,g9,g16,hm1,hm',hw2,hix,hix2,Zn,hset,hu];exact⟨_,rfl⟩
   ·obtain rfl:m=256:=by omega
    simp[hcl2,g1,g2,g6,g9,g16,hw,Zn];exact V8 (j:=j+1) (.inr rfl) rfl rfl rfl rfl rfl (by simp) rfl (by omega) (by omega) hq1
end
section
variable {p:Prg} [Has p] {h:Mem}
attribute [local simp] KD Wu XY QA Qz Vn Vm UC WK WM Uf Kb QQ Us Qn QB 
attribute [-simp] List.map_append
def gh:CV:=.agg N1
theorem DY:CV.agg ([I0]++YX++[ZkK,ZkM])=gh:=rfl
theorem Kk{L:V256}{k:Int}{s:Bool}{aZ:List CV}{b:Bool}:Xo 259 [gh] [(0,X.c (.agg (UD L k s (.sl b aZ))))]=some [.agg (UD L k s (.sl false aZ))]:=by
 have h1:(CV.agg (UD L k s (.sl false aZ))).cells.length=259:=XY
 have h2:Nat.beq 259 259=true:=rfl
 have h3:Nat.ble (0+1) [gh].length=true:=rfl
 simp only[Xo,Qn,h1,h2,h3,Bool.and_self,cond_true,List.set_cons_zero]
theorem If{L M:V256}{k l:Int}{s t:Bool}{aZ bs:List CV}{b c:Bool}:Xo 259 [gh,gh] [(0,X.c (.agg (UD L k s (.sl b aZ)))),(1,X.c (.agg (UD M l t (.sl c bs))))]=some [.agg (UD L k s (.sl false aZ)),.agg (UD M l t (.sl false bs))]:=by
 have h1:(CV.agg (UD L k s (.sl false aZ))).cells.length=259:=XY
 have h1':(CV.agg (UD M l t (.sl false bs))).cells.length=259:=XY
 have h2:Nat.beq 259 259=true:=rfl
 have h3:∀ a b:CV,Nat.ble (0+1) [a,b].length=true:=λ _ _=>rfl
 have h4:∀ a b:CV,Nat.ble (1+1) [a,b].length=true:=λ _ _=>rfl
 simp only[Xo,Qn,h1,h1',h2,h3,h4,Bool.and_self,cond_true,List.set_cons_zero,List.set_cons_succ]
theorem ZgD{n:CV}(hn:NV n)(c:UInt8):∃ v,NV v/\∀ h,Zi (Zo p) h 234 [.c n,.c (Zt c)]=some (.c v,h):=by
 obtain⟨L,k,s,aZ,rfl⟩:=hn;refine VN (vs:=[_,_]) _ Has.h234 ⟨1,Z6 _ rfl ?_⟩;simp only[List.map_cons,List.map_nil];show W _ _ M2 _ _ _ _;simp only[M2,AO,DY];have hr2:List.replicate 2 gh=[gh,gh]:=rfl
 have hr1:List.replicate 1 gh=[gh]:=rfl
 by_cases h42:c=42
 ·simp[ZH,Zt,wb,h42,Kk,hr1];exact⟨_,_,⟨_,rfl,rfl,Uv _ _ _ _⟩,Vb (us:=[]) (.inr rfl) rfl rfl rfl rfl rfl rfl rfl⟩
 ·by_cases h43:c=43
  ·simp[ZH,Zt,wb,yZ,h42,h43,Kk,hr1];exact⟨_,_,⟨_,rfl,rfl,Uv _ _ _ _⟩,Vb (us:=[]) (.inr rfl) rfl rfl rfl rfl rfl rfl rfl⟩
  ·simp[ZH,Zt,wb,yZ,h42,h43,If,hr2];exact⟨_,_,⟨_,rfl,rfl,Uv _ _ _ _⟩,Vb (us:=[]) (.inr rfl) rfl rfl rfl rfl rfl rfl rfl⟩
theorem qS{f:Nat}{args:List CV}{s:By}{i:Nat}{o:Option By}(h:RN p f args s i o):∃ L k b aZ j,j<=s.length/\i<=j/\(∀ q,o=some q->s.drop j=q)/\∀ h,Zi (Zo p) h f (args.map X.c)=some (.c (.tup [.agg (UD L k b (.sl false aZ)),.int .i64 (j:Nat),.bool o.isSome]),h):=by
 obtain⟨v,j,⟨L,k,b,aZ,rfl⟩,h1,h2,h3,h4⟩:=h;exact⟨L,k,b,aZ,j,h1,h2,h3,h4⟩
theorem zu{c:UInt8}(h:Ws c=false):c ≠ 40/\c ≠ 91/\c ≠ 46/\c ≠ 92:=by
 refine⟨?_,?_,?_,?_⟩<;>(rintro rfl;exact absurd h (by decide))
theorem ZgE(s:By)(i:Nat)(hlt:i < s.length)(hs:s.length<=200)(hch:RN p 229 [.str s,.int .i64 ((i:Int)+1)] s (i+1) (E (s.drop (i+1)))):RN p 233 [.str s,.int .i64 i] s i (A (s.drop i)):=by
 refine DV Has.h233 ⟨257,Z6 _ rfl ?_⟩;simp only[List.map_cons,List.map_nil];show W _ _ AB _ _ _ _;simp only[AB,AO];rw[ZW hlt,um];have hi:=Nat.le_of_lt hlt
 have hx:s[i]?=some s[i]:=Zb hlt
 have hw:IntKind.i64.wrap ((i:Int)+1)=(i:Int)+1:=ZA (by omega) (by omega)
 have hw2:IntKind.i64.wrap ((i:Int)+2)=(i:Int)+2:=ZA (by omega) (by omega)
 have hbne:((s[i].toNat:Int) != 40)=!((s[i].toNat:Int)==40):=rfl
 have h237:=λ h=>ZgC (p:=p) (h:=h) s[i]
 simp only[Zt]at h237;by_cases hsp:Ws s[i]=false
 ·obtain⟨h40,h91,h46,h92⟩:=zu hsp;obtain⟨v,⟨L,k,b,aZ,rfl⟩,h238⟩:=ZaY (p:=p) s[i];simp only[Zt]at h238;rw[if_neg h40,if_neg h91,if_neg h46,if_neg h92,if_neg (by rw[hsp];exact Bool.false_ne_true)]
  rw[hsp]at h237;simp[ZH,hx,Zt,h237,h238,hw,Zn];exact V8 (j:=i+1) (.inr rfl) rfl rfl rfl rfl rfl (by simp) rfl (by omega) (by omega) rfl
 rw[Bool.not_eq_false]at hsp;rw[hsp]at h237;by_cases h46:s[i]=46
 ·rw[if_neg (by rw[h46];decide),if_neg (by rw[h46];decide),if_pos h46]
  have q46:((s[i].toNat:Int)==46)=true:=by rw[vT,h46];rfl
  simp[ZH,hx,Zt,h237,q46,hw,Zn];refine ZU (λ m sl h=>∃ L:V256,h=[Y1 BL 0,Y1 L 1]/\Zm sl 1=.c (.int .i64 i)/\Zm sl 4=.ptr 0 0/\Zm sl 8=.ptr 1 0/\Zm sl 9=.c (.int .i64 m)) 256 (by omega) ⟨BL,rfl,by simp,by simp,by simp,by simp⟩ ?_
  rintro m sl2 h2 hm ⟨L2,rfl,g1,g4,g8,g9⟩
  have hcl2:clean (some [1,4,8,9]) 2 ⟨sl2,[Y1 BL 0,Y1 L2 1]⟩=⟨ZK [1,4,8,9] sl2,[Y1 BL 0,Y1 L2 1]⟩:=Yf (by simp)
  rcases Zl m 256 with hm1 | hm1
  ·have hm':(m:Int) < 256:=by omega
   have hw2:IntKind.i64.wrap ((m:Int)+1)=(m:Int)+1:=ZA (by omega) (by omega)
   have hix:m<=255:=by omega
   have hix2:1+m<=258:=by omega
   have hset:=fun (L:V256) k s B b=>VL (L:=L) (k:=k) (s:=s) (B:=B) (i:=m) (b:=b) hm1
   simp[hcl2,g1,g4,g8,g9,hm1,hm',hw2,hix,hix2,Zn,hset];exact⟨_,rfl⟩
  ·obtain rfl:m=256:=by omega
   simp[hcl2,g1,g4,g8,g9,hw,Zn];exact V8 (j:=i+1) (.inr rfl) rfl rfl rfl rfl rfl (by simp) rfl (by omega) (by omega) rfl
 have q46:((s[i].toNat:Int)==46)=false:=by rw[vT];exact decide_eq_false h46
 rw[if_neg h46];by_cases h92:s[i]=92
 ·rw[if_neg (by rw[h92];decide),if_neg (by rw[h92];decide),if_pos h92]
  have q92:((s[i].toNat:Int)==92)=true:=by rw[Gc,h92];rfl
  have q91:((s[i].toNat:Int)==91)=false:=by rw[jp,h92];rfl
  have q40:((s[i].toNat:Int)==40)=false:=by rw[jq,h92];rfl
  rcases Zl (i+1) s.length with hl1 | hl1
  ·rw[ZW hl1];have hx1:s[i+1]?=some s[i+1]:=Zb hl1
   have hl1':(i:Int)+1 < s.length:=by omega
   obtain⟨v,⟨L,k,b,aZ,rfl⟩,h239⟩:=ZgB (p:=p) s[i+1];simp only[Zt]at h239;have hgo:∀ (d:UInt8) (q:By),(if d=100\/d=119 then some q else match XS d with | some _=>some q | none=>none)=if decide (d=100)||decide (d=119)||(XS d).isSome then some q else none:=by
    intro d q;by_cases hd:d=100\/d=119
    ·simp[hd]
    ·have h1:¬ d=100:=λ q=>hd (.inl q)
     have h2:¬ d=119:=λ q=>hd (.inr q)
     cases XS d<;>simp[h1,h2]
   have hg:=hgo s[i+1] (s.drop (i+1+1))
   generalize (decide (s[i+1]=100)||decide (s[i+1]=119)||(XS s[i+1]).isSome)=ok at *
   cases ok with
   | true=>
    simp[ZH,hx,Zt,h237,q46,q92,hw,Zn,hl1,hl1',hx1,h239,hw2];exact V8 (j:=i+1+1) (.inr rfl) rfl rfl rfl rfl rfl (by simp;omega) rfl (by omega) (by omega) (hg.trans rfl)
   | false=>
    simp[ZH,hx,Zt,h237,q46,q92,hw,Zn,hl1,hl1',hx1,h239,hw2];exact Q0 (j:=((i+1+1:Nat))) (.inr rfl) rfl rfl rfl rfl rfl (by simp;omega) rfl (by omega) (by omega) (hg.trans rfl)
  ·rw[Ys hl1];have hl1':¬ (i:Int)+1 < s.length:=by omega
   simp[ZH,hx,Zt,h237,q46,q92,q91,q40,hbne,hw,Zn,hl1',Nat.not_lt.2 hl1];exact Q0 (.inr rfl) rfl rfl rfl rfl rfl rfl rfl hi (by omega) rfl
 rw[if_neg h92];have q92:((s[i].toNat:Int)==92)=false:=by rw[Gc];exact decide_eq_false h92
 by_cases h91:s[i]=91
 ·rw[if_neg (by rw[h91];decide),if_pos h91]
  have q91:((s[i].toNat:Int)==91)=true:=by rw[jp,h91];rfl
  by_cases hcaret:s[i+1]?=some 94
  ·obtain⟨hl1,he⟩:=Za.1 hcaret;have hl1':(i:Int)+1 < s.length:=by omega
   rw[ZW hl1,he];obtain⟨L,k,b,aZ,j,h1,h2,h3,h240⟩:=qS (ZaX (p:=p) s (i+2) (by omega) hs true)
   simp only[List.map_cons,List.map_nil]at h240;simp at h240;have hk:Qi (94::s.drop (i+1+1))=YL (s.drop (i+2)):=rfl
   rw[hk];cases hI:YL (s.drop (i+2)) with
   | none=>
    rw[hI]at h240;simp at h240;simp[ZH,hx,Zt,h237,q46,q92,q91,Ay,hw,Zn,hl1,hl1',he,hw2,h240];exact Q0 (.inr rfl) rfl rfl rfl rfl rfl rfl rfl h1 (by omega) rfl
   | some q=>
    rw[hI]at h240;simp at h240;simp[ZH,hx,Zt,h237,q46,q92,q91,Ay,hw,Zn,hl1,hl1',he,hw2,h240];exact V8 (.inr rfl) rfl rfl rfl rfl rfl rfl rfl h1 (by omega) (by rw[h3 q hI])
  ·obtain⟨L,k,b,aZ,j,h1,h2,h3,h240⟩:=qS (ZaX (p:=p) s (i+1) (by omega) hs false)
   simp only[List.map_cons,List.map_nil]at h240;simp at h240;have hk:Qi (s.drop (i+1))=YL (s.drop (i+1)):=by
    unfold Qi;split
    ·rename_i q e;exact absurd (Qk e).1 hcaret
    ·rfl
   rw[hk];have hfin:∀ o:Option By,o=YL (s.drop (i+1))->W (Zo p) 257 AB [(0,.c (.str s)),(1,.c (.int .i64 i))] [] [] (λ x s_1 h2=>∃ z h',(∃ v,z=X.c v/\h'=[]/\OW s i o v)/\Gu Fa 0 z h' x s_1 h2):=by
    intro o ho;simp only[AB,AO];cases o with
    | none=>
     rw[<- ho]at h240;simp at h240;by_cases hl1:i+1 < s.length
     ·have hl1':(i:Int)+1 < s.length:=by omega
      have hne:¬ s[i+1]=94:=λ e=>hcaret (by rw[Zb hl1,e])
      simp[ZH,hx,Zt,h237,q46,q92,q91,Ay,hw,Zn,hl1,hl1',hne,hw2,h240];exact Q0 (.inr rfl) rfl rfl rfl rfl rfl rfl rfl h1 (by omega) rfl
     ·have hl1':¬ (i:Int)+1 < s.length:=by omega
      simp[ZH,hx,Zt,h237,q46,q92,q91,Ay,hw,Zn,hl1,hl1',hw2,h240];exact Q0 (.inr rfl) rfl rfl rfl rfl rfl rfl rfl h1 (by omega) rfl
    | some q=>
     rw[<- ho]at h240;simp at h240;by_cases hl1:i+1 < s.length
     ·have hl1':(i:Int)+1 < s.length:=by omega
      have hne:¬ s[i+1]=94:=λ e=>hcaret (by rw[Zb hl1,e])
      simp[ZH,hx,Zt,h237,q46,q92,q91,Ay,hw,Zn,hl1,hl1',hne,hw2,h240];exact V8 (.inr rfl) rfl rfl rfl rfl rfl rfl rfl h1 (by omega) (by rw[h3 q ho.symm])
     ·have hl1':¬ (i:Int)+1 < s.length:=by omega
      simp[ZH,hx,Zt,h237,q46,q92,q91,Ay,hw,Zn,hl1,hl1',hw2,h240];exact V8 (.inr rfl) rfl rfl rfl rfl rfl rfl rfl h1 (by omega) (by rw[h3 q ho.symm])
   have:=hfin _ rfl
   simp only[AB,AO]at this;exact this
 rw[if_neg h91];have q91:((s[i].toNat:Int)==91)=false:=by rw[jp];exact decide_eq_false h91
 by_cases h40:s[i]=40
 ·rw[if_pos h40];have q40:((s[i].toNat:Int)==40)=true:=by rw[jq,h40];rfl
  obtain⟨L,k,b,aZ,j,h1,h2,h3,h229⟩:=qS hch;simp only[List.map_cons,List.map_nil]at h229;cases hE:E (s.drop (i+1)) with
  | none=>
   rw[hE]at h229;simp at h229;simp[ZH,hx,Zt,h237,q46,q92,q91,q40,hbne,hw,Zn,h229];exact Q0 (.inr rfl) rfl rfl rfl rfl rfl rfl rfl hi (by omega) rfl
  | some z=>
   rw[hE]at h229;simp at h229;have hd:=h3 z hE
   by_cases h41:s[j]?=some 41
   ·obtain⟨hl,he⟩:=Za.1 h41;have hl':¬ (s.length:Int)<=j:=by omega
    have hwj:IntKind.i64.wrap ((j:Int)+1)=(j:Int)+1:=ZA (by omega) (by omega)
    have hz:z=41::s.drop (j+1):=by rw[<- hd,ZW hl,he]
    subst hz;simp[ZH,hx,Zt,h237,q46,q92,q91,q40,hbne,hw,Zn,h229,hl',Nat.not_le.2 hl,h41,hwj];exact V8 (j:=j+1) (.inr rfl) rfl rfl rfl rfl rfl (by simp) rfl (by omega) (by omega) rfl
   ·have hm:(match (some z:Option By) with | some (41::q)=>some q | _=>none)=none:=by
     split
     ·rename_i e;injection e with e
      subst e;exact absurd (Qk hd).1 h41
     ·rfl
    by_cases hl:s.length<=j
    ·have hl':(s.length:Int)<=j:=by omega
     simp[ZH,hx,Zt,h237,q46,q92,q91,q40,hbne,hw,Zn,h229,hl,hl'];exact Q0 (.inr rfl) rfl rfl rfl rfl rfl rfl rfl hi (by omega) hm
    ·have hl':¬ (s.length:Int)<=j:=by omega
     have hl2:j < s.length:=by omega
     have hxj:s[j]?=some s[j]:=Zb hl2
     have hne:¬ s[j]=41:=λ e=>h41 (by rw[hxj,e])
     simp[ZH,hx,Zt,h237,q46,q92,q91,q40,hbne,hw,Zn,h229,hl,hl',hxj,MC,hne];exact Q0 (.inr rfl) rfl rfl rfl rfl rfl rfl rfl hi (by omega) hm
 ·rw[if_neg h40];have q40:((s[i].toNat:Int)==40)=false:=by rw[jq];exact decide_eq_false h40
  rw[if_pos hsp];simp[ZH,hx,Zt,h237,q46,q92,q91,q40,hbne,hw,Zn];exact Q0 (.inr rfl) rfl rfl rfl rfl rfl rfl rfl hi (by omega) rfl
end
section
variable {p:Prg} [Has p] {h:Mem}
attribute [local simp] KD Wu XY QA Qz Vn Vm UC WK WM Uf Kb QQ Us Qn QB 
attribute [-simp] List.map_append
def GM(r:Mem):Prop:=∀ o∈r,(∃ t cs,o=.cells t cs)\/∃ v s t,o=.tip v s t
theorem GM.same:∀ {r:Mem},GM r->Mem.same r r=true
 | [],_=>rfl
 | o::r,h=>by
  have ih:=GM.same (r:=r) λ x hx=>h x (Zq _ hx)
  rcases h o (by simp) with ⟨t,cs,rfl⟩|⟨v,s,t,rfl⟩
  ·simp only[Mem.same,Ze,ih,Bool.and_self]
  ·simp only[Mem.same,Zj,ih,Bool.and_self]
theorem GM.hasF:∀ {r:Mem},GM r->Pi.hasF r=false
 | [],_=>rfl
 | o::r,h=>by
  have ih:=GM.hasF (r:=r) λ x hx=>h x (Zq _ hx)
  rcases h o (by simp) with ⟨t,cs,rfl⟩|⟨v,s,t,rfl⟩<;>simpa [Pi.hasF] using ih
theorem GM.push{r:Mem}{o:Ob}(h:GM r)(ho:(∃ t cs,o=.cells t cs)\/∃ v s t,o=.tip v s t):GM (r++[o]):=λ x hx=>by
 rcases List.mem_append.1 hx with hx | hx
 ·exact h x hx
 ·rw[ZF.1 hx];exact ho
theorem GM.set{r:Mem}{k v s t:Nat}(h:GM r):GM (r.set k (.tip v s t)):=λ x hx=>by
 rcases List.mem_or_eq_of_mem_set hx with hx | rfl
 ·exact h x hx
 ·exact .inr ⟨_,_,_,rfl⟩
theorem GM.cons{r:Mem}{t:Nat}{cs:List X}(h:GM r):GM (.cells t cs::r):=λ x hx=>by
 rcases List.mem_cons.1 hx with rfl | hx
 ·exact .inl ⟨_,_,rfl⟩
 ·exact h x hx
theorem Au(cs:List X):(Yr cs).cells=some cs:=by
 have h:∀ cs:List X,∀ l,closedL cs=some l->cs=l.map X.c:=by
  intro cs
  induction cs with
  | nil=>intro l h;cases h;rfl
  | cons x r ih=>
   intro l h;cases x with
   | c v=>
    simp only[closedL]at h;cases hr:closedL r with
    | none=>rw[hr]at h;cases h
    | some q=>rw[hr]at h;cases h;rw[ih q hr];rfl
   | _=>simp only[closedL]at h;cases h
 cases hc:closedL cs with
 | some l=>simp only[Yr,hc,X.cells,CV.cells,<- h cs l hc]
 | none=>simp only[Yr,hc,X.cells]
def TB(rest:Mem)(B:X)(es:List CV)(i:Option Nat):Prop:=(B=.c (.sl true es)/\i=none)\/∃ k v,i=some k/\B=.own es (k+3) v/\rest[k]?=some (.tip v 259 252)
theorem TB.wk{rest:Mem}{B:X}{es:List CV}{i:Option Nat}(h:TB rest B es i):B.wk0=.c (.sl false es):=by
 rcases h with ⟨rfl,_⟩|⟨k,v,_,rfl,_⟩<;>rfl
theorem TB.push{rest:Mem}{B:X}{es:List CV}{i:Option Nat}(h:TB rest B es i)(o:Ob):TB (rest++[o]) B es i:=by
 rcases h with h | ⟨k,v,h1,h2,h3⟩
 ·exact .inl h
 ·exact .inr ⟨k,v,h1,h2,by rw[Zr (Za.1 h3).1];exact h3⟩
theorem Ai:∀ {es:List CV},(∀ x∈es,NV x)->YC 259 es=true
 | [],_=>rfl
 | x::r,h=>by
  obtain⟨L,k,s,aZ,rfl⟩:=h x (by simp)
  have h1:(CV.agg (UD L k s (.sl false aZ))).cells.length=259:=XY
  simp only[YC,h1];rfl
theorem TB.app{rest:Mem}{B:X}{es:List CV}{i:Option Nat}(h:TB rest B es i)(hn:∀ x∈es,NV x)(hl:es.length<=1000)(hf:GM rest)(o0 o1 o2:Ob)(y:CV):∃ k v rest',ZP (o0::o1::o2::rest) 252 259 296 B [y]=some (.own (es++[y]) (k+3) v,o0::o1::o2::rest')/\TB rest' (.own (es++[y]) (k+3) v) (es++[y]) (some k)/\GM rest'/\∀ B' es' i',TB rest B' es' i'->(i'=none\/i' ≠ i)->TB rest' B' es' i'/\i' ≠ some k:=by
 have hb:Nat.ble (es.length+1) Qq=true:=ZE (by unfold Qq;omega)
 have hb2:Nat.ble 296 4096=true:=rfl
 rcases h with ⟨rfl,rfl⟩|⟨k,v,rfl,rfl,hr⟩
 ·refine⟨rest.length,0,rest++[.tip 0 259 252],?_,.inr ⟨_,_,rfl,rfl,by simp⟩,hf.push (.inr ⟨_,_,_,rfl⟩),λ B' es' i' hT _=>⟨hT.push _,?_⟩⟩
  ·simp only[ZP,Ai hn,List.length_cons,List.length_nil,Nat.zero_add,hb,hb2,Bool.and_self,cond_true,List.cons_append]
  ·rcases hT with ⟨_,rfl⟩|⟨k,v,rfl,_,h3⟩
   ·simp
   ·have:=(Za.1 h3).1
    simp;omega
 ·have hlt:=(Za.1 hr).1
  refine⟨k,v+1,rest.set k (.tip (v+1) 259 252),?_,.inr ⟨_,_,rfl,rfl,by simp[hlt]⟩,hf.set,λ B' es' i' hT hd=>?_⟩
  ·have h1:(o0::o1::o2::rest)[k+3]?=some (.tip v 259 252):=hr
   simp only[ZP,h1,Nat.beq_refl,List.length_cons,List.length_nil,Nat.zero_add,hb,hb2,Bool.and_self,cond_true,List.set_cons_succ]
  ·rcases hT with ⟨rfl,rfl⟩|⟨k2,v2,rfl,rfl,h3⟩
   ·exact⟨.inl ⟨rfl,rfl⟩,by simp⟩
   ·have hne:k2 ≠ k:=λ e=>by rcases hd with hd | hd<;>simp at hd;exact hd e
    exact⟨.inr ⟨_,_,rfl,rfl,by rw[Zx (Ne.symm hne)];exact h3⟩,by simpa using hne⟩
abbrev nb(k:Int)(B:X):Ob:=.cells 252 (WN BL k false B)
abbrev MM(B1 B2:X)(rest:Mem):Mem:=Y1 BL 0::nb 3 B1::nb 2 B2::rest
def RI(h:Mem)(es1 es2:List CV):Prop:=∃ B1 B2 i1 i2 rest,h=MM B1 B2 rest/\TB rest B1 es1 i1/\TB rest B2 es2 i2/\(i1=none\/i1 ≠ i2)/\GM rest
theorem EY{L:V256}{k:Int}{s:Bool}{B:X}(h:X.ids 6 B=X.ids 6 B):X.ids.idsL 6 (WN L k s B)=X.ids.idsL 6 [B]:=by
 have hb:∀ (l:List Bool) (r:List X),X.ids.idsL 6 ((l.map λ b=>X.c (.bool b))++r)=X.ids.idsL 6 r:=by
  intro l
  induction l with
  | nil=>intro r;rfl
  | cons b l ih=>intro r;rw[List.map_cons,List.cons_append,QG,ih]
 rw[WN,QG,hb,QG]
theorem HJ{rest:Mem}{B:X}{es:List CV}{i:Option Nat}{k:Int}(h:TB rest B es i)(hl:Ob.lt 3 (nb k B)=true):B=.c (.sl true es)/\i=none:=by
 rcases h with h | ⟨j,v,rfl,rfl,_⟩
 ·exact h
 ·simp only[Ob.lt,Ob.ids,EY rfl]at hl;simp[X.ids.idsL,X.ids,ZM]at hl
theorem DW{h:Mem}{es1 es2:List CV}{live:List Nat}{sl:Zf}(hR:RI h es1 es2):∃ h',clean (some live) 3 ⟨sl,h⟩=⟨ZK live sl,h'⟩/\RI h' es1 es2:=by
 obtain⟨B1,B2,i1,i2,rest,rfl,h1,h2,h3,h4⟩:=hR;simp only[clean,gc];cases hb:Nat.ble (MM B1 B2 rest).length 3 with
 | true=>exact⟨_,rfl,B1,B2,i1,i2,rest,rfl,h1,h2,h3,h4⟩
 | false=>
  cases hc:(Yy 3 (ZK live sl)&&ZL 3 (List.take 3 (MM B1 B2 rest))) with
  | false=>exact⟨_,rfl,B1,B2,i1,i2,rest,rfl,h1,h2,h3,h4⟩
  | true=>
   rw[Bool.and_eq_true]at hc;have hm:=hc.2
   simp only[List.take_succ_cons,List.take_zero,ZL,Bool.and_eq_true]at hm;obtain⟨e1,e2⟩:=HJ h1 hm.2.1;obtain⟨e3,e4⟩:=HJ h2 hm.2.2.1;exact⟨_,rfl,B1,B2,i1,i2,[],rfl,.inl ⟨e1,e2⟩,.inl ⟨e3,e4⟩,h3,λ o ho=>by cases ho⟩
theorem Ie{L:V256}{k:Int}{s:Bool}{B:X}{es:List CV}(hB:B.wk0=.c (.sl false es)):Xo 259 [gh] [(0,Yr (WN L k s B))]=some [.agg (UD L k s (.sl false es))]:=by
 have h1:(CV.agg (UD L k s (.sl false es))).cells.length=259:=XY
 have h2:Nat.beq 259 259=true:=rfl
 have h3:Nat.ble (0+1) [gh].length=true:=rfl
 simp only[Xo,qM hB,h1,h2,h3,Bool.and_self,cond_true,List.set_cons_zero]
theorem Ah{L:V256}{k:Int}{s:Bool}{v:CV}{r:List CV}:YC 259 (.agg (UD L k s v)::r)=true:=by
 have h1:(CV.agg (UD L k s v)).cells.length=259:=XY
 simp only[YC,h1];rfl
theorem Vq(l:List Ob)(a b:Ob):(l++[a]).set l.length b=l++[b]:=by
 rw[List.set_append_right (h:=Nat.le_refl _),Nat.sub_self];rfl
theorem Zce(q:By):E (124::q)=E q:=by
 rw[AL,qP,if_pos (.inl rfl)];rfl
theorem Zcc(q:By):E (41::q)=some (41::q):=by
 rw[AL,qP,if_pos (.inr rfl)];rfl
theorem Zcd:E []=some []:=by
 rw[AL];have:S []=some []:=by rw[S]
 rw[this]
theorem E_F(c:UInt8)(r:By)(hc:¬ (c=124\/c=41)):E (c::r)=match F (c::r) with | none=>none | some z=>E z:=by
 rw[AL,qP,if_neg hc];cases hF:F (c::r) with
 | none=>rfl
 | some z=>simp only[AL z]
theorem Hf(d:UInt8)(y:By)(h:Ve d=true):A (d::y)=none:=by
 rw[um];simp only[Ve,Bool.or_eq_true,decide_eq_true_eq]at h;rcases h with (rfl | rfl)|rfl<;>rfl
theorem Ha(d:UInt8)(y:By)(h:Ve d=true):E (d::y)=none:=by
 have hne:¬ (d=124\/d=41):=by rintro(rfl | rfl)<;>exact absurd h (by decide)
 rw[E_F d y hne,OA,Hf d y h]
end
section
variable {p:Prg} [Has p] {h:Mem}
attribute [local simp] KD Wu XY QA Qz Vn Vm UC WK WM Uf Kb Us Qn QB Ah Vq
attribute [-simp] List.map_append Yr Xo X.elem X.cells
theorem HP{cs:List CV}:(X.c (.agg cs)).cells=some (cs.map X.c):=rfl
theorem HO{es:List CV}{i v:Nat}:(X.own es i v).cells=some [.own es i v]:=rfl
theorem OZ{es:List CV}{b:Bool}:(X.c (.sl b es)).cells=some [.c (.sl b es)]:=rfl
theorem AP{k:IntKind}{n:Int}:(X.c (.int k n)).cells=some [.c (.int k n)]:=rfl
theorem Ea{b:Bool}:(X.c (.bool b)).cells=some [.c (.bool b)]:=rfl
attribute [local simp] Au HP HO OZ AP Ea
theorem or3:∀ a b c:Bool,(a||b||c)=true->a=true\/(a=false/\b=true)\/(a=false/\b=false/\c=true):=by decide
theorem ZaZ(s:By)(i0:Nat)(hi0:i0<=s.length)(hs:s.length<=200)(ha:∀ j,i0<=j->j < s.length->RN p 233 [.str s,.int .i64 j] s j (A (s.drop j))):RN p 229 [.str s,.int .i64 i0] s i0 (E (s.drop i0)):=by
 refine DV Has.h229 ⟨s.length+2,Z6 _ rfl ?_⟩;simp only[List.map_cons,List.map_nil];show W _ _ M4 _ _ _ _;simp only[M4,AO,DY];have hr1:List.replicate 1 gh=[gh]:=rfl
 simp[ZH];obtain⟨I,hI⟩:∃ I:Nat->Zf->Mem->Prop,I=λ k sl h=>∃ (j:Nat) (es1 es2:List CV),j<=s.length/\i0+k<=j/\RI h es1 es2/\es1.length<=k/\es2.length<=k/\(∀ x∈es1,NV x)/\(∀ x∈es2,NV x)/\Zm sl 0=.c (.str s)/\Zm sl 1=.c (.int .i64 j)/\Zm sl 4=.ptr 0 0/\Zm sl 7=.ptr 1 0/\Zm sl 8=.ptr 2 0/\E (s.drop i0)=E (s.drop j):=⟨_,rfl⟩
 refine ZU I (s.length+1) (by omega) (by rw[hI];exact⟨i0,[],[],hi0,by omega,⟨_,_,none,none,[],rfl,.inl ⟨rfl,rfl⟩,.inl ⟨rfl,rfl⟩,.inl rfl,λ o ho=>by cases ho⟩,by simp,by simp,by simp,by simp,by simp,by simp,by simp,by simp,by simp,rfl⟩) ?_
 intro k sl h hkn hik;rw[hI]at hik;obtain⟨j,es1,es2,hj,hij,hR,hl1,hl2,hn1,hn2,h0,h1,h4,h7,h8,hq⟩:=hik;obtain⟨h',hcl,B1,B2,i1,i2,rest,rfl,t1,t2,hd,hg⟩:=DW (live:=[0,1,4,7,8]) (sl:=sl) hR;clear hR;have hB1:=t1.wk
 have hB2:=t2.wk
 obtain⟨k1,v1,r1,ap1,t1',g1,keep1⟩:=t1.app hn1 (by omega) hg (Y1 BL 0) (nb 3 B1) (nb 2 B2) (.agg (UD BL 2 false (.sl false es2)))
 obtain⟨t2',-⟩:=keep1 B2 es2 i2 t2 (by rcases i2 with _ | n<;>rcases hd with hd | hd<;>simp_all [eq_comm])
 have hse:=Ie (L:=BL) (k:=2) (s:=false) hB2
 by_cases hend:j < s.length/\s[j]? ≠ some 41
 ·obtain⟨hlt,hne⟩:=hend;have hx:s[j]?=some s[j]:=Zb hlt
  have hn41:¬ s[j]=41:=λ e=>hne (by rw[hx,e])
  have hlt':(j:Int) < s.length:=by omega
  have hw:IntKind.i64.wrap ((j:Int)+1)=(j:Int)+1:=ZA (by omega) (by omega)
  have q41:((s[j].toNat:Int) != 41)=true:=by rw[MC];simp[hn41]
  by_cases h124:s[j]=124
  ·have q124:((s[j].toNat:Int)==124)=true:=by rw[K2,h124];rfl
   simp[hcl,h0,h1,h4,h7,h8,hlt,hlt',hx,Zt,q41,q124,hw,Zn,hse,hr1,ZO,ap1,ZH];rw[hI];refine⟨by omega,j+1,_,[],by omega,by omega,⟨_,_,some k1,none,r1,rfl,t1',.inl ⟨rfl,rfl⟩,.inr (by simp),g1⟩,by simp;omega,by simp,?_,by simp,rfl,by simp,rfl,rfl,rfl,?_⟩
   ·intro x hx;rcases List.mem_append.1 hx with hx | hx
    ·exact hn1 x hx
    ·rw[ZF.1 hx];exact Uv _ _ _ _
   ·rw[hq,ZW hlt,h124,Zce]
  ·have q124:((s[j].toNat:Int)==124)=false:=by rw[K2];exact decide_eq_false h124
   have hc:¬ (s[j]=124\/s[j]=41):=λ q=>q.elim h124 hn41
   have hEF:=E_F s[j] (s.drop (j+1)) hc
   rw[<- ZW hlt,<- hq,OA]at hEF;obtain⟨L,kk,b,aZ,j2,hj2,hjj2,hz,h233⟩:=qS (ha j (by omega) hlt)
   simp only[List.map_cons,List.map_nil]at h233;cases hA:A (s.drop j) with
   | none=>
    rw[hA]at h233 hEF;simp at h233;simp[hcl,h0,h1,h4,h7,h8,hlt,hlt',hx,Zt,q41,q124,hw,Zn,h233];exact Q0 (.inr rfl) rfl rfl rfl rfl hB1 rfl rfl hj (by omega) hEF
   | some z=>
    rw[hA]at h233 hEF;simp at h233;have hdz:=hz z hA
    have hzl:=D1 hA
    have hlt2:j < j2:=by
     rw[<- hdz]at hzl;simp at hzl;omega
    have hgp:∀ M k b aZ,GM (rest++[.cells 252 (WN M k b (.c (.sl false aZ)))]):=λ M k b aZ=>hg.push (.inl ⟨_,_,rfl⟩)
    have happ:=λ M k b aZ=>(t2.push (.cells 252 (WN M k b (.c (.sl false aZ))))).app hn2 (by omega) (hgp M k b aZ) (Y1 BL 0) (nb 3 B1) (nb 2 B2) (.agg (UD M k b (.sl false aZ)))
    have hd':i1=none\/i1 ≠ i2:=hd
    by_cases hqu:∃ hl2:j2 < s.length,Ve s[j2]=true
    ·obtain⟨hl2,hqd⟩:=hqu;have hl2':(j2:Int) < s.length:=by omega
     obtain⟨_,⟨M,k3,b3,as3,rfl⟩,h234⟩:=ZgD (p:=p) (Uv L kk b aZ) s[j2];simp only[Zt]at h234;have h234c:=VR h234
     have hw2:IntKind.i64.wrap ((j2:Int)+1)=(j2:Int)+1:=ZA (by omega) (by omega)
     have hx2:s[j2]?=some s[j2]:=Zb hl2
     have hdc:s.drop j2=s[j2]::s.drop (j2+1):=ZW hl2
     have hE2:E (s.drop i0)=E (s.drop (j2+1)):=by rw[hEF,<- hdz,hdc];simp[hqd]
     obtain⟨HG,e42⟩:∃ b,((s[j2].toNat:Int)==42)=b:=⟨_,rfl⟩;obtain⟨MJ,e43⟩:∃ b,((s[j2].toNat:Int)==43)=b:=⟨_,rfl⟩;obtain⟨b63,e63⟩:∃ b,((s[j2].toNat:Int)==63)=b:=⟨_,rfl⟩;have hbs:(HG||MJ||b63)=true:=by rw[<- e42,<- e43,<- e63,wb,yZ,vS];exact hqd
     obtain⟨k2,v2,r2,ap2,t2'',g2,keep2⟩:=happ M k3 b3 as3;have hR1:=(keep2 B1 es1 i1 (t1.push _) hd').1
     have hi12:=(keep2 B1 es1 i1 (t1.push _) hd').2
     have hpost:∀ sl:Zf,Zm sl 0=.c (.str s)->Zm sl 1=.c (.int .i64 (j2+1:Nat))->Zm sl 4=.ptr 0 0->Zm sl 7=.ptr 1 0->Zm sl 8=.ptr 2 0->I (k+1) sl (Y1 BL 0::nb 3 B1::nb 2 (.own (es2++[.agg (UD M k3 b3 (.sl false as3))]) (k2+3) v2)::r2):=by
      intro sl e0 e1 e4 e7 e8;rw[hI];refine⟨j2+1,es1,_,by omega,by omega,⟨_,_,i1,some k2,r2,rfl,hR1,t2'',.inr hi12,g2⟩,by omega,by simp;omega,hn1,?_,e0,e1,e4,e7,e8,hE2⟩
      intro x hx;rcases List.mem_append.1 hx with hx | hx
      ·exact hn2 x hx
      ·rw[ZF.1 hx];exact Uv _ _ _ _
     have hGM3:∀ M k b aZ,GM (Y1 BL 0::nb 3 B1::nb 2 B2::(rest++[.cells 252 (WN M k b (.c (.sl false aZ)))])):=λ M k b aZ=>(hgp M k b aZ).cons.cons.cons
     have hbc:HG=true\/(HG=false/\MJ=true)\/(HG=false/\MJ=false/\b63=true):=or3 _ _ _ hbs
     rcases hbc with rfl | ⟨rfl,rfl⟩|⟨rfl,rfl,rfl⟩
     all_goals
      simp[hcl,h0,h1,h4,h7,h8,hlt,hlt',hx,Zt,q41,q124,hw,Zn,h233,hl2,hl2',e42,e43,e63];refine gf rfl rfl rfl ?_;simp[hl2,h234,h234c,Is,Zt];refine⟨_,_,by simp;rfl,rfl,rfl,(hGM3 M k3 b3 as3).hasF,(hGM3 M k3 b3 as3).same,?_⟩
      simp[hw2,Zn];by_cases hl3:j2+1 < s.length
      ·have hl3':(j2:Int)+1 < s.length:=by omega
       by_cases hqq:Ve s[j2+1]=true
       ·have hno:E (s.drop i0)=none:=by rw[hE2,ZW hl3,Ha _ _ hqq]
        obtain⟨OP,CI⟩:∃ b,((s[j2+1].toNat:Int)==42)=b:=⟨_,rfl⟩;obtain⟨c43,D6⟩:∃ b,((s[j2+1].toNat:Int)==43)=b:=⟨_,rfl⟩;obtain⟨c63,f63⟩:∃ b,((s[j2+1].toNat:Int)==63)=b:=⟨_,rfl⟩;have hcs:(OP||c43||c63)=true:=by rw[<- CI,<- D6,<- f63,wb,yZ,vS];exact hqq
        have hcc:OP=true\/(OP=false/\c43=true)\/(OP=false/\c43=false/\c63=true):=or3 _ _ _ hcs
        rcases hcc with rfl | ⟨rfl,rfl⟩|⟨rfl,rfl,rfl⟩
        all_goals
         simp[hl3,hl3',CI,D6,f63,Zt];exact Q0 (j:=j2+1) (.inr rfl) rfl rfl rfl rfl hB1 (by simp) rfl (by omega) (by omega) hno
       ·have hnq:decide (s[j2+1]=42)=false/\decide (s[j2+1]=43)=false/\decide (s[j2+1]=63)=false:=by
         simp only[Ve,Bool.not_eq_true,ZZ]at hqq;exact⟨hqq.1.1,hqq.1.2,hqq.2⟩
        have CI:((s[j2+1].toNat:Int)==42)=false:=by rw[wb,hnq.1]
        have D6:((s[j2+1].toNat:Int)==43)=false:=by rw[yZ,hnq.2.1]
        have f63:((s[j2+1].toNat:Int)==63)=false:=by rw[vS,hnq.2.2]
        simp[hl3,hl3',CI,D6,f63,Zt,Kk,hr1,ZO,ap2];exact⟨by omega,hpost _ rfl (by simp) rfl rfl rfl⟩
      ·have hl3':¬ (j2:Int)+1 < s.length:=by omega
       simp[hl3',Kk,hr1,ZO,ap2];exact⟨by omega,hpost _ rfl (by simp) rfl rfl rfl⟩
    ·obtain⟨k2,v2,r2,ap2,t2'',g2,keep2⟩:=happ L kk b aZ;have hR1:=(keep2 B1 es1 i1 (t1.push _) hd').1
     have hi12:=(keep2 B1 es1 i1 (t1.push _) hd').2
     have hE2:E (s.drop i0)=E (s.drop j2):=by
      rw[hEF,<- hdz];rcases Zl j2 s.length with hl | hl
      ·rw[ZW hl];have:¬ Ve s[j2]=true:=λ q=>hqu ⟨hl,q⟩
       simp[this]
      ·rw[Ys hl]
     have hpost:∀ sl:Zf,Zm sl 0=.c (.str s)->Zm sl 1=.c (.int .i64 j2)->Zm sl 4=.ptr 0 0->Zm sl 7=.ptr 1 0->Zm sl 8=.ptr 2 0->I (k+1) sl (Y1 BL 0::nb 3 B1::nb 2 (.own (es2++[.agg (UD L kk b (.sl false aZ))]) (k2+3) v2)::r2):=by
      intro sl e0 e1 e4 e7 e8;rw[hI];refine⟨j2,es1,_,by omega,by omega,⟨_,_,i1,some k2,r2,rfl,hR1,t2'',.inr hi12,g2⟩,by omega,by simp;omega,hn1,?_,e0,e1,e4,e7,e8,hE2⟩
      intro x hx;rcases List.mem_append.1 hx with hx | hx
      ·exact hn2 x hx
      ·rw[ZF.1 hx];exact Uv _ _ _ _
     by_cases hl3:j2 < s.length
     ·have hl3':(j2:Int) < s.length:=by omega
      have hnq:decide (s[j2]=42)=false/\decide (s[j2]=43)=false/\decide (s[j2]=63)=false:=by
       have hqq:¬ Ve s[j2]=true:=λ q=>hqu ⟨hl3,q⟩
       simp only[Ve,Bool.not_eq_true,ZZ]at hqq;exact⟨hqq.1.1,hqq.1.2,hqq.2⟩
      have CI:((s[j2].toNat:Int)==42)=false:=by rw[wb,hnq.1]
      have D6:((s[j2].toNat:Int)==43)=false:=by rw[yZ,hnq.2.1]
      have f63:((s[j2].toNat:Int)==63)=false:=by rw[vS,hnq.2.2]
      simp[hcl,h0,h1,h4,h7,h8,hlt,hlt',hx,Zt,q41,q124,hw,Zn,h233,hl3,hl3',CI,D6,f63,Kk,hr1,ZO,ap2];exact⟨by omega,hpost _ rfl (by simp) rfl rfl rfl⟩
     ·have hl3':¬ (j2:Int) < s.length:=by omega
      simp[hcl,h0,h1,h4,h7,h8,hlt,hlt',hx,Zt,q41,q124,hw,Zn,h233,hl3,hl3',Kk,hr1,ZO,ap2];exact⟨by omega,hpost _ rfl (by simp) rfl rfl rfl⟩
 ·have hfin:(s.length<=j\/(∃ hl:j < s.length,s[j]=41))/\E (s.drop i0)=some (s.drop j):=by
   rcases Zl j s.length with hl | hl
   ·have h41:s[j]?=some 41:=Z0 λ q=>hend ⟨hl,q⟩
    have he:=(Za.1 h41).2
    exact⟨.inr ⟨hl,he⟩,by rw[hq,ZW hl,he,Zcc]⟩
   ·exact⟨.inl hl,by rw[hq,Ys hl,Zcd]⟩
  obtain⟨hex,hq1⟩:=hfin;rcases hex with hl | ⟨hl,he⟩
  ·have hl':¬ (j:Int) < s.length:=by omega
   simp[hcl,h0,h1,h4,h7,h8,hl',Nat.not_lt.2 hl,hse,hr1,ZO,ap1];exact V8 (.inr rfl) rfl rfl rfl rfl rfl rfl rfl hj (by omega) hq1
  ·have hl':(j:Int) < s.length:=by omega
   have hx:s[j]?=some s[j]:=Zb hl
   simp[hcl,h0,h1,h4,h7,h8,hl',hl,hx,Zt,MC,he,hse,hr1,ZO,ap1];exact V8 (.inr rfl) rfl rfl rfl rfl rfl rfl rfl hj (by omega) hq1
end
section
variable {p:Prg} [Has p] {h:Mem}
attribute [local simp] KD Wu XY QA Qz Vn Vm UC WK WM Uf Kb QQ Us Qn QB 
attribute [-simp] List.map_append
theorem Fn(s:By)(hs:s.length<=200):∀ (n i:Nat),i<=s.length->s.length - i<=n->RN p 229 [.str s,.int .i64 i] s i (E (s.drop i)):=by
 intro n
 induction n with
 | zero=>exact λ i hi hn=>ZaZ s i hi hs λ j hij hj=>by omega
 | succ n ih=>exact λ i hi hn=>ZaZ s i hi hs λ j hij hj=>ZgE s j hj hs (ih (j+1) (by omega) (by omega))
theorem ZgI(s:By):∃ v,NV v/\∀ h,Zi (Zo p) h 222 [.c (.str s)]=some (.c (.tup [v,.int .i64 (rx s)]),h):=by
 suffices hx:∃ v,(∃ w,NV w/\v=.tup [w,.int .i64 (rx s)])/\∀ h,Zi (Zo p) h 222 ([.str s].map X.c)=some (.c v,h) by
  obtain⟨_,⟨w,hw,rfl⟩,h⟩:=hx;exact⟨w,hw,h⟩
 refine VN _ Has.h222 ⟨1,Z6 _ rfl ?_⟩;simp only[List.map_cons,List.map_nil];show W _ _ M7 _ _ _ _;simp only[M7,AO];by_cases hl:200 < s.length
 ·have hl':(200:Int) < s.length:=by omega
  have hr:rx s=4:=by simp[rx,hl]
  rw[hr];simp[ZH,hl,hl'];exact⟨_,_,⟨_,rfl,rfl,_,Uv _ _ _ _,rfl⟩,Vb (us:=[.int .i64 4]) (.inr rfl) rfl rfl rfl rfl rfl rfl rfl⟩
 ·have hl':¬ (200:Int) < s.length:=by omega
  obtain⟨L,k,b,aZ,j,hj,_,hz,h229⟩:=qS (Fn (p:=p) s (by omega) s.length 0 (by omega) (by omega))
  simp only[List.map_cons,List.map_nil,List.drop_zero]at h229 hz;have hr:rx s=if Qa s then 0 else 3:=by simp[rx,hl]
  rw[hr];cases hE:E s with
  | none=>
   rw[hE]at h229;simp at h229;have hk:Qa s=false:=by simp[Qa,hE]
   rw[hk];simp[ZH,hl,hl',h229];exact⟨_,_,⟨_,rfl,rfl,_,Uv _ _ _ _,rfl⟩,Vb (us:=[.int .i64 3]) (.inr rfl) rfl rfl rfl rfl rfl rfl rfl⟩
  | some q=>
   rw[hE]at h229;simp at h229;have hd:=hz q hE
   by_cases hjl:j=s.length
   ·have hq:q=[]:=by rw[<- hd,Ys (by omega)]
    have hk:Qa s=true:=by simp[Qa,hE,hq]
    have hne:((j:Int) != (s.length:Int))=false:=by simp[hjl]
    rw[hk];simp[ZH,hl,hl',h229,hne,hjl];exact⟨_,_,⟨_,rfl,rfl,_,Uv _ _ _ _,rfl⟩,Vb (us:=[.int .i64 0]) (.inr rfl) rfl rfl rfl rfl rfl rfl rfl⟩
   ·have hk:Qa s=false:=by
     simp only[Qa,hE];cases q with
     | nil=>have:=congrArg List.length hd;simp at this;omega
     | cons c r=>rfl
    have hne:((j:Int) != (s.length:Int))=true:=by simp;omega
    have hne2:((j:Int)==(s.length:Int))=false:=by simp;omega
    rw[hk];simp[ZH,hl,hl',h229,hne,hne2,hjl];exact⟨_,_,⟨_,rfl,rfl,_,Uv _ _ _ _,rfl⟩,Vb (us:=[.int .i64 3]) (.inr rfl) rfl rfl rfl rfl rfl rfl rfl⟩
theorem c209(s:By)(h:Mem):Zi (Zo p) h 209 [.c (.str s)]=some (.c (.int .i64 (rx s)),h):=by
 refine ZB Has.h209 ⟨1,Zk rfl ?_⟩;obtain⟨_,⟨L,k,b,aZ,rfl⟩,h222⟩:=ZgI (p:=p) s;show W _ _ Nd _ _ _ _;simp only[Nd,AO];simp[h222];exact ZQ (.inr rfl) rfl rfl rfl
end
instance rxI{p:Prg}[Has p][HasPr p]:HasRx p:=⟨λ s h _=>c197 s h,λ s h _=>c209 s h⟩
end Go.Proofs.YtmckcikeefggdaaGreatDoor
namespace Go.Pi
section
variable {e:Env} {N:Nat} {s:Zf} {h:Mem} {k:List Fk} {Q:Pi.Exit->Zf->Mem->Prop}
def Rec.kd(e:Env)(r:Rec):Nat:=bif r.run then r.o.op.kind e r.s else 0
def Po(anc:List (List Nat))(ks:List Nat):Bool:=(List.range ks.length).all λ j=>(List.range j).all λ i=>!((Nat.beq (ks.getD i 0) 2&&!Nat.beq (ks.getD j 0) 0)||(Nat.beq (ks.getD j 0) 2&&!Nat.beq (ks.getD i 0) 0))||mem i (Yv anc j)
theorem ve{anc:List (List Nat)}{ks:List Nat}(h:Po anc ks=true){i j:Nat}(hij:i < j)(hj:j < ks.length)(hk:(ks.getD i 0=2/\ks.getD j 0 ≠ 0)\/(ks.getD j 0=2/\ks.getD i 0 ≠ 0)):mem i (Yv anc j)=true:=by
 have h1:=Zz.1 (Zz.1 h j (List.mem_range.2 hj)) i (List.mem_range.2 hij)
 have h2:((Nat.beq (ks.getD i 0) 2&&!Nat.beq (ks.getD j 0) 0)||(Nat.beq (ks.getD j 0) 2&&!Nat.beq (ks.getD i 0) 0))=true:=by
  have hb:∀ n:Nat,n ≠ 0->Nat.beq n 0=false:=λ n hn=>by cases n with | zero=>exact absurd rfl hn | succ n=>rfl
  rcases hk with ⟨a,b⟩|⟨a,b⟩
  ·rw[a,hb _ b];rfl
  ·rw[a,hb _ b];cases Nat.beq (ks.getD i 0) 2<;>rfl
 rw[h2]at h1;exact h1
def Tr(e:Env):Mem->List Rec->Mem->Prop
 | h,[],h'=>h=h'
 | h,r::rs,h'=>∃ h1,(r.run=true->∃ u,evalOp e r.s h r.o.op=some (r.v,u)/\(r.eff e=true->h1=u))/\(r.eff e=false->h1=h)/\Tr e h1 rs h'
theorem Uu:∀ {a b:List Rec} {h h':Mem},Tr e h (a++b) h'->∃ m,Tr e h a m/\Tr e m b h'
 | [],b,h,h',ht=>⟨h,rfl,ht⟩
 | r::a,b,h,h',ht=>by
  obtain⟨h1,h2,h3,h4⟩:=ht;obtain⟨m,h5,h6⟩:=Uu h4;exact⟨m,⟨h1,h2,h3,h5⟩,h6⟩
theorem Vl:∀ {a:List Rec} {h h':Mem},Tr e h a h'->(∀ r∈a,r.eff e=false)->h'=h
 | [],h,h',ht,_=>ht.symm
 | r::a,h,h',ht,hn=>by
  obtain⟨h1,h2,h3,h4⟩:=ht;have:=Vl h4 λ q hq=>hn q (Zq _ hq)
  rw[this,h3 (hn r Zv)]
theorem JO:∀ {l:List POper} {s:Zf} {h:Mem} {rs:List Rec} {σ:St},Yq e l s h=some (rs,σ)->Tr e h rs σ.h
 | [],s,h,rs,σ,hp=>by simp[Yq]at hp;obtain⟨rfl,rfl⟩:=hp;rfl
 | o::r,s,h,rs,σ,hp=>by
  simp only[Yq]at hp;split at hp
  ·split at hp
   ·rename_i v h1 hv;split at hp
    ·rename_i rs' σ' hp';cases hp;refine⟨_,λ _=>⟨h1,hv,λ he=>?_⟩,λ he=>?_,JO hp'⟩
     ·have hb:Nat.beq (o.op.kind e (ZK o.tmps s)) 2=true:=by simpa [Rec.eff] using he
      rw[hb];rfl
     ·have hb:Nat.beq (o.op.kind e (ZK o.tmps s)) 2=false:=by simpa [Rec.eff] using he
      rw[hb];rfl
    ·cases hp
   ·cases hp
  ·split at hp
   ·rename_i rs' σ' hp';cases hp;exact⟨h,λ hr=>(by cases hr),λ _=>rfl,JO hp'⟩
   ·cases hp
  ·cases hp
theorem Xl:∀ {rs:List Rec} {k i:Nat},i∈YW e k rs↔∃ j r,rs[j]?=some r/\r.eff e=true/\i=k+j
 | [],k,i=>by simp[YW]
 | r::rs,k,i=>by
  simp only[YW];cases hr:r.eff e with
  | true=>
   simp only[cond_true,List.mem_cons,Xl (rs:=rs) (k:=k+1)];constructor
   ·rintro(rfl | ⟨j,q,h1,h2,rfl⟩)
    ·exact⟨0,r,rfl,hr,rfl⟩
    ·exact⟨j+1,q,by simpa using h1,h2,by omega⟩
   ·rintro⟨j,q,h1,h2,rfl⟩
    cases j with
    | zero=>exact .inl rfl
    | succ j=>exact .inr ⟨j,q,by simpa using h1,h2,by omega⟩
  | false=>
   simp only[cond_false,Xl (rs:=rs) (k:=k+1)];constructor
   ·rintro⟨j,q,h1,h2,rfl⟩
    exact⟨j+1,q,by simpa using h1,h2,by omega⟩
   ·rintro⟨j,q,h1,h2,rfl⟩
    cases j with
    | zero=>simp at h1;subst h1;rw[hr]at h2;cases h2
    | succ j=>exact⟨j,q,by simpa using h1,h2,by omega⟩
theorem Jj{anc:List (List Nat)}{es done:List Nat}{h:Mem}:∀ {rs:List Rec} {i:Nat},(∀ j r,rs[j]?=some r->r.run=true->r.o.op.kind e r.s=1->YB anc es done (i+j)=true->∃ u,evalOp e r.s h r.o.op=some (r.v,u))->YF e anc es done h i rs=true
 | [],i,_=>rfl
 | r::rs,i,hn=>by
  have h1:=Jj (anc:=anc) (es:=es) (done:=done) (h:=h) (rs:=rs) (i:=i+1) λ j q hj hr hk hm=>hn (j+1) q (by simpa using hj) hr hk (by rw[show i+(j+1)=i+1+j by omega];exact hm)
  simp only[YF,h1,Bool.and_true];cases hc:(r.run&&(Nat.beq (r.o.op.kind e r.s) 1&&YB anc es done i)) with
  | false=>rfl
  | true=>
   simp only[Bool.and_eq_true]at hc;obtain⟨u,hu⟩:=hn 0 r rfl hc.1 (Zd hc.2.1) hc.2.2;simp only[hu,X.same_refl,Bool.or_true]
theorem V2{r:Rec}(h:r.eff e=true):r.kd e=2:=by
 simp only[Rec.eff,Bool.and_eq_true]at h;simp only[Rec.kd,h.1,cond_true];exact Zd h.2
theorem Vt{rs:List Rec}{j:Nat}{r:Rec}(h:rs[j]?=some r):(rs.map (Rec.kd e)).getD j 0=r.kd e:=by
 simp[List.getD,h]
theorem Uo:∀ (post:List Rec),(∀ r∈post,r.eff e=false)\/∃ p1 r p2,post=p1++r::p2/\(∀ q∈p1,Rec.eff e q=false)/\r.eff e=true
 | []=>.inl λ r hr=>by cases hr
 | r::rs=>by
  cases hr:r.eff e with
  | true=>exact .inr ⟨[],r,rs,rfl,λ q hq=>(by cases hq),hr⟩
  | false=>
   rcases Uo rs with h | ⟨p1,q,p2,rfl,h1,h2⟩
   ·exact .inl λ q hq=>by rcases List.mem_cons.1 hq with rfl | hq;exact hr;exact h q hq
   ·exact .inr ⟨r::p1,q,p2,rfl,λ x hx=>by rcases List.mem_cons.1 hx with rfl | hx;exact hr;exact h1 x hx,h2⟩
theorem vD{anc:List (List Nat)}{rs:List Rec}{h':Mem}(hok:Po anc (rs.map (Rec.kd e))=true)(hsame:Mem.same h' h'=true):∀ (n:Nat) (pre post:List Rec) (done:List Nat) (hk:Mem),rs=pre++post->Tr e hk post h'->(∀ i,i∈done↔i < pre.length/\i∈YW e 0 rs)->(∀ j,j < pre.length->(∃ r,rs[j]?=some r/\r.kd e=1)->∃ q,q∈done/\j < q)->post.length < n->Yz e anc rs (YW e 0 rs) h' n done hk=true:=by
 intro n
 induction n with
 | zero=>intro pre post done hk _ _ _ _ hn;omega
 | succ n ih=>
  intro pre post done hk hrs ht hd hlast hn;have hlen:rs.length=pre.length+post.length:=by rw[hrs,List.length_append]
  have hund:∀ q,q∈YW e 0 rs->q∉done->pre.length<=q/\∃ r,post[q - pre.length]?=some r/\r.eff e=true/\rs[q]?=some r:=by
   intro q hq hnd;have h1:pre.length<=q:=by
    rcases Zl q pre.length with h | h
    ·exact absurd ((hd q).2 ⟨h,hq⟩) hnd
    ·exact h
   obtain⟨j,r,h2,h3,h4⟩:=Xl.1 hq;have:q=j:=by omega
   subst this;refine⟨h1,r,?_,h3,h2⟩;rw[hrs,Zp h1]at h2;exact h2
  have hr1:YF e anc (YW e 0 rs) done hk 0 rs=true:=by
   refine Jj λ j r hj hr hkd hm=>?_
   rw[Nat.zero_add]at hm;have hjl:=(Za.1 hj).1
   have hkr:r.kd e=1:=by simp only[Rec.kd,hr,cond_true,hkd]
   simp only[YB,Bool.and_eq_true]at hm;rcases Zl j pre.length with hjp | hjp
   ·obtain⟨q,hq,hjq⟩:=hlast j hjp ⟨r,hj,hkr⟩;obtain⟨hqp,hqe⟩:=(hd q).1 hq;obtain⟨q',rq,hq1,hq2,hq3⟩:=Xl.1 hqe;have:q=q':=by omega
    subst this;have hanc:=ve hok hjq (by simp;omega) (.inr ⟨by rw[Vt hq1,V2 hq2],by rw[Vt hj,hkr];omega⟩)
    have:=Zz.1 hm.2 q hq
    rw[hanc]at this;cases this
   ·rw[hrs,Zp hjp]at hj;obtain⟨p1,p2,hpost,hpl⟩:∃ p1 p2,post=p1++r::p2/\p1.length=j - pre.length:=by
     have hlt:=(Za.1 hj).1
     have he:=(Za.1 hj).2
     exact⟨post.take (j - pre.length),post.drop (j - pre.length+1),by rw[<- he,<- Zs hlt,List.take_append_drop],by simp;omega⟩
    have hno:∀ q∈p1,Rec.eff e q=false:=by
     intro q hq;cases hqe:q.eff e with
     | false=>rfl
     | true=>
      exfalso;obtain⟨i,hi⟩:=List.getElem?_of_mem hq;have hil:=(Za.1 hi).1
      have hrsi:rs[pre.length+i]?=some q:=by
       rw[hrs,Zp (by omega),Yk,hpost,Zr hil];exact hi
      have hrsj:rs[j]?=some r:=by rw[hrs,Zp hjp];exact hj
      have hin:pre.length+i∈YW e 0 rs:=Xl.2 ⟨_,q,hrsi,hqe,by omega⟩
      have hnd:¬ pre.length+i∈done:=λ hx=>by have:=((hd _).1 hx).1;omega
      have hanc:=ve hok (i:=pre.length+i) (j:=j) (by omega) (by simp;omega) (.inl ⟨by rw[Vt hrsi,V2 hqe],by rw[Vt hrsj,hkr];omega⟩)
      have h1:=Zz.1 hm.1 _ hin
      rw[hanc]at h1;have h2:mem (pre.length+i) done=false:=by
       cases hx:mem (pre.length+i) done with
       | false=>rfl
       | true=>exact absurd (Xa.1 hx) hnd
      rw[h2]at h1;cases h1
    rw[hpost]at ht;obtain⟨m,t1,t2⟩:=Uu ht;have:=Vl t1 hno
    subst this;obtain⟨h1,h2,_,_⟩:=t2;obtain⟨u,hu,_⟩:=h2 hr;exact⟨u,hu⟩
  simp only[Yz,hr1,Bool.true_and];cases hall:(YW e 0 rs).all (λ j=>mem j done) with
  | true=>
   simp only[cond_true];have hno:∀ r∈post,Rec.eff e r=false:=by
    intro r hr;cases hre:r.eff e with
    | false=>rfl
    | true=>
     exfalso;obtain⟨i,hi⟩:=List.getElem?_of_mem hr;have hrsi:rs[pre.length+i]?=some r:=by rw[hrs,Zp (by omega),Yk];exact hi
     have hin:pre.length+i∈YW e 0 rs:=Xl.2 ⟨_,r,hrsi,hre,by omega⟩
     have:=Xa.1 (Zz.1 hall _ hin)
     have:=((hd _).1 this).1
     omega
   rw[<- Vl ht hno];exact hsame
  | false=>
   simp only[cond_false,Zz,Bool.or_eq_true,Bool.not_eq_true'];intro i hi;cases hmi:mem i done with
   | true=>exact .inl (.inl rfl)
   | false=>
    cases hmc:YB anc (YW e 0 rs) done i with
    | false=>exact .inl (.inr rfl)
    | true=>
     right
     have hind:i∉done:=λ hx=>by rw[Xa.2 hx]at hmi;cases hmi
     obtain⟨hpi,r,hpr,hre,hrsi⟩:=hund i hi hind;simp only[hrsi];simp only[YB,Bool.and_eq_true]at hmc;rcases Uo (e:=e) post with hno | ⟨p1,q,p2,hpost,hp1,hqe⟩
     ·have:=hno r (ZI hpr);rw[hre]at this;cases this
     ·have hq:rs[pre.length+p1.length]?=some q:=by rw[hrs,Zp (by omega),Yk,hpost,Zp (Nat.le_refl _),Nat.sub_self];rfl
      have hqin:pre.length+p1.length∈YW e 0 rs:=Xl.2 ⟨_,q,hq,hqe,by omega⟩
      have hqnd:¬ pre.length+p1.length∈done:=λ hx=>by have:=((hd _).1 hx).1;omega
      have heq:i=pre.length+p1.length:=by
       rcases Nat.lt_trichotomy i (pre.length+p1.length) with hlt | heq | hgt
       ·exfalso;rw[hpost,Zr (by omega)]at hpr
        have:=hp1 r (ZI hpr);rw[hre]at this;cases this
       ·exact heq
       ·exfalso;have hil:=(Za.1 hrsi).1
        have hanc:=ve hok hgt (by simp;omega) (.inl ⟨by rw[Vt hq,V2 hqe],by rw[Vt hrsi,V2 hre];omega⟩)
        have h1:=Zz.1 hmc.1 _ hqin
        rw[hanc]at h1;have h2:mem (pre.length+p1.length) done=false:=by
         cases hx:mem (pre.length+p1.length) done with
         | false=>rfl
         | true=>exact absurd (Xa.1 hx) hqnd
        rw[h2]at h1;cases h1
      have hqr:q=r:=by rw[heq,hq]at hrsi;injection hrsi
      subst hqr;rw[hpost]at ht;obtain⟨m,t1,t2⟩:=Uu ht;have:=Vl t1 hp1
      subst this;obtain⟨h1,h2,_,h4⟩:=t2;have hrun:q.run=true:=by simp only[Rec.eff,Bool.and_eq_true]at hre;exact hre.1
      obtain⟨u,hu,hu2⟩:=h2 hrun;have:=hu2 hre
      subst this;simp only[hu,X.same_refl,Bool.true_and];refine ih (pre++p1++[q]) p2 (i::done) h1 (by rw[hrs,hpost];simp) h4 (λ x=>?_) (λ j hj hx=>⟨i,by simp,?_⟩) (by rw[hpost]at hn;simp at hn;omega)
      ·simp only[List.mem_cons,List.length_append,List.length_cons,List.length_nil];constructor
       ·rintro(rfl | hx)
        ·exact⟨by omega,hi⟩
        ·have:=(hd x).1 hx;exact⟨by omega,this.2⟩
       ·rintro⟨hx1,hx2⟩
        by_cases hxi:x=i
        ·exact .inl hxi
        ·right
         refine(hd x).2 ⟨?_,hx2⟩;rcases Zl x pre.length with h | h
         ·exact h
         ·exfalso;obtain⟨j,rr,h3,h5,h6⟩:=Xl.1 hx2;have:x=j:=by omega
          subst this;rw[hrs,Zp h,hpost,Zr (by omega)]at h3
          have:=hp1 rr (ZI h3);rw[h5]at this;cases this
      ·obtain⟨rr,hj1,hj2⟩:=hx;simp only[List.length_append,List.length_cons,List.length_nil]at hj;have:j ≠ i:=by
        rintro rfl
        rw[hrsi]at hj1;injection hj1 with hj1;subst hj1
        rw[V2 hre]at hj2;cases hj2
       omega
theorem Ev{l:List POper}{anc:List (List Nat)}{rs:List Rec}{s':Zf}{h':Mem}(hp:Yq e l s h=some (rs,⟨s',h'⟩))(hok:Po anc (rs.map (Rec.kd e))=true)(hf:hasF h'=false)(hm:Mem.same h' h'=true):QU e l anc ⟨s,h⟩=some ⟨s',h'⟩:=by
 have h3:=vD hok hm (l.length+1) [] rs [] h rfl (JO hp) (λ i=>by simp) (λ j hj=>by simp at hj) (by rw[Uh hp];omega)
 simp only[QU,hp,h3,cond_true,Qg,hf,cond_false]
def Wx(e:Env)(N:Nat)(C:List Nat->Bool)(ks:List Nat)(l:List POper)(s:Zf)(h:Mem)(k:List Fk)(Q:Pi.Exit->Zf->Mem->Prop):Prop:=∃ rs s' h',Yq e l s h=some (rs,⟨s',h'⟩)/\C (ks.reverse++rs.map (Rec.kd e))=true/\hasF h'=false/\Mem.same h' h'=true/\Re e N k Q .normal s' h'
theorem Yt{l:List POper}{anc:List (List Nat)}(hw:∀ C:List Nat->Bool,(∀ ks,Po anc ks=true->C ks=true)->Wx e N C [] l s h k Q):W e N (.dops l anc) s h k Q:=by
 obtain⟨rs,s',h',h1,h2,h3,h4,h5⟩:=hw (Po anc) λ _ h=>h
 exact zd (Ev h1 h2 h3 h4) h5
def OS(e:Env)(N:Nat)(C:List Nat->Bool)(ks:List Nat)(r:Option (X × Mem))(kd:Nat)(d:Option Nat)(l:List POper)(s:Zf)(h:Mem)(k:List Fk)(Q:Pi.Exit->Zf->Mem->Prop):Prop:=match r with
 | some (v,h1)=>Wx e N C (kd::ks) l (Yo s d v) (bif Nat.beq kd 2 then h1 else h) k Q
 | none=>False
def Wxg(e:Env)(N:Nat)(C:List Nat->Bool)(ks:List Nat)(g:Option Bool)(s1:Zf)(d:Option Nat)(op:POp)(l:List POper)(s:Zf)(h:Mem)(k:List Fk)(Q:Pi.Exit->Zf->Mem->Prop):Prop:=match g with
 | some true=>OS e N C ks (evalOp e s1 h op) (op.kind e s1) d l s h k Q
 | some false=>Wx e N C (0::ks) l (Yo s d (.c (.tup []))) h k Q
 | none=>False
section
variable {C:List Nat->Bool} {ks:List Nat} {d:Option Nat} {op:POp} {l:List POper} {s1:Zf} {v:X} {h1:Mem}
@[simp] theorem DL:Wxg e N C ks (some true) s1 d op l s h k Q=OS e N C ks (evalOp e s1 h op) (op.kind e s1) d l s h k Q:=rfl
@[simp] theorem OT:Wxg e N C ks (some false) s1 d op l s h k Q=Wx e N C (0::ks) l (Yo s d (.c (.tup []))) h k Q:=rfl
@[simp] theorem Zjr:OS e N C ks (some (v,h1)) 0 d l s h k Q=Wx e N C (0::ks) l (Yo s d v) h k Q:=rfl
@[simp] theorem Zjq:OS e N C ks (some (v,h1)) 1 d l s h k Q=Wx e N C (1::ks) l (Yo s d v) h k Q:=rfl
@[simp] theorem Zjp:OS e N C ks (some (v,h1)) 2 d l s h k Q=Wx e N C (2::ks) l (Yo s d v) h1 k Q:=rfl
@[simp] theorem ZcL:Wx e N C ks [] s h k Q=(C ks.reverse=true/\hasF h=false/\Mem.same h h=true/\Re e N k Q .normal s h):=by
 apply propext;constructor
 ·rintro⟨rs,s',h',h1,h2,h3,h4,h5⟩;simp[Yq]at h1;obtain⟨rfl,rfl,rfl⟩:=h1;exact⟨by simpa using h2,h3,h4,h5⟩
 ·rintro⟨h2,h3,h4,h5⟩;exact⟨[],s,h,rfl,by simpa using h2,h3,h4,h5⟩
@[simp] theorem OU{g:Option (Nat × Bool)}{r:List POper}:Wx e N C ks (⟨d,op,g⟩::r) s h k Q=Wxg e N C ks (wanted (ZK (POper.tmps ⟨d,op,g⟩) s) g) (ZK (POper.tmps ⟨d,op,g⟩) s) d op r s h k Q:=by
 apply propext;constructor
 ·rintro⟨rs,s',h',h1,h2,h3⟩
  simp only[Yq]at h1;split at h1
  ·rename_i hw;rw[hw];split at h1
   ·rename_i v h4 hv;split at h1
    ·rename_i rs' σ' hp;cases h1;rw[DL,hv];exact⟨rs',s',h',hp,by simpa [Rec.kd] using h2,h3⟩
    ·cases h1
   ·cases h1
  ·rename_i hw;rw[hw];split at h1
   ·rename_i rs' σ' hp;cases h1;exact⟨rs',s',h',hp,by simpa [Rec.kd] using h2,h3⟩
   ·cases h1
  ·cases h1
 ·intro hw;unfold Wxg at hw;split at hw
  ·rename_i hg;unfold OS at hw;split at hw
   ·rename_i v h4 hv;obtain⟨rs,s',h',h1,h2,h3⟩:=hw;refine⟨⟨ZK (POper.tmps ⟨d,op,g⟩) s,⟨d,op,g⟩,true,v⟩::rs,s',h',by simp only[Yq,hg,hv,h1],?_,h3⟩
    simpa [Rec.kd] using h2
   ·exact hw.elim
  ·rename_i hg;obtain⟨rs,s',h',h1,h2,h3⟩:=hw;refine⟨⟨ZK (POper.tmps ⟨d,op,g⟩) s,⟨d,op,g⟩,false,.c (.tup [])⟩::rs,s',h',by simp only[Yq,hg,h1],?_,h3⟩
   simpa [Rec.kd] using h2
  ·exact hw.elim
end
end
end Go.Pi
namespace Go.Proofs.YtmckcikeefggdaaGreatDoor
open Go.Pi Go.Pi.S
section
variable {p:Prg} [Has p] {h:Mem}
def w119:List By:=[[],[110,117,109,98,101,114],[119,105,110,100,111,119],[108,111,103,99,111,117,110,116],[116,114,97,99,101,99,111,117,110,116],[102,108,97,109,101,119,101,105,103,104,116],[97,103,103,114,101,103,97,116,101],[98,105,110,97,114,121],[108,111,103,115],[116,114,97,99,101,115],[102,108,97,109,101],[101,120,101,109,112,108,97,114,116,114,97,99,101,115],[108,111,103,115,111,102],[118,105,101,119]]
def w122:List By:=[[111,110,101],[109,97,110,121,116,111,111,110,101],[111,110,101,116,111,109,97,110,121]]
def w165:List By:=[[],[115,112,97,110],[99,104,105,108,100],[100,101,115,99,101,110,100,97,110,116],[115,105,98,108,105,110,103],[102,111,108,108,111,119,115],[108,105,110,107,101,100],[97,110,100],[111,114],[110,111,116]]
def w167:List By:=[[],[61],[33,61],[61,126],[33,126],[60],[62]]
def w168:List By:=[[],[99,111,110,116,97,105,110,115],[110,111,116,99,111,110,116,97,105,110,115],[114,101,103,101,120],[112,97,114,115,101],[102,105,101,108,100],[107,101,101,112],[100,114,111,112],[108,97,98,101,108]]
theorem Zhz:Zi (Zo p) h 119 []=some (.c (.sl false (w119.map CV.str)),h):=by
 refine QK Has.h119 ?_;refine⟨1,Zk rfl ?_⟩;show W _ _ N3 _ _ _ _;simp[N3,ZH];exact⟨.inr rfl,by simp[Fl,ZD,Pi.results,ZL,ZM,oneOf,w119]⟩
theorem Zhx:Zi (Zo p) h 122 []=some (.c (.sl false (w122.map CV.str)),h):=by
 refine QK Has.h122 ?_;refine⟨1,Zk rfl ?_⟩;show W _ _ N2 _ _ _ _;simp[N2,ZH];exact⟨.inr rfl,by simp[Fj,ZD,Pi.results,ZL,ZM,oneOf,w122]⟩
theorem Zhk:Zi (Zo p) h 165 []=some (.c (.sl false (w165.map CV.str)),h):=by
 refine QK Has.h165 ?_;refine⟨1,Zk rfl ?_⟩;show W _ _ NA _ _ _ _;simp[NA,ZH];exact⟨.inr rfl,by simp[Ff,ZD,Pi.results,ZL,ZM,oneOf,w165]⟩
theorem Zbc:Zi (Zo p) h 167 []=some (.c (.sl false (w167.map CV.str)),h):=by
 refine QK Has.h167 ?_;refine⟨1,Zk rfl ?_⟩;show W _ _ Ny _ _ _ _;simp[Ny,ZH];exact⟨.inr rfl,by simp[Fe,ZD,Pi.results,ZL,ZM,oneOf,w167]⟩
theorem Zhj:Zi (Zo p) h 168 []=some (.c (.sl false (w168.map CV.str)),h):=by
 refine QK Has.h168 ?_;refine⟨1,Zk rfl ?_⟩;show W _ _ Nx _ _ _ _;simp[Nx,ZH];exact⟨.inr rfl,by simp[Fd,ZD,Pi.results,ZL,ZM,oneOf,w168]⟩
def GS(p:Prg)(f:Nat)(args:List CV)(n:Nat):Prop:=∃ s:By,s.length<=n/\∀ h,Zi (Zo p) h f (args.map X.c)=some (.c (.str s),h)
theorem UT{f:Nat}{fn:PFn}{args:List CV}{n:Nat}(hf:p.fn f=some (.body fn))(hr:∃ N,∃ z h',(∃ v,z=.c v/\h'=[]/\∃ s:By,s.length<=n/\v=.str s)/\Z5 (Zo p) N fn (args.map X.c) []=some (z,h')):GS p f args n:=by
 obtain⟨N,z,h',⟨_,rfl,rfl,s,hs,rfl⟩,hr⟩:=hr;exact⟨s,hs,λ h=>Qj hf ⟨N,hr⟩⟩
theorem WB{fn:PFn}{r n:Nat}{s:By}{x:Pi.Exit}{sl:Zf}{h:Mem}(hx:x=.normal\/x=.ret)(hr:fn.res=[.t r])(hs:Zm sl r=.c (.str s))(hl:s.length<=n):∃ z h',(∃ v,z=.c v/\h'=[]/\∃ s:By,s.length<=n/\v=.str s)/\Gu fn 0 z h' x sl h:=
 ⟨_,_,⟨_,rfl,rfl,s,hl,rfl⟩,Je hx hr hs rfl⟩
def XJ:List By->Nat
 | []=>0
 | s::r=>s.length+1+XJ r
theorem Wk:∀ (a b:List By),XJ (a++b)=XJ a+XJ b
 | [],b=>by simp[XJ]
 | s::r,b=>by simp only[List.cons_append,XJ,Wk r b];omega
theorem uo{B:Nat}:∀ {l:List By},(∀ s∈l,s.length<=B)->XJ l<=l.length*(B+1)
 | [],_=>by simp[XJ]
 | s::r,h=>by
  have h1:=uo (l:=r) λ x hx=>h x (Zq _ hx)
  have h2:=h s (by simp)
  simp only[XJ,List.length_cons,Nat.add_mul,Nat.one_mul];omega
theorem UU:∀ l:List By,l.length<=XJ l
 | []=>Nat.le_refl _
 | s::r=>by have:=UU r;simp only[XJ,List.length_cons];omega
theorem gk(l:List By)(i:Nat)(h:i < l.length):XJ (l.take (i+1))=XJ (l.take i)+(l[i].length+1):=by
 rw[List.take_add_one,Wk,Zb h];simp[XJ]
theorem Di(l:List By)(hb:XJ l<=4294967296):GS p 124 [.sl false (l.map CV.str)] (2+XJ l):=by
 refine UT Has.h124 ⟨l.length+1,Z6 _ rfl ?_⟩;simp only[List.map_cons,List.map_nil];have hll:=UU l
 show W _ _ NY _ _ _ _;simp[NY];refine ZU (λ i sl h=>h=[]/\∃ a:By,Zm sl 0=.c (.sl false (l.map CV.str))/\Zm sl 3=.c (.str a)/\Zm sl 4=.c (.int .i64 i)/\a.length<=1+XJ (l.take i)) l.length (by omega) ⟨rfl,[40],by simp,by simp,by simp,by simp⟩ ?_
 rintro i sl h hi ⟨rfl,a,h0,h3,h4,ha⟩
 have hsum:XJ (l.take i)+XJ (l.drop i)=XJ l:=by rw[<- Wk,List.take_append_drop]
 rcases Zl i l.length with hlt | hge
 ·have hw:IntKind.i64.wrap ((i:Int)+1)=(i:Int)+1:=ZA (by omega) (by omega)
  have hx:(l.map CV.str)[i]?=some (.str l[i]):=by simp[hlt]
  have e1:=gk l i hlt
  have e2:XJ (l.take (i+1))+XJ (l.drop (i+1))=XJ l:=by rw[<- Wk,List.take_append_drop]
  by_cases h0i:i=0
  ·subst h0i;have hl1:a.length+l[0].length<=4611686018427387904:=by omega
   simp[h0,h3,h4,hlt,hx,Xx,hl1,Zn];simp at e1 ha;omega
  ·have hp:(0:Int) < i:=by omega
   have hp':0 < i:=by omega
   have hl0:a.length+[(32:UInt8)].length<=4611686018427387904:=by simp;omega
   have hl1:(a++[(32:UInt8)]).length+l[i].length<=4611686018427387904:=by simp;omega
   simp[h0,h3,h4,hlt,hx,hp,hp',Xx hl0,Xx hl1,hw,Zn];rw[e1];omega
 ·obtain rfl:i=l.length:=by omega
  have hl0:a.length+[(41:UInt8)].length<=4611686018427387904:=by simp;omega
  simp[h0,h3,h4,Xx hl0];rw[List.take_length]at ha;exact WB (.inr rfl) rfl rfl (by simp;omega)
theorem vN(l:List By)(B:Nat)(hB:∀ s∈l,s.length<=B)(hb:2+l.length*(B+1)<=4294967296):GS p 124 [.sl false (l.map CV.str)] (2+l.length*(B+1)):=by
 have hw:=uo hB
 obtain⟨s,hs,h⟩:=Di (p:=p) l (by omega)
 exact⟨s,by omega,h⟩
theorem appF{h:Mem}{t s bytes:Nat}{es:List CV}{y:CV}(hk:YC s es=true)(hl:es.length+1<=4294967296)(hb:bytes<=4096):ZP h t s bytes (.c (.sl true es)) [y]=some (.own (es++[y]) h.length 0,h++[.tip 0 s t]):=by
 have h1:Nat.ble (es.length+[y].length) Qq=true:=ZE hl
 have h2:Nat.ble bytes 4096=true:=ZE hb
 simp only[ZP,hk,h1,h2,Bool.and_self,cond_true]
theorem y9{h:Mem}{t s bytes id v:Nat}{es:List CV}{y:CV}(hh:h[id]?=some (.tip v s t))(hl:es.length+1<=4294967296)(hb:bytes<=4096):ZP h t s bytes (.own es id v) [y]=some (.own (es++[y]) id (v+1),h.set id (.tip (v+1) s t)):=by
 have h1:Nat.ble (es.length+[y].length) Qq=true:=ZE hl
 have h2:Nat.ble bytes 4096=true:=ZE hb
 simp only[ZP,hh,Nat.beq_refl,h1,h2,Bool.and_self,cond_true]
theorem FE(s:By)(hs:s.length<=1000000):GS p 129 [.str s] (2*s.length+2):=by
 refine UT Has.h129 ⟨s.length+1,Z6 _ rfl ?_⟩;simp only[List.map_cons,List.map_nil];show W _ _ NT _ _ _ _;simp[NT];obtain⟨I,hI⟩:∃ I:Nat->Zf->Mem->Prop,I=λ i sl h=>∃ bs:By,bs.length<=1+2*i/\Zm sl 0=.c (.str s)/\Zm sl 4=.c (.int .i64 i)/\((Zm sl 3=.c (.sl true (bs.map Zt))/\h=[])\/∃ v,Zm sl 3=.own (bs.map Zt) 0 v/\h=[.tip v 1 5]):=⟨_,rfl⟩
 refine ZU I s.length (by omega) (by rw[hI];exact⟨[34],by simp,by simp,by simp,.inl ⟨by simp[Zt],rfl⟩⟩) ?_
 intro i sl h hi hi2;rw[hI]at hi2;obtain⟨bs,hbl,h0,h4,hB⟩:=hi2;have hA1:∀ x,ZP [] 5 1 1 (.c (.sl true (bs.map Zt))) [x]=some (.own (bs.map Zt++[x]) 0 0,[.tip 0 1 5]):=λ x=>appF (JU bs) (by simp;omega) (by omega)
 have hA2:∀ v x,ZP [.tip v 1 5] 5 1 1 (.own (bs.map Zt) 0 v) [x]=some (.own (bs.map Zt++[x]) 0 (v+1),[.tip (v+1) 1 5]):=λ v x=>y9 rfl (by simp;omega) (by omega)
 have hA3:∀ v x y,ZP [.tip v 1 5] 5 1 1 (.own (bs.map Zt++[x]) 0 v) [y]=some (.own (bs.map Zt++[x,y]) 0 (v+1),[.tip (v+1) 1 5]):=λ v x y=>by
  rw[y9 rfl (by simp;omega) (by omega)];simp
 have hbs:bytesOf (bs.map Zt++[.int .u8 34])=some (bs++[34]):=by
  have:=VS (bs++[34])
  rw[List.map_append]at this;exact this
 have hk1:YC 1 [.int .u8 34]=true:=rfl
 have hcl:clean (some [0,3,4]) 0 ⟨sl,h⟩=⟨ZK [0,3,4] sl,h⟩:=by
  rcases hB with ⟨_,rfl⟩|⟨v,hB,rfl⟩
  ·exact Yf (by simp)
  ·exact Kz (by simp) hB (by omega)
 rcases Zl i s.length with hlt | hge
 ·have hw:IntKind.i64.wrap ((i:Int)+1)=(i:Int)+1:=ZA (by omega) (by omega)
  have hx:s[i]?=some s[i]:=Zb hlt
  obtain⟨c,hc⟩:∃ c,c=s[i]:=⟨_,rfl⟩;have hpost:∀ (sl:Zf) (h:Mem) (x:List UInt8) v es,x.length<=2->Zm sl 0=.c (.str s)->Zm sl 4=.c (.int .i64 ((i:Int)+1))->Zm sl 3=.own es 0 v->h=[.tip v 1 5]->es=(bs++x).map Zt->I (i+1) sl h:=by
   intro sl h x v es hx e0 e4 e3 eh rfl;rw[hI];exact⟨bs++x,by simp;omega,e0,e4,.inr ⟨v,e3,eh⟩⟩
  by_cases h92:c=92\/c=34
  ·have h10:¬ c=10:=by rcases h92 with rfl | rfl<;>decide
   have q10:((s[i].toNat:Int)==10)=false:=by rw[MA,<- hc];exact decide_eq_false h10
   obtain⟨b92,q92⟩:∃ b,((s[i].toNat:Int)==92)=b:=⟨_,rfl⟩;obtain⟨HH,q34⟩:∃ b,((s[i].toNat:Int)==34)=b:=⟨_,rfl⟩;have hbb:b92=true\/(b92=false/\HH=true):=by
    rw[Gc,<- hc]at q92;rw[FG,<- hc]at q34;rcases h92 with rfl | rfl
    ·exact .inl q92.symm
    ·exact .inr ⟨q92.symm,q34.symm⟩
   rcases hbb with rfl | ⟨rfl,rfl⟩
   all_goals
    rcases hB with ⟨h3,rfl⟩|⟨v,h3,rfl⟩
    all_goals
     simp[hcl,h0,h3,h4,hlt,hx,Zt,q10,q92,q34,ZO,hA1,hA2,hA3,hw,Zn];first|exact hpost _ _ [92,s[i]] _ _ (by simp) rfl rfl rfl rfl (by simp[Zt])|exact⟨by omega,hpost _ _ [92,s[i]] _ _ (by simp) rfl rfl rfl rfl (by simp[Zt])⟩
  ·obtain⟨n92,n34⟩:¬ c=92/\¬ c=34:=⟨λ q=>h92 (.inl q),λ q=>h92 (.inr q)⟩
   have q92:((s[i].toNat:Int)==92)=false:=by rw[Gc,<- hc];exact decide_eq_false n92
   have q34:((s[i].toNat:Int)==34)=false:=by rw[FG,<- hc];exact decide_eq_false n34
   obtain⟨b10,q10⟩:∃ b,((s[i].toNat:Int)==10)=b:=⟨_,rfl⟩;cases b10 with
   | false=>
    rcases hB with ⟨h3,rfl⟩|⟨v,h3,rfl⟩
    all_goals
     simp[hcl,h0,h3,h4,hlt,hx,Zt,q10,q92,q34,ZO,hA1,hA2,hA3,hw,Zn];first
      | exact hpost _ _ [s[i]] _ _ (by simp) rfl rfl rfl rfl (by simp[Zt])
      | exact⟨by omega,hpost _ _ [s[i]] _ _ (by simp) rfl rfl rfl rfl (by simp[Zt])⟩
   | true=>
    rcases hB with ⟨h3,rfl⟩|⟨v,h3,rfl⟩
    all_goals
     simp[hcl,h0,h3,h4,hlt,hx,Zt,q10,q92,q34,ZO,hA1,hA2,hA3,hw,Zn];first
      | exact hpost _ _ [92,110] _ _ (by simp) rfl rfl rfl rfl (by simp[Zt])
      | exact⟨by omega,hpost _ _ [92,110] _ _ (by simp) rfl rfl rfl rfl (by simp[Zt])⟩
 ·obtain rfl:i=s.length:=by omega
  have hk:YC 1 (bs.map Zt++[.int .u8 34])=true:=by
   have:=JU (bs++[34])
   rw[List.map_append]at this;exact this
  rcases hB with ⟨h3,rfl⟩|⟨v,h3,rfl⟩
  all_goals
   simp[-YC,hcl,h0,h3,h4,ZO,hA1,hA2,hbs,hk,hk1];exact WB (.inr rfl) rfl rfl (by simp;omega)
theorem ga{d:IntKind}{a b:Int}(hb:b ≠ 0):Pi.binOp .quo (.c (.int d a)) (.c (.int d b))=some (Zn d (a.tdiv b)):=by
 have:(b==0)=false:=by simpa using hb
 simp[Pi.binOp,Xe,this,Ye]
theorem A3(x:Nat):(x:Int).tdiv 10=((x / 10:Nat):Int):=by
 rw[Int.tdiv_eq_ediv_of_nonneg (by omega)];rfl
theorem jW(x:Nat):(x:Int).tmod 10=((x % 10:Nat):Int):=by
 rw[Int.tmod_eq_emod_of_nonneg (by omega)];rfl
theorem Zbf:∀ (k n:Nat),n < 10 ^ (k+1)->n < 9223372036854775808->k<=20->GS p 163 [.int .i64 n] (k+1):=by
 have ZX:∀ (n m:Nat),n < 10->1<=m->GS p 163 [.int .i64 n] m:=by
  intro n m h10 hm;refine UT Has.h163 ⟨1,Z6 _ rfl ?_⟩;simp only[List.map_cons,List.map_nil];have h10':(n:Int) < 10:=by omega
  show W _ _ DA _ _ _ _;simp[DA,h10,h10',Zn,ZO,bytesOf];exact WB (.inr rfl) rfl rfl (by simp;omega)
 intro k
 induction k with
 | zero=>
  intro n hn hb hk;exact ZX n 1 (by simpa using hn) (by omega)
 | succ k ih=>
  intro n hn hb hk;by_cases h10:n < 10
  ·exact ZX n (k+1+1) h10 (by omega)
  obtain⟨s,hs,hc⟩:=ih (n / 10) (by rw[Nat.pow_succ]at hn;omega) (by omega) (by omega)
  have e10:((n / 10:Nat):Int)=(n:Int) / 10:=by omega
  simp only[List.map_cons,List.map_nil,e10]at hc;have hcc:=YZ hc
  have hwd:IntKind.i64.wrap ((n:Int) / 10)=(n:Int) / 10:=ZA (by omega) (by omega)
  refine UT Has.h163 ⟨1,Z6 _ rfl ?_⟩;simp only[List.map_cons,List.map_nil];have h10':¬ (n:Int) < 10:=by omega
  have h0:(10:Int) ≠ 0:=by omega
  have hl:∀ b:UInt8,s.length+[b].length<=4611686018427387904:=λ b=>by simp;omega
  show W _ _ DA _ _ _ _;simp[DA,h10,h10',Zn,ZO,bytesOf];refine Zw rfl rfl ?_;simp[ga h0,Gq h0,A3,jW,hwd,hc,hcc,Zn,ZO,bytesOf,Xx (hl _)];exact WB (.inr rfl) rfl rfl (by simp;omega)
end
section
variable {p:Prg} [Has p] [HasPr p] {h:Mem}
theorem Zbs(n d:Int):GS p 121 [.agg [.int .i64 n,.int .i64 d]] 60:=by
 have h162:=λ h=>Zbg (p:=p) (h:=h) n d
 refine UT Has.h121 ⟨1,Z6 _ rfl ?_⟩;simp only[List.map_cons,List.map_nil];show W _ _ ud _ _ _ _;by_cases hR:yU n d=0
 ·have hb:-1152921504606846976<=n/\n<=1152921504606846976/\1<=d/\d<=1152921504606846976:=by
   simp only[yU]at hR;split at hR
   ·cases hR
   ·omega
  have h164:=λ h=>Zbe (p:=p) (h:=h) n hb.1 hb.2.1
  obtain⟨s,hs,h163⟩:=Zbf (p:=p) 18 n.natAbs (by omega) (by omega) (by omega)
  obtain⟨t,ht,h163b⟩:=Zbf (p:=p) 18 d.toNat (by omega) (by omega) (by omega)
  have ed:((d.toNat:Nat):Int)=d:=by omega
  simp only[List.map_cons,List.map_nil,ed]at h163 h163b;rw[hR]at h162;have hl1:[(45:UInt8)].length+s.length<=4611686018427387904:=by simp;omega
  have hl2:∀ a:By,a.length<=20->a.length+[(47:UInt8)].length<=4611686018427387904:=λ a h=>by simp;omega
  have hl3:∀ a:By,a.length<=20->(a++[(47:UInt8)]).length+t.length<=4611686018427387904:=λ a h=>by simp;omega
  have e45:=Xx hl1
  have fin:∀ a:By,a.length<=20->(a++([(47:UInt8)]++t)).length<=60:=λ a h=>by simp;omega
  have g1:=Xx (hl2 s (by omega))
  have g2:=Xx (hl2 (45::s) (by simp;omega))
  have g3:=Xx (hl3 s (by omega))
  have g4:=Xx (hl3 (45::s) (by simp;omega))
  simp at e45 g1 g2 g3 g4;by_cases hn:n < 0
  ·by_cases hd:1 < d
   ·simp[ud,ZH,h162,h164,h163,h163b,hn,hd,e45,g2,g4];exact WB (.inr rfl) rfl rfl (by simp;omega)
   ·simp[ud,ZH,h162,h164,h163,h163b,hn,hd,e45];exact WB (.inr rfl) rfl rfl (by simp;omega)
  ·by_cases hd:1 < d
   ·simp[ud,ZH,h162,h164,h163,h163b,hn,hd,g1,g3];exact WB (.inr rfl) rfl rfl (by simp;omega)
   ·simp[ud,ZH,h162,h164,h163,h163b,hn,hd];exact WB (.inr rfl) rfl rfl (by omega)
 ·have hb:(yU n d != 0)=true:=by simp[hR]
  have hb2:(yU n d==0)=false:=by simp[hR]
  simp[ud,ZH,h162,hb,hb2];exact WB (.inr rfl) rfl rfl (by simp)
theorem Mv(n:Int):GS p 127 [.int .i64 n] 60:=by
 obtain⟨s,hs,h121⟩:=Zbs (p:=p) n 1;refine UT Has.h127 ⟨1,Z6 _ rfl ?_⟩;simp only[List.map_cons,List.map_nil]at h121 ⊢;show W _ _ NU _ _ _ _;simp[NU,ZH,h121];exact WB (.inr rfl) rfl rfl hs
end
section
variable {p:Prg} [Has p] [HasPr p] {h:Mem}
theorem YK:∀ L:List By,YC 1 (L.map CV.str)=true
 | []=>rfl
 | _::_=>rfl
theorem Et{v s t:Nat}:Mem.same [.tip v s t] [.tip v s t]=true:=by simp only[Mem.same,Zj,Bool.and_self]
def GL(p:Prg)(f:Nat)(args:List CV)(m B:Nat):Prop:=∃ L:List By,L.length=m/\(∀ s∈L,s.length<=B)/\∀ h,Zi (Zo p) h f (args.map X.c)=some (.c (.sl false (L.map CV.str)),h)
theorem Zcb{f:Nat}{fn:PFn}{args:List CV}{m B:Nat}(hf:p.fn f=some (.body fn))(hr:∃ N,∃ z h',(∃ v,z=.c v/\h'=[]/\∃ L:List By,L.length=m/\(∀ s∈L,s.length<=B)/\v=.sl false (L.map CV.str))/\Z5 (Zo p) N fn (args.map X.c) []=some (z,h')):GL p f args m B:=by
 obtain⟨N,z,h',⟨_,rfl,rfl,L,h1,h2,rfl⟩,hr⟩:=hr;exact⟨L,h1,h2,λ h=>Qj hf ⟨N,hr⟩⟩
def SB(B:X)(h:Mem)(L:List By):Prop:=(B=.c (.sl true (L.map CV.str))/\h=[])\/∃ v,B=.own (L.map CV.str) 0 v/\h=[.tip v 1 9]
theorem SB.clean{sl:Zf}{h:Mem}{L:List By}{live:List Nat}{i:Nat}(hi:i∈live)(hB:SB (Zm sl i) h L):Pi.clean (some live) 0 ⟨sl,h⟩=⟨ZK live sl,h⟩:=by
 rcases hB with ⟨_,rfl⟩|⟨v,hB,rfl⟩
 ·exact Yf (by simp)
 ·exact Kz hi hB (by omega)
theorem SB.app{B:X}{h:Mem}{L:List By}(hB:SB B h L)(hl:L.length<=100000)(w:By):∃ v,ZP h 9 1 16 B [.str w]=some (.own ((L++[w]).map CV.str) 0 v,[.tip v 1 9]):=by
 rcases hB with ⟨rfl,rfl⟩|⟨v,rfl,rfl⟩
 ·exact⟨0,by rw[appF (YK L) (by simp;omega) (by omega)];simp⟩
 ·exact⟨v+1,by rw[y9 rfl (by simp;omega) (by omega)];simp⟩
theorem op4{k:Int}(h0:1<=k)(h1:k<=4):∃ w:By,w.length<=2/\YA (.c (.int .i64 k))=some k.toNat/\w167[k.toNat]?=some w/\k.toNat < 7:=by
 have:k=1\/k=2\/k=3\/k=4:=by omega
 rcases this with rfl | rfl | rfl | rfl<;>exact⟨_,by decide,rfl,rfl,by decide⟩
theorem Zbr(ms:List Mt)(hl:ms.length<=16)(hm:∀ m∈ms,1<=m.kind/\m.kind<=4/\m.name.length<=60/\m.value.length<=200):GL p 125 [.sl false (ms.map Mt.cv)] ms.length 2000:=by
 have h167:=λ h=>Zbc (p:=p) (h:=h)
 have h167':(Zo p).call 167 [] []=some (_,[]):=X0 (vs:=[]) h167
 refine Zcb Has.h125 ⟨ms.length+1,Z6 _ rfl ?_⟩;simp only[List.map_cons,List.map_nil];obtain⟨ml,hml⟩:∃ ml,ml=ms.map Mt.cv:=⟨_,rfl⟩;have hmll:ml.length=ms.length:=by rw[hml];simp
 rw[<- hml,<- hmll];show W _ _ NX _ _ _ _;simp[NX];obtain⟨I,hI⟩:∃ I:Nat->Zf->Mem->Prop,I=λ i sl h=>∃ L:List By,L.length=i/\(∀ s∈L,s.length<=2000)/\Zm sl 0=.c (.sl false ml)/\Zm sl 4=.c (.int .i64 i)/\SB (Zm sl 3) h L:=⟨_,rfl⟩
 refine ZU I ml.length (by omega) (by rw[hI];exact⟨[],rfl,by simp,by simp,by simp,.inl ⟨by simp,rfl⟩⟩) ?_
 intro i sl h hi hi2;rw[hI]at hi2;obtain⟨L,hLi,hLs,h0,h4,hB⟩:=hi2;have hcl:=SB.clean (live:=[0,3,4]) (by simp) hB
 rcases Zl i ml.length with hlt | hge
 ·have hw:IntKind.i64.wrap ((i:Int)+1)=(i:Int)+1:=ZA (by omega) (by omega)
  obtain⟨⟨k,nm,val⟩,hmem,hx⟩:∃ m,m∈ms/\ml[i]=m.cv:=⟨ms[i],Zh _,by simp[hml]⟩
  obtain⟨hk0,hk1,hnm,hval⟩:=hm _ hmem;simp only at hk0 hk1 hnm hval;simp only[Mt.cv,cI]at hx;obtain⟨op,hopl,hnat,hop,hk7⟩:=op4 hk0 hk1;obtain⟨q,hq,h129⟩:=FE (p:=p) val (by omega)
  simp only[List.map_cons,List.map_nil]at h129;have h129':=YZ h129
  obtain⟨t,ht,h124⟩:=vN (p:=p) [op,nm,q] 500 (by intro s hs;simp at hs;rcases hs with rfl | rfl | rfl<;>omega) (by simp)
  simp only[List.map_cons,List.map_nil]at h124;have h124':=YZ h124
  obtain⟨v,happ⟩:=hB.app (by omega) t
  have hLsT:∀ s∈L++[t],s.length<=2000:=by
   intro s hs;rcases List.mem_append.1 hs with hs | hs
   ·exact hLs s hs
   ·rw[ZF.1 hs];simp at ht;omega
  simp[hcl,h0,h4,hlt];refine Yt λ C hC=>?_
  simp[h167,h167',hlt,hx,hnat,hop,h129,h129',h124,h124',happ,ZO];refine⟨hC _ rfl,rfl,Et,?_⟩;rw[hI];exact⟨L++[t],by simp[hLi],hLsT,rfl,by simp[Zn,hw],.inr ⟨v,by simp,rfl⟩⟩
 ·obtain rfl:i=ml.length:=by omega
  rcases hB with ⟨h3,rfl⟩|⟨v,h3,rfl⟩
  all_goals
   simp[hcl,h0,h3,h4];exact⟨_,_,⟨_,rfl,rfl,L,by omega,hLs,rfl⟩,.inr rfl,by simp[Fi,ZD,Pi.results,ZL,ZM,oneOf,frz.frzL,frz,X.ids.idsL,X.ids]⟩
end
section
variable {p:Prg} [Has p] [HasPr p] {h:Mem}
attribute [-simp] X.wk List.map_append
theorem un(v:CV):X.wk (.c v)=.c v.wk:=rfl
theorem Gf(es:List CV)(i v:Nat):X.wk (.own es i v)=.c (.sl false es):=rfl
theorem Ge(i o:Nat):X.wk (.ptr i o)=.ptr i o:=rfl
attribute [local simp] un Gf Ge
def TS(h:Mem)(B:X)(es:List CV)(i:Option Nat):Prop:=(B=.c (.sl true es)/\i=none)\/∃ k v,i=some k/\B=.own es k v/\h[k]?=some (.tip v 1 9)
theorem TS.wk{h:Mem}{B:X}{es:List CV}{i:Option Nat}(hT:TS h B es i):B.wk=.c (.sl false es):=by
 rcases hT with ⟨rfl,_⟩|⟨k,v,_,rfl,_⟩<;>rfl
theorem GM.tip{h:Mem}(hg:GM h)(v s t:Nat):GM (h++[.tip v s t]):=hg.push (.inr ⟨_,_,_,rfl⟩)
theorem GM.cells{h:Mem}(hg:GM h)(t:Nat)(cs:List X):GM (h++[.cells t cs]):=hg.push (.inl ⟨_,_,rfl⟩)
theorem TS.app{h:Mem}{B:X}{es:List CV}{i:Option Nat}(hT:TS h B es i)(hk:YC 1 es=true)(ys:List CV)(hl:es.length+ys.length<=4294967296)(hg:GM h):∃ B1 h1 i1,ZP h 9 1 16 B ys=some (B1,h1)/\TS h1 B1 (es++ys) i1/\GM h1/\Keeps h h1/\∀ B' es' i',TS h B' es' i'->(i'=none\/i' ≠ i)->TS h1 B' es' i'/\(i'=none\/i' ≠ i1):=by
 cases ys with
 | nil=>
  refine⟨B,h,i,?_,by rwa [List.append_nil],hg,.refl h,λ B' es' i' h1 h2=>⟨h1,h2⟩⟩
  rcases hT with ⟨rfl,_⟩|⟨k,v,_,rfl,_⟩<;>rfl
 | cons y ys=>
  have hb:Nat.ble (es.length+(y::ys).length) Qq=true:=ZE hl
  have hb2:Nat.ble 16 4096=true:=rfl
  rcases hT with ⟨rfl,rfl⟩|⟨k,v,rfl,rfl,hr⟩
  ·refine⟨.own (es++y::ys) h.length 0,h++[.tip 0 1 9],some h.length,?_,.inr ⟨_,_,rfl,rfl,by simp⟩,hg.tip _ _ _,.push h _,λ B' es' i' h1 h2=>?_⟩
   ·simp only[ZP,hk,hb,hb2,Bool.and_self,cond_true]
   ·rcases h1 with h1 | ⟨k,v,rfl,rfl,h3⟩
    ·exact⟨.inl h1,.inl h1.2⟩
    ·have hlt:=(Za.1 h3).1
     exact⟨.inr ⟨k,v,rfl,rfl,by rw[Zr hlt];exact h3⟩,.inr (by simp;omega)⟩
  ·have hlt:=(Za.1 hr).1
   refine⟨.own (es++y::ys) k (v+1),h.set k (.tip (v+1) 1 9),some k,?_,.inr ⟨_,_,rfl,rfl,by simp[hlt]⟩,hg.set,.setTip hr,λ B' es' i' h1 h2=>?_⟩
   ·simp only[ZP,hr,Nat.beq_refl,hb,hb2,Bool.and_self,cond_true]
   ·rcases h1 with h1 | ⟨k2,v2,rfl,rfl,h3⟩
    ·exact⟨.inl h1,.inl h1.2⟩
    ·have hne:k2 ≠ k:=λ e=>by rcases h2 with h2 | h2<;>simp at h2;exact h2 e
     exact⟨.inr ⟨k2,v2,rfl,rfl,by rw[Zx (Ne.symm hne)];exact h3⟩,.inr (by simpa using hne)⟩
theorem TS.keep{h:Mem}{B:X}{es:List CV}{i:Option Nat}(hT:TS h B es i)(o:Ob):TS (h++[o]) B es i:=by
 rcases hT with h1 | ⟨k,v,h1,h2,h3⟩
 ·exact .inl h1
 ·exact .inr ⟨k,v,h1,h2,by rw[Zr (Za.1 h3).1];exact h3⟩
theorem UX{L:Nat}{sl:Zf}:∀ {live:List Nat} {i:Nat},i∈live->Yy L (ZK live sl)=true->X.lt L (Zm sl i)=true
 | j::r,i,hi,h=>by
  simp only[ZK,List.map_cons,Yy,Bool.and_eq_true]at h;rcases List.mem_cons.1 hi with rfl | hi
  ·exact h.1
  ·exact UX (live:=r) hi h.2
theorem J4{h:Mem}{sl:Zf}{live:List Nat}{L q:Nat}{es:List CV}{i:Option Nat}(hq:q∈live)(hT:TS h (Zm sl q) es i)(hg:GM h):∃ h',clean (some live) L ⟨sl,h⟩=⟨ZK live sl,h'⟩/\TS h' (Zm sl q) es i/\GM h'/\∀ j t cs,j < L->h[j]?=some (.cells t cs)->h'[j]?=some (.cells t cs):=by
 simp only[clean,gc];cases hb:Nat.ble h.length L with
 | true=>exact⟨h,rfl,hT,hg,λ _ _ _ _ h=>h⟩
 | false=>
  cases hc:(Yy L (ZK live sl)&&ZL L (List.take L h)) with
  | false=>exact⟨h,rfl,hT,hg,λ _ _ _ _ h=>h⟩
  | true=>
   rw[Bool.and_eq_true]at hc;refine⟨h.take L,rfl,?_,λ o ho=>hg o (List.mem_of_mem_take ho),λ j t cs hj h=>by rw[List.getElem?_take_of_lt hj];exact h⟩
   rcases hT with h1 | ⟨k,v,h1,h2,h3⟩
   ·exact .inl h1
   ·refine .inr ⟨k,v,h1,h2,?_⟩;have:=UX hq hc.1
    rw[h2]at this;simp only[X.lt,X.ids,ZM,Bool.and_true]at this;have:=Zg this
    rw[List.getElem?_take_of_lt (by omega)];exact h3
theorem st8{k:Int}(h0:1<=k)(h1:k<=8):∃ w:By,w.length<=20/\YA (.c (.int .i64 k))=some k.toNat/\w168[k.toNat]?=some w/\k.toNat < 9:=by
 have:k=1\/k=2\/k=3\/k=4\/k=5\/k=6\/k=7\/k=8:=by omega
 rcases this with rfl | rfl | rfl | rfl | rfl | rfl | rfl | rfl<;>exact⟨_,by decide,rfl,rfl,by decide⟩
def Id(s:Sg):Prop:=1<=s.kind/\s.kind<=8/\(s.kind<=3->s.text.length<=200)/\s.ms.length<=16/\(∀ m∈s.ms,1<=m.kind/\m.kind<=4/\m.name.length<=60/\m.value.length<=200)/\s.names.length<=16/\∀ n∈s.names,n.length<=60
theorem VA(h:Mem)(f:Bool)(L:List By):ZO h false 1 (.c (.sl f (L.map CV.str)))=some (L.map CV.str):=by
 simp only[ZO,YK,cond_true]
theorem Gr{P:By->Prop}{A B:List By}(h1:∀ s∈A,P s)(h2:∀ s∈B,P s):∀ s∈A++B,P s:=λ s hs=>(List.mem_append.1 hs).elim (h1 s) (h2 s)
theorem Zhv(st:List Sg)(hl:st.length<=100)(hm:∀ s∈st,Id s):GS p 126 [.sl false (st.map Sg.cv)] 10000000:=by
 have h168:=λ h=>Zhj (p:=p) (h:=h)
 have h168':(Zo p).call 168 [] []=some (_,[]):=X0 (vs:=[]) h168
 refine UT Has.h126 ⟨st.length+1,Z6 _ rfl ?_⟩;simp only[List.map_cons,List.map_nil];obtain⟨ml,hml⟩:∃ ml,ml=st.map Sg.cv:=⟨_,rfl⟩;have hmll:ml.length=st.length:=by rw[hml];simp
 rw[<- hml,<- hmll];show W _ _ NW _ _ _ _;simp[NW];obtain⟨I,hI⟩:∃ I:Nat->Zf->Mem->Prop,I=λ i sl h=>∃ (L:List By) (i1:Option Nat),L.length=i/\(∀ s∈L,s.length<=90000)/\Zm sl 0=.c (.sl false ml)/\Zm sl 4=.c (.int .i64 i)/\TS h (Zm sl 3) (L.map CV.str) i1/\GM h:=⟨_,rfl⟩
 refine ZU I ml.length (by omega) (by rw[hI];exact⟨[],none,rfl,by simp,by simp,by simp,.inl ⟨by simp,rfl⟩,λ o ho=>by cases ho⟩) ?_
 intro i sl h hi hi2;rw[hI]at hi2;obtain⟨L,i1,hLi,hLs,h0,h4,hT0,hg0⟩:=hi2;obtain⟨h',hcl,hT,hg,-⟩:=J4 (live:=[0,3,4]) (L:=0) (q:=3) (by simp) hT0 hg0
 simp only[List.length_nil];clear hT0 hg0;obtain⟨B,hB⟩:∃ B,Zm sl 3=B:=⟨_,rfl⟩;rw[hB]at hT;rcases Zl i ml.length with hlt | hge
 ·have hw:IntKind.i64.wrap ((i:Int)+1)=(i:Int)+1:=ZA (by omega) (by omega)
  obtain⟨⟨k,tx,ms,na⟩,hmem,hx⟩:∃ m,m∈st/\ml[i]=m.cv:=⟨st[i],Zh _,by simp[hml]⟩
  obtain⟨hk0,hk1,htx,hms,hmv,hna,hnv⟩:=hm _ hmem;simp only at hk0 hk1 htx hms hmv hna hnv;simp only[Sg.cv,cI]at hx;obtain⟨op,hopl,hnat,hop,hk7⟩:=st8 hk0 hk1;obtain⟨ML,hML,hMB,h125⟩:=Zbr (p:=p) ms hms hmv;simp only[List.map_cons,List.map_nil]at h125;have h125':=YZ h125
  have hnew:∀ t:By,t.length<=90000->∀ s∈L++[t],s.length<=90000:=by
   intro t ht s hs;rcases List.mem_append.1 hs with hs | hs
   ·exact hLs s hs
   ·rw[ZF.1 hs];exact ht
  simp[hcl,h0,h4,hB,hlt];refine Yt λ C hC=>?_
  simp[h168,h168',hlt,hx,hnat,hop];refine⟨hC _ rfl,hg.hasF,hg.same,?_⟩;by_cases hk3:k<=3
  ·obtain⟨q,hq,h129⟩:=FE (p:=p) tx (by have:=htx hk3;omega)
   simp only[List.map_cons,List.map_nil]at h129;have:=htx hk3
   obtain⟨Y,h1,j1,happ,hY,hg1,-,hkp⟩:=TS.app (h:=h') (B:=.c (.sl true [.str op])) (es:=[.str op]) (.inl ⟨rfl,rfl⟩) rfl [.str q] (by simp) hg
   obtain⟨hT1,hd1⟩:=hkp _ _ _ hT (by cases i1<;>simp)
   obtain⟨X1,hX1,hX1l,hX1b⟩:∃ X1:List By,[CV.str op]++[CV.str q]=X1.map CV.str/\X1.length<=2/\∀ s∈X1,s.length<=2000:=⟨[op,q],rfl,by simp,by intro s hs;simp at hs;rcases hs with rfl | rfl<;>omega⟩
   rw[hX1]at hY;simp[hk3,hlt,hx,h129,VA,happ,ZO];obtain⟨Y2,h2,j2,happ2,hY2,hg2,-,hkp2⟩:=hY.app (YK _) (ML.map CV.str) (by simp;omega) hg1
   obtain⟨hT2,hd2⟩:=hkp2 _ _ _ hT1 hd1;rw[<- List.map_append]at hY2;obtain⟨Y3,h3,j3,happ3,hY3,hg3,-,hkp3⟩:=hY2.app (YK _) (na.map CV.str) (by simp;omega) hg2
   obtain⟨hT3,hd3⟩:=hkp3 _ _ _ hT2 hd2;rw[<- List.map_append,List.append_assoc]at hY3;refine Yt λ C hC=>?_
   simp[hlt,hx,h125,h125',VA,happ2,happ3];refine⟨hC _ rfl,hg3.hasF,hg3.same,?_⟩;have hwk:=hY3.wk
   obtain⟨t,ht,h124⟩:=vN (p:=p) (X1++(ML++na)) 2000 (Gr hX1b (Gr hMB λ s hs=>by have:=hnv s hs;omega)) (by simp;omega)
   simp only[List.map_cons,List.map_nil]at h124;simp at ht;obtain⟨B4,h4',i4,happ4,hT4,hg4,-,-⟩:=hT3.app (YK _) [.str t] (by simp;omega) hg3
   simp[hwk,h124,ZO,happ4,hw,Zn];first
    | (rw[hI];exact⟨L++[t],i4,by simp[hLi],hnew t (by omega),rfl,rfl,by rw[List.map_append];exact hT4,hg4⟩)
    | (refine⟨by omega,?_⟩;rw[hI];exact⟨L++[t],i4,by simp[hLi],hnew t (by omega),rfl,rfl,by rw[List.map_append];exact hT4,hg4⟩)
  ·obtain⟨Y,h1,j1,X1,hY,hX1,hg1,hT1,hd1,hX1l,hX1b,hYe,hh1⟩:∃ Y h1 j1 X1,TS h1 Y (X1.map CV.str) j1/\[CV.str op]=X1.map CV.str/\GM h1/\TS h1 B (L.map CV.str) i1/\(i1=none\/i1 ≠ j1)/\X1.length<=2/\(∀ s∈X1,s.length<=2000)/\X.c (.sl true [.str op])=Y/\h'=h1:=⟨_,h',none,[op],.inl ⟨rfl,rfl⟩,rfl,hg,hT,by cases i1<;>simp,by simp,by intro s hs;simp at hs;subst hs;omega,rfl,rfl⟩
   simp[hk3];rw[hYe,hh1];obtain⟨Y2,h2,j2,happ2,hY2,hg2,-,hkp2⟩:=hY.app (YK _) (ML.map CV.str) (by simp;omega) hg1
   obtain⟨hT2,hd2⟩:=hkp2 _ _ _ hT1 hd1;rw[<- List.map_append]at hY2;obtain⟨Y3,h3,j3,happ3,hY3,hg3,-,hkp3⟩:=hY2.app (YK _) (na.map CV.str) (by simp;omega) hg2
   obtain⟨hT3,hd3⟩:=hkp3 _ _ _ hT2 hd2;rw[<- List.map_append,List.append_assoc]at hY3;refine Yt λ C hC=>?_
   simp[hlt,hx,h125,h125',VA,happ2,happ3];refine⟨hC _ rfl,hg3.hasF,hg3.same,?_⟩;have hwk:=hY3.wk
   obtain⟨t,ht,h124⟩:=vN (p:=p) (X1++(ML++na)) 2000 (Gr hX1b (Gr hMB λ s hs=>by have:=hnv s hs;omega)) (by simp;omega)
   simp only[List.map_cons,List.map_nil]at h124;simp at ht;obtain⟨B4,h4',i4,happ4,hT4,hg4,-,-⟩:=hT3.app (YK _) [.str t] (by simp;omega) hg3
   simp[hwk,h124,ZO,happ4,hw,Zn];first
    | (rw[hI];exact⟨L++[t],i4,by simp[hLi],hnew t (by omega),rfl,rfl,by rw[List.map_append];exact hT4,hg4⟩)
    | (refine⟨by omega,?_⟩;rw[hI];exact⟨L++[t],i4,by simp[hLi],hnew t (by omega),rfl,rfl,by rw[List.map_append];exact hT4,hg4⟩)
 ·obtain rfl:i=ml.length:=by omega
  obtain⟨t,ht,h124⟩:=vN (p:=p) L 90000 hLs (by omega)
  simp only[List.map_cons,List.map_nil]at h124;have hwk:=hT.wk
  simp[hcl,h0,h4,hB,hwk,h124];exact WB (.inr rfl) rfl rfl (by omega)
end
section
variable {p:Prg} [Has p] [HasPr p] {h:Mem}
attribute [-simp] X.wk List.map_append
attribute [local simp] un Gf Ge
theorem Zhu(k f ms ra of nu de na wi mt st pk pc pa te ar)(hna:na.length<=16)(hn:∀ s∈na,s.length<=60):GS p 128 [(Ex.mk k f ms ra of nu de na wi mt st (.mk pk pc pa) te ar).cv] 2000:=by
 have app:∀ w:By,∃ v,ZP [.cells 33 [X.c (.int .i64 k),X.c (.int .i64 f),X.c (.sl false (ms.map Mt.cv)),X.c (.int .i64 ra),X.c (.int .i64 of),X.c (.int .i64 nu),X.c (.int .i64 de),X.c (.sl false (na.map CV.str)),X.c (.bool wi),X.c (.int .i64 mt),X.c (.sl false (st.map Sg.cv)),X.c (.int .i64 pk),X.c (.sl false (pc.map Cd.cv)),X.c (.sl false (pa.map Pt.cv)),X.c (.str te),X.c (.sl false (ar.map Ex.cv))]] 9 1 16 (.c (.sl true [.str w])) (na.map CV.str)=some (v,[.cells 33 [X.c (.int .i64 k),X.c (.int .i64 f),X.c (.sl false (ms.map Mt.cv)),X.c (.int .i64 ra),X.c (.int .i64 of),X.c (.int .i64 nu),X.c (.int .i64 de),X.c (.sl false (na.map CV.str)),X.c (.bool wi),X.c (.int .i64 mt),X.c (.sl false (st.map Sg.cv)),X.c (.int .i64 pk),X.c (.sl false (pc.map Cd.cv)),X.c (.sl false (pa.map Pt.cv)),X.c (.str te),X.c (.sl false (ar.map Ex.cv))]])\/True:=λ w=>⟨.undef,.inr trivial⟩
 have hg:GM [.cells 33 [X.c (.int .i64 k),X.c (.int .i64 f),X.c (.sl false (ms.map Mt.cv)),X.c (.int .i64 ra),X.c (.int .i64 of),X.c (.int .i64 nu),X.c (.int .i64 de),X.c (.sl false (na.map CV.str)),X.c (.bool wi),X.c (.int .i64 mt),X.c (.sl false (st.map Sg.cv)),X.c (.int .i64 pk),X.c (.sl false (pc.map Cd.cv)),X.c (.sl false (pa.map Pt.cv)),X.c (.str te),X.c (.sl false (ar.map Ex.cv))]]:=λ o ho=>by rw[ZF.1 ho];exact .inl ⟨_,_,rfl⟩
 have key:∀ w:By,w.length<=10->∃ B1 h1 t,ZP [.cells 33 [X.c (.int .i64 k),X.c (.int .i64 f),X.c (.sl false (ms.map Mt.cv)),X.c (.int .i64 ra),X.c (.int .i64 of),X.c (.int .i64 nu),X.c (.int .i64 de),X.c (.sl false (na.map CV.str)),X.c (.bool wi),X.c (.int .i64 mt),X.c (.sl false (st.map Sg.cv)),X.c (.int .i64 pk),X.c (.sl false (pc.map Cd.cv)),X.c (.sl false (pa.map Pt.cv)),X.c (.str te),X.c (.sl false (ar.map Ex.cv))]] 9 1 16 (.c (.sl true [.str w])) (na.map CV.str)=some (B1,h1)/\B1.wk=.c (.sl false ((w::na).map CV.str))/\t.length<=2000/\∀ h,Zi (Zo p) h 124 [.c (.sl false ((w::na).map CV.str))]=some (.c (.str t),h):=by
  intro w hw;obtain⟨B1,h1,i1,e1,e2,-,-,-⟩:=TS.app (h:=[.cells 33 [X.c (.int .i64 k),X.c (.int .i64 f),X.c (.sl false (ms.map Mt.cv)),X.c (.int .i64 ra),X.c (.int .i64 of),X.c (.int .i64 nu),X.c (.int .i64 de),X.c (.sl false (na.map CV.str)),X.c (.bool wi),X.c (.int .i64 mt),X.c (.sl false (st.map Sg.cv)),X.c (.int .i64 pk),X.c (.sl false (pc.map Cd.cv)),X.c (.sl false (pa.map Pt.cv)),X.c (.str te),X.c (.sl false (ar.map Ex.cv))]]) (B:=.c (.sl true [.str w])) (es:=[.str w]) (.inl ⟨rfl,rfl⟩) rfl (na.map CV.str) (by simp;omega) hg
  obtain⟨t,ht,h124⟩:=vN (p:=p) (w::na) 60 (by intro s hs;rcases List.mem_cons.1 hs with rfl | hs;omega;exact hn s hs) (by simp;omega)
  exact⟨B1,h1,t,e1,e2.wk,by simp at ht;omega,h124⟩
 refine UT Has.h128 ⟨1,Z6 _ rfl ?_⟩;simp only[List.map_cons,List.map_nil,Ex.cv_mk];show W _ _ FV _ _ _ _;cases wi with
 | true=>
  obtain⟨B1,h1,t,e1,e2,ht,h124⟩:=key [119,105,116,104,111,117,116] (by decide)
  simp only[List.map_cons]at e2 h124;simp[FV,VA,e1,e2,h124];exact WB (.inr rfl) rfl rfl ht
 | false=>
  obtain⟨B1,h1,t,e1,e2,ht,h124⟩:=key [98,121] (by decide)
  simp only[List.map_cons]at e2 h124;simp[FV,VA,e1,e2,h124];exact WB (.inr rfl) rfl rfl ht
theorem cdV{c:Cd}(h:WG c=0):1<=c.op/\c.op<=6/\c.field.length<=65/\c.text.length<=200:=by
 have hnm:∀ s:By,nm s=true->s.length<=60:=λ s h=>by simp only[nm,Bool.and_eq_true,decide_eq_true_eq]at h;exact h.1.2
 simp only[WG]at h;split at h
 ·rename_i hf;have hfl:c.field.length<=65:=by
   simp only[K9,Bool.or_eq_true,beq_iff_eq]at hf;rcases hf with e | e<;>rw[e]<;>decide
  split at h
  ·cases h
  ·split at h
   ·cases h
   ·rename_i h1 h2;have:c.text=[]:=Z0 λ q=>h2 q
    exact⟨by omega,by omega,hfl,by rw[this];decide⟩
 ·split at h
  ·rename_i hf;have hfl:c.field.length<=65:=by
    rw[Bool.or_eq_true]at hf;rcases hf with e | e
    ·have:=hnm _ (Gk e);omega
    ·simp only[Qr,Bool.and_eq_true]at e;have:=hnm _ e.2
     simp at this;omega
   split at h
   ·cases h
   ·split at h
    ·cases h
    ·refine⟨by omega,by omega,hfl,?_⟩
     split at h
     ·simp only[rx]at h;split at h
      ·cases h
      ·omega
     ·split at h
      ·cases h
      ·omega
  ·cases h
theorem op6{k:Int}(h0:1<=k)(h1:k<=6):∃ w:By,w.length<=2/\YA (.c (.int .i64 k))=some k.toNat/\w167[k.toNat]?=some w/\k.toNat < 7:=by
 have:k=1\/k=2\/k=3\/k=4\/k=5\/k=6:=by omega
 rcases this with rfl | rfl | rfl | rfl | rfl | rfl<;>exact⟨_,by decide,rfl,rfl,by decide⟩
theorem pt9{k:Int}(h0:1<=k)(h1:k<=9):∃ w:By,w.length<=20/\YA (.c (.int .i64 k))=some k.toNat/\w165[k.toNat]?=some w/\k.toNat < 10:=by
 have:k=1\/k=2\/k=3\/k=4\/k=5\/k=6\/k=7\/k=8\/k=9:=by omega
 rcases this with rfl | rfl | rfl | rfl | rfl | rfl | rfl | rfl | rfl<;>exact⟨_,by decide,rfl,rfl,by decide⟩
theorem DX{k:Int}{c:List Cd}{a:List Pt}(h:(Pt.mk k c a).ck=0):1<=k/\k<=9/\c.length<=16/\a.length<=2/\(∀ x∈c,WG x=0)/\∀ q∈a,q.ck=0:=by
 simp only[Pt.ck,Pt.cks_ferr]at h;split at h
 ·cases h
 ·split at h
  ·cases h
  ·split at h
   ·cases h
   ·split at h
    ·rename_i h1 h2 h3 h4;have ha:a.length=G8 k:=Z0 λ q=>h2 (.inr q)
     refine⟨by omega,by omega,by omega,?_,Vo h4,Vo h⟩
     rw[ha];simp only[G8];split<;>(try split)<;>omega
    ·rename_i h4;exact absurd h h4
end
section
variable {p:Prg} [Has p] [HasPr p] {h:Mem}
attribute [-simp] X.wk List.map_append
attribute [local simp] un Gf Ge Vq
theorem Pt.sz_mem:∀ {l:List Pt} {q:Pt},q∈l->q.sz<=Pt.szs l
 | p::r,q,hq=>by
  simp only[Pt.szs];rcases List.mem_cons.1 hq with rfl | hq
  ·omega
  ·have:=Pt.sz_mem hq;omega
theorem Pt.szs_take:∀ (l:List Pt) (i:Nat) (h:i < l.length),Pt.szs (l.take (i+1))=Pt.szs (l.take i)+l[i].sz
 | p::r,0,h=>by simp[Pt.szs]
 | p::r,i+1,h=>by
  have:=Pt.szs_take r i (by simpa using h)
  simp only[List.take_succ_cons,Pt.szs,this,List.getElem_cons_succ];omega
theorem Pt.szs_take_le:∀ (l:List Pt) (i:Nat),Pt.szs (l.take i)<=Pt.szs l
 | [],i=>by simp
 | p::r,0=>by simp[Pt.szs]
 | p::r,i+1=>by have:=Pt.szs_take_le r i;simp only[List.take_succ_cons,Pt.szs];omega
theorem Zhw(q:Pt):q.ck=0->q.sz<=100->GS p 123 [q.cv] (q.sz*50000):=by
 induction q using Pt.ind
 rename_i k c a ih;intro hck hsz;obtain⟨hk0,hk1,hcl,hal,hcs,has⟩:=DX hck;have hszs:Pt.szs a+1=(Pt.mk k c a).sz:=by simp only[Pt.sz];omega
 obtain⟨w,hwl,hnat,hw,hk10⟩:=pt9 hk0 hk1;have h165:=λ h=>Zhk (p:=p) (h:=h)
 have h165':(Zo p).call 165 [] []=some (_,[]):=X0 (vs:=[]) h165
 have h167:=λ h=>Zbc (p:=p) (h:=h)
 have h167':(Zo p).call 167 [] []=some (_,[]):=X0 (vs:=[]) h167
 refine UT Has.h123 ⟨c.length+a.length+2,Z6 _ rfl ?_⟩;simp only[List.map_cons,List.map_nil,Pt.cv_mk];obtain⟨cl,hcl'⟩:∃ cl,cl=c.map Cd.cv:=⟨_,rfl⟩;have hcll:cl.length=c.length:=by rw[hcl'];simp
 obtain⟨al,hal'⟩:∃ al,al=a.map Pt.cv:=⟨_,rfl⟩;have hall:al.length=a.length:=by rw[hal'];simp
 rw[<- hcl',<- hal',<- hcll,<- hall];obtain⟨o0,ho0⟩:∃ o0,o0=Ob.cells 30 [.c (.int .i64 k),.c (.sl false cl),.c (.sl false al)]:=⟨_,rfl⟩;show W _ _ NZ _ _ _ _;simp[NZ];refine Yt λ C hC=>?_
 simp[h165,h165',hnat,hw];refine⟨hC _ rfl,rfl,Yg _ _,?_⟩;obtain⟨I,hI⟩:∃ I:Nat->Zf->Mem->Prop,I=λ i sl h=>∃ (L:List By) (i1:Option Nat),L.length=i+1/\XJ L<=21+i*2001/\Zm sl 1=.ptr 0 0/\Zm sl 4=.c (.int .i64 i)/\TS h (Zm sl 3) (L.map CV.str) i1/\GM h/\h[0]?=some o0:=⟨_,rfl⟩
 refine ZU I cl.length (by omega) (by rw[hI];exact⟨[w],none,rfl,by simp[XJ];omega,by simp,by simp,.inl ⟨by simp,rfl⟩,λ o ho=>(by rw[ZF.1 ho];exact .inl ⟨_,_,rfl⟩),by rw[ho0];rfl⟩) ?_
 intro i sl h hi hi2;rw[hI]at hi2;obtain⟨L,i1,hLi,hLs,h0,h4,hT0,hg0,ho⟩:=hi2;obtain⟨h',hcln,hT,hg,hkp⟩:=J4 (live:=[1,3,4]) (L:=1) (q:=3) (by simp) hT0 hg0
 have ho':=hkp 0 30 _ (by omega) (by rw[ho,ho0])
 simp only[List.length_singleton];clear hT0 hg0 hkp ho;obtain⟨B,hB⟩:∃ B,Zm sl 3=B:=⟨_,rfl⟩;rw[hB]at hT;rcases Zl i cl.length with hlt | hge
 ·have hwi:IntKind.i64.wrap ((i:Int)+1)=(i:Int)+1:=ZA (by omega) (by omega)
  obtain⟨⟨fd,op,tx,nu⟩,hmem,hx⟩:∃ m,m∈c/\cl[i]=m.cv:=⟨c[i],Zh _,by simp[hcl']⟩
  obtain⟨hop0,hop1,hfd,htx⟩:=cdV (hcs _ hmem);simp only at hop0 hop1 hfd htx;simp only[Cd.cv,cI]at hx;obtain⟨qs,hqs,h129⟩:=FE (p:=p) tx (by omega)
  obtain⟨ds,hds,h127⟩:=Mv (p:=p) nu;have h166:=λ h=>Zbd (p:=p) (h:=h) fd
  simp only[List.map_cons,List.map_nil]at h129 h127;obtain⟨ow,howl,honat,how,ho7⟩:=op6 hop0 hop1;obtain⟨h2,hh2⟩:∃ h2,h2=h'++[Ob.cells 95 [.c (.str fd),.c (.int .i64 op),.c (.str tx),.c (.int .i64 nu)]]:=⟨_,rfl⟩;have hT2:TS h2 B (L.map CV.str) i1:=by rw[hh2];exact hT.keep _
  have hg2:GM h2:=by rw[hh2];exact hg.cells _ _
  have ho2:h2[0]?=some o0:=by
   rw[hh2,Zr (Za.1 ho').1,ho',ho0]
  have hm5:h2[h'.length]?=some (Ob.cells 95 [.c (.str fd),.c (.int .i64 op),.c (.str tx),.c (.int .i64 nu)]):=by rw[hh2];simp
  simp[hcln,h0,h4,hB,ho',hlt,hx,h129,h166];rw[<- hh2];have hv:∀ v:By,v.length<=402->∃ t B3 h3 i3,t.length<=2000/\(∀ h,Zi (Zo p) h 124 [.c (.sl false [.str ow,.str fd,.str v])]=some (.c (.str t),h))/\(Zo p).call 124 [.c (.sl false [.str ow,.str fd,.str v])] []=some (.c (.str t),[])/\ZP h2 9 1 16 B [.str t]=some (B3,h3)/\TS h3 B3 ((L++[t]).map CV.str) i3/\GM h3/\h3[0]?=some o0:=by
   intro v hv;obtain⟨t,ht,h124⟩:=vN (p:=p) [ow,fd,v] 402 (by intro s hs;simp at hs;rcases hs with rfl | rfl | rfl<;>omega) (by simp)
   simp only[List.map_cons,List.map_nil]at h124;obtain⟨B3,h3,i3,e1,e2,e3,e4,-⟩:=hT2.app (YK _) [.str t] (by simp;omega) hg2
   exact⟨t,B3,h3,i3,by simp at ht;omega,h124,YZ h124,e1,by rw[List.map_append];exact e2,e3,by rw[ho0]at ho2 ⊢;exact e4.2 _ _ _ ho2⟩
  obtain⟨t,B3,h3,i3,ht,h124,h124',happ,hT3,hg3,ho3⟩:=hv (if K9 fd=true then ds else qs) (by split<;>omega)
  cases hnf:K9 fd
  all_goals
   simp only[hnf,Bool.false_eq_true,if_true,if_false]at h124 h124';simp[hm5,h127];refine Yt λ C hC=>?_
   simp[h167,h167',hm5,honat,how,h124,h124',happ,ZO];refine⟨hC _ rfl,hg3.hasF,hg3.same,?_⟩;simp[hwi,Zn];first
    | (rw[hI];exact⟨L++[t],i3,by simp[hLi],by rw[Wk];simp[XJ];omega,rfl,rfl,hT3,hg3,ho3⟩)
    | (refine⟨by omega,?_⟩;rw[hI];exact⟨L++[t],i3,by simp[hLi],by rw[Wk];simp[XJ];omega,rfl,rfl,hT3,hg3,ho3⟩)
 ·obtain rfl:i=cl.length:=by omega
  simp[hcln,h0,h4,hB,ho'];obtain⟨J,hJ⟩:∃ J:Nat->Zf->Mem->Prop,J=λ i sl h=>∃ (L:List By) (i1:Option Nat),L.length<=20+i/\XJ L<=34000+Pt.szs (a.take i)*50000+i/\Zm sl 1=.ptr 0 0/\Zm sl 7=.c (.int .i64 i)/\TS h (Zm sl 3) (L.map CV.str) i1/\GM h/\h[0]?=some o0:=⟨_,rfl⟩
  refine ZU J al.length (by omega) (by rw[hJ];exact⟨L,i1,by omega,by simp[Pt.szs];omega,by simp,by simp,by simpa using hT,hg,by rw[ho',ho0]⟩) ?_
  intro i sl h hi hi2;rw[hJ]at hi2;obtain⟨L2,i2,hLi2,hLs2,g0,g4,hT0,hg0,ho2⟩:=hi2;obtain⟨h2,hcln2,hT2,hg2,hkp2⟩:=J4 (live:=[1,3,7]) (L:=h'.length) (q:=3) (by simp) hT0 hg0
  have hl0:0 < h'.length:=(Za.1 ho').1
  have ho2':=hkp2 0 30 _ hl0 (by rw[ho2,ho0])
  clear hT0 hg0 hkp2 ho2;obtain⟨B2,hB2⟩:∃ B,Zm sl 3=B:=⟨_,rfl⟩;rw[hB2]at hT2;rcases Zl i al.length with hlt | hge
  ·have hwi:IntKind.i64.wrap ((i:Int)+1)=(i:Int)+1:=ZA (by omega) (by omega)
   have hia:i < a.length:=by omega
   have hx:al[i]=a[i].cv:=by simp[hal']
   have hsm:=Pt.sz_mem (Zh hia)
   obtain⟨t,ht,h123⟩:=ih a[i] (Zh hia) (has _ (Zh hia)) (by omega)
   simp only[List.map_cons,List.map_nil]at h123;have hst:=Pt.szs_take a i hia
   have hstl:=Pt.szs_take_le a (i+1)
   obtain⟨k',c',a',hcc⟩:∃ k' c' a',a[i]=Pt.mk k' c' a':=by cases a[i];exact⟨_,_,_,rfl⟩
   rw[hcc,Pt.cv_mk]at hx h123;obtain⟨B3,h3,i3,happ,hT3,hg3,hk3,-⟩:=hT2.app (YK _) [.str t] (by simp;omega) hg2
   simp[hcln2,g0,g4,hB2,ho2',hlt,hx,h123,happ,ZO,hwi,Zn];have hfin:∀ sl,Zm sl 1=.ptr 0 0->Zm sl 7=.c (.int .i64 ((i:Int)+1))->Zm sl 3=B3->J (i+1) sl h3:=by
    intro sl e1 e7 e3;rw[hJ];refine⟨L2++[t],i3,by simp;omega,by rw[Wk,hst];simp[XJ];omega,e1,e7,by rw[e3,List.map_append];exact hT3,hg3,by rw[ho0];exact hk3.2 _ _ _ ho2'⟩
   first
    | exact hfin _ rfl rfl rfl
    | exact⟨by omega,hfin _ rfl rfl rfl⟩
  ·obtain rfl:i=al.length:=by omega
   rw[hall,List.take_length]at hLs2;obtain⟨t,ht,h124⟩:=Di (p:=p) L2 (by omega)
   simp only[List.map_cons,List.map_nil]at h124;have hwk:=hT2.wk
   simp[hcln2,g0,g4,hB2,ho2',hwk,h124];exact WB (.inr rfl) rfl rfl (by omega)
end
end Go.Proofs.YtmckcikeefggdaaGreatDoor
namespace Go.Pi
section
variable {e:Env} {N:Nat} {s:Zf} {h:Mem} {k:List Fk} {Q:Pi.Exit->Zf->Mem->Prop}
theorem XC{a b:PCode}{l:List Nat}(I:Zf->Mem->Prop)(h1:W e N a (ZK l s) h [] (λ x s' h'=>x=.normal/\I s' h'))(h2:∀ s' h',I s' h'->W e N b s' h' k Q):W e N (.live l (.seq a b)) s h k Q:=by
 obtain⟨x,s',h',h3,rfl,h4⟩:=h1;rw[ge,ug];exact⟨.normal,s',h',h3,h2 s' h' h4⟩
theorem qN{x:X}{a b c:PCode}(I:Zf->Mem->Prop)(h1:Wc e N x a b s h [] (λ x s' h'=>x=.normal/\I s' h'))(h2:∀ s' h',I s' h'->W e N c s' h' k Q):Wc e N x a b s h (.seq c::k) Q:=by
 have cut:∀ a,W e N a s h [] (λ x s' h'=>x=.normal/\I s' h')->W e N a s h (.seq c::k) Q:=by
  rintro a ⟨x,s',h',h3,rfl,h4⟩
  exact⟨.normal,s',h',h3,h2 s' h' h4⟩
 unfold Wc at h1 ⊢;split at h1
 ·exact cut _ h1
 ·exact cut _ h1
 ·exact h1.elim
end
end Go.Pi
namespace Go.Proofs.YtmckcikeefggdaaGreatDoor
open Go.Pi Go.Pi.S
theorem G7{s:By}(h:nm s=true):s.length<=60:=by simp only[nm,Bool.and_eq_true,decide_eq_true_eq]at h;exact h.1.2
def OI(m:Mt):Prop:=1<=m.kind/\m.kind<=4/\m.name.length<=60/\m.value.length<=200
theorem A7{s:By}(h:rx s=0):s.length<=200:=by
 simp only[rx]at h;split at h
 ·cases h
 ·omega
theorem Zgm{m:Mt}(h:vJ m=0):OI m:=by
 simp only[vJ]at h;split at h
 ·cases h
 ·split at h
  ·cases h
  ·rename_i h1 h2;have hn:nm m.name=true:=by simpa using h2
   refine⟨by omega,by omega,G7 hn,?_⟩
   split at h
   ·exact A7 h
   ·split at h
    ·cases h
    ·omega
theorem Dd{l:List Mt}(h:QY l=0):l.length<=16/\∀ m∈l,OI m:=by
 simp only[QY]at h;split at h
 ·cases h
 ·exact⟨by omega,λ m hm=>Zgm (Vo h m hm)⟩
theorem ZaF{g:By->Bool}:∀ {l:List By} {q:Option By},wY g q l=0->∀ s∈l,g s=true
 | x::r,q,h,s,hs=>by
  simp only[wY]at h;by_cases hg:g x=true
  ·rw[if_pos hg]at h;have h':wY g (some x) r=0:=by
    cases q with
    | none=>simpa using h
    | some q=>
     cases hb:Op.bytesLess q x with
     | true=>simpa [hb] using h
     | false=>simp[hb]at h
   rcases List.mem_cons.1 hs with rfl | hs
   ·exact hg
   ·exact ZaF h' s hs
  ·rw[if_neg hg]at h;exact absurd h (by decide)
theorem Dc{g:By->Bool}{l:List By}(h:Vk g l=0):l.length<=16/\∀ s∈l,g s=true:=by
 simp only[Vk]at h;split at h
 ·cases h
 ·exact⟨by omega,ZaF h⟩
theorem ZaE{s:Sg}(h:Jx s=0):Id s:=by
 simp only[Jx]at h;split at h
 ·cases h
 rename_i h1;split at h
 ·cases h
 rename_i h2;have e1:¬ s.kind=5->s.ms=[]:=λ q=>Z0 λ e=>h2 (.inr (.inr (.inr (.inl ⟨e,q⟩))))
 have e2:s.kind < 6->s.names=[]:=λ q=>Z0 λ e=>h2 (.inr (.inl ⟨e,q⟩))
 have hms:s.kind=5->QY s.ms=0:=λ q=>by simpa [q] using h
 have hna:6<=s.kind->Vk nm s.names=0:=λ q=>by
  have a:¬ s.kind<=2:=by omega
  have b:¬ s.kind=3:=by omega
  have c:¬ s.kind=5:=by omega
  simpa [a,b,c] using h
 refine⟨by omega,by omega,λ q=>?_,?_,?_,?_,?_⟩
 ·by_cases h3:s.kind<=2
  ·rw[if_pos h3]at h;split at h
   ·cases h
   ·omega
  ·rw[if_neg h3,if_pos (by omega)]at h
   exact A7 h
 ·by_cases q:s.kind=5
  ·exact(Dd (hms q)).1
  ·rw[e1 q];decide
 ·by_cases q:s.kind=5
  ·exact(Dd (hms q)).2
  ·rw[e1 q];intro m hm;cases hm
 ·by_cases q:s.kind < 6
  ·rw[e2 q];decide
  ·exact(Dc (hna (by omega))).1
 ·by_cases q:s.kind < 6
  ·rw[e2 q];intro m hm;cases hm
  ·exact λ n hn=>G7 ((Dc (hna (by omega))).2 n hn)
structure ExV(k f:Int)(ms:List Mt)(na:List By)(mt:Int)(st:List Sg)(pt:Pt)(te:By):Prop where
 k0:1<=k
 k1:k<=13
 fn:0 < nf k->1<=f/\f<=nf k
 ms0:QX k=true->ms.length<=16/\∀ m∈ms,OI m
 na0:na.length<=16
 na1:∀ n∈na,n.length<=60
 mt0:0<=mt/\mt<=2
 st0:st.length<=100
 st1:∀ s∈st,Id s
 pt0:Q7 k=true->pt.ck=0/\pt.sz<=100
 te0:QW k f=true->te.length<=60
theorem Fy{k f ms ra of nu de na wi mt st pk pc pa te ar}(h:QO (.mk k f ms ra of nu de na wi mt st (.mk pk pc pa) te ar)=0):ExV k f ms na mt st (.mk pk pc pa) te:=by
 obtain⟨k0,k1,hf,-⟩:=ji h;simp only[QO]at h;split at h
 ·cases h
 split at h
 ·cases h
 split at h
 ·cases h
 split at h
 ·rename_i hx;exact absurd h hx.2
 rename_i hms;split at h
 ·cases h
 split at h
 ·rename_i hx;exact absurd h hx.2
 split at h
 ·rename_i hx;exact absurd h hx
 rename_i hna;split at h
 ·cases h
 rename_i hmt;split at h
 ·rename_i hx;exact absurd h hx
 rename_i hst;split at h
 ·rename_i hx;exact absurd h hx.2
 rename_i hpt;have hna':De k na=0:=Z0 hna
 have hst':UR st=0:=Z0 hst
 have hgn:=Dc hna'
 have hg:∀ s∈na,s.length<=60:=λ s hs=>by
  have:=hgn.2 s hs
  split at this
  ·exact G7 (Gk this)
  ·exact G7 this
 have hs2:st.length<=100/\∀ s∈st,Id s:=by
  simp only[UR]at hst';split at hst'
  ·cases hst'
  ·exact⟨by omega,λ s hs=>ZaE (Vo hst' s hs)⟩
 refine⟨k0,k1,hf,λ q=>Dd (Z0 λ e=>hms ⟨q,e⟩),hgn.1,hg,by omega,hs2.1,hs2.2,λ q=>?_,λ q=>?_⟩
 ·have hc:(Pt.mk pk pc pa).chk=0:=Z0 λ e=>hpt ⟨q,e⟩
  simp only[Pt.chk]at hc;split at hc
  ·cases hc
  ·split at hc
   ·cases hc
   ·exact⟨hc,by omega⟩
 ·rw[if_pos q]at h;simp only[Db]at h;split at h
  ·split at h
   ·cases h
   ·omega
  ·split at h
   ·split at h
    ·rename_i hv;simp only[vw,Bool.and_eq_true,decide_eq_true_eq]at hv;exact hv.2
    ·cases h
   ·split at h
    ·rename_i hn;exact G7 hn
    ·cases h
theorem nf0{k:Int}(h:¬ 0 < nf k):JX k=[]:=by
 by_cases h2:k=2
 ·subst h2;exact absurd (by decide) h
 by_cases h3:k=3
 ·subst h3;exact absurd (by decide) h
 by_cases h6:k=6
 ·subst h6;exact absurd (by decide) h
 by_cases h7:k=7
 ·subst h7;exact absurd (by decide) h
 simp[JX,h2,h3,h6,h7]
theorem Cx{k f:Int}(h:0 < nf k)(h1:1<=f)(h2:f<=nf k):∃ w:By,w.length<=20/\YA (.c (.int .i64 f))=some f.toNat/\(JX k)[f.toNat]?=some w/\f.toNat < (JX k).length:=by
 have hn:YA (.c (.int .i64 f))=some f.toNat:=by
  have:0<=f:=by omega
  simp[YA,this]
 have hall:∀ w∈JX k,w.length<=20:=by
  intro w hw;simp only[JX]at hw;split at hw
  ·revert w;decide
  split at hw
  ·revert w;decide
  split at hw
  ·revert w;decide
  split at hw
  ·revert w;decide
  ·cases hw
 have hlen:f.toNat < (JX k).length:=by
  by_cases k2:k=2
  ·subst k2;have:nf 2=11:=rfl;rw[this]at h2;have:(JX 2).length=12:=rfl;omega
  by_cases k3:k=3
  ·subst k3;have:nf 3=3:=rfl;rw[this]at h2;have:(JX 3).length=4:=rfl;omega
  by_cases k6:k=6
  ·subst k6;have:nf 6=9:=rfl;rw[this]at h2;have:(JX 6).length=10:=rfl;omega
  by_cases k7:k=7
  ·subst k7;have:nf 7=10:=rfl;rw[this]at h2;have:(JX 7).length=11:=rfl;omega
  simp[nf,k2,k3,k6,k7]at h
 exact⟨(JX k)[f.toNat],hall _ (Zh _),hn,Zb hlen,hlen⟩
section
variable {p:Prg} [Has p] [HasPr p] {h:Mem}
attribute [-simp] X.wk List.map_append
attribute [local simp] un Gf Ge Vq
theorem Ex.sz_mem:∀ {l:List Ex} {q:Ex},q∈l->q.sz<=Ex.szs l
 | p::r,q,hq=>by
  simp only[Ex.szs];rcases List.mem_cons.1 hq with rfl | hq
  ·omega
  ·have:=Ex.sz_mem hq;omega
theorem Ex.szs_take:∀ (l:List Ex) (i:Nat) (h:i < l.length),Ex.szs (l.take (i+1))=Ex.szs (l.take i)+l[i].sz
 | p::r,0,h=>by simp[Ex.szs]
 | p::r,i+1,h=>by
  have:=Ex.szs_take r i (by simpa using h)
  simp only[List.take_succ_cons,Ex.szs,this,List.getElem_cons_succ];omega
theorem Ex.szs_take_le:∀ (l:List Ex) (i:Nat),Ex.szs (l.take i)<=Ex.szs l
 | [],i=>by simp
 | p::r,0=>by simp[Ex.szs]
 | p::r,i+1=>by have:=Ex.szs_take_le r i;simp only[List.take_succ_cons,Ex.szs];omega
theorem Zfc{k:Int}(h0:1<=k)(h1:k<=13):∃ w:By,w.length<=20/\YA (.c (.int .i64 k))=some k.toNat/\w119[k.toNat]?=some w/\k.toNat < 14:=by
 have:k=1\/k=2\/k=3\/k=4\/k=5\/k=6\/k=7\/k=8\/k=9\/k=10\/k=11\/k=12\/k=13:=by omega
 rcases this with rfl | rfl | rfl | rfl | rfl | rfl | rfl | rfl | rfl | rfl | rfl | rfl | rfl<;>exact⟨_,by decide,rfl,rfl,by decide⟩
theorem D3{k:Int}(h0:0<=k)(h1:k<=2):∃ w:By,w.length<=20/\YA (.c (.int .i64 k))=some k.toNat/\w122[k.toNat]?=some w/\k.toNat < 3:=by
 have:k=0\/k=1\/k=2:=by omega
 rcases this with rfl | rfl | rfl<;>exact⟨_,by decide,rfl,rfl,by decide⟩
def SS(o0 o1:List X)(b:Nat)(B:X)(h:Mem):Prop:=h[0]?=some (.cells 33 o0)/\h[1]?=some (.cells 157 o1)/\GM h/\∃ L i1,TS h B (L.map CV.str) i1/\XJ L<=b
def SI(o0 o1:List X)(b:Nat)(s:Zf)(h:Mem):Prop:=∃ B,Zm s 1=.ptr 0 0/\Zm s 3=.ptr 1 0/\Zm s 4=B/\SS o0 o1 b B h
def SJ(o0 o1:List X)(b:Nat)(s:Zf)(h:Mem):Prop:=∃ B,Zm s 1=.ptr 0 0/\Zm s 4=B/\SS o0 o1 b B h
theorem SS.mono{o0 o1:List X}{b b':Nat}{B:X}{h:Mem}(hS:SS o0 o1 b B h)(hb:b<=b'):SS o0 o1 b' B h:=by
 obtain⟨h1,h2,h3,L,i1,h4,h5⟩:=hS;exact⟨h1,h2,h3,L,i1,h4,by omega⟩
theorem SS.appl{o0 o1:List X}{b:Nat}{B:X}{h:Mem}(hS:SS o0 o1 b B h)(l:List By){b':Nat}(hl:b+XJ l<=b')(hb:b'<=4294967296):∃ B1 h1,ZP h 9 1 16 B (l.map CV.str)=some (B1,h1)/\SS o0 o1 b' B1 h1/\hasF h1=false/\Mem.same h1 h1=true:=by
 obtain⟨h1,h2,h3,L,i1,h4,h5⟩:=hS;have:=UU L
 have:=UU l
 obtain⟨B1,h',j1,e1,e2,e3,e4,-⟩:=h4.app (YK L) (l.map CV.str) (by simp;omega) h3
 exact⟨B1,h',e1,⟨e4.2 _ _ _ h1,e4.2 _ _ _ h2,e3,L++l,j1,by rw[List.map_append];exact e2,by rw[Wk];omega⟩,e3.hasF,e3.same⟩
theorem SS.app{o0 o1:List X}{b:Nat}{B:X}{h:Mem}(hS:SS o0 o1 b B h)(w:By){b':Nat}(hl:b+(w.length+1)<=b')(hb:b'<=4294967296):∃ B1 h1,ZP h 9 1 16 B [.str w]=some (B1,h1)/\SS o0 o1 b' B1 h1/\hasF h1=false/\Mem.same h1 h1=true:=hS.appl [w] (by simp[XJ];omega) hb
theorem c82(q:Ex):q.ck=0->q.sz<=100->GS p 82 [q.cv] (q.sz*20000000):=by
 induction q using Ex.ind
 rename_i k f ms ra of nu de na wi mt st pt te ar ih;obtain⟨pk,pc,pa⟩:=pt;intro hck hsz;obtain⟨-,hlen,hsub,hE⟩:=ck0 hck;have hsub':=hsub
 have hv:=Fy hE
 have hszs:Ex.szs ar+1<=(Ex.mk k f ms ra of nu de na wi mt st (.mk pk pc pa) te ar).sz:=by simp only[Ex.sz];omega
 obtain⟨w,hwl,hnat,hw,hk14⟩:=Zfc hv.k0 hv.k1;have h118:=λ h=>Mx (p:=p) (h:=h) k f ms ra of nu de na wi mt st pk pc pa te ar hv.k0 hv.k1 (λ q=>by have:=hv.fn (by rw[q];decide);rw[q]at this;exact this.2)
 have h119:=λ h=>Zhz (p:=p) (h:=h)
 have h119':(Zo p).call 119 [] []=some (_,[]):=X0 (vs:=[]) h119
 have h120:=λ h=>Mw (p:=p) (h:=h) k
 have h122:=λ h=>Zhx (p:=p) (h:=h)
 have h122':(Zo p).call 122 [] []=some (_,[]):=X0 (vs:=[]) h122
 refine UT Has.h82 ⟨ar.length+2,Z6 _ rfl ?_⟩;obtain⟨al,hal'⟩:∃ al,al=ar.map Ex.cv:=⟨_,rfl⟩;have hall:al.length=ar.length:=by rw[hal'];simp
 simp only[List.map_cons,List.map_nil];rw[Ex.cv_mk]at h118 ⊢;rw[<- hal']at h118 ⊢;rw[<- hall];obtain⟨o0,ho0⟩:∃ o0,o0=[X.c (.int .i64 k),X.c (.int .i64 f),X.c (.sl false (ms.map Mt.cv)),X.c (.int .i64 ra),X.c (.int .i64 of),X.c (.int .i64 nu),X.c (.int .i64 de),X.c (.sl false (na.map CV.str)),X.c (.bool wi),X.c (.int .i64 mt),X.c (.sl false (st.map Sg.cv)),X.c (.int .i64 pk),X.c (.sl false (pc.map Cd.cv)),X.c (.sl false (pa.map Pt.cv)),X.c (.str te),X.c (.sl false al)]:=⟨_,rfl⟩;obtain⟨o1,ho1⟩:∃ o1,o1=[X.c (.bool (QX k)),X.c (.bool (QJ k)),X.c (.bool (Q7 k)),X.c (.bool (QI k)),X.c (.bool (JE k f)),X.c (.bool (JV k)),X.c (.bool (Kh k)),X.c (.bool (JW k)),X.c (.bool (QW k f)),X.c (.int .i64 (nA k))]:=⟨_,rfl⟩;show W _ _ b82 _ _ _ _;simp[b82,h118];refine Yt λ C hC=>?_
 simp[h119,h119',hnat,hw];refine⟨hC _ rfl,rfl,by simp[Mem.same,Ze],?_⟩
 obtain⟨h,hh⟩:∃ h,h=[Ob.cells 33 o0,Ob.cells 157 o1]:=⟨_,rfl⟩;have hS:SS o0 o1 21 (.c (.sl true [.str w])) h:=⟨by rw[hh];rfl,by rw[hh];rfl,by
  rw[hh];intro o ho;rcases List.mem_cons.1 ho with rfl | ho
  ·exact .inl ⟨_,_,rfl⟩
  ·rw[ZF.1 ho];exact .inl ⟨_,_,rfl⟩,[w],none,.inl ⟨rfl,rfl⟩,by simp[XJ];omega⟩
 rw[<- ho0,<- ho1,<- hh];clear hh hnat hw h118 h119 h119' hsub;obtain⟨B,hBe⟩:∃ B,X.c (.sl true [.str w])=B:=⟨_,rfl⟩;rw[hBe]at hS ⊢;clear hBe;have e0:h[0]?=some (.cells 33 _):=ho0 ▸ hS.1
 have e1:h[1]?=some (.cells 157 _):=ho1 ▸ hS.2.1
 have post:∀ {b B s h},SS o0 o1 b B h->Zm s 1=.ptr 0 0->Zm s 3=.ptr 1 0->Zm s 4=B->SI o0 o1 b s h:=λ hS e1 e3 e4=>⟨_,e1,e3,e4,hS⟩
 simp[h120];refine qN (SI o0 o1 42) ?_ ?_
 ·by_cases hf:0 < nf k
  ·obtain⟨hf0,hf1⟩:=hv.fn hf;obtain⟨w1,hw1l,hw1n,hw1,hw1k⟩:=Cx hf hf0 hf1;obtain⟨B1,h1,ap,hS1,-,-⟩:=hS.app w1 (b':=42) (by omega) (by omega)
   have hpos:0 < (JX k).length:=by omega
   simp[hpos,e0,hw1n,hw1,ap,ZO];exact post hS1 rfl rfl rfl
  ·have hn:=nf0 hf
   simp[hn];exact post (hS.mono (by omega)) rfl rfl rfl
 clear hS e0 e1 B h
 rintro s h ⟨B,s1,s3,s4,hS⟩
 have e0:h[0]?=some (.cells 33 _):=ho0 ▸ hS.1
 have e1:h[1]?=some (.cells 157 _):=ho1 ▸ hS.2.1
 obtain⟨w1,hw1l,h121⟩:=Zbs (p:=p) nu de;simp only[List.map_cons,List.map_nil]at h121;refine XC (SI o0 o1 103) ?_ ?_
 ·simp[s1,s3,s4,e0,e1];cases hf:JE k f
  ·simp[hf];exact post (hS.mono (by omega)) rfl rfl rfl
  ·obtain⟨B1,h1,ap,hS1,-,-⟩:=hS.app w1 (b':=103) (by omega) (by omega)
   simp[hf,e0,h121,ap,ZO];exact post hS1 rfl rfl rfl
 clear hS e0 e1 B h s1 s3 s4 s
 rintro s h ⟨B,s1,s3,s4,hS⟩
 have e0:h[0]?=some (.cells 33 _):=ho0 ▸ hS.1
 have e1:h[1]?=some (.cells 157 _):=ho1 ▸ hS.2.1
 refine XC (SI o0 o1 164) ?_ ?_
 ·simp[s1,s3,s4,e0,e1];cases hf:QW k f
  ·simp[hf];exact post (hS.mono (by omega)) rfl rfl rfl
  ·have htl:=hv.te0 hf
   simp[e0,e1];cases h5:(k != 5)
   ·simp;exact post (hS.mono (by omega)) rfl rfl rfl
   ·obtain⟨B1,h1,ap,hS1,-,-⟩:=hS.app te (b':=164) (by omega) (by omega)
    simp[e0,ap,ZO];exact post hS1 rfl rfl rfl
 clear hS e0 e1 B h s1 s3 s4 s
 rintro s h ⟨B,s1,s3,s4,hS⟩
 have e0:h[0]?=some (.cells 33 _):=ho0 ▸ hS.1
 have e1:h[1]?=some (.cells 157 _):=ho1 ▸ hS.2.1
 obtain⟨w2,hw2l,hw2n,hw2,-⟩:=D3 hv.mt0.1 hv.mt0.2;refine XC (SI o0 o1 185) ?_ ?_
 ·simp[s1,s3,s4,e0,e1];cases hf:JW k
  ·simp[hf];exact post (hS.mono (by omega)) rfl rfl rfl
  ·obtain⟨B1,h1,ap,hS1,hf1,hm1⟩:=hS.app w2 (b':=185) (by omega) (by omega)
   simp only[QR];refine Yt λ C hC=>?_
   simp[h122,h122',e0,hw2n,hw2,ap,ZO];exact⟨hC _ rfl,hf1,hm1,post hS1 rfl rfl rfl⟩
 clear hS e0 e1 B h s1 s3 s4 s
 rintro s h ⟨B,s1,s3,s4,hS⟩
 have e0:h[0]?=some (.cells 33 _):=ho0 ▸ hS.1
 have e1:h[1]?=some (.cells 157 _):=ho1 ▸ hS.2.1
 refine XC (SI o0 o1 5000200) ?_ ?_
 ·simp[s1,s3,s4,e0,e1];cases hf:Q7 k
  ·simp[hf];exact post (hS.mono (by omega)) rfl rfl rfl
  ·obtain⟨hp1,hp2⟩:=hv.pt0 hf;obtain⟨w3,hw3l,h123⟩:=Zhw (p:=p) _ hp1 hp2;simp only[List.map_cons,List.map_nil,Pt.cv_mk]at h123;obtain⟨B1,h1,ap,hS1,-,-⟩:=hS.app w3 (b':=5000200) (by omega) (by omega)
   simp[hf,e0,h123,ap,ZO];exact post hS1 rfl rfl rfl
 clear hS e0 e1 B h s1 s3 s4 s
 rintro s h ⟨B,s1,s3,s4,hS⟩
 have e0:h[0]?=some (.cells 33 _):=ho0 ▸ hS.1
 have e1:h[1]?=some (.cells 157 _):=ho1 ▸ hS.2.1
 refine XC (SI o0 o1 5040200) ?_ ?_
 ·simp[s1,s3,s4,e0,e1];cases hf:QX k
  ·simp[hf];exact post (hS.mono (by omega)) rfl rfl rfl
  ·obtain⟨hm1,hm2⟩:=hv.ms0 hf;obtain⟨ML,hML,hMB,h125⟩:=Zbr (p:=p) ms hm1 hm2;obtain⟨w4,hw4l,h124⟩:=vN (p:=p) ML 2000 hMB (by omega)
   simp only[List.map_cons,List.map_nil]at h125 h124;obtain⟨B1,h1,ap,hS1,-,-⟩:=hS.app w4 (b':=5040200) (by omega) (by omega)
   simp[hf,e0,h125,h124,ap,ZO];exact post hS1 rfl rfl rfl
 clear hS e0 e1 B h s1 s3 s4 s
 rintro s h ⟨B,s1,s3,s4,hS⟩
 have e0:h[0]?=some (.cells 33 _):=ho0 ▸ hS.1
 have e1:h[1]?=some (.cells 157 _):=ho1 ▸ hS.2.1
 obtain⟨w5,hw5l,h126⟩:=Zhv (p:=p) st hv.st0 hv.st1;simp only[List.map_cons,List.map_nil]at h126;refine XC (SI o0 o1 15040300) ?_ ?_
 ·simp[s1,s3,s4,e0,e1];cases hf:QJ k
  ·simp[hf];exact post (hS.mono (by omega)) rfl rfl rfl
  ·obtain⟨B1,h1,ap,hS1,-,-⟩:=hS.app w5 (b':=15040300) (by omega) (by omega)
   simp[hf,e0,h126,ap,ZO];exact post hS1 rfl rfl rfl
 clear hS e0 e1 B h s1 s3 s4 s
 rintro s h ⟨B,s1,s3,s4,hS⟩
 have e0:h[0]?=some (.cells 33 _):=ho0 ▸ hS.1
 have e1:h[1]?=some (.cells 157 _):=ho1 ▸ hS.2.1
 obtain⟨w6,hw6l,h127⟩:=Mv (p:=p) ra;obtain⟨w7,hw7l,h127b⟩:=Mv (p:=p) of;simp only[List.map_cons,List.map_nil]at h127 h127b;have h127':=YZ h127
 have h127b':=YZ h127b
 refine XC (SI o0 o1 15040500) ?_ ?_
 ·simp[s1,s3,s4,e0,e1];cases hf:QI k
  ·simp[hf];exact post (hS.mono (by omega)) rfl rfl rfl
  ·obtain⟨B1,h1,ap,hS1,hf1,hm1⟩:=hS.appl [w6,w7] (b':=15040500) (by simp[XJ];omega) (by omega)
   simp only[List.map_cons,List.map_nil]at ap;simp only[QR];refine Yt λ C hC=>?_
   simp[h127,h127',h127b,h127b',e0,ap,ZO];exact⟨hC _ rfl,hf1,hm1,post hS1 rfl rfl rfl⟩
 clear hS e0 e1 B h s1 s3 s4 s
 rintro s h ⟨B,s1,s3,s4,hS⟩
 have e0:h[0]?=some (.cells 33 _):=ho0 ▸ hS.1
 have e1:h[1]?=some (.cells 157 _):=ho1 ▸ hS.2.1
 obtain⟨w8,hw8l,h128⟩:=Zhu (p:=p) k f ms ra of nu de na wi mt st pk pc pa te ar hv.na0 hv.na1;simp only[List.map_cons,List.map_nil,Ex.cv_mk]at h128;rw[<- hal']at h128;refine XC (SI o0 o1 15042600) ?_ ?_
 ·simp[s1,s3,s4,e0,e1];cases hf:JV k
  ·simp[hf];exact post (hS.mono (by omega)) rfl rfl rfl
  ·obtain⟨B1,h1,ap,hS1,-,-⟩:=hS.app w8 (b':=15042600) (by omega) (by omega)
   simp[hf,e0,h128,ap,ZO];exact post hS1 rfl rfl rfl
 clear hS e0 e1 B h s1 s3 s4 s
 rintro s h ⟨B,s1,s3,s4,hS⟩
 have e0:h[0]?=some (.cells 33 _):=ho0 ▸ hS.1
 have postJ:∀ {b B s h},SS o0 o1 b B h->Zm s 1=.ptr 0 0->Zm s 4=B->SJ o0 o1 b s h:=λ hS e1 e4=>⟨_,e1,e4,hS⟩
 refine XC (SJ o0 o1 15042800) ?_ ?_
 ·simp[s1,s4,e0];cases hf:(k==5)
  ·simp[hf];exact postJ (hS.mono (by omega)) rfl rfl
  ·have hk5:k=5:=by simpa using hf
   have htl:=hv.te0 (by rw[hk5];simp[QW])
   obtain⟨w9,hw9l,h129⟩:=FE (p:=p) te (by omega)
   simp only[List.map_cons,List.map_nil]at h129;obtain⟨B1,h1,ap,hS1,-,-⟩:=hS.app w9 (b':=15042800) (by omega) (by omega)
   simp[hf,e0,h129,ap,ZO];exact postJ hS1 rfl rfl
 clear hS e0 B h s1 s3 s4 s
 rintro s h ⟨B,s1,s4,hS⟩
 have e0:h[0]?=some (.cells 33 _):=ho0 ▸ hS.1
 simp[s1,s4];have hl0:0 < h.length:=(Za.1 e0).1
 obtain⟨J,hJ⟩:∃ J:Nat->Zf->Mem->Prop,J=λ i sl h=>∃ (L:List By) (i1:Option Nat),XJ L<=15042800+Ex.szs (ar.take i)*20000000+i/\Zm sl 1=.ptr 0 0/\Zm sl 6=.c (.int .i64 i)/\TS h (Zm sl 4) (L.map CV.str) i1/\GM h/\h[0]?=some (.cells 33 o0):=⟨_,rfl⟩
 have hal2:ar.length<=2:=by
  have:nA k<=2:=by simp only[nA];split;omega;split<;>omega
  omega
 refine ZU J al.length (by omega) (by
  rw[hJ];obtain⟨g1,g2,g3,L,i1,g4,g5⟩:=hS;exact⟨L,i1,by simp[Ex.szs];omega,by simp,by simp,by simpa using g4,g3,g1⟩) ?_
 clear hS e0;intro i sl h2 hi hi2;rw[hJ]at hi2;obtain⟨L2,i2,hLs2,g0,g4,hT0,hg0,ho2⟩:=hi2;obtain⟨h3,hcln2,hT2,hg2,hkp2⟩:=J4 (live:=[1,4,6]) (L:=h.length) (q:=4) (by simp) hT0 hg0
 have ho2':=hkp2 0 33 _ hl0 ho2
 have e0:h3[0]?=some (.cells 33 _):=ho0 ▸ ho2'
 clear hT0 hg0 hkp2 ho2;obtain⟨B2,hB2⟩:∃ B,Zm sl 4=B:=⟨_,rfl⟩;rw[hB2]at hT2;have hwl:=UU L2
 have hstl:=Ex.szs_take_le ar i
 rcases Zl i al.length with hlt | hge
 ·have hwi:IntKind.i64.wrap ((i:Int)+1)=(i:Int)+1:=ZA (by omega) (by omega)
  have hia:i < ar.length:=by omega
  have hx:al[i]=ar[i].cv:=by simp[hal']
  have hsm:=Ex.sz_mem (Zh hia)
  obtain⟨t,ht,h82⟩:=ih ar[i] (Zh hia) (hsub' _ (Zh hia)) (by omega)
  simp only[List.map_cons,List.map_nil]at h82;have hst:=Ex.szs_take ar i hia
  have hstl2:=Ex.szs_take_le ar (i+1)
  obtain⟨k',f',ms',ra',of',nu',de',na',wi',mt',st',pk',pc',pa',te',ar',hcc⟩:=Ex.shape ar[i];rw[hcc,Ex.cv_mk]at hx h82;obtain⟨B3,h4,i3,happ,hT3,hg3,hk3,-⟩:=hT2.app (YK _) [.str t] (by simp;omega) hg2
  simp[hcln2,g0,g4,hB2,e0,hlt,hx,h82,happ,ZO,hwi,Zn];have hfin:∀ sl,Zm sl 1=.ptr 0 0->Zm sl 6=.c (.int .i64 ((i:Int)+1))->Zm sl 4=B3->J (i+1) sl h4:=by
   intro sl e1 e7 e3;rw[hJ];refine⟨L2++[t],i3,by rw[Wk,hst];simp[XJ];omega,e1,e7,by rw[e3,List.map_append];exact hT3,hg3,hk3.2 _ _ _ ho2'⟩
  first
   | exact hfin _ rfl rfl rfl
   | exact⟨by omega,hfin _ rfl rfl rfl⟩
 ·obtain rfl:i=al.length:=by omega
  rw[hall,List.take_length]at hLs2;obtain⟨t,ht,h124⟩:=Di (p:=p) L2 (by omega)
  simp only[List.map_cons,List.map_nil]at h124;have hwk:=hT2.wk
  simp[hcln2,g0,g4,hB2,e0,hwk,h124];exact WB (.inr rfl) rfl rfl (by omega)
theorem c43(q:Ex)(hok:q.ok)(h0:q.chk=0):∃ s:By,∀ h,Zi (Zo p) h 43 [.c q.cv]=some (.c (.tup [.str s,.int .i64 0]),h):=by
 obtain⟨hck,hsz,-⟩:=KG h0;obtain⟨s,-,h82⟩:=c82 (p:=p) q hck hsz;have h38:=λ h=>c38 (p:=p) (h:=h) q hok
 rw[h0]at h38;refine⟨s,λ h=>ZB Has.h43 ⟨1,Zk rfl ?_⟩⟩
 obtain⟨k,f,ms,ra,of,nu,de,na,wi,mt,st,pk,pc,pa,te,ar,rfl⟩:=Ex.shape q;simp only[List.map_cons,List.map_nil]at h82;rw[Ex.cv_mk]at h82 h38 ⊢;show W _ _ MJ _ _ _ _;simp[MJ,h38,h82];exact Xv (.inr rfl) rfl rfl rfl rfl rfl
theorem c20(q:Ex)(hok:q.ok)(h0:q.chk=0):Zi (Zo p) h 20 [.c q.cv,.c q.cv]=some (.c (.bool true),h):=by
 obtain⟨s,h43⟩:=c43 (p:=p) q hok h0;refine Ym Has.h20 ⟨1,Zk rfl ?_⟩;obtain⟨k,f,ms,ra,of,nu,de,na,wi,mt,st,pk,pc,pa,te,ar,rfl⟩:=Ex.shape q;rw[Ex.cv_mk]at h43 ⊢;show W _ _ b20 _ _ _ _;simp[b20,h43];exact Y0 (.inr rfl) rfl rfl rfl
end
section
variable {p:Prg} [Has p] [HasI p] {h:Mem}
theorem Gp{d d':IntKind}{a:Nat}{n:Nat}(hn:n<=64)(hd:d.bits=64):Pi.binOp .shr (.c (.int d (a:Int))) (.c (.int d' (n:Int)))=some (.int d ((a / 2 ^ n:Nat):Int)):=by
 have h1:decide ((n:Int) < 0)=false:=decide_eq_false (by omega)
 have h2:min ((n:Int).toNat) 64=n:=by simp;omega
 have h3:(a:Int).fdiv (2 ^ n)=((a / 2 ^ n:Nat):Int):=by
  have:((2:Int) ^ n)=((2 ^ n:Nat):Int):=by simp
  rw[this,Int.fdiv_eq_ediv_of_nonneg _ (Int.natCast_nonneg _)];rfl
 simp only[Pi.binOp,JH,hd,h1,h2,h3,cond_false]
theorem Ou:∀ x∈Sm1,x.toNat<=8:=by decide
theorem F8:Sm1.length=256:=by decide
theorem ZgK(u:Nat)(hu:u < 18446744073709551616):∃ d:Nat,d<=64/\∀ h,Zi (Zo p) h 218 [.c (.int .u64 u)]=some (.c (.int .i64 d),h):=by
 suffices hx:∃ v,(∃ d:Nat,d<=64/\v=.int .i64 d)/\∀ h,Zi (Zo p) h 218 ([.int .u64 u].map X.c)=some (.c v,h) by
  obtain⟨_,⟨d,hd,rfl⟩,h⟩:=hx;exact⟨d,hd,h⟩
 refine VN _ HasI.h218 ⟨1,Z6 _ rfl ?_⟩;simp only[List.map_cons,List.map_nil];show W _ _ M8 _ _ _ _;simp[M8];have s32:=Gp (d:=.u64) (d':=.u64) (a:=u) (n:=32) (by omega) rfl
 simp at s32;refine qN (λ s h=>h=[]/\∃ x n:Nat,Zm s 0=.c (.int .u64 x)/\Zm s 2=.c (.int .i64 n)/\x < 4294967296/\n<=32) ?_ ?_
 ·by_cases hc:4294967296<=(u:Int)
  ·simp[hc,s32];exact⟨u / 4294967296,by omega,32,rfl,by omega,by omega⟩
  ·simp[hc];exact⟨u,rfl,0,rfl,by omega,by omega⟩
 rintro s h ⟨rfl,x,n,h0,h2,hx,hn⟩
 have s16:=Gp (d:=.u64) (d':=.u64) (a:=x) (n:=16) (by omega) rfl
 simp at s16;refine XC (λ s h=>h=[]/\∃ x n:Nat,Zm s 0=.c (.int .u64 x)/\Zm s 2=.c (.int .i64 n)/\x < 65536/\n<=48) ?_ ?_
 ·simp[h0,h2];by_cases hc:65536<=(x:Int)
  ·have hw:IntKind.i64.wrap ((n:Int)+16)=((n+16:Nat):Int):=by rw[ZA (by omega) (by omega)];omega
   simp[hc,s16,hw,Zn];exact⟨x / 65536,by omega,n+16,by omega,by omega,by omega⟩
  ·simp[hc];exact⟨x,rfl,n,rfl,by omega,by omega⟩
 clear h0 h2 hx hn s16 x n s
 rintro s h ⟨rfl,x,n,h0,h2,hx,hn⟩
 have s8:=Gp (d:=.u64) (d':=.u64) (a:=x) (n:=8) (by omega) rfl
 simp at s8;refine XC (λ s h=>h=[]/\∃ x n:Nat,Zm s 0=.c (.int .u64 x)/\Zm s 2=.c (.int .i64 n)/\x < 256/\n<=56) ?_ ?_
 ·simp[h0,h2];by_cases hc:256<=(x:Int)
  ·have hw:IntKind.i64.wrap ((n:Int)+8)=((n+8:Nat):Int):=by rw[ZA (by omega) (by omega)];omega
   simp[hc,s8,hw,Zn];exact⟨x / 256,by omega,n+8,by omega,by omega,by omega⟩
  ·simp[hc];exact⟨x,rfl,n,rfl,by omega,by omega⟩
 clear h0 h2 hx hn s8 x n s
 rintro s h ⟨rfl,x,n,h0,h2,hx,hn⟩
 have hxl:x < Sm1.length:=by rw[F8];exact hx
 have hu8:IntKind.u8.wrap (x:Int)=(x:Int):=by simp[IntKind.wrap,IntKind.bits,IntKind.signed];omega
 have hg:Sm1[x]?=some Sm1[x]:=Zb hxl
 have h8:=Ou _ (Zh hxl)
 generalize Sm1[x]=b at hg h8;have hwb:IntKind.i64.wrap (b.toNat:Int)=(b.toNat:Int):=ZA (by omega) (by omega)
 have hwn:IntKind.i64.wrap ((n:Int)+(b.toNat:Int))=((n+b.toNat:Nat):Int):=by rw[ZA (by omega) (by omega)];omega
 simp[h0,h2,hu8,hg,hwb,hwn,Zn,Zt];exact⟨_,_,⟨_,rfl,rfl,n+b.toNat,by omega,rfl⟩,ZQ (.inr rfl) rfl rfl (by omega)⟩
theorem ZgL(d:Nat)(hd:d<=64):Zi (Zo p) h 217 [.c (.int .i64 d)]=some (.c (.int .i64 (d*78913 / 262144:Nat)),h):=by
 refine ZB HasI.h217 ⟨1,Zk rfl ?_⟩;have hw:IntKind.i64.wrap ((d:Int)*78913)=((d*78913:Nat):Int):=by rw[ZA (by omega) (by omega)];omega
 have hs:=Gp (d:=.i64) (d':=.u64) (a:=d*78913) (n:=18) (by omega) rfl
 simp at hs;show W _ _ M9 _ _ _ _;simp[M9,hw,Zn,hs];exact ZQ (.inr rfl) rfl rfl (by omega)
theorem ZgJ(b:Bool):Zi (Zo p) h 219 [.c (.bool b)]=some (.c (.int .i64 (if b then 1 else 0)),h):=by
 refine ZB HasI.h219 ⟨1,Zk rfl ?_⟩;show W _ _ FT _ _ _ _;cases b
 ·simp[FT];exact ZQ (.inr rfl) rfl rfl rfl
 ·simp[FT];exact ZQ (.inr rfl) rfl rfl rfl
class HasG(p:Prg):Prop where
 g5:∃ l:List Nat,l.length=20/\p.glob 5=some (l.map λ n=>CV.int .u64 (n:Nat))
theorem ZgS[HasG p](u:Nat)(hu:u < 18446744073709551616):∃ n:Nat,n<=20/\∀ h,Zi (Zo p) h 206 [.c (.int .u64 u)]=some (.c (.int .i64 n),h):=by
 suffices hx:∃ v,(∃ d:Nat,d<=20/\v=.int .i64 d)/\∀ h,Zi (Zo p) h 206 ([.int .u64 u].map X.c)=some (.c v,h) by
  obtain⟨_,⟨d,hd,rfl⟩,h⟩:=hx;exact⟨d,hd,h⟩
 obtain⟨d,hd,h218⟩:=ZgK (p:=p) u hu;have h217:=λ h=>ZgL (p:=p) (h:=h) d hd
 obtain⟨l,hl,hg⟩:=HasG.g5 (p:=p);have hgl:(Zo p).glob 5=some (l.map λ n=>CV.int .u64 (n:Nat)):=hg
 obtain⟨q,hq⟩:∃ q,q=d*78913 / 262144:=⟨_,rfl⟩;have hq19:q<=19:=by omega
 rw[<- hq]at h217;have h219:=λ b h=>ZgJ (p:=p) (h:=h) b
 refine VN _ HasI.h206 ⟨1,Z6 _ rfl ?_⟩;simp only[List.map_cons,List.map_nil];show W _ _ Nf _ _ _ _;have hql:q < l.length:=by omega
 obtain⟨y,r,hdr⟩:∃ (y:Nat) (r:List CV),(l.map λ n=>CV.int .u64 (n:Nat)).drop q=.int .u64 (y:Int)::r:=⟨l[q],(l.map λ n=>CV.int .u64 (n:Nat)).drop (q+1),by
  rw[Zs (by simpa using hql)];simp⟩
 simp[Nf,h218,h217,hgl,hq19,hdr,h219,Zn];have hfin:∀ z:Nat,z<=1->∃ d:Nat,d<=20/\IntKind.i64.wrap ((q:Int)+(z:Int))=(d:Int):=λ z hz=>⟨q+z,by omega,by rw[ZA (by omega) (by omega)];omega⟩
 by_cases hc:y<=u
 ·obtain⟨d,hd,hw⟩:=hfin 1 (by omega)
  simp at hw;simp[hc,hw];exact⟨_,_,⟨_,rfl,rfl,d,hd,rfl⟩,ZQ (.inr rfl) rfl rfl rfl⟩
 ·obtain⟨d,hd,hw⟩:=hfin 0 (by omega)
  simp at hw;simp[hc,hw];exact⟨_,_,⟨_,rfl,rfl,d,hd,rfl⟩,ZQ (.inr rfl) rfl rfl rfl⟩
theorem zg:Sm0.length=200:=by decide
theorem y5{n a b:Nat}(h1:a<=b)(h2:b<=n)(x y:Int)(hx:x=a)(hy:y=b)(k k':IntKind):Xu n (some (.c (.int k x))) (some (.c (.int k' y)))=some (a,b):=by
 subst hx hy;simp[Xu,X2,YA,UK,h1,h2]
theorem ZgT(i:Nat)(hi:i < 100):∃ s:By,s.length<=2/\∀ h,Zi (Zo p) h 205 [.c (.int .i64 i)]=some (.c (.str s),h):=by
 suffices hx:∃ v,(∃ s:By,s.length<=2/\v=.str s)/\∀ h,Zi (Zo p) h 205 ([.int .i64 i].map X.c)=some (.c v,h) by
  obtain⟨_,⟨d,hd,rfl⟩,h⟩:=hx;exact⟨d,hd,h⟩
 refine VN _ HasI.h205 ⟨1,Z6 _ rfl ?_⟩;simp only[List.map_cons,List.map_nil];show W _ _ FU _ _ _ _;by_cases hc:i < 10
 ·have hc':(i:Int) < 10:=by omega
  have hw:IntKind.i64.wrap ((i:Int)+1)=(i:Int)+1:=ZA (by omega) (by omega)
  have hb:=y5 (n:=36) (a:=i) (b:=i+1) (by omega) (by omega) i ((i:Int)+1) rfl (by omega) .i64 .i64
  simp[FU,hc,hc',hw,Zn,hb];exact⟨_,_,⟨_,rfl,rfl,_,by simp;omega,rfl⟩,Je (.inr rfl) rfl rfl rfl⟩
 ·have hc':¬ (i:Int) < 10:=by omega
  have hw:IntKind.i64.wrap ((i:Int)*2)=(i:Int)*2:=ZA (by omega) (by omega)
  have hw2:IntKind.i64.wrap ((i:Int)*2+2)=(i:Int)*2+2:=ZA (by omega) (by omega)
  have hb:=y5 (n:=200) (a:=i*2) (b:=i*2+2) (by omega) (by omega) ((i:Int)*2) ((i:Int)*2+2) (by omega) (by omega) .i64 .i64
  simp[FU,hc,hc',hw,hw2,Zn,hb,zg];exact⟨_,_,⟨_,rfl,rfl,_,by simp;omega,rfl⟩,Je (.inr rfl) rfl rfl rfl⟩
end
section
variable {p:Prg} [Has p] [HasI p] {h:Mem}
theorem D9(b:UInt8):(X.c (Zt b)).cells=some [X.c (Zt b)]:=rfl
attribute [-simp] X.cells
attribute [local simp] D9 AP
def bx(l:List UInt8):List X:=l.map λ b=>X.c (Zt b)
theorem V5(l:List UInt8):(bx l).length=l.length:=by simp[bx]
theorem UJ(l:List UInt8)(k:Nat)(b:UInt8):(bx l).set k (X.c (Zt b))=bx (l.set k b):=by simp[bx,List.map_set]
theorem vR(l:List UInt8):X.ids.idsL 6 (bx l)=some []:=by
 induction l with
 | nil=>rfl
 | cons b r ih=>simp only[bx,List.map_cons,QG]at ih ⊢;exact ih
abbrev ob(l:List UInt8):Ob:=.cells 229 (bx l)
theorem Bd{d:IntKind}{x m:Nat}(hm:m ≠ 0)(hw:d.wrap ((x / m:Nat):Int)=((x / m:Nat):Int)):Pi.binOp .quo (.c (.int d (x:Int))) (.c (.int d (m:Int)))=some (.int d ((x / m:Nat):Int)):=by
 rw[ga (by omega),Int.tdiv_eq_ediv_of_nonneg (Int.natCast_nonneg _)]
 have:(x:Int) / (m:Int)=((x / m:Nat):Int):=rfl
 rw[this,Zn,hw]
theorem Bc{d:IntKind}{x m:Nat}(hm:m ≠ 0):Pi.binOp .rem (.c (.int d (x:Int))) (.c (.int d (m:Int)))=some (.int d ((x % m:Nat):Int)):=by
 rw[Gq (by omega),GA]
theorem Hg{x:Nat}(h:x < 4294967296):IntKind.u32.wrap (x:Int)=x:=by simp[IntKind.wrap,IntKind.bits,IntKind.signed];omega
theorem ZcO{x:Nat}(h:x < 18446744073709551616):IntKind.u64.wrap (x:Int)=x:=by simp[IntKind.wrap,IntKind.bits,IntKind.signed];omega
theorem wu8(z:Int):∃ b:UInt8,CV.int .u8 (IntKind.u8.wrap z)=Zt b:=by
 have h0:=Int.emod_nonneg z (show(256:Int) ≠ 0 by omega)
 have h1:=Int.emod_lt_of_pos z (show(0:Int) < 256 by omega)
 have hw:IntKind.u8.wrap z=z % 256:=by simp[IntKind.wrap,IntKind.bits,IntKind.signed]
 refine⟨UInt8.ofNat (z % 256).toNat,?_⟩;have:(UInt8.ofNat (z % 256).toNat).toNat=(z % 256).toNat:=by rw[UInt8.toNat_ofNat'];omega
 simp only[Zt,this,hw]
 congr 1
 omega
theorem pr(v:Nat)(hv:v < 10000):∃ a b a2 b2:Nat,a2<=198/\b2<=198/\Pi.binOp .quo (.c (.int .u32 (v:Int))) (.c (.int .u32 100))=some (.int .u32 (a:Int))/\Pi.binOp .rem (.c (.int .u32 (v:Int))) (.c (.int .u32 100))=some (.int .u32 (b:Int))/\Pi.binOp .mul (.c (.int .u32 (a:Int))) (.c (.int .u32 2))=some (.int .u32 (a2:Int))/\Pi.binOp .mul (.c (.int .u32 (b:Int))) (.c (.int .u32 2))=some (.int .u32 (b2:Int)):=by
 have hm:∀ x:Nat,x < 100->Pi.binOp .mul (.c (.int .u32 (x:Int))) (.c (.int .u32 2))=some (.int .u32 ((x*2:Nat):Int)):=λ x hx=>by
  have:=Hg (x:=x*2) (by omega)
  rw[XO,Zn];have e:((x:Int)*2)=((x*2:Nat):Int):=by omega
  rw[e,this]
 exact⟨v / 100,v % 100,v / 100*2,v % 100*2,by omega,by omega,Bd (m:=100) (by omega) (Hg (by omega)),Bc (m:=100) (by omega),hm _ (by omega),hm _ (by omega)⟩
theorem ix(b:Nat)(hb:b<=198):∃ (e:Nat) (c1 c2:UInt8),Pi.binOp .add (.c (.int .u32 (b:Int))) (.c (.int .u32 1))=some (.int .u32 (e:Int))/\Sm0[b]?=some c1/\Sm0[e]?=some c2:=by
 refine⟨b+1,Sm0[b]'(by rw[zg];omega),Sm0[b+1]'(by rw[zg];omega),?_,Zb _,Zb _⟩
 have:=Hg (x:=b+1) (by omega)
 rw[X3,Zn];have e:((b:Int)+1)=((b+1:Nat):Int):=by omega
 rw[e,this]
theorem Ia(i k:Nat)(h:k<=i)(hi:i < 100):IntKind.i64.wrap ((i:Int) - (k:Int))=((i - k:Nat):Int):=by rw[ZA (by omega) (by omega)];omega
theorem ZgR(n u:Nat)(hn:n<=20)(hu:u < 18446744073709551616)(l:List UInt8)(hl:l.length=24):∃ l',l'.length=24/\(Zo p).call 207 [.ms 0 1 n 1,.c (.int .u64 u)] [ob l]=some (.c (.tup []),[ob l']):=by
 have key:∃ z h',(∃ l',l'.length=24/\z=.c (.tup [])/\h'=[ob l'])/\Z5 (Zo p) 10 An [.ms 0 1 n 1,.c (.int .u64 u)] [ob l]=some (z,h'):=by
  refine Z6 _ rfl ?_;show W _ _ Ne _ _ _ _;simp[Ne];refine ZU (λ k sl h=>∃ (l:List UInt8) (i x:Nat),l.length=24/\h=[ob l]/\i+8*k<=n/\x < 18446744073709551616/\Zm sl 0=.ms 0 1 n 1/\Zm sl 1=.c (.int .u64 x)/\Zm sl 4=.c (.int .i64 i)) 3 (by omega) ⟨l,n,u,hl,rfl,by omega,hu,by simp,by simp,by simp⟩ ?_
  rintro k sl h hk ⟨l,i,x,hl,rfl,hi,hx,h0,h1,h4⟩
  have hcl:clean (some [0,1,4]) 1 ⟨sl,[ob l]⟩=⟨ZK [0,1,4] sl,[ob l]⟩:=Yf (by simp)
  simp only[List.length_singleton];by_cases h8:8<=i
  ·have h8':(8:Int)<=i:=by omega
   obtain⟨us,hus⟩:∃ us,us=x % 100000000:=⟨_,rfl⟩;obtain⟨x2,hx2⟩:∃ x2,x2=x / 100000000:=⟨_,rfl⟩;have B1:=Bc (d:=.u64) (x:=x) (m:=100000000) (by omega)
   have B2:=Bd (d:=.u64) (x:=x) (m:=100000000) (by omega) (ZcO (by omega))
   rw[<- hus]at B1;rw[<- hx2]at B2;have W1:=Hg (x:=us) (by omega)
   obtain⟨hi',hhi⟩:∃ y,y=us / 10000:=⟨_,rfl⟩;obtain⟨lo,hlo⟩:∃ y,y=us % 10000:=⟨_,rfl⟩;have B3:=Bd (d:=.u32) (x:=us) (m:=10000) (by omega) (Hg (by omega))
   have B4:=Bc (d:=.u32) (x:=us) (m:=10000) (by omega)
   rw[<- hhi]at B3;rw[<- hlo]at B4;obtain⟨a,b,a2,b2,ha2,hb2,P1,P2,P3,P4⟩:=pr lo (by omega)
   obtain⟨c,d,c2,d2,hc2,hd2,P5,P6,P7,P8⟩:=pr hi' (by omega)
   obtain⟨e1,ch1,ch2,I1,C1,C2⟩:=ix a2 ha2;obtain⟨e2,ch3,ch4,I2,C3,C4⟩:=ix b2 hb2;obtain⟨e3,ch5,ch6,I3,C5,C6⟩:=ix c2 hc2;obtain⟨e4,ch7,ch8,I4,C7,C8⟩:=ix d2 hd2;simp only[show((100000000:Nat):Int)=100000000 from rfl,show((10000:Nat):Int)=10000 from rfl]at B1 B2 B3 B4
   simp[-X3,-XH,-XO,hcl,h0,h1,h4,h8,h8',B1,B2,B3,B4,W1,Zn,P1,P2,P3,P4,P5,P6,P7,P8];have U:∀ k:Nat,1<=k->k<=8->∃ q:Nat,q+1<=n/\1+q<=23/\1+q+1<=24/\q<=22/\Pi.binOp .sub (.c (.int .i64 (i:Int))) (.c (.int .i64 (k:Int)))=some (.int .i64 (q:Int)):=λ k h1 h2=>⟨i - k,by omega,by omega,by omega,by omega,by rw[XH,Zn,Ia i k (by omega) (by omega)]⟩
   obtain⟨q1,n1,m1,m1',m1'',U1⟩:=U 1 (by omega) (by omega)
   obtain⟨q2,n2,m2,m2',m2'',U2⟩:=U 2 (by omega) (by omega)
   obtain⟨q3,n3,m3,m3',m3'',U3⟩:=U 3 (by omega) (by omega)
   obtain⟨q4,n4,m4,m4',m4'',U4⟩:=U 4 (by omega) (by omega)
   obtain⟨q5,n5,m5,m5',m5'',U5⟩:=U 5 (by omega) (by omega)
   obtain⟨q6,n6,m6,m6',m6'',U6⟩:=U 6 (by omega) (by omega)
   obtain⟨q7,n7,m7,m7',m7'',U7⟩:=U 7 (by omega) (by omega)
   obtain⟨q8,n8,m8,m8',m8'',U8⟩:=U 8 (by omega) (by omega)
   have U9:Pi.binOp .sub (.c (.int .i64 (i:Int))) (.c (.int .i64 8))=some (.int .i64 ((i - 8:Nat):Int)):=by
    have:=Ia i 8 (by omega) (by omega)
    rw[XH,Zn];exact congrArg (λ z=>some (CV.int .i64 z)) this
   simp only[show((1:Nat):Int)=1 from rfl,show((2:Nat):Int)=2 from rfl,show((3:Nat):Int)=3 from rfl,show((4:Nat):Int)=4 from rfl,show((5:Nat):Int)=5 from rfl,show((6:Nat):Int)=6 from rfl,show((7:Nat):Int)=7 from rfl,show((8:Nat):Int)=8 from rfl]at U1 U2 U3 U4 U5 U6 U7 U8
   have U10:=U9
   rw[U8]at U10;refine Yt λ C hC=>?_
   simp[-X3,-XH,-XO,I1,I2,I3,I4,U1,U2,C1,C2,C3,C4,n1,n2,m1,m2,m1',m2',m1'',m2'',V5,UJ,hl];refine⟨hC _ rfl,rfl,Yg _ _,?_⟩;refine Yt λ C hC=>?_
   simp[-X3,-XH,-XO,I1,U3,U4,C1,C2,n3,n4,m3,m4,m3',m4',m3'',m4'',V5,UJ,hl];refine⟨hC _ rfl,rfl,Yg _ _,?_⟩;refine Yt λ C hC=>?_
   simp[-X3,-XH,-XO,I4,U5,U6,C7,C8,n5,n6,m5,m6,m5',m6',m5'',m6'',V5,UJ,hl];refine⟨hC _ rfl,rfl,Yg _ _,?_⟩;refine Yt λ C hC=>?_
   simp[-X3,-XH,-XO,I3,U7,U8,C5,C6,n7,n8,m7,m8,m7',m8',m7'',m8'',V5,UJ,hl];refine⟨hC _ rfl,rfl,Yg _ _,?_⟩;have hq8:(q8:Int)=((i - 8:Nat):Int):=by injection U10 with U10;injection U10
   exact⟨by omega,_,by simp[hl],rfl,q8,by omega,x2,by omega,rfl,rfl⟩
  ·have h8':¬ (8:Int)<=i:=by omega
   obtain⟨v,hv,hvw⟩:∃ v:Nat,v < 4294967296/\IntKind.u32.wrap (x:Int)=(v:Int):=⟨x % 4294967296,by omega,by simp[IntKind.wrap,IntKind.bits,IntKind.signed]⟩
   have US:∀ (i k:Nat),k<=i->i<=20->Pi.binOp .sub (.c (.int .i64 (i:Int))) (.c (.int .i64 (k:Int)))=some (.int .i64 ((i - k:Nat):Int)):=λ i k h1 h2=>by rw[XH,Zn,Ia i k h1 (by omega)]
   have U:∀ i:Nat,i<=n->∀ k:Nat,1<=k->k<=i->∃ q:Nat,q=i - k/\q+1<=n/\1+q<=23/\1+q+1<=24/\q<=22/\Pi.binOp .sub (.c (.int .i64 (i:Int))) (.c (.int .i64 (k:Int)))=some (.int .i64 (q:Int)):=λ i h0 k h1 h2=>⟨i - k,rfl,by omega,by omega,by omega,by omega,US i k h2 (by omega)⟩
   simp[hcl,h0,h1,h4,h8,h8',hvw,Zn];refine qN (λ sl h=>∃ (l:List UInt8) (i v:Nat),l.length=24/\h=[ob l]/\i<=3/\i<=n/\v < 4294967296/\Zm sl 0=.ms 0 1 n 1/\Zm sl 12=.c (.int .u32 v)/\Zm sl 4=.c (.int .i64 i)) ?_ ?_
   ·by_cases h4i:4<=i
    ·have h4i':(4:Int)<=i:=by omega
     obtain⟨w,hw⟩:∃ y,y=v % 10000:=⟨_,rfl⟩;obtain⟨v2,hv2⟩:∃ y,y=v / 10000:=⟨_,rfl⟩;have B3:=Bd (d:=.u32) (x:=v) (m:=10000) (by omega) (Hg (by omega))
     have B4:=Bc (d:=.u32) (x:=v) (m:=10000) (by omega)
     rw[<- hv2]at B3;rw[<- hw]at B4;obtain⟨a,b,a2,b2,ha2,hb2,P1,P2,P3,P4⟩:=pr w (by omega)
     obtain⟨e1,ch1,ch2,I1,C1,C2⟩:=ix a2 ha2;obtain⟨e2,ch3,ch4,I2,C3,C4⟩:=ix b2 hb2;obtain⟨q1,-,n1,m1,m1',m1'',U1⟩:=U i (by omega) 1 (by omega) (by omega)
     obtain⟨q2,-,n2,m2,m2',m2'',U2⟩:=U i (by omega) 2 (by omega) (by omega)
     obtain⟨q3,-,n3,m3,m3',m3'',U3⟩:=U i (by omega) 3 (by omega) (by omega)
     obtain⟨q4,hq4,n4,m4,m4',m4'',U4⟩:=U i (by omega) 4 (by omega) (by omega)
     simp only[show((10000:Nat):Int)=10000 from rfl]at B3 B4
     simp only[show((1:Nat):Int)=1 from rfl,show((2:Nat):Int)=2 from rfl,show((3:Nat):Int)=3 from rfl,show((4:Nat):Int)=4 from rfl]at U1 U2 U3 U4
     simp[-X3,-XH,-XO,h4i,h4i',B3,B4,P1,P2,P3,P4];refine Yt λ C hC=>?_
     simp[-X3,-XH,-XO,I2,U1,U2,C3,C4,n1,n2,m1,m2,m1',m2',m1'',m2'',V5,UJ,hl];refine⟨hC _ rfl,rfl,Yg _ _,?_⟩;refine Yt λ C hC=>?_
     simp[-X3,-XH,-XO,I1,U3,U4,C1,C2,n3,n4,m3,m4,m3',m4',m3'',m4'',V5,UJ,hl];exact⟨hC _ rfl,rfl,Yg _ _,_,by simp[hl],rfl,q4,by omega,by omega,v2,by omega,rfl,rfl⟩
    ·have h4i':¬ (4:Int)<=i:=by omega
     simp[h4i,h4i'];exact⟨l,hl,rfl,i,by omega,by omega,v,hv,rfl,rfl⟩
   clear h0 h1 h4 hcl hvw hv v hl h8 h8' hi hx x i l sl hk k
   rintro sl h ⟨l,i,v,hl,rfl,hi,hin,hv,h0,h12,h4⟩
   refine XC (λ sl h=>∃ (l:List UInt8) (i v:Nat),l.length=24/\h=[ob l]/\i<=1/\i<=n/\v < 4294967296/\Zm sl 0=.ms 0 1 n 1/\Zm sl 12=.c (.int .u32 v)/\Zm sl 4=.c (.int .i64 i)) ?_ ?_
   ·by_cases h2i:2<=i
    ·have h2i':(2:Int)<=i:=by omega
     obtain⟨w,hw⟩:∃ y,y=v % 100:=⟨_,rfl⟩;obtain⟨v2,hv2⟩:∃ y,y=v / 100:=⟨_,rfl⟩;have B3:=Bd (d:=.u32) (x:=v) (m:=100) (by omega) (Hg (by omega))
     have B4:=Bc (d:=.u32) (x:=v) (m:=100) (by omega)
     rw[<- hv2]at B3;rw[<- hw]at B4;obtain⟨w2,hw2,B5⟩:∃ w2:Nat,w2<=198/\Pi.binOp .mul (.c (.int .u32 (w:Int))) (.c (.int .u32 2))=some (.int .u32 (w2:Int)):=⟨w*2,by omega,by
      have:=Hg (x:=w*2) (by omega)
      rw[XO,Zn];have e:((w:Int)*2)=((w*2:Nat):Int):=by omega
      rw[e,this]⟩
     obtain⟨e1,ch1,ch2,I1,C1,C2⟩:=ix w2 hw2;obtain⟨q1,-,n1,m1,m1',m1'',U1⟩:=U i (by omega) 1 (by omega) (by omega)
     obtain⟨q2,hq2,n2,m2,m2',m2'',U2⟩:=U i (by omega) 2 (by omega) (by omega)
     simp only[show((100:Nat):Int)=100 from rfl]at B3 B4
     simp only[show((1:Nat):Int)=1 from rfl,show((2:Nat):Int)=2 from rfl]at U1 U2
     simp[-X3,-XH,-XO,h0,h12,h4,h2i,h2i',B3,B4,B5];refine Yt λ C hC=>?_
     simp[-X3,-XH,-XO,I1,U1,U2,C1,C2,n1,n2,m1,m2,m1',m2',m1'',m2'',V5,UJ,hl];exact⟨hC _ rfl,rfl,Yg _ _,_,by simp[hl],rfl,q2,by omega,by omega,v2,by omega,rfl,rfl⟩
    ·have h2i':¬ (2:Int)<=i:=by omega
     simp[h0,h12,h4,h2i,h2i'];exact⟨l,hl,rfl,i,by omega,by omega,v,hv,rfl,rfl⟩
   clear h0 h12 h4 hv v hl hi hin i l sl
   rintro sl h ⟨l,i,v,hl,rfl,hi,hin,hv,h0,h12,h4⟩
   by_cases h0i:0 < i
   ·have h0i':(0:Int) < i:=by omega
    have hn1:1<=n:=by omega
    have hn1':0 < n:=by omega
    obtain⟨b,hb⟩:=wu8 (IntKind.u32.wrap (48+(v:Int)));simp[h0,h12,h4,h0i,h0i',hn1,hn1',Zn,hb,V5,UJ,hl];exact⟨_,_,⟨l.set 1 b,by simp[hl],rfl,rfl⟩,.inl rfl,by simp[An,ZD,Pi.results,ZL,Ob.lt,Ob.ids,ZM,oneOf,Yl,closedL,vR]⟩
   ·have h0i':¬ (0:Int) < i:=by omega
    simp[h0,h12,h4,h0i,h0i'];exact⟨_,_,⟨_,hl,rfl,rfl⟩,.inl rfl,by simp[An,ZD,Pi.results,ZL,Ob.lt,Ob.ids,ZM,oneOf,Yl,closedL,vR]⟩
 obtain⟨z,h',⟨l',hl',rfl,rfl⟩,hr⟩:=key;exact⟨l',hl',Z4 HasI.h207 hr⟩
end
end Go.Proofs.YtmckcikeefggdaaGreatDoor
