/- Part 7 of the proof. -/
import Derived.Test.YtmckcikeefggdaaGreatDoorPF
set_option linter.unusedVariables false
set_option linter.unusedSimpArgs false
set_option linter.unusedSectionVars false
set_option maxRecDepth 100000
set_option maxHeartbeats 16000000
namespace Go.Proofs.YtmckcikeefggdaaGreatDoor
open Go.Pi Go.Pi.S
section
variable {p:Prg} [Has p] [HasI p] [HasG p] {h:Mem}
theorem wZ:∀ (l:List UInt8) (n:Nat),l.length=n->(XG 1 n (l.map Zt)).map (Pi.elemOf false)=l.map Zt
 | [],n,h=>by simp at h;subst h;rfl
 | b::r,n,h=>by
  cases n with
  | zero=>simp at h
  | succ n=>
   have:=wZ r n (by simpa using h)
   simp only[List.map_cons,XG,List.take_succ_cons,List.take_zero,List.drop_succ_cons,List.drop_zero,Pi.elemOf,cond_false,List.headD_cons]
   congr 1
theorem At(l:List UInt8):closedL (bx l)=some (l.map Zt):=by
 induction l with
 | nil=>rfl
 | cons b r ih=>simp only[bx,List.map_cons,closedL]at ih ⊢;rw[ih]
theorem CQ(l:List UInt8)(off m:Nat)(hm:off+m<=l.length):ZO [ob l] false 1 (.ms 0 off m 1)=some (((l.drop off).take m).map Zt):=by
 have h1:List.take (m*1) (List.drop off (bx l))=bx ((l.drop off).take m):=by simp[bx]
 have h2:((l.drop off).take m).length=m:=by simp;omega
 have h3:Nat.beq (((l.drop off).take m).map Zt).length (m*1)=true:=by rw[List.length_map,h2,Nat.mul_one];exact Nat.beq_refl _
 have h4:Nat.beq 1 1=true:=rfl
 simp only[ZO,h4,Bool.or_true,Bool.and_self,cond_true,ZN,List.getElem?_cons_zero,h1,At,h3,wZ _ _ h2]
theorem Aq{e:Env}{f a n s:Nat}{x z:CV}{o o':Ob}(ho:o.ids=some [])(ho2:∀ ρ,o.ren ρ=some o)(ho3:∀ ρ,o'.ren ρ=some o')(hc:e.call f [.ms 0 a n s,.c x] [o]=some (.c z,[o'])):Zi e [o] f [.ms 0 a n s,.c x]=some (.c z,[o']):=by
 simp[Zi,X.ids.idsL,X.ids,Xp,ho,X.ren.renL,X.ren,Xw,YM,Mem.ren,ho2,ho3,hc,YS,Nat.ble]
theorem EA(ρ:Nat->Option Nat)(l:List UInt8):X.ren.renL ρ 6 (bx l)=some (bx l):=by
 induction l with
 | nil=>rfl
 | cons b r ih=>simp only[bx,List.map_cons]at ih ⊢;simp only[X.ren.renL,X.ren,ih]
theorem BS(l:List UInt8)(ρ:Nat->Option Nat):(ob l).ren ρ=some (ob l):=by simp only[Ob.ren,EA]
def OY:List UInt8:=List.replicate 24 0
theorem DK:Z24.map X.c=bx OY:=by simp[Z24,bx,Zt,OY]
theorem Zhc(n:Int)(h0:-9223372036854775808<=n)(h1:n<=9223372036854775807):∃ s:By,s.length<=21/\∀ h,Zi (Zo p) h 187 [.c (.int .i64 n),.c (.int .i64 10)]=some (.c (.str s),h):=by
 suffices hx:∃ v,(∃ s:By,s.length<=21/\v=.str s)/\∀ h,Zi (Zo p) h 187 ([.int .i64 n,.int .i64 10].map X.c)=some (.c v,h) by
  obtain⟨_,⟨d,hd,rfl⟩,h⟩:=hx;exact⟨d,hd,h⟩
 refine VN _ HasI.h187 ⟨1,Z6 _ rfl ?_⟩;simp only[List.map_cons,List.map_nil];show W _ _ Dy _ _ _ _;by_cases hs:0<=n/\n < 100
 ·obtain⟨s,hsl,h205⟩:=ZgT (p:=p) n.toNat (by omega)
  have en:((n.toNat:Nat):Int)=n:=by omega
  rw[en]at h205;simp[Dy,hs.1,hs.2,h205];exact⟨_,_,⟨_,rfl,rfl,s,by omega,rfl⟩,Je (.inr rfl) rfl rfl rfl⟩
 ·obtain⟨u,hu,hw⟩:∃ u:Nat,u < 18446744073709551616/\IntKind.u64.wrap n=(u:Int):=⟨(n % 18446744073709551616).toNat,by omega,by simp[IntKind.wrap,IntKind.bits,IntKind.signed];omega⟩
  obtain⟨u2,hu2,hw2⟩:∃ u2:Nat,u2 < 18446744073709551616/\IntKind.u64.wrap (-(u:Int))=(u2:Int):=⟨((-(u:Int)) % 18446744073709551616).toNat,by omega,by simp[IntKind.wrap,IntKind.bits,IntKind.signed];omega⟩
  have fin:∀ v:Nat,v < 18446744073709551616->∃ (d:Nat) (l:List UInt8),d<=20/\l.length=24/\(∀ h,Zi (Zo p) h 206 [.c (.int .u64 v)]=some (.c (.int .i64 d),h))/\Zi (Zo p) [ob OY] 207 [.ms 0 1 d 1,.c (.int .u64 v)]=some (.c (.tup []),[ob l]):=by
   intro v hv;obtain⟨d,hd,h206⟩:=ZgS (p:=p) v hv;obtain⟨l,hl,h207⟩:=ZgR (p:=p) d v hd hv OY (by simp[OY])
   exact⟨d,l,hd,hl,h206,Aq (by simp only[ob,Ob.ids,vR]) (BS _) (BS _) h207⟩
  have elm:∀ (l:List UInt8) (a m:Nat),l.length=24->a+m<=24->∃ bs:By,bs.length<=m/\ZO [ob l] false 1 (.ms 0 a m 1)=some (bs.map Zt):=λ l a m hl hm=>⟨_,by simp;omega,CQ l a m (by omega)⟩
  by_cases hn:n < 0
  ·have hg:¬ 0<=n:=by omega
   obtain⟨d,l,hd,hl,h206,h207⟩:=fin u2 hu2;obtain⟨d1,hd1⟩:∃ d1,d1=1+d:=⟨_,rfl⟩;have hwd:IntKind.i64.wrap (1+(d:Int))=(d1:Int):=by rw[ZA (by omega) (by omega)];omega
   have hb:=y5 (n:=24) (a:=1) (b:=d1) (by omega) (by omega) 1 (d1:Int) rfl rfl .i64 .i64
   have hb0:Xu 24 none (some (.c (.int .i64 (d1:Int))))=some (0,d1):=vW 24 d1 (by omega)
   have hm:d1 - 1=d:=by omega
   have hset:(bx l).set 0 (X.c (.int .u8 45))=bx (l.set 0 45):=UJ l 0 45
   obtain⟨bs,hbl,hel⟩:=elm (l.set 0 45) 0 d1 (by simp[hl]) (by omega)
   simp[Dy,hg,hn,hw,hw2,Zn,h206,hwd,hb,hm,h207,hb0,hset,V5,hl,hel,VS,DK];exact⟨_,_,⟨_,rfl,rfl,bs,by omega,rfl⟩,Je (.inr rfl) rfl rfl rfl⟩
  ·have hg:0<=n:=by omega
   have hg2:¬ n < 100:=λ q=>hs ⟨hg,q⟩
   obtain⟨d,l,hd,hl,h206,h207⟩:=fin u hu;obtain⟨d1,hd1⟩:∃ d1,d1=1+d:=⟨_,rfl⟩;have hwd:IntKind.i64.wrap (1+(d:Int))=(d1:Int):=by rw[ZA (by omega) (by omega)];omega
   have hb:=y5 (n:=24) (a:=1) (b:=d1) (by omega) (by omega) 1 (d1:Int) rfl rfl .i64 .i64
   have hm:d1 - 1=d:=by omega
   obtain⟨bs,hbl,hel⟩:=elm l 1 d hl (by omega)
   simp[Dy,hg,hg2,hn,hw,Zn,h206,hwd,hb,hm,h207,V5,hl,hel,VS,DK];exact⟨_,_,⟨_,rfl,rfl,bs,by omega,rfl⟩,Je (.inr rfl) rfl rfl rfl⟩
theorem My(n:Int)(h0:-9223372036854775808<=n)(h1:n<=9223372036854775807):∃ s:By,s.length<=21/\∀ h,Zi (Zo p) h 107 [.c (.int .i64 n)]=some (.c (.str s),h):=by
 obtain⟨s,hs,h187⟩:=Zhc (p:=p) n h0 h1;have h154:∀ h,Zi (Zo p) h 154 [.c (.int .i64 n)]=some (.c (.str s),h):=λ h=>ZB HasI.h154 ⟨1,Zk rfl (by
  show W _ _ NH _ _ _ _;simp[NH,h187];exact Je (.inr rfl) rfl rfl rfl)⟩
 refine⟨s,hs,λ h=>ZB Has.h107 ⟨1,Zk rfl ?_⟩⟩
 show W _ _ Oa _ _ _ _;simp[Oa,h154];exact Je (.inr rfl) rfl rfl rfl
theorem c68[HasPr p](n d:Int):GS p 68 [.agg [.int .i64 n,.int .i64 d]] 60:=by
 have h106:=λ h=>Zbw (p:=p) (h:=h) n d
 refine UT Has.h68 ⟨1,Z6 _ rfl ?_⟩;simp only[List.map_cons,List.map_nil];show W _ _ b68 _ _ _ _;by_cases hR:yU n d=0
 ·have hb:-1152921504606846976<=n/\n<=1152921504606846976/\1<=d/\d<=1152921504606846976:=by
   simp only[yU]at hR;split at hR
   ·cases hR
   ·omega
  obtain⟨s,hs,h1⟩:=My (p:=p) n (by omega) (by omega)
  obtain⟨t,ht,h2⟩:=My (p:=p) d (by omega) (by omega)
  rw[hR]at h106;have g1:=Xx (a:=[(47:UInt8)]) (b:=t) (by simp;omega)
  have g2:=Xx (a:=s) (b:=[(47:UInt8)]++t) (by simp;omega)
  simp at g1 g2;by_cases hd:d=1
  ·have e1:(d != 1)=false:=by simp[hd]
   have e2:(d==1)=true:=by simp[hd]
   simp[b68,h106,h1,e1,e2];exact WB (.inr rfl) rfl rfl (by omega)
  ·have e1:(d != 1)=true:=by simp[hd]
   have e2:(d==1)=false:=by simp[hd]
   simp[b68,h106,h1,h2,e1,e2,g1,g2];exact WB (.inr rfl) rfl rfl (by simp;omega)
 ·have hb:(yU n d != 0)=true:=by simp[hR]
  have hb2:(yU n d==0)=false:=by simp[hR]
  simp[b68,h106,hb,hb2];exact WB (.inr rfl) rfl rfl (by simp)
end
section
variable {p:Prg} [Has p] {h:Mem}
abbrev bo(t i k:Nat)(rest:List X)(bs:By)(v:Nat):Ob:=.cells t (.ptr i 0::.own (bs.map Zt) k v::rest)
abbrev tp(v:Nat):Ob:=.tip v 1 5
abbrev BM(t:Nat)(rest:List X)(bs:By)(v:Nat):Mem:=[bo t 0 1 rest bs v,tp v]
def Cl(l:List X):Prop:=X.ids.idsL 6 l=some []/\∀ ρ,X.ren.renL ρ 6 l=some l
theorem Vc:∀ l:List CV,Cl (l.map X.c)
 | []=>⟨rfl,λ _=>rfl⟩
 | v::r=>by
  have ih:=Vc r
  exact⟨by rw[List.map_cons,QG];exact ih.1,λ ρ=>by simp only[List.map_cons,X.ren.renL,X.ren,ih.2 ρ]⟩
theorem ZS{n i:Nat}{r acc l:List Nat}{o:Ob}(hc:acc.contains i=false)(ho:h[i]?=some o)(hl:o.ids=some l):Xp h (n+1) (i::r) acc=Xp h n (l++r) (acc++[i]):=by simp only[Xp,hc,ho,hl,cond_false]
theorem Xj{n i:Nat}{r acc:List Nat}(hc:acc.contains i=true):Xp h (n+1) (i::r) acc=Xp h n r acc:=by simp only[Xp,hc,cond_true]
theorem YI{n:Nat}{acc:List Nat}:Xp h n [] acc=some acc:=by cases n<;>rfl
theorem Xt{e:Env}{i k t f v v':Nat}{rest rest':List X}{bs bs':By}{args:List CV}{z:CV}(hi:h[i]?=some (bo t i k rest bs v))(hk:h[k]?=some (tp v))(hik:i ≠ k)(hr:Cl rest)(hr':Cl rest')(hc:e.call f (.ptr 0 0::args.map X.c) (BM t rest bs v)=some (.c z,BM t rest' bs' v')):Zi e h f (.ptr i 0::args.map X.c)=some (.c z,(h.set i (bo t i k rest' bs' v')).set k (tp v')):=by
 have ha:=Vc args
 have hb:Nat.beq i k=false:=by
  cases hq:Nat.beq i k with
  | false=>rfl
  | true=>exact absurd (Zd hq) hik
 have hb2:Nat.beq k i=false:=by
  cases hq:Nat.beq k i with
  | false=>rfl
  | true=>exact absurd (Zd hq).symm hik
 have hki:¬ k=i:=λ e=>hik e.symm
 have h1:X.ids.idsL 6 (.ptr i 0::args.map X.c)=some [i]:=by simp[X.ids.idsL,X.ids,ha.1]
 have hO:∀ (i k:Nat) (r:List X) (bs:By) v,Cl r->(bo t i k r bs v).ids=some [i,k]:=λ i k r bs v hr=>by simp[Ob.ids,X.ids.idsL,X.ids,hr.1]
 have hT:(tp v).ids=some []:=rfl
 have h2:Xp h 1000 [i] []=some [i,k]:=(ZS (n:=999) rfl hi (hO i k rest bs v hr)).trans ((Xj (n:=998) (by simp)).trans ((ZS (n:=997) (by simp[hki]) hk hT).trans YI))
 have hR:∀ (i k i2 k2:Nat) (ρ:Nat->Option Nat) (r:List X) (bs:By) v,Cl r->ρ i=some i2->ρ k=some k2->(bo t i k r bs v).ren ρ=some (bo t i2 k2 r bs v):=λ i k i2 k2 ρ r bs v hr e1 e2=>by simp[Ob.ren,X.ren.renL,X.ren,e1,e2,hr.2]
 have p1:Xw i [i,k]=some 0:=by simp[Xw]
 have p2:Xw k [i,k]=some 1:=by simp[Xw,hik]
 have h3:X.ren.renL (λ j=>Xw j [i,k]) 6 (.ptr i 0::args.map X.c)=some (.ptr 0 0::args.map X.c):=by simp[X.ren.renL,X.ren,p1,ha.2]
 have h4:YM h [i,k]=some [bo t i k rest bs v,tp v]:=by simp only[YM,hi,hk]
 have h5:Mem.ren (λ j=>Xw j [i,k]) [bo t i k rest bs v,tp v]=some (BM t rest bs v):=by
  simp only[Mem.ren,hR i k 0 1 (λ j=>Xw j [i,k]) rest bs v hr p1 p2];rfl
 have h6:Mem.ren (λ k'=>bif Nat.ble 2 k' then some (h.length+(k' - 2)) else[i,k][k']?) (BM t rest' bs' v')=some [bo t i k rest' bs' v',tp v']:=by
  simp only[Mem.ren,hR 0 1 i k (λ k'=>bif Nat.ble 2 k' then some (h.length+(k' - 2)) else[i,k][k']?) rest' bs' v' hr' rfl rfl];rfl
 simp only[Zi,h1,h2,h3,h4,h5,hc];have h7:[i,k].length=2:=rfl
 simp only[h7,h6,X.ren];simp[YS]
theorem Jd{fn:PFn}{m:Nat}{x:Pi.Exit}{sl:Zf}{h h':Mem}(hx:x=.normal\/x=.ret)(hr:fn.res=[])(hm:ZL m (h.take m)=true)(hh:h.take m=h'):Gu fn m (.c (.tup [])) h' x sl h:=by
 subst hh;refine⟨hx,?_⟩;cases hk:fn.keep<;>simp[ZD,Pi.results,hr,hk,hm,X.ids.idsL,ZM,oneOf,Yl,closedL]
theorem J5{t i k m:Nat}{r:List X}{bs:By}{v:Nat}(hr:Cl r)(hi:i < m)(hk:k < m):Ob.lt m (bo t i k r bs v)=true:=by
 have h1:Nat.ble (i+1) m=true:=ZE hi
 have h2:Nat.ble (k+1) m=true:=ZE hk
 simp[Ob.lt,Ob.ids,X.ids.idsL,X.ids,hr.1,ZM];omega
theorem K5{t:Nat}{rest:List X}{bs:By}{v:Nat}(hr:Cl rest):ZL 2 (BM t rest bs v)=true:=by
 simp only[ZL,J5 hr (show 0 < 2 by omega) (show 1 < 2 by omega),Bool.true_and];rfl
section
variable {t:Nat} {rest:List X} (hr:Cl rest) (bs:By) (v:Nat)
include hr
theorem Zbi:(Zo p).call 140 [.ptr 0 0] (BM t rest bs v)=some (.c (.tup []),BM t rest bs v):=by
 refine Z4 Has.h140 (N:=1) (Zk rfl ?_);show W _ _ DE _ _ _ _;simp[DE,eqP];exact Jd (.inl rfl) rfl (K5 hr) rfl
theorem ZaB:Zi (Zo p) (BM t rest bs v) 140 [.ptr 0 0]=some (.c (.tup []),BM t rest bs v):=by
 have:=Xt (args:=[]) (h:=BM t rest bs v) (i:=0) (k:=1) rfl rfl (by omega) hr hr (Zbi (p:=p) hr bs v)
 exact this
theorem ZbM(o:Ob)(s:By)(hl:bs.length+s.length<=4294967296):∃ v',ZP [o,tp v] 5 1 1 (.own (bs.map Zt) 1 v) (s.map Zt)=some (.own ((bs++s).map Zt) 1 v',[o,tp v']):=by
 cases s with
 | nil=>exact⟨v,by simp[ZP,KK]⟩
 | cons y ys=>
  have hb:Nat.ble ((bs.map Zt).length+((y::ys).map Zt).length) Qq=true:=ZE (by simpa [Qq] using hl)
  refine⟨v+1,?_⟩;have hlit:Nat.ble 1 4096=true:=rfl
  simp only[List.map_cons]at hb ⊢;simp only[ZP,List.getElem?_cons_succ,List.getElem?_cons_zero,Nat.beq_refl,hb,hlit,Bool.and_self,cond_true,List.map_append,List.map_cons];rfl
theorem c85(b:UInt8)(hl:bs.length+1<=4294967296):∃ v',(Zo p).call 85 [.ptr 0 0,.c (Zt b)] (BM t rest bs v)=some (.c .nilif,BM t rest (bs++[b]) v'):=by
 have h140:=ZaB (p:=p) (t:=t) hr bs v
 obtain⟨v',ha⟩:=ZbM hr bs v (bo t 0 1 rest bs v) [b] (by simpa using hl)
 simp only[List.map_cons,List.map_nil]at ha;refine⟨v',Z4 Has.h85 (N:=1) (Zk rfl ?_)⟩;show W _ _ b85 _ _ _ _;have ha':ZP (BM t rest bs v) 5 1 1 (.own (bs.map Zt) 1 v) [.int .u8 b.toNat]=some (.own ((bs++[b]).map Zt) 1 v',[bo t 0 1 rest bs v,tp v']):=ha
 simp[-List.map_append,b85,h140,ZO,Zt,ha'];exact⟨.inr rfl,by simp[f85,ZD,Pi.results,K5 hr,X.ids.idsL,X.ids,ZM,oneOf]⟩
theorem Mz(s:By)(hl:bs.length+s.length<=4294967296):∃ v',(Zo p).call 105 [.ptr 0 0,.c (.str s)] (BM t rest bs v)=some (.c (.tup [.int .i64 s.length,.nilif]),BM t rest (bs++s) v'):=by
 have h140:=ZaB (p:=p) (t:=t) hr bs v
 obtain⟨v',ha⟩:=ZbM hr bs v (bo t 0 1 rest bs v) s hl;refine⟨v',Z4 Has.h105 (N:=1) (Zk rfl ?_)⟩;show W _ _ DG _ _ _ _;simp[-List.map_append,DG,h140,K0,ha];exact⟨.inr rfl,by simp[CN,ZD,Pi.results,K5 hr,X.ids.idsL,X.ids,ZM,oneOf,Yl,closedL]⟩
theorem c32(hb:bs ≠ [])(hl:bs.length<=4294967296):(Zo p).call 32 [.ptr 0 0] (BM t rest bs v)=some (.c (.str bs),BM t rest bs v):=by
 refine Z4 Has.h32 (N:=1) (Zk rfl ?_);show W _ _ b32 _ _ _ _;obtain⟨b0,br,hbe⟩:∃ b0 br,bs.map Zt=b0::br:=by
  cases bs with
  | nil=>exact absurd rfl hb
  | cons b r=>exact⟨_,_,rfl⟩
 have hlen:(b0::br).length=bs.length:=by rw[<- hbe,List.length_map]
 have hby:bytesOf (b0::br)=some bs:=by rw[<- hbe];exact VS bs
 simp[b32];refine Zw rfl (by simp[Mem.same,Ze,Zj]) ?_
 have hl2:br.length<=4294967295:=by simp at hlen;omega
 have hl3:br.length+1<=4294967296:=by omega
 simp[hbe,QB,hl2,hl3,hby];exact⟨.inr rfl,by simp[f32,ZD,Pi.results,K5 hr,X.ids.idsL,X.ids,ZM,oneOf]⟩
end
abbrev wr(T:CV)(first:Bool):List X:=[.c T,.c (.bool first)]
theorem Z2(T:CV)(first:Bool):Cl (wr T first):=Vc [T,.bool first]
def WC(p:Prg)(f:Nat)(args:List CV)(n:Nat):Prop:=∀ T bs v first,bs.length+n<=4294967296->∃ bs' v' first',bs.length<=bs'.length/\bs'.length<=bs.length+n/\(Zo p).call f (.ptr 0 0::args.map X.c) (BM 81 (wr T first) bs v)=some (.c (.tup []),BM 81 (wr T first') bs' v')
theorem ye(s:By):WC p 66 [.str s] (s.length+1):=by
 intro T bs v first hl;cases first with
 | true=>
  obtain⟨v',h105⟩:=Mz (p:=p) (t:=81) (Z2 T true) bs v s (by omega)
  have d105:=Xt (args:=[.str s]) (h:=BM 81 (wr T true) bs v) (i:=0) (k:=1) rfl rfl (by omega) (Z2 T true) (Z2 T true) h105
  refine⟨bs++s,v',false,by simp,by simp,Z4 Has.h66 (N:=1) (Zk rfl ?_)⟩
  simp only[List.map_cons,List.map_nil]at d105 ⊢;show W _ _ MG _ _ _ _;simp at d105;simp[-List.map_append,MG,d105];exact Jd (.inl rfl) rfl (K5 (Z2 T false)) rfl
 | false=>
  obtain⟨v1,h85⟩:=c85 (p:=p) (t:=81) (Z2 T false) bs v 32 (by omega)
  have d85:=Xt (args:=[.int .u8 32]) (h:=BM 81 (wr T false) bs v) (i:=0) (k:=1) rfl rfl (by omega) (Z2 T false) (Z2 T false) h85
  obtain⟨v',h105⟩:=Mz (p:=p) (t:=81) (Z2 T false) (bs++[32]) v1 s (by simp;omega)
  have d105:=Xt (args:=[.str s]) (h:=BM 81 (wr T false) (bs++[32]) v1) (i:=0) (k:=1) rfl rfl (by omega) (Z2 T false) (Z2 T false) h105
  refine⟨bs++[32]++s,v',false,by simp,by simp<;>omega,Z4 Has.h66 (N:=1) (Zk rfl ?_)⟩
  simp only[List.map_cons,List.map_nil]at d105 d85 ⊢;show W _ _ MG _ _ _ _;simp[-List.map_append,-List.append_assoc]at d105 d85;simp[-List.map_append,-List.append_assoc,MG,d85,d105];exact Jd (.inl rfl) rfl (K5 (Z2 T false)) rfl
end
section
variable {p:Prg} [Has p] {h:Mem}
theorem YR{e:Env}{f i:Nat}{is ids:List Nat}{args args':List X}{sub sub' h' h'' hr:Mem}{z:CV}(h1:X.ids.idsL 6 args=some (i::is))(h2:Xp h 1000 (i::is) []=some ids)(h3:X.ren.renL (λ j=>Xw j ids) 6 args=some args')(h4:YM h ids=some sub)(h5:Mem.ren (λ j=>Xw j ids) sub=some sub')(hc:e.call f args' sub'=some (.c z,h'))(h6:Mem.ren (λ k=>bif Nat.ble ids.length k then some (h.length+(k - ids.length)) else ids[k]?) h'=some h'')(h7:YS h ids (h''.take ids.length)++h''.drop ids.length=hr):Zi e h f args=some (.c z,hr):=by
 simp only[Zi,h1,h2,h3,h4,h5,hc,h6,X.ren,h7]
abbrev Q9(i:Nat):Ob:=.cells 117 [.ptr i 0]
abbrev LM(O:Ob)(T:CV)(first:Bool)(bs:By)(v:Nat):Mem:=[bo 81 0 1 (wr T first) bs v,tp v,Q9 0,O]
abbrev CB(O:Ob)(T:CV)(first:Bool)(bs:By)(v:Nat):Mem:=[Q9 1,bo 81 1 2 (wr T first) bs v,tp v,O]
def Co(O:Ob):Prop:=O.ids=some []/\∀ ρ,O.ren ρ=some O
theorem Kf{t:Nat}{l:List X}(h:Cl l):Co (.cells t l):=⟨h.1,λ ρ=>by simp only[Ob.ren,h.2 ρ]⟩
def CC(p:Prg)(g:Nat)(O:Ob)(n:Nat):Prop:=∀ T bs v first,bs.length+n<=4294967296->∃ bs' v' first',bs.length<=bs'.length/\bs'.length<=bs.length+n/\(Zo p).call g [.ptr 0 0,.ptr 3 0] (CB O T first bs v)=some (.c (.tup []),CB O T first' bs' v')
def LC(p:Prg)(g:Nat)(O:Ob)(n:Nat):Prop:=∀ T bs v first,bs.length+n<=4294967296->∃ bs' v',bs.length<=bs'.length/\bs'.length<=bs.length+n/\(Zo p).call 64 [.ptr 0 0,.func g [.ptr 2 0,.ptr 3 0]] (LM O T first bs v)=some (.c (.tup []),LM O T false bs' v')
theorem Qp{t i k:Nat}{r:List X}{bs:By}{v:Nat}(hr:Cl r):(bo t i k r bs v).ids=some [i,k]:=by simp[Ob.ids,X.ids.idsL,X.ids,hr.1]
theorem Wy{t i k i2 k2:Nat}{r:List X}{bs:By}{v:Nat}{ρ:Nat->Option Nat}(hr:Cl r)(e1:ρ i=some i2)(e2:ρ k=some k2):(bo t i k r bs v).ren ρ=some (bo t i2 k2 r bs v):=by simp[Ob.ren,X.ren.renL,X.ren,e1,e2,hr.2]
theorem dCC{g:Nat}{O:Ob}(hO:Co O){T:CV}{bs bs':By}{v v':Nat}{first first':Bool}(hc:(Zo p).call g [.ptr 0 0,.ptr 3 0] (CB O T first bs v)=some (.c (.tup []),CB O T first' bs' v')):Zi (Zo p) (LM O T first bs v) g [.ptr 2 0,.ptr 3 0]=some (.c (.tup []),LM O T first' bs' v'):=by
 refine YR (is:=[3]) (ids:=[2,0,1,3]) (h'':=[Q9 0,bo 81 0 1 (wr T first') bs' v',tp v',O]) rfl ?_ rfl rfl ?_ hc ?_ rfl
 ·exact(ZS (n:=999) rfl rfl rfl).trans ((ZS (n:=998) rfl rfl (Qp (Z2 _ _))).trans ((Xj (n:=997) rfl).trans ((ZS (n:=996) rfl rfl rfl).trans ((ZS (n:=995) rfl rfl hO.1).trans YI))))
 ·simp only[Mem.ren,Wy (i:=0) (k:=1) (i2:=1) (k2:=2) (ρ:=λ j=>Xw j [2,0,1,3]) (Z2 T first) rfl rfl,hO.2];rfl
 ·simp only[Mem.ren,Wy (i:=1) (k:=2) (i2:=0) (k2:=1) (ρ:=λ k=>bif Nat.ble [2,0,1,3].length k then some ((LM O T first bs v).length+(k - [2,0,1,3].length)) else[2,0,1,3][k]?) (Z2 T first') rfl rfl,hO.2];rfl
theorem ZbY{O:Ob}{T:CV}{first:Bool}{bs:By}{v:Nat}(hlt:Ob.lt 4 O=true):ZL 4 (LM O T first bs v)=true:=by
 simp only[ZL,J5 (Z2 T first) (show 0 < 4 by omega) (show 1 < 4 by omega),hlt,Bool.true_and,Bool.and_true];rfl
theorem qU{g:Nat}{O:Ob}{n:Nat}(hO:Co O)(hlt:Ob.lt 4 O=true)(hc:CC p g O n):LC p g O (n+3):=by
 intro T bs v first hl;obtain⟨b1,v1,f1,l1,l1',h66⟩:=ye (p:=p) [40] T bs v first (by simp;omega)
 simp at l1';obtain⟨b2,v2,f2,l2,l2',hg⟩:=hc T b1 v1 true (by omega)
 have dg:=dCC (p:=p) hO hg
 obtain⟨v3,h85⟩:=c85 (p:=p) (t:=81) (Z2 T f2) b2 v2 41 (by omega)
 have d66:=Xt (h:=LM O T first bs v) (i:=0) (k:=1) rfl rfl (by omega) (Z2 T first) (Z2 T f1) h66
 have d85:=Xt (args:=[.int .u8 41]) (h:=LM O T f2 b2 v2) (i:=0) (k:=1) rfl rfl (by omega) (Z2 T f2) (Z2 T f2) h85
 refine⟨b2++[41],v3,by simp;omega,by simp;omega,Z4 Has.h64 (N:=1) (Zk rfl ?_)⟩
 simp only[List.map_cons,List.map_nil]at d66 d85;simp[-List.map_append]at d66 d85 dg;show W _ _ MH _ _ _ _;simp[-List.map_append,MH,d66,d85,dg];exact Jd (.inl rfl) rfl (ZbY hlt) rfl
end
section
class HasL(p:Prg):Prop where
 h174:p.fn 174=some (.prim yp)
 l81:p.lies 81 4 0 79=true
 l79:p.lies 79 2 0 79=true
variable {p:Prg} [Has p] [HasL p] {h:Mem}
abbrev BF(t:Nat)(rest:List X):Mem:=[.cells t (.c .nilptr::.c (.sl true [])::rest)]
abbrev BG(t:Nat)(rest:List X):Mem:=[.cells t (.ptr 0 0::.c (.sl true [])::rest)]
theorem qX{t:Nat}{rest:List X}(hr:Cl rest):(Ob.cells t (.c .nilptr::.c (.sl true [])::rest)).ids=some []:=by
 simp only[Ob.ids,QG];exact hr.1
theorem KI{t:Nat}{rest:List X}{ρ:Nat->Option Nat}(hr:Cl rest):(Ob.cells t (.c .nilptr::.c (.sl true [])::rest)).ren ρ=some (Ob.cells t (.c .nilptr::.c (.sl true [])::rest)):=by
 simp[Ob.ren,X.ren.renL,X.ren,hr.2]
theorem Zhe{t:Nat}{rest:List X}(hr:Cl rest):Zi (Zo p) (BF t rest) 174 [.ptr 0 0]=some (.ptr 0 0,BF t rest):=by
 have hc:(Zo p).call 174 [.ptr 0 0] (BF t rest)=some (.ptr 0 0,BF t rest):=wG HasL.h174 rfl
 simp[Zi,X.ids.idsL,X.ids,Xp,qX hr,X.ren.renL,X.ren,Xw,YM,Mem.ren,KI hr,hc,YS,Nat.ble]
section
variable {t:Nat} {rest:List X} (hr:Cl rest) (hL:p.lies t (rest.length+2) 0 79=true)
include hr hL
theorem Zbj:(Zo p).call 140 [.ptr 0 0] (BF t rest)=some (.c (.tup []),BG t rest):=by
 have h174:=Zhe (p:=p) (t:=t) hr
 have hL':(Zo p).lies t (rest.length+2) 0 79=true:=hL
 refine Z4 Has.h140 (N:=1) (Zk rfl ?_);show W _ _ DE _ _ _ _;simp[DE,eqP,h174,hL'];exact Jd (.inl rfl) rfl (by simp[ZL,Ob.lt,Ob.ids,X.ids.idsL,X.ids,hr.1,ZM]) rfl
theorem Hx:Zi (Zo p) (BF t rest) 140 [.ptr 0 0]=some (.c (.tup []),BG t rest):=by
 refine YR (is:=[]) (ids:=[0]) (h'':=BG t rest) rfl ((ZS (n:=999) rfl rfl (qX hr)).trans YI) rfl rfl ?_ (Zbj (p:=p) hr hL) ?_ rfl
 ·simp[Mem.ren,KI hr]
 ·simp[Mem.ren,Ob.ren,X.ren.renL,X.ren,hr.2]
theorem Zgn(b:UInt8):(Zo p).call 85 [.ptr 0 0,.c (Zt b)] (BF t rest)=some (.c .nilif,BM t rest [b] 0):=by
 have h140:=Hx (p:=p) hr hL
 have ha:ZP (BG t rest) 5 1 1 (.c (.sl true [])) [.int .u8 b.toNat]=some (.own [.int .u8 b.toNat] 1 0,BG t rest++[tp 0]):=appF rfl (by simp) (by omega)
 refine Z4 Has.h85 (N:=1) (Zk rfl ?_);show W _ _ b85 _ _ _ _;simp[b85,h140,ZO,Zt,ha];exact⟨.inr rfl,by simp[f85,ZD,Pi.results,oneOf,ZL,Ob.lt,Ob.ids,X.ids.idsL,X.ids,hr.1,ZM,Zt]⟩
theorem ZfX(b:UInt8):Zi (Zo p) (BF t rest) 85 [.ptr 0 0,.c (Zt b)]=some (.c .nilif,BM t rest [b] 0):=by
 refine YR (is:=[]) (ids:=[0]) (h'':=BM t rest [b] 0) rfl ((ZS (n:=999) rfl rfl (qX hr)).trans YI) rfl rfl ?_ (Zgn (p:=p) hr hL b) ?_ rfl
 ·simp[Mem.ren,KI hr]
 ·simp[Mem.ren,Ob.ren,X.ren.renL,X.ren,hr.2]
theorem Zbx(s:By)(hs:s ≠ [])(hl:s.length<=4294967296):(Zo p).call 105 [.ptr 0 0,.c (.str s)] (BF t rest)=some (.c (.tup [.int .i64 s.length,.nilif]),BM t rest s 0):=by
 have h140:=Hx (p:=p) hr hL
 obtain⟨b,r,rfl⟩:∃ b r,s=b::r:=by cases s with | nil=>exact absurd rfl hs | cons b r=>exact⟨b,r,rfl⟩
 have ha:ZP (BG t rest) 5 1 1 (.c (.sl true [])) ((b::r).map Zt)=some (.own ((b::r).map Zt) 1 0,[.cells t (.ptr 0 0::.c (.sl true [])::rest),tp 0]):=by
  have hb:Nat.ble (0+((b::r).map Zt).length) Qq=true:=ZE (by simpa [Qq] using hl)
  have hlit:Nat.ble 1 4096=true:=rfl
  simp only[List.map_cons]at hb ⊢;simp only[ZP,List.length_nil,hb,hlit,Bool.and_self,cond_true,List.nil_append];rfl
 refine Z4 Has.h105 (N:=1) (Zk rfl ?_);show W _ _ DG _ _ _ _;simp only[List.map_cons]at ha;simp[DG,h140,K0,ha];exact⟨.inr rfl,by simp[CN,ZD,Pi.results,oneOf,Yl,closedL,ZL,Ob.lt,Ob.ids,X.ids.idsL,X.ids,hr.1,ZM]⟩
end
theorem Ua:Cl []:=⟨rfl,λ _=>rfl⟩
theorem c77(s:By)(hs:s.length<=1000000):GS p 77 [.str s] (2*s.length+2):=by
 refine UT Has.h77 ⟨s.length+1,Z6 _ rfl ?_⟩;simp only[List.map_cons,List.map_nil];have d1:=ZfX (p:=p) (t:=79) (rest:=[]) Ua HasL.l79 34
 simp only[Zt]at d1;simp at d1;have e85:∀ bs v (b:UInt8),bs.length<=3000000->∃ v',Zi (Zo p) (BM 79 [] bs v) 85 [.ptr 0 0,.c (.int .u8 b.toNat)]=some (.c .nilif,BM 79 [] (bs++[b]) v'):=by
  intro bs v b hb;obtain⟨v',h85⟩:=c85 (p:=p) (t:=79) Ua bs v b (by omega)
  exact⟨v',Xt (args:=[.int .u8 b.toNat]) (h:=BM 79 [] bs v) (i:=0) (k:=1) rfl rfl (by omega) Ua Ua h85⟩
 have e105:∀ bs v (w:By),bs.length<=3000000->w.length<=10->∃ v' z,Zi (Zo p) (BM 79 [] bs v) 105 [.ptr 0 0,.c (.str w)]=some (.c z,BM 79 [] (bs++w) v'):=by
  intro bs v w hb hw;obtain⟨v',h105⟩:=Mz (p:=p) (t:=79) Ua bs v w (by omega)
  exact⟨v',_,Xt (args:=[.str w]) (h:=BM 79 [] bs v) (i:=0) (k:=1) rfl rfl (by omega) Ua Ua h105⟩
 show W _ _ b77 _ _ _ _;simp[b77,d1];obtain⟨I,hI⟩:∃ I:Nat->Zf->Mem->Prop,I=fun (i:Nat) sl h=>∃ (bs:By) (v:Nat),bs.length<=1+2*i/\bs ≠ []/\h=BM 79 [] bs v/\Zm sl 0=.c (.str s)/\Zm sl 3=.ptr 0 0/\Zm sl 4=.c (.int .i64 i):=⟨_,rfl⟩
 refine ZU I s.length (by omega) (by rw[hI];exact⟨[34],0,by simp,by simp,by simp[Zt],by simp,by simp,by simp⟩) ?_
 intro i sl h hi hi2;rw[hI]at hi2;obtain⟨bs,v,hbl,hbn,rfl,h0,h3,h4⟩:=hi2;have hcl:clean (some [0,3,4]) 2 ⟨sl,BM 79 [] bs v⟩=⟨ZK [0,3,4] sl,BM 79 [] bs v⟩:=Yf (by simp)
 rcases Zl i s.length with hlt | hge
 ·have hw:IntKind.i64.wrap ((i:Int)+1)=(i:Int)+1:=ZA (by omega) (by omega)
  have hx:s[i]?=some s[i]:=Zb hlt
  have hpost:∀ (sl:Zf) (x:List UInt8) v,x.length<=2->x ≠ []->Zm sl 0=.c (.str s)->Zm sl 4=.c (.int .i64 ((i:Int)+1))->Zm sl 3=.ptr 0 0->I (i+1) sl (BM 79 [] (bs++x) v):=by
   intro sl x v hx hne e0 e4 e3;rw[hI];exact⟨bs++x,v,by simp;omega,by simp[hbn],rfl,e0,e3,e4⟩
  obtain⟨v1,k1⟩:=e85 bs v 92 (by omega)
  obtain⟨v2,k2⟩:=e85 (bs++[92]) v1 s[i] (by simp;omega)
  obtain⟨v3,k3⟩:=e85 bs v s[i] (by omega)
  obtain⟨v4,z4,k4⟩:=e105 bs v [92,110] (by omega) (by simp)
  simp[-List.map_append]at k1 k2 k3 k4;by_cases h92:s[i]=92
  ·have q92:((s[i].toNat:Int)==92)=true:=by rw[Gc];exact decide_eq_true h92
   simp[-List.map_append,hcl,h0,h3,h4,hlt,hx,Zt,q92,k1,k2,hw,Zn];first
    | exact hpost _ [92,s[i]] v2 (by simp) (List.cons_ne_nil _ _) rfl rfl rfl
    | exact⟨by omega,hpost _ [92,s[i]] v2 (by simp) (List.cons_ne_nil _ _) rfl rfl rfl⟩
  have q92:((s[i].toNat:Int)==92)=false:=by rw[Gc];exact decide_eq_false h92
  by_cases h34:s[i]=34
  ·have q34:((s[i].toNat:Int)==34)=true:=by rw[FG];exact decide_eq_true h34
   simp[-List.map_append,hcl,h0,h3,h4,hlt,hx,Zt,q92,q34,k1,k2,hw,Zn];first
    | exact hpost _ [92,s[i]] v2 (by simp) (List.cons_ne_nil _ _) rfl rfl rfl
    | exact⟨by omega,hpost _ [92,s[i]] v2 (by simp) (List.cons_ne_nil _ _) rfl rfl rfl⟩
  have q34:((s[i].toNat:Int)==34)=false:=by rw[FG];exact decide_eq_false h34
  by_cases h10:s[i]=10
  ·have q10:((s[i].toNat:Int)==10)=true:=by rw[MA];exact decide_eq_true h10
   simp[-List.map_append,hcl,h0,h3,h4,hlt,hx,Zt,q92,q34,q10,k4,hw,Zn];first
    | exact hpost _ [92,110] v4 (by simp) (List.cons_ne_nil _ _) rfl rfl rfl
    | exact⟨by omega,hpost _ [92,110] v4 (by simp) (List.cons_ne_nil _ _) rfl rfl rfl⟩
  have q10:((s[i].toNat:Int)==10)=false:=by rw[MA];exact decide_eq_false h10
  simp[-List.map_append,hcl,h0,h3,h4,hlt,hx,Zt,q92,q34,q10,k3,hw,Zn];first
   | exact hpost _ [s[i]] v3 (by simp) (List.cons_ne_nil _ _) rfl rfl rfl
   | exact⟨by omega,hpost _ [s[i]] v3 (by simp) (List.cons_ne_nil _ _) rfl rfl rfl⟩
 ·obtain rfl:i=s.length:=by omega
  obtain⟨v1,k1⟩:=e85 bs v 34 (by omega)
  have k2:=Xt (args:=[]) (h:=BM 79 [] (bs++[34]) v1) (i:=0) (k:=1) rfl rfl (by omega) Ua Ua (c32 (p:=p) Ua (bs++[34]) v1 (by simp) (by simp;omega))
  simp[-List.map_append]at k1 k2;simp[-List.map_append,hcl,h0,h3,h4,k1,k2];exact WB (.inr rfl) rfl rfl (by simp;omega)
end
section
class HasW(p:Prg):Prop where
 k109:∃ b,Ul p 109 [] []=some (.c (.sl b (w167.tail.map CV.str)),[])
 k111:∃ b,Ul p 111 [] []=some (.c (.sl b (w165.tail.map CV.str)),[])
 k115:∃ b,Ul p 115 [] []=some (.c (.sl b (w168.tail.map CV.str)),[])
variable {p:Prg} [Has p] [HasL p] [HasW p] {h:Mem}
abbrev VD(os:List Ob)(T:CV)(first:Bool)(bs:By)(v:Nat):Mem:=Q9 1::bo 81 1 2 (wr T first) bs v::tp v::os
abbrev AK(os:List Ob)(T:CV)(first:Bool)(bs:By)(v:Nat):Mem:=bo 81 0 1 (wr T first) bs v::tp v::os
theorem YT{f n:Nat}{args:List CV}(hc:WC p f args n)(os:List Ob)(T:CV)(first:Bool)(bs:By)(v:Nat)(hl:bs.length+n<=4294967296):∃ bs' v' first',bs.length<=bs'.length/\bs'.length<=bs.length+n/\Zi (Zo p) (VD os T first bs v) f (.ptr 1 0::args.map X.c)=some (.c (.tup []),VD os T first' bs' v'):=by
 obtain⟨bs',v',f',h1,h2,h3⟩:=hc T bs v first hl;exact⟨bs',v',f',h1,h2,Xt (h:=VD os T first bs v) (i:=1) (k:=2) rfl rfl (by omega) (Z2 T first) (Z2 T f') h3⟩
theorem qT{f n:Nat}{args:List CV}(hc:WC p f args n)(os:List Ob)(T:CV)(first:Bool)(bs:By)(v:Nat)(hl:bs.length+n<=4294967296):∃ bs' v' first',bs.length<=bs'.length/\bs'.length<=bs.length+n/\Zi (Zo p) (AK os T first bs v) f (.ptr 0 0::args.map X.c)=some (.c (.tup []),AK os T first' bs' v'):=by
 obtain⟨bs',v',f',h1,h2,h3⟩:=hc T bs v first hl;exact⟨bs',v',f',h1,h2,Xt (h:=AK os T first bs v) (i:=0) (k:=1) rfl rfl (by omega) (Z2 T first) (Z2 T f') h3⟩
theorem Oz{g n:Nat}{O:Ob}(hO:Co O)(hc:LC p g O n)(T:CV)(first:Bool)(bs:By)(v:Nat)(hl:bs.length+n<=4294967296):∃ bs' v',bs.length<=bs'.length/\bs'.length<=bs.length+n/\Zi (Zo p) (LM O T first bs v) 64 [.ptr 0 0,.func g [.ptr 2 0,.ptr 3 0]]=some (.c (.tup []),LM O T false bs' v'):=by
 obtain⟨bs',v',h1,h2,h3⟩:=hc T bs v first hl;refine⟨bs',v',h1,h2,YR (is:=[2,3]) (ids:=[0,1,2,3]) (h'':=LM O T false bs' v') rfl ?_ rfl rfl ?_ h3 ?_ rfl⟩
 ·exact(ZS (n:=999) rfl rfl (Qp (Z2 _ _))).trans ((Xj (n:=998) rfl).trans ((ZS (n:=997) rfl rfl rfl).trans ((ZS (n:=996) rfl rfl rfl).trans ((Xj (n:=995) rfl).trans ((ZS (n:=994) rfl rfl hO.1).trans YI)))))
 ·simp only[Mem.ren,Wy (i:=0) (k:=1) (i2:=0) (k2:=1) (ρ:=λ j=>Xw j [0,1,2,3]) (Z2 T first) rfl rfl,hO.2];rfl
 ·simp only[Mem.ren,Wy (i:=0) (k:=1) (i2:=0) (k2:=1) (ρ:=λ k=>bif Nat.ble [0,1,2,3].length k then some ((LM O T first bs v).length+(k - [0,1,2,3].length)) else[0,1,2,3][k]?) (Z2 T false) rfl rfl,hO.2];rfl
theorem Hc{g n j:Nat}{O:Ob}{os:List Ob}(hO:Co O)(hj:os[j]?=some O)(hc:LC p g O n)(T:CV)(first:Bool)(bs:By)(v:Nat)(hl:bs.length+n<=4294967296):∃ bs' v',bs.length<=bs'.length/\bs'.length<=bs.length+n/\Zi (Zo p) (VD os T first bs v) 64 [.ptr 1 0,.func g [.ptr 0 0,.ptr (j+3) 0]]=some (.c (.tup []),VD os T false bs' v'):=by
 obtain⟨bs',v',h1,h2,h3⟩:=hc T bs v first hl;have hset:os.set j O=os:=by
  have hlt:=(Za.1 hj).1
  have:=(Za.1 hj).2
  rw[<- this];simp
 refine⟨bs',v',h1,h2,YR (is:=[0,j+3]) (ids:=[1,2,0,j+3]) (sub:=[bo 81 1 2 (wr T first) bs v,tp v,Q9 1,O]) (h'':=[bo 81 1 2 (wr T false) bs' v',tp v',Q9 1,O]) rfl ?_ (by simp[X.ren.renL,X.ren,Xw]) ?_ ?_ h3 ?_ ?_⟩
 ·exact(ZS (n:=999) rfl rfl (Qp (Z2 _ _))).trans ((Xj (n:=998) rfl).trans ((ZS (n:=997) rfl rfl rfl).trans ((ZS (n:=996) rfl rfl rfl).trans ((Xj (n:=995) rfl).trans ((ZS (n:=994) (i:=j+3) (acc:=[1,2,0]) (by simp) (show(VD os T first bs v)[j+3]?=some O from hj) hO.1).trans YI)))))
 ·simp[YM,hj]
 ·simp only[Mem.ren,Wy (i:=1) (k:=2) (i2:=0) (k2:=1) (ρ:=λ q=>Xw q [1,2,0,j+3]) (Z2 T first) rfl rfl,hO.2];rfl
 ·simp only[Mem.ren,Wy (i:=0) (k:=1) (i2:=1) (k2:=2) (ρ:=λ k=>bif Nat.ble [1,2,0,j+3].length k then some ((VD os T first bs v).length+(k - [1,2,0,j+3].length)) else[1,2,0,j+3][k]?) (Z2 T false) rfl rfl,hO.2];rfl
 ·simp[YS,hset]
theorem Ot{fn:PFn}{x:Pi.Exit}{sl:Zf}{T:CV}{first:Bool}{bs:By}{v:Nat}{os:List Ob}(hx:x=.normal\/x=.ret)(hr:fn.res=[]):Gu fn 2 (.c (.tup [])) (BM 81 (wr T first) bs v) x sl (AK os T first bs v):=Jd hx hr (K5 (Z2 T first)) rfl
theorem OC{fn:PFn}{x:Pi.Exit}{sl:Zf}{O:Ob}{T:CV}{first:Bool}{bs:By}{v:Nat}{os:List Ob}(hO:Ob.lt 4 O=true)(hx:x=.normal\/x=.ret)(hr:fn.res=[]):Gu fn 4 (.c (.tup [])) (CB O T first bs v) x sl (VD (O::os) T first bs v):=by
 refine Jd hx hr ?_ rfl;have h1:Ob.lt 4 (Q9 1)=true:=rfl
 simp only[List.take_succ_cons,List.take_zero,ZL,h1,J5 (Z2 T first) (show 1 < 4 by omega) (show 2 < 4 by omega),hO,Bool.true_and,Bool.and_true];rfl
def PW(T:CV)(bs:By)(n:Nat)(z:X)(h':Mem):Prop:=∃ bs' v' first',bs.length<=bs'.length/\bs'.length<=bs.length+n/\z=.c (.tup [])/\h'=BM 81 (wr T first') bs' v'
def PQ(O:Ob)(T:CV)(bs:By)(n:Nat)(z:X)(h':Mem):Prop:=∃ bs' v' first',bs.length<=bs'.length/\bs'.length<=bs.length+n/\z=.c (.tup [])/\h'=CB O T first' bs' v'
theorem yg{f n:Nat}{fn:PFn}{args:List CV}(hf:p.fn f=some (.body fn))(hr:∀ T bs v first,bs.length+n<=4294967296->∃ N z h',PW T bs n z h'/\Z5 (Zo p) N fn (.ptr 0 0::args.map X.c) (BM 81 (wr T first) bs v)=some (z,h')):WC p f args n:=by
 intro T bs v first hl;obtain⟨N,z,h',⟨bs',v',f',h1,h2,rfl,rfl⟩,h3⟩:=hr T bs v first hl;exact⟨bs',v',f',h1,h2,Z4 hf h3⟩
theorem qW{g n:Nat}{fn:PFn}{O:Ob}(hf:p.fn g=some (.body fn))(hr:∀ T bs v first,bs.length+n<=4294967296->∃ N z h',PQ O T bs n z h'/\Z5 (Zo p) N fn [.ptr 0 0,.ptr 3 0] (CB O T first bs v)=some (z,h')):CC p g O n:=by
 intro T bs v first hl;obtain⟨N,z,h',⟨bs',v',f',h1,h2,rfl,rfl⟩,h3⟩:=hr T bs v first hl;exact⟨bs',v',f',h1,h2,Z4 hf h3⟩
theorem uk{fn:PFn}{x:Pi.Exit}{sl:Zf}{T:CV}{first':Bool}{bs bs':By}{v' n:Nat}{os:List Ob}(hx:x=.normal\/x=.ret)(hr:fn.res=[])(h1:bs.length<=bs'.length)(h2:bs'.length<=bs.length+n):∃ z h',PW T bs n z h'/\Gu fn 2 z h' x sl (AK os T first' bs' v'):=
 ⟨_,_,⟨bs',v',first',h1,h2,rfl,rfl⟩,Ot hx hr⟩
theorem jG{fn:PFn}{x:Pi.Exit}{sl:Zf}{O:Ob}{T:CV}{first':Bool}{bs bs':By}{v' n:Nat}{os:List Ob}(hO:Ob.lt 4 O=true)(hx:x=.normal\/x=.ret)(hr:fn.res=[])(h1:bs.length<=bs'.length)(h2:bs'.length<=bs.length+n):∃ z h',PQ O T bs n z h'/\Gu fn 4 z h' x sl (VD (O::os) T first' bs' v'):=
 ⟨_,_,⟨bs',v',first',h1,h2,rfl,rfl⟩,OC hO hx hr⟩
theorem Zbu(l:List By)(B:Nat)(hB:∀ s∈l,s.length<=B)(hl:l.length<=1000):WC p 116 [.sl false (l.map CV.str)] (l.length*(B+1)):=by
 refine yg Has.h116 λ T bs v first hlen=>⟨l.length+1,Z6 _ rfl ?_⟩
 simp only[List.map_cons,List.map_nil];show W _ _ N4 _ _ _ _;simp[N4];obtain⟨I,hI⟩:∃ I:Nat->Zf->Mem->Prop,I=fun (i:Nat) sl h=>∃ (b:By) (v:Nat) (f:Bool),bs.length<=b.length/\b.length<=bs.length+i*(B+1)/\h=BM 81 (wr T f) b v/\Zm sl 0=.ptr 0 0/\Zm sl 6=.c (.sl false (l.map CV.str))/\Zm sl 7=.c (.int .i64 l.length)/\Zm sl 8=.c (.int .i64 i):=⟨_,rfl⟩
 refine ZU I l.length (by omega) (by rw[hI];exact⟨bs,v,first,Nat.le_refl _,by omega,rfl,by simp,by simp,by simp,by simp⟩) ?_
 intro i sl h hi hi2;rw[hI]at hi2;obtain⟨b,v,f,l1,l2,rfl,h0,h6,h7,h8⟩:=hi2;have hcl:clean (some [0,6,7,8]) 2 ⟨sl,BM 81 (wr T f) b v⟩=⟨ZK [0,6,7,8] sl,BM 81 (wr T f) b v⟩:=Yf (by simp)
 have hmul:i*(B+1)<=l.length*(B+1):=Nat.mul_le_mul_right _ hi
 rcases Zl i l.length with hlt | hge
 ·have hw:IntKind.i64.wrap ((i:Int)+1)=(i:Int)+1:=ZA (by omega) (by omega)
  have hlen2:=hB l[i] (Zh hlt)
  have hm1:(i+1)*(B+1)<=l.length*(B+1):=Nat.mul_le_mul_right _ hlt
  have e1:(i+1)*(B+1)=i*(B+1)+(B+1):=by rw[Nat.add_mul,Nat.one_mul]
  obtain⟨b2,v2,f2,k1,k2,d66⟩:=qT (p:=p) (ye l[i]) [] T f b v (by omega)
  simp at d66;simp[hcl,h0,h6,h7,h8,hlt,d66,hw,Zn];have hfin:∀ sl,Zm sl 0=.ptr 0 0->Zm sl 6=.c (.sl false (l.map CV.str))->Zm sl 7=.c (.int .i64 l.length)->Zm sl 8=.c (.int .i64 ((i:Int)+1))->I (i+1) sl (BM 81 (wr T f2) b2 v2):=by
   intro sl g0 g6 g7 g8;rw[hI];exact⟨b2,v2,f2,by omega,by rw[e1];omega,rfl,g0,g6,g7,g8⟩
  first
   | exact hfin _ rfl rfl rfl rfl
   | exact⟨by omega,hfin _ rfl rfl rfl rfl⟩
 ·obtain rfl:i=l.length:=by omega
  simp[hcl,h0,h6,h7,h8];exact uk (os:=[]) (.inl rfl) rfl l1 l2
theorem c74[HasI p][HasG p](n:Int)(h0:-9223372036854775808<=n)(h1:n<=9223372036854775807):WC p 74 [.int .i64 n] 22:=by
 obtain⟨s,hs,h107⟩:=My (p:=p) n h0 h1;refine yg Has.h74 λ T bs v first hlen=>⟨1,Z6 _ rfl ?_⟩
 obtain⟨b2,v2,f2,k1,k2,d66⟩:=qT (p:=p) (ye s) [] T first bs v (by omega)
 simp at d66;simp only[List.map_cons,List.map_nil];show W _ _ b74 _ _ _ _;simp[b74,h107,d66];exact uk (os:=[]) (.inl rfl) rfl k1 (by omega)
end
end Go.Proofs.YtmckcikeefggdaaGreatDoor
