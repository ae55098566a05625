/- Part 9 of the proof. -/
import Derived.Test.YtmckcikeefggdaaGreatDoorPH
set_option linter.unusedVariables false
set_option linter.unusedSimpArgs false
set_option linter.unusedSectionVars false
set_option maxRecDepth 100000
set_option maxHeartbeats 16000000
namespace Go.Proofs.YtmckcikeefggdaaGreatDoor
open Go.Pi Go.Pi.S
theorem e0:Xg WF t0:=Y9 (λ t ht=>by simp at ht) k0
theorem e1:Xg WF t1:=Y9 (λ t ht=>by
 simp only[List.mem_cons,List.not_mem_nil,or_false]at ht;rcases ht with rfl
 ·exact e0) k1
theorem e2:Xg WF t2:=Y9 (λ t ht=>by simp at ht) k2
theorem e3:Xg WF t3:=Y9 (λ t ht=>by
 simp only[List.mem_cons,List.not_mem_nil,or_false]at ht;rcases ht with rfl | rfl
 ·exact e1
 ·exact e2) k3
theorem e4:Xg WF t4:=Y9 (λ t ht=>by simp at ht) k4
theorem e5:Xg WF t5:=Y9 (λ t ht=>by simp at ht) k5
theorem e6:Xg WF t6:=Y9 (λ t ht=>by
 simp only[List.mem_cons,List.not_mem_nil,or_false]at ht;rcases ht with rfl | rfl | rfl
 ·exact e3
 ·exact e4
 ·exact e5) k6
theorem e7:Xg WF t7:=Y9 (λ t ht=>by
 simp only[List.mem_cons,List.not_mem_nil,or_false]at ht;rcases ht with rfl
 ·exact e4) k7
theorem e8:Xg WF t8:=Y9 (λ t ht=>by
 simp only[List.mem_cons,List.not_mem_nil,or_false]at ht;rcases ht with rfl | rfl | rfl | rfl
 ·exact e6
 ·exact e4
 ·exact e5
 ·exact e7) k8
theorem e20:Xg WF t20:=Y9 (λ t ht=>by simp at ht) k20
theorem e21:Xg WF t21:=Y9 (λ t ht=>by simp at ht) k21
theorem e22:Xg WF t22:=Y9 (λ t ht=>by simp at ht) k22
section
variable {p:Prg} [Has p] [HasRx p] {h:Mem}
def BP(z:X)(h':Mem):Prop:=∃ b,z=.c (.bool b)/\h'=[]
def BT(p:Prg)(f:Nat)(args:List CV):Prop:=∃ b:Bool,∀ h,Zi (Zo p) h f (args.map X.c)=some (.c (.bool b),h)
theorem yi{f:Nat}{fn:PFn}{args:List CV}(hf:p.fn f=some (.body fn))(hr:∃ N,∃ z h',BP z h'/\Z5 (Zo p) N fn (args.map X.c) []=some (z,h')):BT p f args:=by
 obtain⟨N,z,_,⟨b,rfl,rfl⟩,hr⟩:=hr;exact⟨b,λ h=>Qj hf ⟨N,hr⟩⟩
theorem jN{fn:PFn}{r:Nat}{b:Bool}{x:Pi.Exit}{sl:Zf}{h:Mem}(hx:x=.normal\/x=.ret)(hr:fn.res=[.t r])(hs:Zm sl r=.c (.bool b)):∃ z h',BP z h'/\Gu fn 0 z h' x sl h:=
 ⟨_,_,⟨b,rfl,rfl⟩,Y0 hx hr hs rfl⟩
theorem g25(l:List By)(hl:ZX l.length):BT p 25 [.sl false (l.map CV.str)]:=by
 simp only[ZX]at hl;refine yi Has.h25 ⟨l.length+1,Z6 _ rfl ?_⟩;simp only[List.map_cons,List.map_nil];show W _ _ b25 _ _ _ _;simp[b25];refine ZU (λ i sl h=>h=[]/\Zm sl 0=.c (.sl false (l.map CV.str))/\Zm sl 3=.c (.int .i64 i)/\(True)) (l.length) (by omega) ⟨rfl,by simp,by simp,by simp⟩ ?_
 rintro i sl h hi ⟨rfl,h0,h3,hq⟩
 rcases Zl i (l.length) with hlt | hge
 ·have hw:IntKind.i64.wrap ((i:Int)+1)=(i:Int)+1:=ZA (by omega) (by omega)
  simp[h0,h3,hlt,hw,Zn];repeat' first
   | (exact jN (.inr rfl) rfl rfl)
   | ((first|refine Z8 false ?_ ?_ | refine Z9 false ?_ ?_ | refine ZT false ?_ ?_)<;>intro ht<;>simp[ht,h0,h3,hw,Zn])
   | (refine Zw rfl (by simp[Mem.same,Ze,Zj]) ?_;simp[h0,h3,hw,Zn])
   | exact Zu rfl rfl rfl
   | (refine⟨Zu rfl rfl rfl,?_⟩;first|rfl | (simp[*];done))
 ·obtain rfl:i=(l.length):=by omega
  simp[h0,h3];exact jN (.inr rfl) rfl rfl
theorem g24(l:List Mt)(hl:ZX l.length):BT p 24 [.sl false (l.map Mt.cv)]:=by
 simp only[ZX]at hl;refine yi Has.h24 ⟨l.length+1,Z6 _ rfl ?_⟩;simp only[List.map_cons,List.map_nil];show W _ _ b24 _ _ _ _;simp[b24];refine ZU (λ i sl h=>h=[]/\Zm sl 0=.c (.sl false (l.map Mt.cv))/\Zm sl 3=.c (.int .i64 i)/\(True)) (l.length) (by omega) ⟨rfl,by simp,by simp,by simp⟩ ?_
 rintro i sl h hi ⟨rfl,h0,h3,hq⟩
 rcases Zl i (l.length) with hlt | hge
 ·have hw:IntKind.i64.wrap ((i:Int)+1)=(i:Int)+1:=ZA (by omega) (by omega)
  obtain⟨⟨a,b,c⟩,hx⟩:∃ m:Mt,m=l[i]:=⟨_,rfl⟩;have hgl:l[i]?=some ⟨a,b,c⟩:=by rw[hx];exact Zb hlt
  simp[h0,h3,hlt,hw,Zn,<- hx,Mt.cv,cI];repeat' first
   | (exact jN (.inr rfl) rfl rfl)
   | ((first|refine Z8 false ?_ ?_ | refine Z9 false ?_ ?_ | refine ZT false ?_ ?_)<;>intro ht<;>simp[ht,h0,h3,hw,Zn,hlt,hgl,<- hx,Mt.cv,cI])
   | (refine Zw rfl (by simp[Mem.same,Ze,Zj]) ?_;simp[h0,h3,hw,Zn,hlt,hgl,<- hx,Mt.cv,cI])
   | exact Zu rfl rfl rfl
   | (refine⟨Zu rfl rfl rfl,?_⟩;first|rfl | (simp[*];done))
 ·obtain rfl:i=(l.length):=by omega
  simp[h0,h3];exact jN (.inr rfl) rfl rfl
theorem D5(l:List Sg)(hl:ZX l.length)(hs:∀ s∈l,s.ok):BT p 26 [.sl false (l.map Sg.cv)]:=by
 simp only[ZX]at hl;refine yi Has.h26 ⟨l.length+1,Z6 _ rfl ?_⟩;simp only[List.map_cons,List.map_nil];show W _ _ b26 _ _ _ _;simp[b26];repeat' first
  | (exact jN (.inr rfl) rfl rfl)
  | ((first|refine Z8 false ?_ ?_ | refine Z9 false ?_ ?_ | refine ZT false ?_ ?_)<;>intro ht<;>simp[ht,Zn])
  | (refine Zw rfl (by simp[Mem.same,Ze,Zj]) ?_;simp[Zn])
  | exact Zu rfl rfl rfl
  | (refine⟨Zu rfl rfl rfl,?_⟩;first|rfl | (simp[*];done))
 all_goals
  obtain⟨m,hm1,hm2,hm3⟩:∃ m,m<=l.length/\m<=12/\(m < l.length->m=12):=⟨min l.length 12,by omega,by omega,by omega⟩
  refine ZU (λ i sl h=>h=[]/\Zm sl 0=.c (.sl false (l.map Sg.cv))/\Zm sl 3=.c (.int .i64 i)/\(True)) (m) (by omega) ⟨rfl,by simp,by simp,by simp⟩ ?_
  rintro i sl h hi ⟨rfl,h0,h3,hq⟩
  rcases Zl i (m) with hlt | hge
  ·have hw:IntKind.i64.wrap ((i:Int)+1)=(i:Int)+1:=ZA (by omega) (by omega)
   have hlt1:i < l.length:=by omega
   have hlt2:i < 12:=by omega
   obtain⟨⟨a,b,c,d⟩,hx⟩:∃ m:Sg,m=l[i]:=⟨_,rfl⟩;have hgl:l[i]?=some ⟨a,b,c,d⟩:=by rw[hx];exact Zb hlt1
   have hok:=hs _ (Zh hlt1)
   rw[<- hx]at hok;obtain⟨b1,h24⟩:=g24 (p:=p) c hok.2.1;obtain⟨b2,h25⟩:=g25 (p:=p) d hok.2.2.2.1;simp only[List.map_cons,List.map_nil]at h24 h25;simp[h0,h3,hlt1,hlt2,hw,Zn,<- hx,Sg.cv,cI,h24,h25];repeat' first
    | (exact jN (.inr rfl) rfl rfl)
    | ((first|refine Z8 false ?_ ?_ | refine Z9 false ?_ ?_ | refine ZT false ?_ ?_)<;>intro ht<;>simp[ht,h0,h3,hw,Zn,hlt1,hlt2,hgl,<- hx,Sg.cv,cI,h24,h25])
    | (refine Zw rfl (by simp[Mem.same,Ze,Zj]) ?_;simp[h0,h3,hw,Zn,hlt1,hlt2,hgl,<- hx,Sg.cv,cI,h24,h25])
    | exact Zu rfl rfl rfl
    | (refine⟨Zu rfl rfl rfl,?_⟩;first|rfl | (simp[*];done))
    | (exact hlt;done)
  ·obtain rfl:i=(m):=by omega
   by_cases hq2:i < l.length
   ·have hi12:¬ i < 12:=by have:=hm3 hq2;omega
    have hi13:¬ (i:Int) < 12:=by omega
    simp[h0,h3,hq2,hi12,hi13];exact jN (.inr rfl) rfl rfl
   ·simp[h0,h3,hq2];exact jN (.inr rfl) rfl rfl
end
section
variable {p:Prg} [Has p] [HasRx p] {h:Mem}
theorem D4(q:Pt):q.ok->BT p 27 [q.cv]:=by
 induction q using Pt.ind
 rename_i k c a ih;intro hok;simp only[Pt.ok,ZX]at hok;obtain⟨hc,-,ha,hoks⟩:=hok;refine yi Has.h27 ⟨c.length+a.length+1,Z6 _ rfl ?_⟩;simp only[List.map_cons,List.map_nil,Pt.cv_mk];show W _ _ b27 _ _ _ _;simp[b27];obtain⟨al,hal⟩:∃ al,al=a.map Pt.cv:=⟨_,rfl⟩;rw[<- hal];have hall:al.length=a.length:=by rw[hal];simp
 repeat' first
  | (exact jN (.inr rfl) rfl rfl)
  | ((first|refine Z8 false ?_ ?_ | refine Z9 false ?_ ?_ | refine ZT false ?_ ?_)<;>intro ht<;>simp[ht,Zn])
  | (refine Zw rfl (by simp[Mem.same,Ze,Zj]) ?_;simp[Zn])
  | exact Zu rfl rfl rfl
  | (refine⟨Zu rfl rfl rfl,?_⟩;first|rfl | (simp[*];done))
 refine ZU (λ i sl h=>h=[Ob.cells 30 [.c (.int .i64 k),.c (.sl false (c.map Cd.cv)),.c (.sl false al)]]/\Zm sl 1=.ptr 0 0/\Zm sl 3=.c (.int .i64 i)/\(True)) (c.length) (by omega) ⟨rfl,by simp,by simp,by simp⟩ ?_
 rintro i sl h hi ⟨rfl,h1,h3,hq⟩
 rcases Zl i (c.length) with hlt | hge
 ·have hw:IntKind.i64.wrap ((i:Int)+1)=(i:Int)+1:=ZA (by omega) (by omega)
  obtain⟨⟨x1,x2,x3,x4⟩,hx⟩:∃ m:Cd,m=c[i]:=⟨_,rfl⟩;have hgl:c[i]?=some ⟨x1,x2,x3,x4⟩:=by rw[hx];exact Zb hlt
  simp[h1,h3,hlt,hw,Zn,<- hx,Cd.cv,cI];repeat' first
   | (exact jN (.inr rfl) rfl rfl)
   | ((first|refine Z8 false ?_ ?_ | refine Z9 false ?_ ?_ | refine ZT false ?_ ?_)<;>intro ht<;>simp[ht,h1,h3,hw,Zn,hlt,hgl,<- hx,Cd.cv,cI])
   | (refine Zw rfl (by simp[Mem.same,Ze,Zj]) ?_;simp[h1,h3,hw,Zn,hlt,hgl,<- hx,Cd.cv,cI])
   | exact Zu rfl rfl rfl
   | (refine⟨Zu rfl rfl rfl,?_⟩;first|rfl | (simp[*];done))
 ·obtain rfl:i=(c.length):=by omega
  simp[h1,h3];refine ZU (λ i sl h=>h=[Ob.cells 30 [.c (.int .i64 k),.c (.sl false (c.map Cd.cv)),.c (.sl false al)]]/\Zm sl 1=.ptr 0 0/\Zm sl 4=.c (.int .i64 i)/\(True)) (al.length) (by omega) ⟨rfl,by simp,by simp,by simp⟩ ?_
  rintro i sl h hi ⟨rfl,h1,h4,hq⟩
  rcases Zl i (al.length) with hlt | hge
  ·have hw:IntKind.i64.wrap ((i:Int)+1)=(i:Int)+1:=ZA (by omega) (by omega)
   have hia:i < a.length:=by omega
   have hx:al[i]=a[i].cv:=by simp[hal]
   obtain⟨b1,h27⟩:=ih a[i] (Zh hia) (Pt.oks_mem hoks _ (Zh hia));obtain⟨k',c',a',hsh⟩:=Pt.shape a[i];rw[hsh]at hx h27;simp only[List.map_cons,List.map_nil,Pt.cv_mk]at h27 hx;simp[h1,h4,hlt,hw,Zn,hx,h27];repeat' first
    | (exact jN (.inr rfl) rfl rfl)
    | ((first|refine Z8 false ?_ ?_ | refine Z9 false ?_ ?_ | refine ZT false ?_ ?_)<;>intro ht<;>simp[ht,h1,h4,hw,Zn,hlt,hx,h27])
    | (refine Zw rfl (by simp[Mem.same,Ze,Zj]) ?_;simp[h1,h4,hw,Zn,hlt,hx,h27])
    | exact Zu rfl rfl rfl
    | (refine⟨Zu rfl rfl rfl,?_⟩;first|rfl | (simp[*];done))
  ·obtain rfl:i=(al.length):=by omega
   simp[h1,h4];exact jN (.inr rfl) rfl rfl
theorem g13(q:Ex):q.ok->BT p 13 [q.cv]:=by
 induction q using Ex.ind
 rename_i k f ms ra of nu de na wi mt st pt te ar ih;obtain⟨pk,pc,pa,rfl⟩:=Pt.shape pt;intro hok;simp only[Ex.ok,ZX]at hok;obtain⟨h24,h25,h26,h27⟩:BT p 24 [.sl false (ms.map Mt.cv)]/\BT p 25 [.sl false (na.map CV.str)]/\BT p 26 [.sl false (st.map Sg.cv)]/\BT p 27 [(Pt.mk pk pc pa).cv]:=⟨g24 ms hok.1,g25 na hok.2.2.1,D5 st hok.2.2.2.2.1 hok.2.2.2.2.2.1,D4 _ hok.2.2.2.2.2.2.1⟩;obtain⟨b1,h24⟩:=h24;obtain⟨b2,h25⟩:=h25;obtain⟨b3,h26⟩:=h26;obtain⟨b4,h27⟩:=h27;simp only[List.map_cons,List.map_nil,Pt.cv_mk]at h24 h25 h26 h27;have har:=hok.2.2.2.2.2.2.2.2.1
 have hoks:=hok.2.2.2.2.2.2.2.2.2
 refine yi Has.h13 ⟨ar.length+1,Z6 _ rfl ?_⟩;simp only[List.map_cons,List.map_nil,Ex.cv_mk];obtain⟨al,hal⟩:∃ al,al=ar.map Ex.cv:=⟨_,rfl⟩;rw[<- hal];have hall:al.length=ar.length:=by rw[hal];simp
 show W _ _ b13 _ _ _ _;simp[b13];repeat' first
  | (exact jN (.inr rfl) rfl rfl)
  | ((first|refine Z8 false ?_ ?_ | refine Z9 false ?_ ?_ | refine ZT false ?_ ?_)<;>intro ht<;>simp[ht,Zn,h24,h25,h26,h27])
  | (refine Zw rfl (by simp[Mem.same,Ze,Zj]) ?_;simp[Zn,h24,h25,h26,h27])
  | exact Zu rfl rfl rfl
  | (refine⟨Zu rfl rfl rfl,?_⟩;first|rfl | (simp[*];done))
 refine ZU (λ i sl h=>h=[Ob.cells 33 [X.c (.int .i64 k),X.c (.int .i64 f),X.c (.sl false (ms.map Mt.cv)),X.c (.int .i64 ra),X.c (.int .i64 of),X.c (.int .i64 nu),X.c (.int .i64 de),X.c (.sl false (na.map CV.str)),X.c (.bool wi),X.c (.int .i64 mt),X.c (.sl false (st.map Sg.cv)),X.c (.int .i64 pk),X.c (.sl false (pc.map Cd.cv)),X.c (.sl false (pa.map Pt.cv)),X.c (.str te),X.c (.sl false al)]]/\Zm sl 1=.ptr 0 0/\Zm sl 3=.c (.int .i64 i)/\(True)) (al.length) (by omega) ⟨rfl,by simp,by simp,by simp⟩ ?_
 rintro i sl h hi ⟨rfl,h1,h3,hq⟩
 rcases Zl i (al.length) with hlt | hge
 ·have hw:IntKind.i64.wrap ((i:Int)+1)=(i:Int)+1:=ZA (by omega) (by omega)
  have hia:i < ar.length:=by omega
  have hx:al[i]=ar[i].cv:=by simp[hal]
  obtain⟨b5,h13⟩:=ih ar[i] (Zh hia) (Ex.oks_mem hoks _ (Zh hia));obtain⟨k2,f2,ms2,ra2,of2,nu2,de2,na2,wi2,mt2,st2,pk2,pc2,pa2,te2,ar2,hsh⟩:=Ex.shape ar[i];rw[hsh]at hx h13;simp only[List.map_cons,List.map_nil,Ex.cv_mk]at h13 hx;simp[h1,h3,hlt,hw,Zn,hx,h13];repeat' first
   | (exact jN (.inr rfl) rfl rfl)
   | ((first|refine Z8 false ?_ ?_ | refine Z9 false ?_ ?_ | refine ZT false ?_ ?_)<;>intro ht<;>simp[ht,h1,h3,hw,Zn,hlt,hx,h13])
   | (refine Zw rfl (by simp[Mem.same,Ze,Zj]) ?_;simp[h1,h3,hw,Zn,hlt,hx,h13])
   | exact Zu rfl rfl rfl
   | (refine⟨Zu rfl rfl rfl,?_⟩;first|rfl | (simp[*];done))
 ·obtain rfl:i=(al.length):=by omega
  simp[h1,h3];exact jN (.inr rfl) rfl rfl
theorem g4(q:Ex)(hq:q.ok):BT p 4 [q.cv]:=by
 have h12:=λ h=>c12 (p:=p) (h:=h) q hq
 obtain⟨b,h13⟩:=g13 (p:=p) q hq;obtain⟨k,f,ms,ra,of,nu,de,na,wi,mt,st,pk,pc,pa,te,ar,hsh⟩:=q.shape;refine yi Has.h4 ⟨1,Z6 _ rfl ?_⟩;obtain⟨z,hz⟩:∃ z:Int,z=min (q.sz:Int) 101:=⟨_,rfl⟩;rw[<- hz]at h12;rw[hsh]at h12 h13 ⊢;simp only[List.map_cons,List.map_nil,Ex.cv_mk]at h12 h13 ⊢;show W _ _ b4 _ _ _ _;simp[b4,h12];repeat' first
  | (exact jN (.inr rfl) rfl rfl)
  | ((first|refine Z8 false ?_ ?_ | refine Z9 false ?_ ?_ | refine ZT false ?_ ?_)<;>intro ht<;>simp[ht,h12,h13])
  | (refine Zw rfl (by simp[Mem.same,Ze,Zj]) ?_;simp[h12,h13])
  | exact Zu rfl rfl rfl
  | (refine⟨Zu rfl rfl rfl,?_⟩;first|rfl | (simp[*];done))
end
section
variable {p:Prg} [Has p] [HasRx p] {h:Mem}
def QV(k:Int):Bool:=k==2||(k==3||(k==4||k==5))
def Ex.kd:Ex->Int
 | .mk k _ _ _ _ _ _ _ _ _ _ _ _ _=>k
def hd2:List Ex->Bool
 | a::_=>a.kd==2
 | []=>false
def zk:Ex->Bool
 | .mk k _ _ _ _ _ _ _ _ _ _ _ _ ar=>QV k||(k==6&&hd2 ar)
def XE(i:Nat):By:=[112,97,114,116,95,UInt8.ofNat (97+i / 26),UInt8.ofNat (97+i % 26)]
def Vd(s:By):Ex:=.mk 13 0 [] 0 0 0 0 [] false 0 [] (.mk 0 [] []) s []
mutual
def Ex.parts:Ex->List Ex
 | .mk k f ms ra of nu de na wi mt st pa te ar=>if zk (.mk k f ms ra of nu de na wi mt st pa te ar) then[.mk k f ms ra of nu de na wi mt st pa te ar] else ZV ar
def ZV:List Ex->List Ex
 | []=>[]
 | a::r=>a.parts++ZV r
end
mutual
def Ex.rest:Ex->Nat->Ex
 | .mk k f ms ra of nu de na wi mt st pa te ar,n=>if zk (.mk k f ms ra of nu de na wi mt st pa te ar) then Vd (XE n) else .mk k f ms ra of nu de na wi mt st pa te (Z3 ar n)
def Z3:List Ex->Nat->List Ex
 | [],_=>[]
 | a::r,n=>a.rest n::Z3 r (n+a.parts.length)
end
theorem c79(k f ms ra of nu de na wi mt st pk pc pa te ar):Zi (Zo p) h 79 [.c (Ex.mk k f ms ra of nu de na wi mt st (.mk pk pc pa) te ar).cv]=some (.c (.bool (QV k)),h):=by
 refine ZB Has.h79 ?_;rw[Ex.cv_mk];refine⟨1,Zk rfl ?_⟩;show W _ _ b79 _ _ _ _;simp[b79];repeat' first
  | (refine Y0 (.inr rfl) rfl rfl ?_;simp[QV, *])
  | ((first|refine Z8 false ?_ ?_ | refine Z9 false ?_ ?_ | refine ZT false ?_ ?_)<;>intro ht<;>simp[ht])
  | (refine Zw rfl (by simp[Mem.same,Ze,Zj]) ?_;simp)
  | exact Zu rfl rfl rfl
  | (refine⟨Zu rfl rfl rfl,?_⟩;first|rfl | (simp[*];done))
theorem c41(k f ms ra of nu de na wi mt st pk pc pa te ar):Zi (Zo p) h 41 [.c (Ex.mk k f ms ra of nu de na wi mt st (.mk pk pc pa) te ar).cv]=some (.c (.bool (QV k)),h):=by
 refine ZB Has.h41 ?_;rw[Ex.cv_mk];refine⟨1,Zk rfl ?_⟩;show W _ _ b41 _ _ _ _;simp[b41];repeat' first
  | (refine Y0 (.inr rfl) rfl rfl ?_;simp[QV, *])
  | ((first|refine Z8 false ?_ ?_ | refine Z9 false ?_ ?_ | refine ZT false ?_ ?_)<;>intro ht<;>simp[ht])
  | (refine Zw rfl (by simp[Mem.same,Ze,Zj]) ?_;simp)
  | exact Zu rfl rfl rfl
  | (refine⟨Zu rfl rfl rfl,?_⟩;first|rfl | (simp[*];done))
theorem c36(k f ms ra of nu de na wi mt st pk pc pa te ar)(hk:k=6->ar ≠ []):Zi (Zo p) h 36 [.c (Ex.mk k f ms ra of nu de na wi mt st (.mk pk pc pa) te ar).cv]=some (.c (.bool (zk (Ex.mk k f ms ra of nu de na wi mt st (.mk pk pc pa) te ar))),h):=by
 have h79:=λ h=>c79 (p:=p) (h:=h) k f ms ra of nu de na wi mt st pk pc pa te ar
 refine ZB Has.h36 ?_;rw[Ex.cv_mk]at h79 ⊢;cases ar with
 | nil=>
  have hk6:(k==6)=false:=by
   cases hq:(k==6) with
   | false=>rfl
   | true=>exact absurd rfl (hk (by simpa using hq))
  simp only[List.map_nil]at h79 ⊢;cases hl:QV k<;>simp only[hl]at h79
  all_goals
   refine⟨1,Zk rfl ?_⟩;show W _ _ b36 _ _ _ _;simp[b36,h79,hk6];exact Y0 (.inr rfl) rfl rfl (by simp[zk,hl,hk6])
 | cons a r=>
  obtain⟨k2,f2,ms2,ra2,of2,nu2,de2,na2,wi2,mt2,st2,pk2,pc2,pa2,te2,ar2,rfl⟩:=Ex.shape a;simp only[List.map_cons,Ex.cv_mk]at h79 ⊢;cases hl:QV k<;>simp only[hl]at h79<;>cases h6:(k==6)<;>cases h2:(k2==2)
  all_goals
   refine⟨1,Zk rfl ?_⟩;show W _ _ b36 _ _ _ _;simp[b36,h79,h6,h2];exact Y0 (.inr rfl) rfl rfl (by simp[zk,hd2,Ex.kd,hl,h6,h2])
theorem c40(k f ms ra of nu de na wi mt st pk pc pa te ar)(hk:k=6->ar.length=1):Zi (Zo p) h 40 [.c (Ex.mk k f ms ra of nu de na wi mt st (.mk pk pc pa) te ar).cv]=some (.c (.bool (k==6&&hd2 ar)),h):=by
 refine ZB Has.h40 ?_;rw[Ex.cv_mk];cases ar with
 | nil=>
  have hk6:(k==6)=false:=by
   cases hq:(k==6) with
   | false=>rfl
   | true=>exact absurd (hk (by simpa using hq)) (by simp)
  refine⟨1,Zk rfl ?_⟩;show W _ _ b40 _ _ _ _;simp[b40,hk6];repeat' first
   | (refine Y0 (.inr rfl) rfl rfl ?_;simp[*])
   | ((first|refine Z8 false ?_ ?_ | refine Z9 false ?_ ?_ | refine ZT false ?_ ?_)<;>intro ht<;>simp[ht,hk6])
   | (refine Zw rfl (by simp[Mem.same,Ze,Zj]) ?_;simp[hk6])
   | exact Zu rfl rfl rfl
   | (refine⟨Zu rfl rfl rfl,?_⟩;first|rfl | (simp[*];done))
 | cons a r=>
  obtain⟨k2,f2,ms2,ra2,of2,nu2,de2,na2,wi2,mt2,st2,pk2,pc2,pa2,te2,ar2,rfl⟩:=Ex.shape a;simp only[List.map_cons,Ex.cv_mk];cases h6:(k==6)<;>cases h2:(k2==2)
  rotate_left 2
  all_goals
   try
    have hr:r=[]:=by
     have:=hk (by simpa using h6)
     simpa using this
    subst hr
   refine⟨1,Zk rfl ?_⟩;show W _ _ b40 _ _ _ _;simp[b40,h6,h2];exact Y0 (.inr rfl) rfl rfl (by simp[hd2,Ex.kd,h6,h2])
theorem jx{i:Nat}(hi:i<=200):Pi.binOp .quo (.c (.int .i64 i)) (.c (.int .i64 26))=some (.int .i64 ((i / 26:Nat):Int)):=by
 have h1:IntKind.i64.wrap ((i / 26:Nat):Int)=((i / 26:Nat):Int):=ZA (by omega) (by omega)
 have h2:Int.tdiv (i:Int) 26=((i / 26:Nat):Int):=rfl
 show Xe .quo .i64 (i:Int) 26=_;simp only[Xe,Zn,h2,h1];rfl
theorem jw{i:Nat}:Pi.binOp .rem (.c (.int .i64 i)) (.c (.int .i64 26))=some (.int .i64 ((i % 26:Nat):Int)):=by
 have h2:Int.tmod (i:Int) 26=((i % 26:Nat):Int):=rfl
 show Xe .rem .i64 (i:Int) 26=_;simp only[Xe,h2];rfl
theorem c37(i:Nat)(hi:i<=200):Zi (Zo p) h 37 [.c (.int .i64 i)]=some (.c (.str (XE i)),h):=by
 refine ZB Has.h37 ?_;have h1:=jx hi
 have h2:=jw (i:=i)
 obtain⟨a,ha,ha2⟩:∃ a,a=i / 26/\a<=100:=⟨_,rfl,by omega⟩
 obtain⟨b,hb,hb2⟩:∃ b,b=i % 26/\b<=100:=⟨_,rfl,by omega⟩
 rw[<- ha]at h1;rw[<- hb]at h2;have h3:IntKind.i64.wrap (97+(a:Int))=97+a:=ZA (by omega) (by omega)
 have h4:IntKind.i64.wrap (97+(b:Int))=97+b:=ZA (by omega) (by omega)
 have h5:IntKind.u8.wrap (97+(a:Int))=97+a:=by simp[IntKind.wrap,IntKind.bits,IntKind.signed];omega
 have h6:IntKind.u8.wrap (97+(b:Int))=97+b:=by simp[IntKind.wrap,IntKind.bits,IntKind.signed];omega
 obtain⟨ca,hca⟩:∃ c,c=UInt8.ofNat (97+a):=⟨_,rfl⟩;obtain⟨cb,hcb⟩:∃ c,c=UInt8.ofNat (97+b):=⟨_,rfl⟩;have h7:bytesOf [CV.int .u8 (97+(a:Int)),CV.int .u8 (97+(b:Int))]=some [ca,cb]:=by rw[hca,hcb];rfl
 have h8:XE i=[112,97,114,116,95,ca,cb]:=by rw[hca,hcb,ha,hb];rfl
 rw[h8];have h9:∀ h:Mem,ZO h false 1 (X.c (CV.sl true [CV.int .u8 (97+(a:Int)),CV.int .u8 (97+(b:Int))]))=some [CV.int .u8 (97+(a:Int)),CV.int .u8 (97+(b:Int))]:=λ _=>rfl
 have h10:Pi.binOp .add (.c (.str [112,97,114,116,95])) (.c (.str [ca,cb]))=some (.str [112,97,114,116,95,ca,cb]):=rfl
 refine⟨1,Zk rfl ?_⟩;show W _ _ b37 _ _ _ _;simp[b37,h10,h1,h2,Zn,h3,h4,h5,h6,h7,h9];exact⟨.inr rfl,by simp[f37,ZD,Pi.results,ZL,Ob.lt,Ob.ids,X.ids.idsL,X.ids,ZM,oneOf,Yl,closedL,frz.frzL,frz,ZN]⟩
theorem OP(i:Nat)(hi:i<=200):Zi (Zo p) h 42 [.c (.int .i64 i)]=some (.c (.str (XE i)),h):=by
 refine ZB Has.h42 ?_;have h1:=jx hi
 have h2:=jw (i:=i)
 obtain⟨a,ha,ha2⟩:∃ a,a=i / 26/\a<=100:=⟨_,rfl,by omega⟩
 obtain⟨b,hb,hb2⟩:∃ b,b=i % 26/\b<=100:=⟨_,rfl,by omega⟩
 rw[<- ha]at h1;rw[<- hb]at h2;have h3:IntKind.i64.wrap (97+(a:Int))=97+a:=ZA (by omega) (by omega)
 have h4:IntKind.i64.wrap (97+(b:Int))=97+b:=ZA (by omega) (by omega)
 have h5:IntKind.u8.wrap (97+(a:Int))=97+a:=by simp[IntKind.wrap,IntKind.bits,IntKind.signed];omega
 have h6:IntKind.u8.wrap (97+(b:Int))=97+b:=by simp[IntKind.wrap,IntKind.bits,IntKind.signed];omega
 obtain⟨ca,hca⟩:∃ c,c=UInt8.ofNat (97+a):=⟨_,rfl⟩;obtain⟨cb,hcb⟩:∃ c,c=UInt8.ofNat (97+b):=⟨_,rfl⟩;have h7:bytesOf [CV.int .u8 (97+(a:Int)),CV.int .u8 (97+(b:Int))]=some [ca,cb]:=by rw[hca,hcb];rfl
 have h8:XE i=[112,97,114,116,95,ca,cb]:=by rw[hca,hcb,ha,hb];rfl
 rw[h8];have h9:∀ h:Mem,ZO h false 1 (X.c (CV.sl true [CV.int .u8 (97+(a:Int)),CV.int .u8 (97+(b:Int))]))=some [CV.int .u8 (97+(a:Int)),CV.int .u8 (97+(b:Int))]:=λ _=>rfl
 have h10:Pi.binOp .add (.c (.str [112,97,114,116,95])) (.c (.str [ca,cb]))=some (.str [112,97,114,116,95,ca,cb]):=rfl
 refine⟨1,Zk rfl ?_⟩;show W _ _ HG _ _ _ _;simp[HG,h10,h1,h2,Zn,h3,h4,h5,h6,h7,h9];exact⟨.inr rfl,by simp[CI,ZD,Pi.results,ZL,Ob.lt,Ob.ids,X.ids.idsL,X.ids,ZM,oneOf,Yl,closedL,frz.frzL,frz,ZN]⟩
end
section
variable {p:Prg} [Has p] [HasL p] [HasW p] {h:Mem}
theorem W8(os:List Ob)(hs:Mem.same os os=true)(T:CV)(first:Bool)(bs:By)(v:Nat):Mem.same (VD os T first bs v) (VD os T first bs v)=true:=by
 simp only[Mem.same,Ze,Zj,hs,Bool.and_self]
@[local simp] theorem qY(i o:Nat)(v:CV):X.ids.idsL 6 [.ptr i o,.c v]=some [i]:=rfl
theorem opw{k:Int}(h0:1<=k)(h1:k<=6):∃ (w:By) (j:Nat),w.length<=20/\IntKind.i64.wrap (k - 1)=(j:Int)/\w167[j+1]?=some w/\j < 6:=by
 have:k=1\/k=2\/k=3\/k=4\/k=5\/k=6:=by omega
 rcases this with rfl | rfl | rfl | rfl | rfl | rfl
 ·exact⟨_,0,by decide,rfl,rfl,by decide⟩
 ·exact⟨_,1,by decide,rfl,rfl,by decide⟩
 ·exact⟨_,2,by decide,rfl,rfl,by decide⟩
 ·exact⟨_,3,by decide,rfl,rfl,by decide⟩
 ·exact⟨_,4,by decide,rfl,rfl,by decide⟩
 ·exact⟨_,5,by decide,rfl,rfl,by decide⟩
theorem stw{k:Int}(h0:1<=k)(h1:k<=8):∃ (w:By) (j:Nat),w.length<=20/\IntKind.i64.wrap (k - 1)=(j:Int)/\w168[j+1]?=some w/\j < 8:=by
 have:k=1\/k=2\/k=3\/k=4\/k=5\/k=6\/k=7\/k=8:=by omega
 rcases this with rfl | rfl | rfl | rfl | rfl | rfl | rfl | rfl
 ·exact⟨_,0,by decide,rfl,rfl,by decide⟩
 ·exact⟨_,1,by decide,rfl,rfl,by decide⟩
 ·exact⟨_,2,by decide,rfl,rfl,by decide⟩
 ·exact⟨_,3,by decide,rfl,rfl,by decide⟩
 ·exact⟨_,4,by decide,rfl,rfl,by decide⟩
 ·exact⟨_,5,by decide,rfl,rfl,by decide⟩
 ·exact⟨_,6,by decide,rfl,rfl,by decide⟩
 ·exact⟨_,7,by decide,rfl,rfl,by decide⟩
theorem ptw{k:Int}(h0:1<=k)(h1:k<=9):∃ (w:By) (j:Nat),w.length<=20/\IntKind.i64.wrap (k - 1)=(j:Int)/\w165[j+1]?=some w/\j < 9:=by
 have:k=1\/k=2\/k=3\/k=4\/k=5\/k=6\/k=7\/k=8\/k=9:=by omega
 rcases this with rfl | rfl | rfl | rfl | rfl | rfl | rfl | rfl | rfl
 ·exact⟨_,0,by decide,rfl,rfl,by decide⟩
 ·exact⟨_,1,by decide,rfl,rfl,by decide⟩
 ·exact⟨_,2,by decide,rfl,rfl,by decide⟩
 ·exact⟨_,3,by decide,rfl,rfl,by decide⟩
 ·exact⟨_,4,by decide,rfl,rfl,by decide⟩
 ·exact⟨_,5,by decide,rfl,rfl,by decide⟩
 ·exact⟨_,6,by decide,rfl,rfl,by decide⟩
 ·exact⟨_,7,by decide,rfl,rfl,by decide⟩
 ·exact⟨_,8,by decide,rfl,rfl,by decide⟩
abbrev oM(m:Mt):Ob:=.cells 91 [.c (.int .i64 m.kind),.c (.str m.name),.c (.str m.value)]
theorem Hm(m:Mt):Co (oM m):=Kf (Vc [.int .i64 m.kind,.str m.name,.str m.value])
theorem ZhD(m:Mt)(hm:OI m):CC p 108 (oM m) 500:=by
 obtain⟨k,nm,val⟩:=m;obtain⟨hk0,hk1,hnm,hval⟩:=hm;simp only at hk0 hk1 hnm hval;obtain⟨w,j,hwl,hwr,hwj,hj6⟩:=opw hk0 (by omega)
 obtain⟨fb,k109⟩:=HasW.k109 (p:=p);have h109:∀ h,Zi (Zo p) h 109 []=some (.c (.sl fb (w167.tail.map CV.str)),h):=λ h=>W6 (vs:=[]) k109
 obtain⟨q,hq,h77⟩:=c77 (p:=p) val (by omega)
 simp only[List.map_cons,List.map_nil]at h77;have h77':=YZ h77
 refine qW Has.h108 λ T bs v first hlen=>⟨1,Z6 _ rfl ?_⟩
 obtain⟨b1,v1,f1,l1,m1,d1⟩:=YT (p:=p) (ye w) [oM ⟨k,nm,val⟩] T first bs v (by omega)
 obtain⟨b2,v2,f2,l2,m2,d2⟩:=YT (p:=p) (ye nm) [oM ⟨k,nm,val⟩] T f1 b1 v1 (by omega)
 obtain⟨b3,v3,f3,l3,m3,d3⟩:=YT (p:=p) (ye q) [oM ⟨k,nm,val⟩] T f2 b2 v2 (by omega)
 simp at d1 d2 d3;show W _ _ N9 _ _ _ _;simp only[N9];have k109':(Zo p).call 109 [] []=some (.c (.sl fb (w167.tail.map CV.str)),[]):=k109
 simp;refine Yt λ C hC=>?_
 simp[h109,k109',hwr,Zn,hwj,d1];refine⟨hC _ rfl,rfl,W8 _ (Yg _ _) _ _ _ _,?_⟩;simp[d2];refine Yt λ C hC=>?_
 simp[h77,h77',d3];exact⟨hC _ rfl,rfl,W8 _ (Yg _ _) _ _ _ _,jG (os:=[]) rfl (.inl rfl) rfl (by omega) (by omega)⟩
abbrev L3(T:CV)(first:Bool)(bs:By)(v:Nat):Mem:=[bo 81 0 1 (wr T first) bs v,tp v,Q9 0]
theorem c70(ms:List Mt)(hl:ms.length<=16)(hm:∀ m∈ms,OI m):WC p 70 [.sl false (ms.map Mt.cv)] (ms.length*503):=by
 refine yg Has.h70 λ T bs v first hlen=>⟨ms.length+1,Z6 _ rfl ?_⟩
 simp only[List.map_cons,List.map_nil];obtain⟨ml,hml⟩:∃ ml,ml=ms.map Mt.cv:=⟨_,rfl⟩;have hmll:ml.length=ms.length:=by rw[hml];simp
 rw[<- hml,<- hmll];rw[<- hmll]at hlen;show W _ _ b70 _ _ _ _;simp[b70];obtain⟨I,hI⟩:∃ I:Nat->Zf->Mem->Prop,I=fun (i:Nat) sl h=>∃ (b:By) (v:Nat) (f:Bool),bs.length<=b.length/\b.length<=bs.length+i*503/\Cm [2,6,7,8] (L3 T f b v) sl h/\Zm sl 2=.ptr 2 0/\Zm sl 6=.c (.sl false ml)/\Zm sl 7=.c (.int .i64 ml.length)/\Zm sl 8=.c (.int .i64 i):=⟨_,rfl⟩
 refine ZU I ml.length (by omega) (by rw[hI];exact⟨bs,v,first,Nat.le_refl _,by omega,Xh,by simp,by simp,by simp,by simp⟩) ?_
 intro i sl h hi hi2;rw[hI]at hi2;obtain⟨b,v,f,l1,l2,hcl,h2,h6,h7,h8⟩:=hi2;simp only[Cm]at hcl;have hL:(L3 T f b v).length=3:=rfl
 rw[hL]at hcl;rcases Zl i ml.length with hlt | hge
 ·have hw:IntKind.i64.wrap ((i:Int)+1)=(i:Int)+1:=ZA (by omega) (by omega)
  obtain⟨m,hmem,hx⟩:∃ m,m∈ms/\ml[i]=m.cv:=⟨ms[i],Zh _,by simp[hml]⟩
  obtain⟨b2,v2,k1,k2,d64⟩:=Oz (p:=p) (Hm m) (qU (p:=p) (Hm m) rfl (ZhD (p:=p) m (hm m hmem))) T f b v (by omega)
  try simp at d64
  simp only[Mt.cv,cI]at hx;simp[hcl,h2,h6,h7,h8,hlt,hx,d64,hw,Zn];have hfin:∀ sl,Zm sl 2=.ptr 2 0->Zm sl 6=.c (.sl false ml)->Zm sl 7=.c (.int .i64 ml.length)->Zm sl 8=.c (.int .i64 ((i:Int)+1))->I (i+1) sl (LM (oM m) T false b2 v2):=by
   intro sl g2 g6 g7 g8;rw[hI];refine⟨b2,v2,false,by omega,by omega,Zu rfl (by simp[ZK,Yy,g2,g6,g7,g8,X.lt,X.ids,ZM]) ?_,g2,g6,g7,g8⟩
   simp only[ZL,J5 (Z2 T false) (show 0 < 3 by omega) (show 1 < 3 by omega)]
   rfl
  first
   | exact hfin _ rfl rfl rfl rfl
   | exact⟨by omega,hfin _ rfl rfl rfl rfl⟩
 ·obtain rfl:i=ml.length:=by omega
  simp[hcl,h2,h6,h7,h8];exact uk (os:=[Q9 0]) (.inl rfl) rfl l1 l2
end
section
variable {p:Prg} [Has p] [HasL p] [HasW p] [HasPr p] {h:Mem}
attribute [local simp] qY
abbrev oS(s:Sg):Ob:=.cells 93 [.c (.int .i64 s.kind),.c (.str s.text),.c (.sl false (s.ms.map Mt.cv)),.c (.sl false (s.names.map CV.str))]
theorem Hk(s:Sg):Co (oS s):=Kf (Vc [.int .i64 s.kind,.str s.text,.sl false (s.ms.map Mt.cv),.sl false (s.names.map CV.str)])
def MI(O:Ob)(T:CV)(bs:By)(n:Nat)(s:Zf)(h:Mem):Prop:=∃ b v f,bs.length<=b.length/\b.length<=bs.length+n/\h=CB O T f b v/\Zm s 0=.ptr 0 0/\Zm s 1=.ptr 3 0
theorem ZhB(s:Sg)(hs:Id s):CC p 114 (oS s) 9500:=by
 obtain⟨k,tx,ms,na⟩:=s;obtain⟨hk0,hk1,htx,hms,hmv,hna,hnv⟩:=hs;simp only at hk0 hk1 htx hms hmv hna hnv;obtain⟨w,j,hwl,hwr,hwj,hj8⟩:=stw hk0 hk1;obtain⟨fb,k115⟩:=HasW.k115 (p:=p);have h115:∀ h,Zi (Zo p) h 115 []=some (.c (.sl fb (w168.tail.map CV.str)),h):=λ h=>W6 (vs:=[]) k115
 have k115':(Zo p).call 115 [] []=some (.c (.sl fb (w168.tail.map CV.str)),[]):=k115
 have hms2:ms.length*503<=8048:=by omega
 have hna2:na.length*(60+1)<=976:=by omega
 refine qW Has.h114 λ T bs v first hlen=>⟨1,Z6 _ rfl ?_⟩
 obtain⟨b1,v1,f1,l1,m1,d1⟩:=YT (p:=p) (ye w) [oS ⟨k,tx,ms,na⟩] T first bs v (by omega)
 simp at d1;show W _ _ N5 _ _ _ _;simp only[N5];simp;refine Yt λ C hC=>?_
 simp[h115,k115',hwr,Zn,hwj,d1];refine⟨hC _ rfl,rfl,W8 _ (Yg _ _) _ _ _ _,?_⟩;refine qN (MI (oS ⟨k,tx,ms,na⟩) T bs 424) ?_ ?_
 ·by_cases hk3:k<=3
  ·have htl:=htx hk3
   obtain⟨q,hq,h77⟩:=c77 (p:=p) tx (by omega)
   simp only[List.map_cons,List.map_nil]at h77;have h77':=YZ h77
   obtain⟨b2,v2,f2,l2,m2,d2⟩:=YT (p:=p) (ye q) [oS ⟨k,tx,ms,na⟩] T f1 b1 v1 (by omega)
   simp at d2;simp[hk3];refine Yt λ C hC=>?_
   simp[h77,h77',d2];exact⟨hC _ rfl,rfl,W8 _ (Yg _ _) _ _ _ _,b2,v2,f2,by omega,by omega,rfl,rfl,rfl⟩
  ·simp[hk3];exact⟨b1,v1,f1,by omega,by omega,rfl,rfl,rfl⟩
 clear d1 m1 l1 f1 v1 b1
 rintro s h ⟨b1,v1,f1,l1,m1,rfl,s0,s1⟩
 obtain⟨b2,v2,f2,l2,m2,d2⟩:=YT (p:=p) (c70 (p:=p) ms hms hmv) [oS ⟨k,tx,ms,na⟩] T f1 b1 v1 (by omega)
 obtain⟨b3,v3,f3,l3,m3,d3⟩:=YT (p:=p) (Zbu (p:=p) na 60 hnv (by omega)) [oS ⟨k,tx,ms,na⟩] T f2 b2 v2 (by omega)
 simp only[List.map_cons,List.map_nil]at d2 d3;simp[s0,s1,d2,d3];exact jG (os:=[]) rfl (.inl rfl) rfl (by omega) (by omega)
theorem c73(st:List Sg)(hl:st.length<=100)(hm:∀ s∈st,Id s):WC p 73 [.sl false (st.map Sg.cv)] (st.length*9503):=by
 refine yg Has.h73 λ T bs v first hlen=>⟨st.length+1,Z6 _ rfl ?_⟩
 simp only[List.map_cons,List.map_nil];obtain⟨ml,hml⟩:∃ ml,ml=st.map Sg.cv:=⟨_,rfl⟩;have hmll:ml.length=st.length:=by rw[hml];simp
 rw[<- hml,<- hmll];rw[<- hmll]at hlen;show W _ _ b73 _ _ _ _;simp[b73];obtain⟨I,hI⟩:∃ I:Nat->Zf->Mem->Prop,I=fun (i:Nat) sl h=>∃ (b:By) (v:Nat) (f:Bool),bs.length<=b.length/\b.length<=bs.length+i*9503/\Cm [2,6,7,8] (L3 T f b v) sl h/\Zm sl 2=.ptr 2 0/\Zm sl 6=.c (.sl false ml)/\Zm sl 7=.c (.int .i64 ml.length)/\Zm sl 8=.c (.int .i64 i):=⟨_,rfl⟩
 refine ZU I ml.length (by omega) (by rw[hI];exact⟨bs,v,first,Nat.le_refl _,by omega,Xh,by simp,by simp,by simp,by simp⟩) ?_
 intro i sl h hi hi2;rw[hI]at hi2;obtain⟨b,v,f,l1,l2,hcl,h2,h6,h7,h8⟩:=hi2;simp only[Cm]at hcl;have hL:(L3 T f b v).length=3:=rfl
 rw[hL]at hcl;rcases Zl i ml.length with hlt | hge
 ·have hw:IntKind.i64.wrap ((i:Int)+1)=(i:Int)+1:=ZA (by omega) (by omega)
  obtain⟨m,hmem,hx⟩:∃ m,m∈st/\ml[i]=m.cv:=⟨st[i],Zh _,by simp[hml]⟩
  obtain⟨b2,v2,k1,k2,d64⟩:=Oz (p:=p) (Hk m) (qU (p:=p) (Hk m) rfl (ZhB (p:=p) m (hm m hmem))) T f b v (by omega)
  simp only[Sg.cv,cI]at hx;simp[hcl,h2,h6,h7,h8,hlt,hx,d64,hw,Zn];have hfin:∀ sl,Zm sl 2=.ptr 2 0->Zm sl 6=.c (.sl false ml)->Zm sl 7=.c (.int .i64 ml.length)->Zm sl 8=.c (.int .i64 ((i:Int)+1))->I (i+1) sl (LM (oS m) T false b2 v2):=by
   intro sl g2 g6 g7 g8;rw[hI];refine⟨b2,v2,false,by omega,by omega,Zu rfl (by simp[ZK,Yy,g2,g6,g7,g8,X.lt,X.ids,ZM]) ?_,g2,g6,g7,g8⟩
   simp only[ZL,J5 (Z2 T false) (show 0 < 3 by omega) (show 1 < 3 by omega)]
   rfl
  first
   | exact hfin _ rfl rfl rfl rfl
   | exact⟨by omega,hfin _ rfl rfl rfl rfl⟩
 ·obtain rfl:i=ml.length:=by omega
  simp[hcl,h2,h6,h7,h8];exact uk (os:=[Q9 0]) (.inl rfl) rfl l1 l2
abbrev oC(c:Cd):Ob:=.cells 95 [.c (.str c.field),.c (.int .i64 c.op),.c (.str c.text),.c (.int .i64 c.num)]
theorem Hn(c:Cd):Co (oC c):=Kf (Vc [.str c.field,.int .i64 c.op,.str c.text,.int .i64 c.num])
theorem Mm{c:Cd}(h:WG c=0):K9 c.field=true->0<=c.num/\c.num<=1099511627776:=by
 intro hf;simp only[WG,hf,if_true]at h;split at h
 ·cases h
 ·split at h
  ·cases h
  ·split at h
   ·cases h
   ·omega
theorem ZhC[HasI p][HasG p](c:Cd)(hc:WG c=0):CC p 112 (oC c) 700:=by
 obtain⟨hop0,hop1,hfd,htx⟩:=cdV hc;have hnum:=Mm hc
 obtain⟨fd,op,tx,nu⟩:=c;simp only at hop0 hop1 hfd htx hnum;obtain⟨w,j,hwl,hwr,hwj,hj6⟩:=opw hop0 hop1;obtain⟨fb,k109⟩:=HasW.k109 (p:=p);have h109:∀ h,Zi (Zo p) h 109 []=some (.c (.sl fb (w167.tail.map CV.str)),h):=λ h=>W6 (vs:=[]) k109
 have k109':(Zo p).call 109 [] []=some (.c (.sl fb (w167.tail.map CV.str)),[]):=k109
 have h113:=λ h=>Zbv (p:=p) (h:=h) fd
 refine qW Has.h112 λ T bs v first hlen=>⟨1,Z6 _ rfl ?_⟩
 obtain⟨b1,v1,f1,l1,m1,d1⟩:=YT (p:=p) (ye w) [oC ⟨fd,op,tx,nu⟩] T first bs v (by omega)
 obtain⟨b2,v2,f2,l2,m2,d2⟩:=YT (p:=p) (ye fd) [oC ⟨fd,op,tx,nu⟩] T f1 b1 v1 (by omega)
 simp at d1 d2;show W _ _ N7 _ _ _ _;simp only[N7];simp;refine Yt λ C hC=>?_
 simp[h109,k109',hwr,Zn,hwj,d1];refine⟨hC _ rfl,rfl,W8 _ (Yg _ _) _ _ _ _,?_⟩;simp[d2,h113];cases hnf:K9 fd with
 | true=>
  obtain⟨n0,n1⟩:=hnum hnf;obtain⟨b3,v3,f3,l3,m3,d3⟩:=YT (p:=p) (c74 (p:=p) nu (by omega) (by omega)) [oC ⟨fd,op,tx,nu⟩] T f2 b2 v2 (by omega)
  simp at d3;simp[d3];exact jG (os:=[]) rfl (.inl rfl) rfl (by omega) (by omega)
 | false=>
  obtain⟨q,hq,h77⟩:=c77 (p:=p) tx (by omega)
  simp only[List.map_cons,List.map_nil]at h77;have h77':=YZ h77
  obtain⟨b3,v3,f3,l3,m3,d3⟩:=YT (p:=p) (ye q) [oC ⟨fd,op,tx,nu⟩] T f2 b2 v2 (by omega)
  simp at d3;simp;refine Yt λ C hC=>?_
  simp[h77,h77',d3];exact⟨hC _ rfl,rfl,W8 _ (Yg _ _) _ _ _ _,jG (os:=[]) rfl (.inl rfl) rfl (by omega) (by omega)⟩
end
section
variable {p:Prg} [Has p] [HasL p] [HasW p] [HasPr p] [HasI p] [HasG p] {h:Mem}
attribute [local simp] qY
abbrev oP(k:Int)(cl al:List CV):Ob:=.cells 30 [.c (.int .i64 k),.c (.sl false cl),.c (.sl false al)]
theorem Hl(k:Int)(cl al:List CV):Co (oP k cl al):=Kf (Vc [.int .i64 k,.sl false cl,.sl false al])
theorem HN{O O2:Ob}{T:CV}{f:Bool}{b:By}{v:Nat}{live:List Nat}{sl:Zf}(hO:Ob.lt 4 O=true)(hs:Yy 4 (ZK live sl)=true):Cm live (CB O T f b v) sl (VD [O,O2] T f b v):=by
 refine Zu rfl hs ?_;have h1:Ob.lt 4 (Q9 1)=true:=rfl
 have h2:Ob.lt 4 (tp v)=true:=rfl
 have hL:(CB O T f b v).length=4:=rfl
 rw[hL];simp only[ZL,h1,h2,J5 (Z2 T f) (show 1 < 4 by omega) (show 2 < 4 by omega),hO,Bool.and_self]
theorem c71(q:Pt):q.ck=0->q.sz<=100->WC p 71 [q.cv] (q.sz*12000):=by
 induction q using Pt.ind
 rename_i k c a ih;intro hck hsz;obtain⟨hk0,hk1,hcl,hal,hcs,has⟩:=DX hck;have hszs:Pt.szs a+1=(Pt.mk k c a).sz:=by simp only[Pt.sz];omega
 obtain⟨cl,hcl'⟩:∃ cl,cl=c.map Cd.cv:=⟨_,rfl⟩;have hcll:cl.length=c.length:=by rw[hcl'];simp
 obtain⟨al,hal'⟩:∃ al,al=a.map Pt.cv:=⟨_,rfl⟩;have hall:al.length=a.length:=by rw[hal'];simp
 have key:CC p 110 (oP k cl al) (11500+Pt.szs a*12000):=by
  obtain⟨w,j,hwl,hwr,hwj,hj9⟩:=ptw hk0 hk1;obtain⟨fb,k111⟩:=HasW.k111 (p:=p);have h111:∀ h,Zi (Zo p) h 111 []=some (.c (.sl fb (w165.tail.map CV.str)),h):=λ h=>W6 (vs:=[]) k111
  have k111':(Zo p).call 111 [] []=some (.c (.sl fb (w165.tail.map CV.str)),[]):=k111
  refine qW Has.h110 λ T bs v first hlen=>⟨cl.length+al.length+2,Z6 _ rfl ?_⟩
  obtain⟨b1,v1,f1,l1,m1,d1⟩:=YT (p:=p) (ye w) [oP k cl al] T first bs v (by omega)
  simp at d1;show W _ _ N8 _ _ _ _;simp only[N8];simp;refine Yt λ C hC=>?_
  simp[h111,k111',hwr,Zn,hwj,d1];refine⟨hC _ rfl,rfl,W8 _ (Yg _ _) _ _ _ _,?_⟩;obtain⟨I,hI⟩:∃ I:Nat->Zf->Mem->Prop,I=fun (i:Nat) sl h=>∃ (b:By) (v:Nat) (f:Bool),bs.length<=b.length/\b.length<=bs.length+21+i*703/\Cm [0,1,15,16,17] (CB (oP k cl al) T f b v) sl h/\Zm sl 0=.ptr 0 0/\Zm sl 1=.ptr 3 0/\Zm sl 15=.c (.sl false cl)/\Zm sl 16=.c (.int .i64 cl.length)/\Zm sl 17=.c (.int .i64 i):=⟨_,rfl⟩
  refine ZU I cl.length (by omega) (by rw[hI];exact⟨b1,v1,f1,by omega,by omega,Xh,by simp,by simp,by simp,by simp,by simp⟩) ?_
  intro i sl h hi hi2;rw[hI]at hi2;obtain⟨b,v,f,l1,l2,hcln,h0,h1,h15,h16,h17⟩:=hi2;simp only[Cm]at hcln;have hL:(CB (oP k cl al) T f b v).length=4:=rfl
  have hL2:(VD [oP k cl al] T f1 b1 v1).length=4:=rfl
  rw[hL]at hcln;rw[hL2];rcases Zl i cl.length with hlt | hge
  ·have hw:IntKind.i64.wrap ((i:Int)+1)=(i:Int)+1:=ZA (by omega) (by omega)
   obtain⟨m,hmem,hx⟩:∃ m,m∈c/\cl[i]=m.cv:=⟨c[i],Zh _,by simp[hcl']⟩
   obtain⟨b2,v2,k1,k2,d64⟩:=Hc (p:=p) (j:=1) (os:=[oP k cl al,oC m]) (Hn m) rfl (qU (p:=p) (Hn m) rfl (ZhC (p:=p) m (hcs m hmem))) T f b v (by omega)
   simp only[Cd.cv,cI]at hx;simp at d64;simp[hcln,h0,h1,h15,h16,h17,hlt,hx,d64,hw,Zn];have hfin:∀ sl,Zm sl 0=.ptr 0 0->Zm sl 1=.ptr 3 0->Zm sl 15=.c (.sl false cl)->Zm sl 16=.c (.int .i64 cl.length)->Zm sl 17=.c (.int .i64 ((i:Int)+1))->I (i+1) sl (VD [oP k cl al,oC m] T false b2 v2):=by
    intro sl g0 g1 g15 g16 g17;rw[hI];exact⟨b2,v2,false,by omega,by omega,HN rfl (by simp[ZK,Yy,g0,g1,g15,g16,g17,X.lt,X.ids,ZM]),g0,g1,g15,g16,g17⟩
   first
    | exact hfin _ rfl rfl rfl rfl rfl
    | exact⟨by omega,hfin _ rfl rfl rfl rfl rfl⟩
  ·obtain rfl:i=cl.length:=by omega
   simp[hcln,h0,h1,h15,h16,h17];obtain⟨J,hJ⟩:∃ J:Nat->Zf->Mem->Prop,J=fun (i:Nat) sl h=>∃ (b:By) (v:Nat) (f:Bool),bs.length<=b.length/\b.length<=bs.length+11300+Pt.szs (a.take i)*12000/\Cm [0,26,27,28] (CB (oP k cl al) T f b v) sl h/\Zm sl 0=.ptr 0 0/\Zm sl 26=.c (.sl false al)/\Zm sl 27=.c (.int .i64 al.length)/\Zm sl 28=.c (.int .i64 i):=⟨_,rfl⟩
   refine ZU J al.length (by omega) (by rw[hJ];exact⟨b,v,f,by omega,by simp[Pt.szs];omega,Xh,by simp,by simp,by simp,by simp⟩) ?_
   intro i sl h hi hi2;rw[hJ]at hi2;obtain⟨b',v',f',l1',l2',hcln',g0,D5,D4,g28⟩:=hi2;simp only[Cm]at hcln';have hL3:(CB (oP k cl al) T f' b' v').length=4:=rfl
   rw[hL3]at hcln';rw[hL];rcases Zl i al.length with hlt | hge
   ·have hw:IntKind.i64.wrap ((i:Int)+1)=(i:Int)+1:=ZA (by omega) (by omega)
    have hia:i < a.length:=by omega
    have hx:al[i]=a[i].cv:=by simp[hal']
    have hsm:=Pt.sz_mem (Zh hia)
    have h71:=ih a[i] (Zh hia) (has _ (Zh hia)) (by omega)
    have hst:=Pt.szs_take a i hia
    have hstl:=Pt.szs_take_le a (i+1)
    obtain⟨k',c',a',hcc⟩:∃ k' c' a',a[i]=Pt.mk k' c' a':=by cases a[i];exact⟨_,_,_,rfl⟩
    rw[hcc,Pt.cv_mk]at hx;have hcc2:a[i].sz=(Pt.mk k' c' a').sz:=by rw[hcc]
    rw[hcc]at h71;obtain⟨b2,v2,f2,k1,k2,d71⟩:=YT (p:=p) h71 [oP k cl al,oP k' (c'.map Cd.cv) (a'.map Pt.cv)] T f' b' v' (by omega)
    simp only[List.map_cons,List.map_nil,Pt.cv_mk]at d71;simp[hcln',g0,D5,D4,g28,hlt,hx,d71,hw,Zn];have hfin:∀ sl,Zm sl 0=.ptr 0 0->Zm sl 26=.c (.sl false al)->Zm sl 27=.c (.int .i64 al.length)->Zm sl 28=.c (.int .i64 ((i:Int)+1))->J (i+1) sl (VD [oP k cl al,oP k' (c'.map Cd.cv) (a'.map Pt.cv)] T f2 b2 v2):=by
     intro sl g0 D5 D4 g28;rw[hJ];exact⟨b2,v2,f2,by omega,by rw[hst];omega,HN rfl (by simp[ZK,Yy,g0,D5,D4,g28,X.lt,X.ids,ZM]),g0,D5,D4,g28⟩
    first
     | exact hfin _ rfl rfl rfl rfl
     | exact⟨by omega,hfin _ rfl rfl rfl rfl⟩
   ·obtain rfl:i=al.length:=by omega
    rw[hall,List.take_length]at l2';simp[hcln',g0,D5,D4,g28];exact jG (os:=[]) rfl (.inl rfl) rfl (by omega) (by omega)
 refine yg Has.h71 λ T bs v first hlen=>⟨1,Z6 _ rfl ?_⟩
 obtain⟨b2,v2,k1,k2,d64⟩:=Oz (p:=p) (Hl k cl al) (qU (p:=p) (Hl k cl al) rfl key) T first bs v (by omega)
 simp only[List.map_cons,List.map_nil,Pt.cv_mk];rw[<- hcl',<- hal'];show W _ _ b71 _ _ _ _;simp[b71,d64];exact uk (os:=[Q9 0,oP k cl al]) (.inl rfl) rfl (by omega) (by omega)
end
section
variable {p:Prg} [Has p] [HasL p] [HasW p] [HasPr p] [HasI p] [HasG p] {h:Mem}
attribute [local simp] qY
theorem zP{k:Int}(h0:1<=k)(h1:k<=13):∃ (w:By) (x0 x1 x2 x3 x4 x5 x6 x7 x8 x9:Bool) (n1 n2:Int),w.length<=20/\OL k=.agg [.str w,.bool x0,.bool x1,.bool x2,.bool x3,.bool x4,.bool x5,.bool x6,.bool x7,.bool x8,.bool x9,.sl false ((JX k).map CV.str).tail,.int .i64 n1,.int .i64 n2]:=by
 rcases WX h0 h1 with rfl | rfl | rfl | rfl | rfl | rfl | rfl | rfl | rfl | rfl | rfl | rfl | rfl<;>exact⟨_,_,_,_,_,_,_,_,_,_,_,_,_,by decide,rfl⟩
def KTk:List CV:=[.int .i64 1,.int .i64 2,.int .i64 3,.int .i64 4,.int .i64 5,.int .i64 6,.int .i64 7,.int .i64 8,.int .i64 9,.int .i64 10,.int .i64 11,.int .i64 12,.int .i64 13]
def KTv:List CV:=[Cp,Cn,Ck,Cj,Ci,Ch,Cg,Cf,Ce,qk,qj,qi,qh]
theorem Jf:KT=.imap KTk KTv:=rfl
theorem gi{k:Int}(h0:1<=k)(h1:k<=13):∃ j,findKey (.int .i64 k) KTk 0=some (some j)/\KTv[j]?=some (OL k):=by
 rcases WX h0 h1 with rfl | rfl | rfl | rfl | rfl | rfl | rfl | rfl | rfl | rfl | rfl | rfl | rfl
 ·exact⟨0,rfl,rfl⟩
 ·exact⟨1,rfl,rfl⟩
 ·exact⟨2,rfl,rfl⟩
 ·exact⟨3,rfl,rfl⟩
 ·exact⟨4,rfl,rfl⟩
 ·exact⟨5,rfl,rfl⟩
 ·exact⟨6,rfl,rfl⟩
 ·exact⟨7,rfl,rfl⟩
 ·exact⟨8,rfl,rfl⟩
 ·exact⟨9,rfl,rfl⟩
 ·exact⟨10,rfl,rfl⟩
 ·exact⟨11,rfl,rfl⟩
 ·exact⟨12,rfl,rfl⟩
abbrev oE(k f:Int)(ms:List Mt)(ra of nu de:Int)(na:List By)(wi:Bool)(mt:Int)(st:List Sg)(pk:Int)(pc:List Cd)(pa:List Pt)(te:By)(al:List CV):Ob:=.cells 33 [.c (.int .i64 k),.c (.int .i64 f),.c (.sl false (ms.map Mt.cv)),.c (.int .i64 ra),.c (.int .i64 of),.c (.int .i64 nu),.c (.int .i64 de),.c (.sl false (na.map CV.str)),.c (.bool wi),.c (.int .i64 mt),.c (.sl false (st.map Sg.cv)),.c (.int .i64 pk),.c (.sl false (pc.map Cd.cv)),.c (.sl false (pa.map Pt.cv)),.c (.str te),.c (.sl false al)]
section
variable {k f:Int} {ms:List Mt} {ra of nu de:Int} {na:List By} {wi:Bool} {mt:Int} {st:List Sg} {pk:Int} {pc:List Cd} {pa:List Pt} {te:By} {al:List CV}
theorem wo:Co (oE k f ms ra of nu de na wi mt st pk pc pa te al):=Kf (Vc [.int .i64 k,.int .i64 f,.sl false (ms.map Mt.cv),.int .i64 ra,.int .i64 of,.int .i64 nu,.int .i64 de,.sl false (na.map CV.str),.bool wi,.int .i64 mt,.sl false (st.map Sg.cv),.int .i64 pk,.sl false (pc.map Cd.cv),.sl false (pa.map Pt.cv),.str te,.sl false al])
theorem c69(hl:ms.length<=16)(hm:∀ m∈ms,OI m):CC p 69 (oE k f ms ra of nu de na wi mt st pk pc pa te al) 8100:=by
 have:ms.length*503<=8048:=by omega
 refine qW Has.h69 λ T bs v first hlen=>⟨1,Z6 _ rfl ?_⟩
 obtain⟨b2,v2,f2,l2,m2,d2⟩:=YT (p:=p) (c70 (p:=p) ms hl hm) [oE k f ms ra of nu de na wi mt st pk pc pa te al] T first bs v (by omega)
 simp only[List.map_cons,List.map_nil]at d2;show W _ _ b69 _ _ _ _;simp[b69,d2];exact jG (os:=[]) rfl (.inl rfl) rfl (by omega) (by omega)
theorem c72(hl:st.length<=100)(hm:∀ s∈st,Id s):CC p 72 (oE k f ms ra of nu de na wi mt st pk pc pa te al) 950400:=by
 have:st.length*9503<=950300:=by omega
 refine qW Has.h72 λ T bs v first hlen=>⟨1,Z6 _ rfl ?_⟩
 obtain⟨b2,v2,f2,l2,m2,d2⟩:=YT (p:=p) (c73 (p:=p) st hl hm) [oE k f ms ra of nu de na wi mt st pk pc pa te al] T first bs v (by omega)
 simp only[List.map_cons,List.map_nil]at d2;show W _ _ b72 _ _ _ _;simp[b72,d2];exact jG (os:=[]) rfl (.inl rfl) rfl (by omega) (by omega)
theorem c76(hl:na.length<=16)(hn:∀ s∈na,s.length<=60):WC p 76 [.agg [.int .i64 k,.int .i64 f,.sl false (ms.map Mt.cv),.int .i64 ra,.int .i64 of,.int .i64 nu,.int .i64 de,.sl false (na.map CV.str),.bool wi,.int .i64 mt,.sl false (st.map Sg.cv),.int .i64 pk,.sl false (pc.map Cd.cv),.sl false (pa.map Pt.cv),.str te,.sl false al]] 1000:=by
 have:na.length*(60+1)<=976:=by omega
 refine yg Has.h76 λ T bs v first hlen=>⟨1,Z6 _ rfl ?_⟩
 simp only[List.map_cons,List.map_nil];have go:∀ w:By,w.length<=10->∃ (b1:By) (v1:Nat) (f1:Bool) (b2:By) (v2:Nat) (f2:Bool),bs.length<=b2.length/\b2.length<=bs.length+1000/\Zi (Zo p) (AK [oE k f ms ra of nu de na wi mt st pk pc pa te al] T first bs v) 66 [.ptr 0 0,.c (.str w)]=some (.c (.tup []),AK [oE k f ms ra of nu de na wi mt st pk pc pa te al] T f1 b1 v1)/\Zi (Zo p) (AK [oE k f ms ra of nu de na wi mt st pk pc pa te al] T f1 b1 v1) 116 [.ptr 0 0,.c (.sl false (na.map CV.str))]=some (.c (.tup []),AK [oE k f ms ra of nu de na wi mt st pk pc pa te al] T f2 b2 v2):=by
  intro w hw;obtain⟨b1,v1,f1,l1,m1,d1⟩:=qT (p:=p) (ye w) [oE k f ms ra of nu de na wi mt st pk pc pa te al] T first bs v (by omega)
  obtain⟨b2,v2,f2,l2,m2,d2⟩:=qT (p:=p) (Zbu (p:=p) na 60 hn (by omega)) [oE k f ms ra of nu de na wi mt st pk pc pa te al] T f1 b1 v1 (by omega)
  exact⟨b1,v1,f1,b2,v2,f2,by omega,by omega,d1,d2⟩
 show W _ _ b76 _ _ _ _;cases wi with
 | true=>
  obtain⟨b1,v1,f1,b2,v2,f2,l2,m2,d1,d2⟩:=go [119,105,116,104,111,117,116] (by decide)
  simp[b76,d1,d2];exact uk (os:=[_]) (.inl rfl) rfl l2 m2
 | false=>
  obtain⟨b1,v1,f1,b2,v2,f2,l2,m2,d1,d2⟩:=go [98,121] (by decide)
  simp[b76,d1,d2];exact uk (os:=[_]) (.inl rfl) rfl l2 m2
theorem c75(hl:na.length<=16)(hn:∀ s∈na,s.length<=60):CC p 75 (oE k f ms ra of nu de na wi mt st pk pc pa te al) 1000:=by
 refine qW Has.h75 λ T bs v first hlen=>⟨1,Z6 _ rfl ?_⟩
 obtain⟨b2,v2,f2,l2,m2,d2⟩:=YT (p:=p) (c76 (p:=p) (k:=k) (f:=f) (ms:=ms) (ra:=ra) (of:=of) (nu:=nu) (de:=de) (wi:=wi) (mt:=mt) (st:=st) (pk:=pk) (pc:=pc) (pa:=pa) (te:=te) (al:=al) hl hn) [oE k f ms ra of nu de na wi mt st pk pc pa te al] T first bs v (by omega)
 simp only[List.map_cons,List.map_nil]at d2;show W _ _ b75 _ _ _ _;simp[b75,d2];exact jG (os:=[]) rfl (.inl rfl) rfl (by omega) (by omega)
end
end
end Go.Proofs.YtmckcikeefggdaaGreatDoor
namespace Go.Pi
section
variable {e:Env} {N:Nat} {s:Zf} {h:Mem} {k:List Fk} {Q:Pi.Exit->Zf->Mem->Prop}
theorem JB{a b:PCode}(I:Zf->Mem->Prop)(h1:W e N a s h [] (λ x s' h'=>x=.normal/\I s' h'))(h2:∀ s' h',I s' h'->W e N b s' h' k Q):W e N (.seq a b) s h k Q:=by
 obtain⟨x,s',h',h3,rfl,h4⟩:=h1;rw[ug];exact⟨.normal,s',h',h3,h2 s' h' h4⟩
end
end Go.Pi
namespace Go.Proofs.YtmckcikeefggdaaGreatDoor
open Go.Pi Go.Pi.S
section
variable {p:Prg} [Has p] [HasL p] [HasW p] [HasPr p] [HasI p] [HasG p] {h:Mem}
attribute [local simp] qY
def WT1(p:Prg)(T:CV)(f:Nat)(args:List CV)(n:Nat):Prop:=∀ bs v first,bs.length+n<=4294967296->∃ bs' v' first',bs.length<=bs'.length/\bs'.length<=bs.length+n/\(Zo p).call f (.ptr 0 0::args.map X.c) (BM 81 (wr T first) bs v)=some (.c (.tup []),BM 81 (wr T first') bs' v')
theorem Hb{f n:Nat}{args:List CV}{T:CV}(hc:WT1 p T f args n)(os:List Ob)(first:Bool)(bs:By)(v:Nat)(hl:bs.length+n<=4294967296):∃ bs' v' first',bs.length<=bs'.length/\bs'.length<=bs.length+n/\Zi (Zo p) (VD os T first bs v) f (.ptr 1 0::args.map X.c)=some (.c (.tup []),VD os T first' bs' v'):=by
 obtain⟨bs',v',f',h1,h2,h3⟩:=hc bs v first hl;exact⟨bs',v',f',h1,h2,Xt (h:=VD os T first bs v) (i:=1) (k:=2) rfl rfl (by omega) (Z2 T first) (Z2 T f') h3⟩
abbrev oF(k f:Int):Ob:=.cells 103 [.c (.bool (decide (0 < nf k))),.c (.bool (JW k)),.c (.bool (JE k f)),.c (.bool (QW k f)),.c (.bool (QX k)),.c (.bool (Q7 k)),.c (.bool (QJ k)),.c (.bool (QI k)),.c (.bool (JV k)),.c (.bool (Kh k))]
def oKf(k:Int)(O:Ob):Prop:=∃ (w:By) (x0 x1 x2 x3 x4 x5 x6 x7 x8 x9:Bool) (n1 n2:Int),w.length<=20/\O=.cells 105 [.c (.str w),.c (.bool x0),.c (.bool x1),.c (.bool x2),.c (.bool x3),.c (.bool x4),.c (.bool x5),.c (.bool x6),.c (.bool x7),.c (.bool x8),.c (.bool x9),.c (.sl false ((JX k).map CV.str).tail),.c (.int .i64 n1),.c (.int .i64 n2)]
def NI(os:List Ob)(bs:By)(n:Nat)(s:Zf)(h:Mem):Prop:=∃ b v f,bs.length<=b.length/\b.length<=bs.length+n/\h=VD os KT f b v/\Zm s 0=.ptr 0 0/\Zm s 2=.ptr 4 0/\Zm s 3=.ptr 5 0
def NJ(os:List Ob)(bs:By)(n:Nat)(s:Zf)(h:Mem):Prop:=∃ b v f,bs.length<=b.length/\b.length<=bs.length+n/\h=VD os KT f b v/\Zm s 0=.ptr 0 0/\Zm s 3=.ptr 5 0
def PK(os:List Ob)(bs:By)(n:Nat)(z:X)(h':Mem):Prop:=∃ bs' v' first',bs.length<=bs'.length/\bs'.length<=bs.length+n/\z=.c (.tup [])/\h'=VD os KT first' bs' v'
theorem OD{fn:PFn}{x:Pi.Exit}{sl:Zf}{a b c:Ob}{first:Bool}{bs:By}{v:Nat}{os:List Ob}(ha:Ob.lt 6 a=true)(hb:Ob.lt 6 b=true)(hc:Ob.lt 6 c=true)(hx:x=.normal\/x=.ret)(hr:fn.res=[]):Gu fn 6 (.c (.tup [])) (VD [a,b,c] KT first bs v) x sl (VD (a::b::c::os) KT first bs v):=by
 refine Jd hx hr ?_ rfl;have h1:Ob.lt 6 (Q9 1)=true:=rfl
 simp only[List.take_succ_cons,List.take_zero,ZL,h1,J5 (Z2 KT first) (show 1 < 6 by omega) (show 2 < 6 by omega),ha,hb,hc,Bool.true_and,Bool.and_true];rfl
theorem ZiK{fn:PFn}{x:Pi.Exit}{sl:Zf}{a b c:Ob}{first':Bool}{bs bs':By}{v' n:Nat}{os:List Ob}(ha:Ob.lt 6 a=true)(hb:Ob.lt 6 b=true)(hc:Ob.lt 6 c=true)(hx:x=.normal\/x=.ret)(hr:fn.res=[])(h1:bs.length<=bs'.length)(h2:bs'.length<=bs.length+n):∃ z h',PK [a,b,c] bs n z h'/\Gu fn 6 z h' x sl (VD (a::b::c::os) KT first' bs' v'):=
 ⟨_,_,⟨bs',v',first',h1,h2,rfl,rfl⟩,OD ha hb hc hx hr⟩
theorem Zcg{a b c d:Ob}{f:Bool}{bs:By}{v:Nat}{live:List Nat}{sl:Zf}(ha:Ob.lt 6 a=true)(hb:Ob.lt 6 b=true)(hc:Ob.lt 6 c=true)(hs:Yy 6 (ZK live sl)=true):Cm live (VD [a,b,c] KT f bs v) sl (VD [a,b,c,d] KT f bs v):=by
 refine Zu rfl hs ?_;have h1:Ob.lt 6 (Q9 1)=true:=rfl
 have h2:Ob.lt 6 (tp v)=true:=rfl
 have hL:(VD [a,b,c] KT f bs v).length=6:=rfl
 rw[hL];simp only[ZL,h1,h2,J5 (Z2 KT f) (show 1 < 6 by omega) (show 2 < 6 by omega),ha,hb,hc,Bool.and_self]
theorem He{a b c:Ob}(h1:Ob.same a a=true)(h2:Ob.same b b=true)(h3:Ob.same c c=true)(f:Bool)(bs:By)(v:Nat):Mem.same (VD [a,b,c] KT f bs v) (VD [a,b,c] KT f bs v)=true:=W8 _ (by simp only[Mem.same,h1,h2,h3,Bool.and_self]) _ _ _ _
theorem c67:Zi (Zo p) h 67 []=some (.c (.sl false (w122.map CV.str)),h):=by
 refine QK Has.h67 ?_;refine⟨1,Zk rfl ?_⟩;show W _ _ b67 _ _ _ _;simp[b67,ZH];exact⟨.inr rfl,by simp[f67,ZD,Pi.results,ZL,ZM,oneOf,w122]⟩
theorem Fv{k f ms ra of nu de na wi mt st pk pc pa te ar}(h:QO (.mk k f ms ra of nu de na wi mt st (.mk pk pc pa) te ar)=0)(hw:QI k=true):1<=ra/\ra<=1099511627776/\0<=of/\of<=1099511627776:=by
 simp only[QO]at h;split at h
 ·cases h
 split at h
 ·cases h
 split at h
 ·cases h
 split at h
 ·rename_i hx;exact absurd h hx.2
 split at h
 ·cases h
 ·rename_i hq;have:¬ (ra < 1\/1099511627776 < ra\/of < 0\/1099511627776 < of):=λ q=>hq ⟨hw,q⟩
  omega
theorem c65(k f ms ra of nu de na wi mt st pk pc pa te ar)(hE:QO (Ex.mk k f ms ra of nu de na wi mt st (.mk pk pc pa) te ar)=0)(al:List CV)(hal':al=ar.map Ex.cv)(hal2:ar.length<=2)(hsub:∀ q∈ar,WT1 p KT 31 [q.cv] (q.sz*2300000))(hsz:Ex.szs ar<=100)(OK:Ob)(hOK:oKf k OK) :
  ∀ bs v first,bs.length+(2200000+Ex.szs ar*2300000)<=4294967296->∃ bs' v' first',bs.length<=bs'.length/\bs'.length<=bs.length+(2200000+Ex.szs ar*2300000)/\(Zo p).call 65 [.ptr 0 0,.ptr 3 0,.ptr 4 0,.ptr 5 0] (VD [OK,oF k f,oE k f ms ra of nu de na wi mt st pk pc pa te al] KT first bs v)=some (.c (.tup []),VD [OK,oF k f,oE k f ms ra of nu de na wi mt st pk pc pa te al] KT first' bs' v'):=by
 intro bs v first hlen
 suffices hx:∃ z h',PK [OK,oF k f,oE k f ms ra of nu de na wi mt st pk pc pa te al] bs (2200000+Ex.szs ar*2300000) z h'/\Z5 (Zo p) (ar.length+2) f65 [.ptr 0 0,.ptr 3 0,.ptr 4 0,.ptr 5 0] (VD [OK,oF k f,oE k f ms ra of nu de na wi mt st pk pc pa te al] KT first bs v)=some (z,h') by
  obtain⟨z,h',⟨bs',v',f',h1,h2,rfl,rfl⟩,h3⟩:=hx;exact⟨bs',v',f',h1,h2,Z4 Has.h65 h3⟩
 have hv:=Fy hE
 have hwin:=Fv hE
 have hall:al.length=ar.length:=by rw[hal'];simp
 obtain⟨w,x0,x1,x2,x3,x4,x5,x6,x7,x8,x9,n1,n2,hwl,rfl⟩:=hOK;obtain⟨OK,hOKe⟩:∃ O,O=Ob.cells 105 [X.c (.str w),.c (.bool x0),.c (.bool x1),.c (.bool x2),.c (.bool x3),.c (.bool x4),.c (.bool x5),.c (.bool x6),.c (.bool x7),.c (.bool x8),.c (.bool x9),.c (.sl false ((JX k).map CV.str).tail),.c (.int .i64 n1),.c (.int .i64 n2)]:=⟨_,rfl⟩;obtain⟨OE,hOE⟩:∃ O,O=oE k f ms ra of nu de na wi mt st pk pc pa te al:=⟨_,rfl⟩;have hcoE:Co OE:=by rw[hOE];exact wo
 have ltK:Ob.lt 6 OK=true:=by rw[hOKe];rfl
 have ltF:Ob.lt 6 (oF k f)=true:=rfl
 have ltE:Ob.lt 6 OE=true:=by rw[hOE];rfl
 have ltE4:Ob.lt 4 OE=true:=by rw[hOE];rfl
 have sK:Ob.same OK OK=true:=by rw[hOKe];exact Ze _ _
 have sE:Ob.same OE OE=true:=by rw[hOE];exact Ze _ _
 have same5:=He sK (Ze 103 _:Ob.same (oF k f) (oF k f)=true) sE
 have hF5:∀ ff b v,hasF (VD [OK,oF k f,OE] KT ff b v)=false:=λ ff b v=>by rw[hOKe,hOE];rfl
 rw[<- hOKe,<- hOE];refine Z6 _ rfl ?_;show W _ _ b65 _ _ _ _;simp only[b65];obtain⟨b1,v1,f1,l1,m1,d1⟩:=YT (p:=p) (ye w) [OK,oF k f,OE] KT first bs v (by omega)
 simp only[List.map_cons,List.map_nil]at d1;simp[hOKe,hOE]at d1;simp[hOKe,hOE,d1];rw[<- hOKe,<- hOE];refine qN (NI [OK,oF k f,OE] bs 42) ?_ ?_
 ·by_cases hf:0 < nf k
  ·obtain⟨hf0,hf1⟩:=hv.fn hf;obtain⟨w1,hw1l,hw1n,hw1,hw1k⟩:=Cx hf hf0 hf1;have hnf11:nf k<=11:=by simp only[nf];repeat' split<;>omega
   obtain⟨j,hj⟩:∃ j,f.toNat=j+1:=⟨f.toNat - 1,by omega⟩
   have hwr:IntKind.i64.wrap (f - 1)=(j:Int):=by rw[ZA (by omega) (by omega)];omega
   rw[hj]at hw1;obtain⟨b2,v2,f2,l2,m2,d2⟩:=YT (p:=p) (ye w1) [OK,oF k f,OE] KT f1 b1 v1 (by omega)
   simp only[List.map_cons,List.map_nil]at d2;simp[hOKe,hOE]at d2;simp[hf];refine Yt λ C hC=>?_
   simp[hOKe,hOE,hwr,Zn,hw1,d2];rw[<- hOKe,<- hOE];exact⟨hC _ rfl,hF5 _ _ _,same5 _ _ _,b2,v2,f2,by omega,by omega,rfl,rfl,rfl,rfl⟩
  ·simp[hf];exact⟨b1,v1,f1,by omega,by omega,rfl,rfl,rfl,rfl⟩
 clear d1 m1 l1 f1 v1 b1
 rintro s h ⟨b1,v1,f1,l1,m1,rfl,s0,s2,s3⟩
 have d1:=trivial
 have h67:=λ h=>c67 (p:=p) (h:=h)
 have h67':(Zo p).call 67 [] []=some (_,[]):=X0 (vs:=[]) h67
 refine XC (NI [OK,oF k f,OE] bs 63) ?_ ?_
 ·simp[hOKe,hOE,s0,s2,s3];cases hf:JW k
  ·simp[hf];rw[<- hOKe,<- hOE];exact⟨b1,v1,f1,by omega,by omega,rfl,rfl,rfl,rfl⟩
  ·obtain⟨w2,hw2l,hw2n,hw2,-⟩:=D3 hv.mt0.1 hv.mt0.2;obtain⟨b2,v2,f2,l2,m2,d2⟩:=YT (p:=p) (ye w2) [OK,oF k f,OE] KT f1 b1 v1 (by omega)
   simp only[List.map_cons,List.map_nil]at d2;simp[hOKe,hOE]at d2;simp only[QR];refine Yt λ C hC=>?_
   simp[hOKe,hOE,h67,h67',hw2n,hw2,d2];rw[<- hOKe,<- hOE];exact⟨hC _ rfl,hF5 _ _ _,same5 _ _ _,b2,v2,f2,by omega,by omega,rfl,rfl,rfl,rfl⟩
 clear d1 m1 l1 f1 v1 b1 s0 s2 s3 s
 rintro s h ⟨b1,v1,f1,l1,m1,rfl,s0,s2,s3⟩
 have d1:=trivial
 refine XC (NI [OK,oF k f,OE] bs 124) ?_ ?_
 ·simp[hOKe,hOE,s0,s2,s3];cases hf:JE k f
  ·simp[hf];rw[<- hOKe,<- hOE];exact⟨b1,v1,f1,by omega,by omega,rfl,rfl,rfl,rfl⟩
  ·obtain⟨w3,hw3l,h68⟩:=c68 (p:=p) nu de;simp only[List.map_cons,List.map_nil]at h68;have h68':=YZ h68
   obtain⟨b2,v2,f2,l2,m2,d2⟩:=YT (p:=p) (ye w3) [OK,oF k f,OE] KT f1 b1 v1 (by omega)
   simp only[List.map_cons,List.map_nil]at d2;simp[hOKe,hOE]at d2;simp only[QR];refine Yt λ C hC=>?_
   simp[hOKe,hOE,h68,h68',d2];rw[<- hOKe,<- hOE];exact⟨hC _ rfl,hF5 _ _ _,same5 _ _ _,b2,v2,f2,by omega,by omega,rfl,rfl,rfl,rfl⟩
 clear d1 m1 l1 f1 v1 b1 s0 s2 s3 s
 rintro s h ⟨b1,v1,f1,l1,m1,rfl,s0,s2,s3⟩
 have d1:=trivial
 refine XC (NI [OK,oF k f,OE] bs 185) ?_ ?_
 ·simp[hOKe,hOE,s0,s2,s3];cases hf:QW k f
  ·simp[hf];rw[<- hOKe,<- hOE];exact⟨b1,v1,f1,by omega,by omega,rfl,rfl,rfl,rfl⟩
  ·have htl:=hv.te0 hf
   simp[hOKe,hOE];cases h5:(k != 5)
   ·simp;rw[<- hOKe,<- hOE];exact⟨b1,v1,f1,by omega,by omega,rfl,rfl,rfl,rfl⟩
   ·obtain⟨b2,v2,f2,l2,m2,d2⟩:=YT (p:=p) (ye te) [OK,oF k f,OE] KT f1 b1 v1 (by omega)
    simp only[List.map_cons,List.map_nil]at d2;simp[hOKe,hOE]at d2;simp[hOKe,hOE,d2];rw[<- hOKe,<- hOE];exact⟨b2,v2,f2,by omega,by omega,rfl,rfl,rfl,rfl⟩
 clear d1 m1 l1 f1 v1 b1 s0 s2 s3 s
 rintro s h ⟨b1,v1,f1,l1,m1,rfl,s0,s2,s3⟩
 have d1:=trivial
 refine XC (NI [OK,oF k f,OE] bs 8400) ?_ ?_
 ·simp[hOKe,hOE,s0,s2,s3];cases hf:QX k
  ·simp[hf];rw[<- hOKe,<- hOE];exact⟨b1,v1,f1,by omega,by omega,rfl,rfl,rfl,rfl⟩
  ·obtain⟨hm1,hm2⟩:=hv.ms0 hf;obtain⟨b2,v2,l2,m2,d2⟩:=Hc (p:=p) (j:=2) (os:=[OK,oF k f,OE]) hcoE rfl (qU (p:=p) hcoE ltE4 (hOE ▸ c69 (p:=p) hm1 hm2)) KT f1 b1 v1 (by omega)
   simp[hOKe,hOE]at d2;simp[hOKe,hOE,d2];rw[<- hOKe,<- hOE];exact⟨b2,v2,false,by omega,by omega,rfl,rfl,rfl,rfl⟩
 clear d1 m1 l1 f1 v1 b1 s0 s2 s3 s
 rintro s h ⟨b1,v1,f1,l1,m1,rfl,s0,s2,s3⟩
 have d1:=trivial
 refine JB (NI [OK,oF k f,OE] bs 1208500) ?_ ?_
 ·simp[hOKe,hOE,s0,s2,s3];cases hf:Q7 k
  ·simp[hf,s0,s2,s3];rw[<- hOKe,<- hOE];exact⟨b1,v1,f1,by omega,by omega,rfl,by simp[s0],by simp[s2],by simp[s3]⟩
  ·obtain⟨hp1,hp2⟩:=hv.pt0 hf;have hp3:(Pt.mk pk pc pa).sz*12000<=1200000:=by omega
   obtain⟨b2,v2,f2,l2,m2,d2⟩:=YT (p:=p) (c71 (p:=p) _ hp1 hp2) [OK,oF k f,OE] KT f1 b1 v1 (by omega)
   simp only[List.map_cons,List.map_nil,Pt.cv_mk]at d2;simp[hOKe,hOE]at d2;simp[hOKe,hOE,d2,s0,s2,s3];rw[<- hOKe,<- hOE];exact⟨b2,v2,f2,by omega,by omega,rfl,by simp[s0],by simp[s2],by simp[s3]⟩
 clear d1 m1 l1 f1 v1 b1 s0 s2 s3 s
 rintro s h ⟨b1,v1,f1,l1,m1,rfl,s0,s2,s3⟩
 have d1:=trivial
 refine XC (NI [OK,oF k f,OE] bs 2159000) ?_ ?_
 ·simp[hOKe,hOE,s0,s2,s3];cases hf:QJ k
  ·simp[hf];rw[<- hOKe,<- hOE];exact⟨b1,v1,f1,by omega,by omega,rfl,rfl,rfl,rfl⟩
  ·skip
   obtain⟨b2,v2,l2,m2,d2⟩:=Hc (p:=p) (j:=2) (os:=[OK,oF k f,OE]) hcoE rfl (qU (p:=p) hcoE ltE4 (hOE ▸ c72 (p:=p) hv.st0 hv.st1)) KT f1 b1 v1 (by omega)
   simp[hOKe,hOE]at d2;simp[hOKe,hOE,d2];rw[<- hOKe,<- hOE];exact⟨b2,v2,false,by omega,by omega,rfl,rfl,rfl,rfl⟩
 clear d1 m1 l1 f1 v1 b1 s0 s2 s3 s
 rintro s h ⟨b1,v1,f1,l1,m1,rfl,s0,s2,s3⟩
 have d1:=trivial
 refine JB (NI [OK,oF k f,OE] bs 2159100) ?_ ?_
 ·simp[hOKe,hOE,s0,s2,s3];cases hf:QI k
  ·simp[hf,s0,s2,s3];rw[<- hOKe,<- hOE];exact⟨b1,v1,f1,by omega,by omega,rfl,by simp[s0],by simp[s2],by simp[s3]⟩
  ·obtain⟨r1,r2,r3,r4⟩:=hwin hf;obtain⟨b2,v2,f2,l2,m2,d2⟩:=YT (p:=p) (c74 (p:=p) ra (by omega) (by omega)) [OK,oF k f,OE] KT f1 b1 v1 (by omega)
   obtain⟨b3,v3,f3,l3,m3,d3⟩:=YT (p:=p) (c74 (p:=p) of (by omega) (by omega)) [OK,oF k f,OE] KT f2 b2 v2 (by omega)
   simp only[List.map_cons,List.map_nil]at d2 d3;simp[hOKe,hOE]at d2 d3;simp[hOKe,hOE,d2,d3,s0,s2,s3];rw[<- hOKe,<- hOE];exact⟨b3,v3,f3,by omega,by omega,rfl,by simp[s0],by simp[s2],by simp[s3]⟩
 clear d1 m1 l1 f1 v1 b1 s0 s2 s3 s
 rintro s h ⟨b1,v1,f1,l1,m1,rfl,s0,s2,s3⟩
 have d1:=trivial
 refine XC (NI [OK,oF k f,OE] bs 2160200) ?_ ?_
 ·simp[hOKe,hOE,s0,s2,s3];cases hf:JV k
  ·simp[hf];rw[<- hOKe,<- hOE];exact⟨b1,v1,f1,by omega,by omega,rfl,rfl,rfl,rfl⟩
  ·skip
   obtain⟨b2,v2,l2,m2,d2⟩:=Hc (p:=p) (j:=2) (os:=[OK,oF k f,OE]) hcoE rfl (qU (p:=p) hcoE ltE4 (hOE ▸ c75 (p:=p) hv.na0 hv.na1)) KT f1 b1 v1 (by omega)
   simp[hOKe,hOE]at d2;simp[hOKe,hOE,d2];rw[<- hOKe,<- hOE];exact⟨b2,v2,false,by omega,by omega,rfl,rfl,rfl,rfl⟩
 clear d1 m1 l1 f1 v1 b1 s0 s2 s3 s
 rintro s h ⟨b1,v1,f1,l1,m1,rfl,s0,s2,s3⟩
 have d1:=trivial
 refine JB (NJ [OK,oF k f,OE] bs 2160500) ?_ ?_
 ·simp[hOKe,hOE,s0,s2,s3];cases hf:(k==5)
  ·simp[hf,s0,s2,s3];rw[<- hOKe,<- hOE];exact⟨b1,v1,f1,by omega,by omega,rfl,by simp[s0],by simp[s3]⟩
  ·have hk5:k=5:=by simpa using hf
   have htl:=hv.te0 (by rw[hk5];simp[QW])
   obtain⟨w9,hw9l,h77⟩:=c77 (p:=p) te (by omega)
   simp only[List.map_cons,List.map_nil]at h77;have h77':=YZ h77
   obtain⟨b2,v2,f2,l2,m2,d2⟩:=YT (p:=p) (ye w9) [OK,oF k f,OE] KT f1 b1 v1 (by omega)
   simp only[List.map_cons,List.map_nil]at d2;simp[hOKe,hOE]at d2;simp only[QR];refine Yt λ C hC=>?_
   simp[hOKe,hOE,h77,h77',d2,s0,s2,s3];rw[<- hOKe,<- hOE];exact⟨hC _ rfl,hF5 _ _ _,same5 _ _ _,b2,v2,f2,by omega,by omega,rfl,by simp[s0],by simp[s3]⟩
 clear d1 m1 l1 f1 v1 b1 s0 s2 s3 s
 rintro s h ⟨b1,v1,f1,l1,m1,rfl,s0,s3⟩
 simp[hOKe,hOE,s0,s3];rw[<- hOKe,<- hOE];obtain⟨J,hJ⟩:∃ J:Nat->Zf->Mem->Prop,J=fun (i:Nat) sl h=>∃ (b:By) (v:Nat) (f':Bool),bs.length<=b.length/\b.length<=bs.length+2160500+Ex.szs (ar.take i)*2300000/\Cm [0,88,89,90] (VD [OK,oF k f,OE] KT f' b v) sl h/\Zm sl 0=.ptr 0 0/\Zm sl 88=.c (.sl false al)/\Zm sl 89=.c (.int .i64 al.length)/\Zm sl 90=.c (.int .i64 i):=⟨_,rfl⟩
 refine ZU J al.length (by omega) (by rw[hJ];exact⟨b1,v1,f1,by omega,by simp[Ex.szs];omega,Xh,by simp,by simp,by simp,by simp⟩) ?_
 intro i sl h hi hi2;rw[hJ]at hi2;obtain⟨b',v',fb,l1',l2',hcln',g0,g88,g89,g90⟩:=hi2;simp only[Cm]at hcln';have hL3:(VD [OK,oF k f,OE] KT fb b' v').length=6:=rfl
 have hL4:(VD [OK,oF k f,OE] KT f1 b1 v1).length=6:=rfl
 rw[hL3]at hcln';rw[hL4];have hstl0:=Ex.szs_take_le ar i
 rcases Zl i al.length with hlt | hge
 ·have hw:IntKind.i64.wrap ((i:Int)+1)=(i:Int)+1:=ZA (by omega) (by omega)
  have hia:i < ar.length:=by omega
  have hx:al[i]=ar[i].cv:=by simp[hal']
  have h31:=hsub ar[i] (Zh hia)
  have hst:=Ex.szs_take ar i hia
  have hstl:=Ex.szs_take_le ar (i+1)
  obtain⟨k',f',ms',ra',of',nu',de',na',wi',mt',st',pk',pc',pa',te',ar',hcc⟩:=Ex.shape ar[i];have hcc2:ar[i].sz=(Ex.mk k' f' ms' ra' of' nu' de' na' wi' mt' st' (.mk pk' pc' pa') te' ar').sz:=by rw[hcc]
  rw[hcc]at hx h31;obtain⟨b2,v2,f2,k1,k2,d31⟩:=Hb (p:=p) h31 [OK,oF k f,OE,oE k' f' ms' ra' of' nu' de' na' wi' mt' st' pk' pc' pa' te' (ar'.map Ex.cv)] fb b' v' (by omega)
  simp only[List.map_cons,List.map_nil,Ex.cv_mk]at d31 hx;simp[hcln',g0,g88,g89,g90,hlt,hx,d31,hw,Zn];have hfin:∀ sl,Zm sl 0=.ptr 0 0->Zm sl 88=.c (.sl false al)->Zm sl 89=.c (.int .i64 al.length)->Zm sl 90=.c (.int .i64 ((i:Int)+1))->J (i+1) sl (VD [OK,oF k f,OE,oE k' f' ms' ra' of' nu' de' na' wi' mt' st' pk' pc' pa' te' (ar'.map Ex.cv)] KT f2 b2 v2):=by
   intro sl g0 D5 D4 g28;rw[hJ];exact⟨b2,v2,f2,by omega,by rw[hst];omega,Zcg ltK ltF ltE (by simp[ZK,Yy,g0,D5,D4,g28,X.lt,X.ids,ZM]),g0,D5,D4,g28⟩
  first
   | exact hfin _ rfl rfl rfl rfl
   | exact⟨by omega,hfin _ rfl rfl rfl rfl⟩
 ·obtain rfl:i=al.length:=by omega
  rw[hall,List.take_length]at l2';simp[hcln',g0,g88,g89,g90];exact ZiK (os:=[]) ltK ltF ltE (.inl rfl) rfl (by omega) (by omega)
end
end Go.Proofs.YtmckcikeefggdaaGreatDoor
namespace Go.Pi
section
variable {e:Env} {N:Nat} {s:Zf} {h:Mem} {k:List Fk} {Q:Pi.Exit->Zf->Mem->Prop}
theorem Y7{h:Mem}{o p:Ob}{id:Nat}(hp:h[id]?=some p):(h++[o])[id]?=some p:=by
 rw[Zr (Za.1 hp).1];exact hp
end
end Go.Pi
namespace Go.Proofs.YtmckcikeefggdaaGreatDoor
open Go.Pi Go.Pi.S
section
variable {p:Prg} [Has p] [HasL p] [HasW p] [HasPr p] [HasI p] [HasG p] {h:Mem}
attribute [local simp] qY
abbrev HL(a b c:Ob)(T:CV)(first:Bool)(bs:By)(v:Nat):Mem:=AK [Q9 0,a,b,c] T first bs v
theorem dC5{a b c:Ob}(ha:Co a)(hb:Co b)(hc':Co c){T:CV}{bs bs':By}{v v':Nat}{first first':Bool}(hc:(Zo p).call 65 [.ptr 0 0,.ptr 3 0,.ptr 4 0,.ptr 5 0] (VD [a,b,c] T first bs v)=some (.c (.tup []),VD [a,b,c] T first' bs' v')):Zi (Zo p) (HL a b c T first bs v) 65 [.ptr 2 0,.ptr 3 0,.ptr 4 0,.ptr 5 0]=some (.c (.tup []),HL a b c T first' bs' v'):=by
 refine YR (is:=[3,4,5]) (ids:=[2,0,1,3,4,5]) (h'':=[Q9 0,bo 81 0 1 (wr T first') bs' v',tp v',a,b,c]) rfl ?_ rfl rfl ?_ hc ?_ rfl
 ·exact(ZS (n:=999) rfl rfl rfl).trans ((ZS (n:=998) rfl rfl (Qp (Z2 _ _))).trans ((Xj (n:=997) rfl).trans ((ZS (n:=996) rfl rfl rfl).trans ((ZS (n:=995) rfl rfl ha.1).trans ((ZS (n:=994) rfl rfl hb.1).trans ((ZS (n:=993) rfl rfl hc'.1).trans YI))))))
 ·simp only[Mem.ren,Wy (i:=0) (k:=1) (i2:=1) (k2:=2) (ρ:=λ j=>Xw j [2,0,1,3,4,5]) (Z2 T first) rfl rfl,ha.2,hb.2,hc'.2];rfl
 ·simp only[Mem.ren,Wy (i:=1) (k:=2) (i2:=0) (k2:=1) (ρ:=λ k=>bif Nat.ble [2,0,1,3,4,5].length k then some ((HL a b c T first bs v).length+(k - [2,0,1,3,4,5].length)) else[2,0,1,3,4,5][k]?) (Z2 T first') rfl rfl,ha.2,hb.2,hc'.2];rfl
theorem Zgq{a b c:Ob}{n:Nat}(ha:Co a)(hb:Co b)(hc':Co c)(la:Ob.lt 6 a=true)(lb:Ob.lt 6 b=true)(lc:Ob.lt 6 c=true)(hg:∀ bs v first,bs.length+n<=4294967296->∃ bs' v' first',bs.length<=bs'.length/\bs'.length<=bs.length+n/\(Zo p).call 65 [.ptr 0 0,.ptr 3 0,.ptr 4 0,.ptr 5 0] (VD [a,b,c] KT first bs v)=some (.c (.tup []),VD [a,b,c] KT first' bs' v')) :
  ∀ bs v first,bs.length+(n+3)<=4294967296->∃ bs' v',bs.length<=bs'.length/\bs'.length<=bs.length+(n+3)/\(Zo p).call 64 [.ptr 0 0,.func 65 [.ptr 2 0,.ptr 3 0,.ptr 4 0,.ptr 5 0]] (HL a b c KT first bs v)=some (.c (.tup []),HL a b c KT false bs' v'):=by
 intro bs v first hl;obtain⟨b1,v1,f1,l1,l1',d66⟩:=qT (p:=p) (ye (p:=p) [40]) [Q9 0,a,b,c] KT first bs v (by simp;omega)
 simp at l1';obtain⟨b2,v2,f2,l2,l2',hg⟩:=hg b1 v1 true (by omega)
 have dg:=dC5 (p:=p) ha hb hc' hg
 obtain⟨v3,h85⟩:=c85 (p:=p) (t:=81) (Z2 KT f2) b2 v2 41 (by omega)
 have d85:=Xt (args:=[.int .u8 41]) (h:=HL a b c KT f2 b2 v2) (i:=0) (k:=1) rfl rfl (by omega) (Z2 KT f2) (Z2 KT f2) h85
 refine⟨b2++[41],v3,by simp;omega,by simp;omega,Z4 Has.h64 (N:=1) (Zk rfl ?_)⟩
 simp only[List.map_cons,List.map_nil]at d66 d85;simp[-List.map_append]at d66 d85 dg;show W _ _ MH _ _ _ _;simp[-List.map_append,MH,d66,d85,dg];have h1:Ob.lt 6 (Q9 0)=true:=rfl
 refine Jd (.inl rfl) rfl ?_ rfl;simp only[List.take_succ_cons,List.take_zero,ZL,h1,J5 (Z2 KT false) (show 0 < 6 by omega) (show 1 < 6 by omega),la,lb,lc,Bool.true_and,Bool.and_true];rfl
theorem Zga{a b c:Ob}{n:Nat}(ha:Co a)(hb:Co b)(hc':Co c)(hg:∀ bs v first,bs.length+n<=4294967296->∃ bs' v',bs.length<=bs'.length/\bs'.length<=bs.length+n/\(Zo p).call 64 [.ptr 0 0,.func 65 [.ptr 2 0,.ptr 3 0,.ptr 4 0,.ptr 5 0]] (HL a b c KT first bs v)=some (.c (.tup []),HL a b c KT false bs' v'))(bs:By)(v:Nat)(first:Bool)(hl:bs.length+n<=4294967296):∃ bs' v',bs.length<=bs'.length/\bs'.length<=bs.length+n/\Zi (Zo p) (AK [Q9 0,c,a,b] KT first bs v) 64 [.ptr 0 0,.func 65 [.ptr 2 0,.ptr 4 0,.ptr 5 0,.ptr 3 0]]=some (.c (.tup []),AK [Q9 0,c,a,b] KT false bs' v'):=by
 obtain⟨bs',v',h1,h2,hc⟩:=hg bs v first hl;refine⟨bs',v',h1,h2,YR (is:=[2,4,5,3]) (ids:=[0,1,2,4,5,3]) (h'':=[bo 81 0 1 (wr KT false) bs' v',tp v',Q9 0,a,b,c]) rfl ?_ rfl rfl ?_ hc ?_ rfl⟩
 ·exact(ZS (n:=999) rfl rfl (Qp (Z2 _ _))).trans ((Xj (n:=998) rfl).trans ((ZS (n:=997) rfl rfl rfl).trans ((ZS (n:=996) rfl rfl rfl).trans ((Xj (n:=995) rfl).trans ((ZS (n:=994) rfl rfl ha.1).trans ((ZS (n:=993) rfl rfl hb.1).trans ((ZS (n:=992) rfl rfl hc'.1).trans YI)))))))
 ·simp only[Mem.ren,Wy (i:=0) (k:=1) (i2:=0) (k2:=1) (ρ:=λ j=>Xw j [0,1,2,4,5,3]) (Z2 KT first) rfl rfl,ha.2,hb.2,hc'.2];rfl
 ·simp only[Mem.ren,Wy (i:=0) (k:=1) (i2:=0) (k2:=1) (ρ:=λ k=>bif Nat.ble [0,1,2,4,5,3].length k then some ((AK [Q9 0,c,a,b] KT first bs v).length+(k - [0,1,2,4,5,3].length)) else[0,1,2,4,5,3][k]?) (Z2 KT false) rfl rfl,ha.2,hb.2,hc'.2];rfl
end
end Go.Proofs.YtmckcikeefggdaaGreatDoor
namespace Go.Pi
section
variable {e:Env} {N:Nat} {s:Zf} {h:Mem} {k:List Fk} {Q:Pi.Exit->Zf->Mem->Prop}
def Pp(anc:List (List Nat))(ks:List Nat):Bool:=(List.range ks.length).all λ j=>(List.range j).all λ i=>!(Nat.beq (ks.getD i 0) 2&&Nat.beq (ks.getD j 0) 2)||mem i (Yv anc j)
theorem Iq{anc:List (List Nat)}{ks:List Nat}(h:Pp anc ks=true){i j:Nat}(hij:i < j)(hj:j < ks.length)(hi2:ks.getD i 0=2)(hj2:ks.getD j 0=2):mem i (Yv anc j)=true:=by
 have h1:=Zz.1 (Zz.1 h j (List.mem_range.2 hj)) i (List.mem_range.2 hij)
 rw[hi2,hj2]at h1;exact h1
theorem ze:∀ {a b:List Rec} {h m h':Mem},Tr e h a m->Tr e m b h'->Tr e h (a++b) h'
 | [],b,h,m,h',h1,h2=>by cases h1;exact h2
 | r::a,b,h,m,h',h1,h2=>by
  obtain⟨x,y1,y2,y3⟩:=h1;exact⟨x,y1,y2,ze y3 h2⟩
theorem ja{anc:List (List Nat)}{rs:List Rec}{h h':Mem}(hok:Pp anc (rs.map (Rec.kd e))=true)(hsame:Mem.same h' h'=true)
  (hrd:∀ (pre post:List Rec) (done:List Nat) (hk:Mem),rs=pre++post->Tr e h pre hk->(∀ i,i∈done↔i < pre.length/\i∈YW e 0 rs)->YF e anc (YW e 0 rs) done hk 0 rs=true) :
  ∀ (n:Nat) (pre post:List Rec) (done:List Nat) (hk:Mem),rs=pre++post->Tr e h pre hk->Tr e hk post h'->(∀ i,i∈done↔i < pre.length/\i∈YW e 0 rs)->post.length < n->Yz e anc rs (YW e 0 rs) h' n done hk=true:=by
 intro n
 induction n with
 | zero=>intro pre post done hk _ _ _ _ hn;omega
 | succ n ih=>
  intro pre post done hk hrs hpre ht hd hn;have hlen:rs.length=pre.length+post.length:=by rw[hrs,List.length_append]
  have hund:∀ q,q∈YW e 0 rs->q∉done->pre.length<=q/\∃ r,post[q - pre.length]?=some r/\r.eff e=true/\rs[q]?=some r:=by
   intro q hq hnd;have h1:pre.length<=q:=by
    rcases Zl q pre.length with h | h
    ·exact absurd ((hd q).2 ⟨h,hq⟩) hnd
    ·exact h
   obtain⟨j,r,h2,h3,h4⟩:=Xl.1 hq;have:q=j:=by omega
   subst this;refine⟨h1,r,?_,h3,h2⟩;rw[hrs,Zp h1]at h2;exact h2
  have hr1:=hrd pre post done hk hrs hpre hd
  simp only[Yz,hr1,Bool.true_and];cases hall:(YW e 0 rs).all (λ j=>mem j done) with
  | true=>
   simp only[cond_true];have hno:∀ r∈post,Rec.eff e r=false:=by
    intro r hr;cases hre:r.eff e with
    | false=>rfl
    | true=>
     exfalso;obtain⟨i,hi⟩:=List.getElem?_of_mem hr;have hrsi:rs[pre.length+i]?=some r:=by rw[hrs,Zp (by omega),Yk];exact hi
     have hin:pre.length+i∈YW e 0 rs:=Xl.2 ⟨_,r,hrsi,hre,by omega⟩
     have:=Xa.1 (Zz.1 hall _ hin)
     have:=((hd _).1 this).1
     omega
   rw[<- Vl ht hno];exact hsame
  | false=>
   simp only[cond_false,Zz,Bool.or_eq_true,Bool.not_eq_true'];intro i hi;cases hmi:mem i done with
   | true=>exact .inl (.inl rfl)
   | false=>
    cases hmc:YB anc (YW e 0 rs) done i with
    | false=>exact .inl (.inr rfl)
    | true=>
     right
     have hind:i∉done:=λ hx=>by rw[Xa.2 hx]at hmi;cases hmi
     obtain⟨hpi,r,hpr,hre,hrsi⟩:=hund i hi hind;simp only[hrsi];simp only[YB,Bool.and_eq_true]at hmc;rcases Uo (e:=e) post with hno | ⟨p1,q,p2,hpost,hp1,hqe⟩
     ·have:=hno r (ZI hpr);rw[hre]at this;cases this
     ·have hq:rs[pre.length+p1.length]?=some q:=by rw[hrs,Zp (by omega),Yk,hpost,Zp (Nat.le_refl _),Nat.sub_self];rfl
      have hqin:pre.length+p1.length∈YW e 0 rs:=Xl.2 ⟨_,q,hq,hqe,by omega⟩
      have hqnd:¬ pre.length+p1.length∈done:=λ hx=>by have:=((hd _).1 hx).1;omega
      have heq:i=pre.length+p1.length:=by
       rcases Nat.lt_trichotomy i (pre.length+p1.length) with hlt | heq | hgt
       ·exfalso;rw[hpost,Zr (by omega)]at hpr
        have:=hp1 r (ZI hpr);rw[hre]at this;cases this
       ·exact heq
       ·exfalso;have hil:=(Za.1 hrsi).1
        have hanc:=Iq hok hgt (by simp;omega) (by rw[Vt hq,V2 hqe]) (by rw[Vt hrsi,V2 hre])
        have h1:=Zz.1 hmc.1 _ hqin
        rw[hanc]at h1;have h2:mem (pre.length+p1.length) done=false:=by
         cases hx:mem (pre.length+p1.length) done with
         | false=>rfl
         | true=>exact absurd (Xa.1 hx) hqnd
        rw[h2]at h1;cases h1
      have hqr:q=r:=by rw[heq,hq]at hrsi;injection hrsi
      subst hqr;rw[hpost]at ht;obtain⟨m,t1,t2⟩:=Uu ht;have:=Vl t1 hp1
      subst this;obtain⟨h1,h2,h3,h4⟩:=t2;have hrun:q.run=true:=by simp only[Rec.eff,Bool.and_eq_true]at hre;exact hre.1
      obtain⟨u,hu,hu2⟩:=h2 hrun;have:=hu2 hre
      subst this;simp only[hu,X.same_refl,Bool.true_and];refine ih (pre++p1++[q]) p2 (i::done) h1 (by rw[hrs,hpost];simp) (ze (ze hpre t1) ⟨h1,h2,h3,rfl⟩) h4 (λ x=>?_) (by rw[hpost]at hn;simp at hn;omega)
      simp only[List.mem_cons,List.length_append,List.length_cons,List.length_nil];constructor
      ·rintro(rfl | hx)
       ·exact⟨by omega,hi⟩
       ·have:=(hd x).1 hx;exact⟨by omega,this.2⟩
      ·rintro⟨hx1,hx2⟩
       by_cases hxi:x=i
       ·exact .inl hxi
       ·right
        refine(hd x).2 ⟨?_,hx2⟩;rcases Zl x pre.length with h | h
        ·exact h
        ·exfalso;obtain⟨j,rr,h3,h5,h6⟩:=Xl.1 hx2;have:x=j:=by omega
         subst this;rw[hrs,Zp h,hpost,Zr (by omega)]at h3
         have:=hp1 rr (ZI h3);rw[h5]at this;cases this
abbrev Rd:=Zf × POp × X
def Rd.at(e:Env)(h:Mem)(q:Rd):Prop:=∃ u,evalOp e q.1 h q.2.1=some (q.2.2,u)
def Qe(e:Env):List Rec->List Rd
 | []=>[]
 | r::rs=>bif Nat.beq (r.kd e) 1 then(r.s,r.o.op,r.v)::Qe e rs else Qe e rs
def Uj(e:Env):Mem->List Rec->List Mem
 | _,[]=>[]
 | h,r::rs=>bif Nat.beq (r.kd e) 2 then(match evalOp e r.s h r.o.op with | some (_,h1)=>h1::Uj e h1 rs | none=>[]) else Uj e h rs
def okR(anc:List (List Nat))(ks:List Nat):Bool:=(List.range ks.length).all λ i=>!(Nat.beq (ks.getD i 0) 2&&(List.range i).any λ q=>Nat.beq (ks.getD q 0) 2)||(List.range ks.length).all λ j=>!Nat.beq (ks.getD j 0) 1||mem j (Yv anc i)
theorem EB{rs:List Rec}{r:Rec}(h:r∈rs)(hk:r.kd e=1):(r.s,r.o.op,r.v)∈Qe e rs:=by
 induction rs with
 | nil=>cases h
 | cons x rs ih=>
  simp only[Qe];rcases List.mem_cons.1 h with rfl | h
  ·rw[hk];exact Zv
  ·have:=ih h
   cases Nat.beq (x.kd e) 1 with
   | true=>exact Zq _ this
   | false=>exact this
theorem wD:∀ {a:List Rec} {r:Rec} {b:List Rec} {h h1:Mem} {v:X},(∀ q∈a,Rec.eff e q=false)->r.eff e=true->evalOp e r.s h r.o.op=some (v,h1)->(Uj e h (a++r::b)).head?=some h1
 | [],r,b,h,h1,v,_,hr,he=>by
  have hb:Nat.beq (r.kd e) 2=true:=by rw[V2 hr];rfl
  simp only[List.nil_append,Uj,hb,cond_true,he];rfl
 | x::a,r,b,h,h1,v,ha,hr,he=>by
  have hx:=ha x Zv
  have hb:Nat.beq (x.kd e) 2=false:=by
   cases hq:Nat.beq (x.kd e) 2 with
   | false=>rfl
   | true=>
    have h2:=Zd hq
    cases hrun:x.run with
    | false=>simp only[Rec.kd,hrun,cond_false]at h2;cases h2
    | true=>simp only[Rec.kd,hrun,cond_true]at h2;simp only[Rec.eff,hrun,h2]at hx;cases hx
  simp only[List.cons_append,Uj,hb,cond_false];exact wD (λ q hq=>ha q (Zq _ hq)) hr he
theorem Eu{l:List POper}{anc:List (List Nat)}{rs:List Rec}{s':Zf}{h':Mem}(hp:Yq e l s h=some (rs,⟨s',h'⟩))(hok:Pp anc (rs.map (Rec.kd e))=true)(hokR:okR anc (rs.map (Rec.kd e))=true)(h0:∀ q∈Qe e rs,Rd.at e h q)(h1:∀ H,(Uj e h rs).head?=some H->∀ q∈Qe e rs,Rd.at e H q)(hf:hasF h'=false)(hm:Mem.same h' h'=true):QU e l anc ⟨s,h⟩=some ⟨s',h'⟩:=by
 have h3:=ja (e:=e) (h:=h) hok hm (λ pre post done hk hrs hpre hd=>by
  refine Jj λ j r hj hrun hk1 hmc=>?_
  rw[Nat.zero_add]at hmc;have hkr:r.kd e=1:=by simp only[Rec.kd,hrun,cond_true,hk1]
  have hjl:=(Za.1 hj).1
  have hrd:=EB (ZI hj) hkr
  rcases Uo (e:=e) pre with hno | ⟨p1,q,p2,hpre2,hp1,hqe⟩
  ·rw[Vl hpre hno];exact h0 _ hrd
  ·rcases Uo (e:=e) p2 with hno2 | ⟨p3,q2,p4,hp2,hp3,hq2e⟩
   ·rw[hpre2]at hpre;obtain⟨m,t1,t2⟩:=Uu hpre;have:=Vl t1 hp1
    subst this;obtain⟨x,y1,y2,y3⟩:=t2;have hqrun:q.run=true:=by simp only[Rec.eff,Bool.and_eq_true]at hqe;exact hqe.1
    obtain⟨u,hu,hu2⟩:=y1 hqrun;have:=hu2 hqe
    subst this;rw[Vl y3 hno2];refine h1 x ?_ _ hrd;rw[hrs,hpre2,List.append_assoc,List.cons_append];exact wD hp1 hqe hu
   ·exfalso;have hi:rs[p1.length+1+p3.length]?=some q2:=by
     rw[hrs,hpre2,hp2,List.append_assoc,Zp (by omega)]
     rw[show p1.length+1+p3.length - p1.length=p3.length+1 by omega,List.cons_append,List.getElem?_cons_succ,List.append_assoc,Zp (Nat.le_refl _),Nat.sub_self];rfl
    have hq0:rs[p1.length]?=some q:=by
     rw[hrs,hpre2,List.append_assoc,Zp (Nat.le_refl _),Nat.sub_self];rfl
    have hil:=(Za.1 hi).1
    have hpl:p1.length+1+p3.length < pre.length:=by rw[hpre2,hp2];simp;omega
    have a1:=Zz.1 hokR (p1.length+1+p3.length) (List.mem_range.2 (by simpa using hil))
    have a2:(List.range (p1.length+1+p3.length)).any (λ q=>Nat.beq ((rs.map (Rec.kd e)).getD q 0) 2)=true:=List.any_eq_true.2 ⟨p1.length,List.mem_range.2 (by omega),by rw[Vt hq0,V2 hqe];rfl⟩
    rw[Vt hi,V2 hq2e,a2]at a1;have a3:=Zz.1 (show((List.range (rs.map (Rec.kd e)).length).all λ j=>!Nat.beq ((rs.map (Rec.kd e)).getD j 0) 1||mem j (Yv anc (p1.length+1+p3.length)))=true from a1) j (List.mem_range.2 (by simpa using hjl))
    rw[Vt hj,hkr]at a3;have a4:mem j (Yv anc (p1.length+1+p3.length))=true:=a3
    simp only[YB,Bool.and_eq_true]at hmc;have hdn:p1.length+1+p3.length∈done:=(hd _).2 ⟨hpl,Xl.2 ⟨_,q2,hi,hq2e,by omega⟩⟩
    have:=Zz.1 hmc.2 _ hdn
    rw[a4]at this;cases this) (l.length+1) [] rs [] h rfl rfl (JO hp) (λ i=>by simp) (by rw[Uh hp];omega)
 simp only[QU,hp,h3,cond_true,Qg,hf,cond_false]
def Wz(e:Env)(N:Nat)(C:List Nat->List Rd->List Mem->Prop)(ks:List Nat)(rd:List Rd)(hp:List Mem)(l:List POper)(s:Zf)(h:Mem)(k:List Fk)(Q:Pi.Exit->Zf->Mem->Prop):Prop:=∃ rs s' h',Yq e l s h=some (rs,⟨s',h'⟩)/\C (ks.reverse++rs.map (Rec.kd e)) (rd.reverse++Qe e rs) (hp.reverse++Uj e h rs)/\hasF h'=false/\Mem.same h' h'=true/\Re e N k Q .normal s' h'
theorem Gt{l:List POper}{anc:List (List Nat)}(hw:∀ C:List Nat->List Rd->List Mem->Prop,(∀ ks rd hs,Pp anc ks=true->okR anc ks=true->(∀ q∈rd,Rd.at e h q)->(∀ H,hs.head?=some H->∀ q∈rd,Rd.at e H q)->C ks rd hs)->Wz e N C [] [] [] l s h k Q):W e N (.dops l anc) s h k Q:=by
 obtain⟨rs,s',h',h1,⟨h2,h6,h7,h8⟩,h3,h4,h5⟩:=hw (λ ks rd hs=>Pp anc ks=true/\okR anc ks=true/\(∀ q∈rd,Rd.at e h q)/\(∀ H,hs.head?=some H->∀ q∈rd,Rd.at e H q)) λ _ _ _ a b c d=>⟨a,b,c,d⟩
 exact zd (Eu h1 h2 h6 h7 h8 h3 h4) h5
def Wzn(e:Env)(N:Nat)(C:List Nat->List Rd->List Mem->Prop)(ks:List Nat)(rd:List Rd)(hp:List Mem)(r:Option (X × Mem))(kd:Nat)(s1:Zf)(op:POp)(d:Option Nat)(l:List POper)(s:Zf)(h:Mem)(k:List Fk)(Q:Pi.Exit->Zf->Mem->Prop):Prop:=match r with
 | some (v,h1)=>Wz e N C (kd::ks) (bif Nat.beq kd 1 then(s1,op,v)::rd else rd) (bif Nat.beq kd 2 then h1::hp else hp) l (Yo s d v) (bif Nat.beq kd 2 then h1 else h) k Q
 | none=>False
section
variable {C:List Nat->List Rd->List Mem->Prop} {ks:List Nat} {rd:List Rd} {hp:List Mem} {d:Option Nat} {op:POp} {l:List POper} {s1:Zf} {v:X} {h1:Mem}
@[simp] theorem Zjo:Wzn e N C ks rd hp (some (v,h1)) 0 s1 op d l s h k Q=Wz e N C (0::ks) rd hp l (Yo s d v) h k Q:=rfl
@[simp] theorem Zjn:Wzn e N C ks rd hp (some (v,h1)) 1 s1 op d l s h k Q=Wz e N C (1::ks) ((s1,op,v)::rd) hp l (Yo s d v) h k Q:=rfl
@[simp] theorem Zjm:Wzn e N C ks rd hp (some (v,h1)) 2 s1 op d l s h k Q=Wz e N C (2::ks) rd (h1::hp) l (Yo s d v) h1 k Q:=rfl
@[simp] theorem ZcI:Wz e N C ks rd hp [] s h k Q=(C ks.reverse rd.reverse hp.reverse/\hasF h=false/\Mem.same h h=true/\Re e N k Q .normal s h):=by
 apply propext;constructor
 ·rintro⟨rs,s',h',h1,h2,h3,h4,h5⟩;simp[Yq]at h1;obtain⟨rfl,rfl,rfl⟩:=h1;exact⟨by simpa [Qe,Uj] using h2,h3,h4,h5⟩
 ·rintro⟨h2,h3,h4,h5⟩;exact⟨[],s,h,rfl,by simpa [Qe,Uj] using h2,h3,h4,h5⟩
theorem AN{kd:Nat}{q:Rd}{a:List Nat}{b:List Rd}{f:Mem->List Mem}:C ((kd::ks).reverse++a) ((bif Nat.beq kd 1 then q::rd else rd).reverse++b) ((bif Nat.beq kd 2 then h1::hp else hp).reverse++f (bif Nat.beq kd 2 then h1 else h))↔C (ks.reverse++kd::a) (rd.reverse++bif Nat.beq kd 1 then q::b else b) (hp.reverse++bif Nat.beq kd 2 then h1::f h1 else f h):=by
 cases Nat.beq kd 1<;>cases Nat.beq kd 2<;>simp
@[simp] theorem ZcJ{r:List POper}:Wz e N C ks rd hp (⟨d,op,none⟩::r) s h k Q=Wzn e N C ks rd hp (evalOp e (ZK (POper.tmps ⟨d,op,none⟩) s) h op) (op.kind e (ZK (POper.tmps ⟨d,op,none⟩) s)) (ZK (POper.tmps ⟨d,op,none⟩) s) op d r s h k Q:=by
 apply propext;constructor
 ·rintro⟨rs,s',h',h1,h2,h3⟩
  simp only[Yq,wanted]at h1;split at h1
  ·rename_i v h4 hv;split at h1
   ·rename_i rs' σ' hpq;cases h1;rw[hv];refine⟨rs',s',h',hpq,(AN (C:=C) (h:=h) (f:=λ m=>Uj e m rs')).2 ?_,h3⟩
    simp only[List.map_cons,Qe,Uj,Rec.kd,cond_true,hv]at h2;exact h2
   ·cases h1
  ·cases h1
 ·intro hw;unfold Wzn at hw;split at hw
  ·rename_i v h4 hv;obtain⟨rs,s',h',h1,h2,h3⟩:=hw;refine⟨⟨ZK (POper.tmps ⟨d,op,none⟩) s,⟨d,op,none⟩,true,v⟩::rs,s',h',by simp only[Yq,wanted,hv,h1],?_,h3⟩
   have h5:=(AN (C:=C) (h:=h) (f:=λ m=>Uj e m rs)).1 h2
   simp only[List.map_cons,Qe,Uj,Rec.kd,cond_true,hv];exact h5
  ·exact hw.elim
end
end
end Go.Pi
namespace Go.Proofs.YtmckcikeefggdaaGreatDoor
open Go.Pi Go.Pi.S
section
variable {p:Prg} [Has p] [HasL p] [HasW p] [HasPr p] [HasI p] [HasG p] {h:Mem}
attribute [local simp] qY
theorem c31(q:Ex):q.ck=0->q.sz<=100->WT1 p KT 31 [q.cv] (q.sz*2300000):=by
 induction q using Ex.ind
 rename_i k f ms ra of nu de na wi mt st pt te ar ih;obtain⟨pk,pc,pa⟩:=pt;intro hck hsz;obtain⟨-,hlen,hsub,hE⟩:=ck0 hck;have hv:=Fy hE
 have hszs:Ex.szs ar+1<=(Ex.mk k f ms ra of nu de na wi mt st (.mk pk pc pa) te ar).sz:=by simp only[Ex.sz];omega
 have hsub':∀ q∈ar,WT1 p KT 31 [q.cv] (q.sz*2300000):=λ q hq=>ih q hq (hsub q hq) (by have:=Ex.sz_mem hq;omega)
 obtain⟨j,hj1,hj2⟩:=gi hv.k0 hv.k1;obtain⟨w,x0,x1,x2,x3,x4,x5,x6,x7,x8,x9,n1,n2,hwl,hkv⟩:=zP hv.k0 hv.k1;have h55:=λ h=>c55 (p:=p) (h:=h) k f ms ra of nu de na wi mt st pk pc pa te ar hv.k0 hv.k1
 obtain⟨al,hal'⟩:∃ al,al=ar.map Ex.cv:=⟨_,rfl⟩;obtain⟨OK,hOK⟩:∃ O,O=Ob.cells 105 [X.c (.str w),.c (.bool x0),.c (.bool x1),.c (.bool x2),.c (.bool x3),.c (.bool x4),.c (.bool x5),.c (.bool x6),.c (.bool x7),.c (.bool x8),.c (.bool x9),.c (.sl false ((JX k).map CV.str).tail),.c (.int .i64 n1),.c (.int .i64 n2)]:=⟨_,rfl⟩;have hOKf:oKf k OK:=⟨w,x0,x1,x2,x3,x4,x5,x6,x7,x8,x9,n1,n2,hwl,hOK⟩
 have coK:Co OK:=by rw[hOK];exact Kf (Vc [.str w,.bool x0,.bool x1,.bool x2,.bool x3,.bool x4,.bool x5,.bool x6,.bool x7,.bool x8,.bool x9,.sl false ((JX k).map CV.str).tail,.int .i64 n1,.int .i64 n2])
 have coF:Co (oF k f):=Kf (Vc [.bool (decide (0 < nf k)),.bool (JW k),.bool (JE k f),.bool (QW k f),.bool (QX k),.bool (Q7 k),.bool (QJ k),.bool (QI k),.bool (JV k),.bool (Kh k)])
 have hna:nA k<=2:=by unfold nA;split;omega;split<;>omega
 have h65:=c65 (p:=p) k f ms ra of nu de na wi mt st pk pc pa te ar hE al hal' (by omega) hsub' (by omega) OK hOKf
 have h64:=Zga (p:=p) coK coF wo (Zgq (p:=p) coK coF wo (by rw[hOK];rfl) rfl rfl h65)
 intro bs v first hl;obtain⟨bs',v',l1,l2,d64⟩:=h64 bs v first (by omega)
 refine⟨bs',v',false,l1,by omega,Z4 Has.h31 (N:=1) (Zk rfl ?_)⟩
 simp only[List.map_cons,List.map_nil];rw[Ex.cv_mk]at h55 ⊢;rw[<- hal']at h55 ⊢;show W _ _ b31 _ _ _ _;simp[b31];refine Gt λ C hC=>?_
 have hki:YG 0 (CV.int .i64 k)=true:=rfl
 rw[hkv]at h55;rw[hOK,Jf]at d64;simp[Jf,hj1,hj2,hkv,hki];refine⟨hC _ _ _ rfl rfl (by simp[Rd.at,Jf,hj1,hj2,hkv,hki]) (by simp[Rd.at,Jf,hj1,hj2,hkv,hki]),rfl,by simp[Mem.same,Ze,Zj],?_⟩
 simp[h55,yI,d64];exact Jd (.inl rfl) rfl (K5 (Z2 (CV.imap KTk KTv) false)) rfl
end
section
variable {p:Prg} [Has p] [HasL p] [HasW p] [HasPr p] [HasI p] [HasG p] {h:Mem}
attribute [local simp] qY
abbrev bF(first:Bool):Ob:=.cells 81 (.c .nilptr::.c (.sl true [])::wr KT first)
theorem v5(first:Bool):(bF first).ids=some []:=qX (Z2 KT first)
theorem Dq(first:Bool)(ρ:Nat->Option Nat):(bF first).ren ρ=some (bF first):=KI (Z2 KT first)
theorem ZaC{s:By}(hs:s ≠ [])(hl:s.length<=4294967296):Zi (Zo p) (BF 81 (wr KT true)) 105 [.ptr 0 0,.c (.str s)]=some (.c (.tup [.int .i64 s.length,.nilif]),BM 81 (wr KT true) s 0):=by
 refine YR (is:=[]) (ids:=[0]) (h'':=BM 81 (wr KT true) s 0) rfl ((ZS (n:=999) rfl rfl (qX (Z2 KT true))).trans YI) rfl rfl ?_ (Zbx (p:=p) (t:=81) (Z2 KT true) HasL.l81 s hs hl) ?_ rfl
 ·simp[Mem.ren,KI (Z2 KT true)]
 ·simp[Mem.ren,Ob.ren,X.ren.renL,X.ren,(Z2 KT true).2]
theorem Zgp{s:By}(hs:s ≠ [])(hl:s.length<=4294967296):(Zo p).call 66 [.ptr 0 0,.c (.str s)] [bF true]=some (.c (.tup []),BM 81 (wr KT false) s 0):=by
 have d105:=ZaC (p:=p) hs hl
 refine Z4 Has.h66 (N:=1) (Zk rfl ?_);show W _ _ MG _ _ _ _;simp[-List.map_append,MG,d105];refine⟨.inl rfl,?_⟩;simp[f66,ZD,Pi.results,oneOf,Yl,closedL,ZL,Ob.lt,Ob.ids,X.ids.idsL,X.ids,ZM]
abbrev LT(a b c:Ob)(first:Bool)(bs:By)(v:Nat):Mem:=[bo 81 0 5 (wr KT first) bs v,Q9 0,a,b,c,tp v]
theorem ZfY{a b c:Ob}{s:By}(hs:s ≠ [])(hl:s.length<=4294967296):Zi (Zo p) [bF true,Q9 0,a,b,c] 66 [.ptr 0 0,.c (.str s)]=some (.c (.tup []),LT a b c false s 0):=by
 refine YR (is:=[]) (ids:=[0]) (h'':=[bo 81 0 5 (wr KT false) s 0,tp 0]) rfl ((ZS (n:=999) rfl rfl (v5 true)).trans YI) rfl rfl ?_ (Zgp (p:=p) hs hl) ?_ rfl
 ·simp[Mem.ren,KI (Z2 KT true)]
 ·simp[Mem.ren,Ob.ren,X.ren.renL,X.ren,(Z2 KT false).2]
theorem ZfZ{a b c:Ob}(ha:Co a)(hb:Co b)(hc':Co c){bs bs':By}{v v':Nat}{first first':Bool}(hc:(Zo p).call 65 [.ptr 0 0,.ptr 3 0,.ptr 4 0,.ptr 5 0] (VD [a,b,c] KT first bs v)=some (.c (.tup []),VD [a,b,c] KT first' bs' v')):Zi (Zo p) (LT a b c first bs v) 65 [.ptr 1 0,.ptr 2 0,.ptr 3 0,.ptr 4 0]=some (.c (.tup []),LT a b c first' bs' v'):=by
 refine YR (is:=[2,3,4]) (ids:=[1,0,5,2,3,4]) (h'':=[Q9 0,bo 81 0 5 (wr KT first') bs' v',tp v',a,b,c]) rfl ?_ rfl rfl ?_ hc ?_ rfl
 ·exact(ZS (n:=999) rfl rfl rfl).trans ((ZS (n:=998) rfl rfl (Qp (Z2 _ _))).trans ((Xj (n:=997) rfl).trans ((ZS (n:=996) rfl rfl rfl).trans ((ZS (n:=995) rfl rfl ha.1).trans ((ZS (n:=994) rfl rfl hb.1).trans ((ZS (n:=993) rfl rfl hc'.1).trans YI))))))
 ·simp only[Mem.ren,Wy (i:=0) (k:=5) (i2:=1) (k2:=2) (ρ:=λ j=>Xw j [1,0,5,2,3,4]) (Z2 KT first) rfl rfl,ha.2,hb.2,hc'.2];rfl
 ·simp only[Mem.ren,Wy (i:=1) (k:=2) (i2:=0) (k2:=5) (ρ:=λ k=>bif Nat.ble [1,0,5,2,3,4].length k then some ((LT a b c first bs v).length+(k - [1,0,5,2,3,4].length)) else[1,0,5,2,3,4][k]?) (Z2 KT first') rfl rfl,ha.2,hb.2,hc'.2];rfl
theorem Zgr{a b c:Ob}{n:Nat}(ha:Co a)(hb:Co b)(hc':Co c)(hn:n<=4294960000)(hg:∀ bs v first,bs.length+n<=4294967296->∃ bs' v' first',bs.length<=bs'.length/\bs'.length<=bs.length+n/\(Zo p).call 65 [.ptr 0 0,.ptr 3 0,.ptr 4 0,.ptr 5 0] (VD [a,b,c] KT first bs v)=some (.c (.tup []),VD [a,b,c] KT first' bs' v')) :
  ∃ bs' v',0 < bs'.length/\bs'.length<=n+3/\(Zo p).call 64 [.ptr 0 0,.func 65 [.ptr 1 0,.ptr 2 0,.ptr 3 0,.ptr 4 0]] [bF true,Q9 0,a,b,c]=some (.c (.tup []),LT a b c false bs' v'):=by
 obtain⟨s,hs1,d66⟩:∃ s:By,s.length=1/\Zi (Zo p) [bF true,Q9 0,a,b,c] 66 ([.ptr 0 0]++[CV.str [40]].map X.c)=some (.c (.tup []),LT a b c false s 0):=⟨[40],rfl,ZfY (p:=p) (a:=a) (b:=b) (c:=c) (s:=[40]) (by simp) (by simp)⟩
 obtain⟨b2,v2,f2,l2,l2',hg⟩:=hg s 0 true (by omega)
 rw[hs1]at l2 l2';have dg:=ZfZ (p:=p) ha hb hc' hg
 obtain⟨v3,h85⟩:=c85 (p:=p) (t:=81) (Z2 KT f2) b2 v2 41 (by omega)
 have d85:=Xt (args:=[.int .u8 41]) (h:=LT a b c f2 b2 v2) (i:=0) (k:=5) rfl rfl (by omega) (Z2 KT f2) (Z2 KT f2) h85
 refine⟨b2++[41],v3,by simp,by simp;omega,Z4 Has.h64 (N:=1) (Zk rfl ?_)⟩
 simp only[List.map_cons,List.map_nil]at d66 d85;simp[-List.map_append]at d66 d85 dg;show W _ _ MH _ _ _ _;simp[-List.map_append,MH,d66,d85,dg];refine⟨.inl rfl,?_⟩;have hL:Ob.lt 5 (bo 81 0 5 (wr KT false) (b2++[41]) v3)=false:=by simp[Ob.lt,Qp (Z2 KT false),ZM]
 simp only[ZD,f64,Pi.results,List.take_succ_cons,List.length_cons,List.length_nil,ZL,hL,Bool.false_and,cond_false];rfl
theorem Zgb{a b c:Ob}(ha:Co a)(hb:Co b)(hc':Co c){bs':By}{v':Nat}(hc:(Zo p).call 64 [.ptr 0 0,.func 65 [.ptr 1 0,.ptr 2 0,.ptr 3 0,.ptr 4 0]] [bF true,Q9 0,a,b,c]=some (.c (.tup []),LT a b c false bs' v')):Zi (Zo p) [bF true,Q9 0,c,a,b] 64 [.ptr 0 0,.func 65 [.ptr 1 0,.ptr 3 0,.ptr 4 0,.ptr 2 0]]=some (.c (.tup []),LT c a b false bs' v'):=by
 refine YR (is:=[1,3,4,2]) (ids:=[0,1,3,4,2]) (h'':=LT a b c false bs' v') rfl ?_ rfl rfl ?_ hc ?_ rfl
 ·exact(ZS (n:=999) rfl rfl (v5 true)).trans ((ZS (n:=998) rfl rfl rfl).trans ((Xj (n:=997) rfl).trans ((ZS (n:=996) rfl rfl ha.1).trans ((ZS (n:=995) rfl rfl hb.1).trans ((ZS (n:=994) rfl rfl hc'.1).trans YI)))))
 ·simp only[Mem.ren,Dq,ha.2,hb.2,hc'.2];rfl
 ·simp only[Mem.ren,Wy (i:=0) (k:=5) (i2:=0) (k2:=5) (ρ:=λ k=>bif Nat.ble [0,1,3,4,2].length k then some ([bF true,Q9 0,c,a,b].length+(k - [0,1,3,4,2].length)) else[0,1,3,4,2][k]?) (Z2 KT false) rfl rfl,ha.2,hb.2,hc'.2];rfl
end
section
variable {p:Prg} [Has p] [HasL p] [HasW p] [HasPr p] [HasI p] [HasG p] {h:Mem}
attribute [local simp] qY
theorem Zgu(q:Ex)(hck:q.ck=0)(hsz:q.sz<=100):∃ (bs:By) (v:Nat) (a b c:Ob),0 < bs.length/\bs.length<=232000000/\Co a/\Co b/\Co c/\(Zo p).call 31 [.ptr 0 0,.c q.cv] [bF true]=some (.c (.tup []),LT c a b false bs v):=by
 obtain⟨k,f,ms,ra,of,nu,de,na,wi,mt,st,pk,pc,pa,te,ar,rfl⟩:=q.shape;obtain⟨-,hlen,hsub,hE⟩:=ck0 hck;have hv:=Fy hE
 have hszs:Ex.szs ar+1<=(Ex.mk k f ms ra of nu de na wi mt st (.mk pk pc pa) te ar).sz:=by simp only[Ex.sz];omega
 have hsub':∀ q∈ar,WT1 p KT 31 [q.cv] (q.sz*2300000):=λ q hq=>c31 q (hsub q hq) (by have:=Ex.sz_mem hq;omega)
 obtain⟨j,hj1,hj2⟩:=gi hv.k0 hv.k1;obtain⟨w,x0,x1,x2,x3,x4,x5,x6,x7,x8,x9,n1,n2,hwl,hkv⟩:=zP hv.k0 hv.k1;have h55:=λ h=>c55 (p:=p) (h:=h) k f ms ra of nu de na wi mt st pk pc pa te ar hv.k0 hv.k1
 obtain⟨al,hal'⟩:∃ al,al=ar.map Ex.cv:=⟨_,rfl⟩;obtain⟨OK,hOK⟩:∃ O,O=Ob.cells 105 [X.c (.str w),.c (.bool x0),.c (.bool x1),.c (.bool x2),.c (.bool x3),.c (.bool x4),.c (.bool x5),.c (.bool x6),.c (.bool x7),.c (.bool x8),.c (.bool x9),.c (.sl false ((JX k).map CV.str).tail),.c (.int .i64 n1),.c (.int .i64 n2)]:=⟨_,rfl⟩;have hOKf:oKf k OK:=⟨w,x0,x1,x2,x3,x4,x5,x6,x7,x8,x9,n1,n2,hwl,hOK⟩
 have coK:Co OK:=by rw[hOK];exact Kf (Vc [.str w,.bool x0,.bool x1,.bool x2,.bool x3,.bool x4,.bool x5,.bool x6,.bool x7,.bool x8,.bool x9,.sl false ((JX k).map CV.str).tail,.int .i64 n1,.int .i64 n2])
 have coF:Co (oF k f):=Kf (Vc [.bool (decide (0 < nf k)),.bool (JW k),.bool (JE k f),.bool (QW k f),.bool (QX k),.bool (Q7 k),.bool (QJ k),.bool (QI k),.bool (JV k),.bool (Kh k)])
 have hna:nA k<=2:=by unfold nA;split;omega;split<;>omega
 have h65:=c65 (p:=p) k f ms ra of nu de na wi mt st pk pc pa te ar hE al hal' (by omega) hsub' (by omega) OK hOKf
 obtain⟨bs',v',l1,l2,h64⟩:=Zgr (p:=p) coK coF wo (by omega) h65
 have d64:=Zgb (p:=p) coK coF wo h64
 refine⟨bs',v',OK,oF k f,oE k f ms ra of nu de na wi mt st pk pc pa te al,l1,by omega,coK,coF,wo,Z4 Has.h31 (N:=1) (Zk rfl ?_)⟩
 rw[Ex.cv_mk]at h55 ⊢;rw[<- hal']at h55 ⊢;have hki:YG 0 (CV.int .i64 k)=true:=rfl
 rw[hkv]at h55;rw[hOK]at d64;simp only[bF,LT,Jf]at d64 ⊢;show W _ _ b31 _ _ _ _;simp[b31];refine Gt λ C hC=>?_
 simp[Jf,hj1,hj2,hkv,hki];refine⟨hC _ _ _ rfl rfl (by simp[Rd.at,Jf,hj1,hj2,hkv,hki]) (by simp[Rd.at,Jf,hj1,hj2,hkv,hki]),rfl,by simp[Mem.same,Ze,Zj],?_⟩
 simp[h55,yI,d64];refine⟨.inl rfl,?_⟩;have hL:Ob.lt 1 (bo 81 0 5 (wr (.imap KTk KTv) false) bs' v')=false:=by simp[Ob.lt,Qp (Z2 (.imap KTk KTv) false),ZM]
 simp only[ZD,f31,Pi.results,List.take_succ_cons,List.length_cons,List.length_nil,ZL,hL,Bool.false_and,cond_false];rw[hOK];rfl
end
section
variable {p:Prg} [Has p] [HasL p] [HasW p] [HasPr p] [HasI p] [HasG p] [HasK p] [HasRx p] {h:Mem}
attribute [local simp] qY
abbrev PM(O a b c:Ob)(bs:By)(v:Nat):Mem:=[O,bo 81 1 6 (wr KT false) bs v,Q9 1,c,a,b,tp v]
theorem Zgc(q:Ex)(hck:q.ck=0)(hsz:q.sz<=100):∃ (bs:By) (v:Nat) (a b c:Ob),0 < bs.length/\bs.length<=232000000/\∀ O,Zi (Zo p) [O,bF true] 31 [.ptr 1 0,.c q.cv]=some (.c (.tup []),PM O a b c bs v):=by
 obtain⟨bs,v,a,b,c,h1,h2,ha,hb,hc',hc⟩:=Zgu (p:=p) q hck hsz;refine⟨bs,v,a,b,c,h1,h2,λ O=>?_⟩
 refine YR (is:=[]) (ids:=[1]) (h'':=[bo 81 1 6 (wr KT false) bs v,Q9 1,c,a,b,tp v]) rfl ((ZS (n:=999) rfl rfl (v5 true)).trans YI) rfl rfl ?_ hc ?_ rfl
 ·simp only[Mem.ren,Dq]
 ·simp only[Mem.ren,Wy (i:=0) (k:=5) (i2:=1) (k2:=6) (ρ:=λ k=>bif Nat.ble [1].length k then some ([O,bF true].length+(k - [1].length)) else[1][k]?) (Z2 KT false) rfl rfl,ha.2,hb.2,hc'.2];rfl
theorem c15(q:Ex)(hq:q.ok)(hc:q.chk=0):∃ s:By,∀ h,Zi (Zo p) h 15 [.c q.cv]=some (.c (.tup [.str s,.int .i64 0]),h):=by
 obtain⟨hsz,hck⟩:q.sz<=100/\q.ck=0:=by
  unfold Ex.chk at hc;split at hc
  ·cases hc
  ·split at hc
   ·cases hc
   ·exact⟨by omega,hc⟩
 obtain⟨bs,v,a,b,c,h1,h2,h31⟩:=Zgc (p:=p) q hck hsz;have h21:=λ h=>c21 (p:=p) (h:=h) q hq
 have h30:=λ h=>c30 (p:=p) (h:=h)
 obtain⟨k,f,ms,ra,of,nu,de,na,wi,mt,st,pk,pc,pa,te,ar,hsh⟩:=q.shape;have h32:∀ O,Zi (Zo p) (PM O a b c bs v) 32 [.ptr 1 0]=some (.c (.str bs),PM O a b c bs v):=λ O=>Xt (args:=[]) (h:=PM O a b c bs v) (i:=1) (k:=6) rfl rfl (by omega) (Z2 KT false) (Z2 KT false) (c32 (p:=p) (Z2 KT false) bs v (by intro hx;rw[hx]at h1;simp at h1) (by omega))
 refine⟨bs,λ h=>?_⟩
 refine ZB Has.h15 ?_;rw[hc]at h21;rw[hsh]at h21 h31 ⊢;rw[Ex.cv_mk]at h21 h31 ⊢;simp only[PM,bF,Jf]at h31 h32 h30;refine⟨1,Zk rfl ?_⟩;show W _ _ b15 _ _ _ _;simp[b15,h21,h30,h31,h32,ZH,Jf];exact⟨.inr rfl,by simp[f15,ZD,Pi.results,ZL,Ob.lt,Ob.ids,X.ids.idsL,X.ids,ZM,oneOf,Yl,closedL,frz.frzL,frz,ZN]⟩
theorem c11(q:Ex)(hq:q.ok)(hc:q.chk=0):Zi (Zo p) h 11 [.c q.cv,.c q.cv]=some (.c (.bool true),h):=by
 obtain⟨s,h15⟩:=c15 (p:=p) q hq hc;obtain⟨k,f,ms,ra,of,nu,de,na,wi,mt,st,pk,pc,pa,te,ar,rfl⟩:=q.shape;rw[Ex.cv_mk]at h15 ⊢;refine Ym Has.h11 ?_;refine⟨1,Zk rfl ?_⟩;show W _ _ b11 _ _ _ _;simp[b11,h15];exact⟨.inr rfl,by simp[f11,ZD,Pi.results,ZL,Ob.lt,Ob.ids,X.ids.idsL,X.ids,ZM,oneOf,Yl,closedL,frz.frzL,frz,ZN]⟩
end
section
variable {p:Prg} [Has p] [HasRx p] {h:Mem}
def SX(n:Nat)(x:X):Prop:=(∃ c,x=.c c)\/(∃ es k v,x=.own es k v/\k < n)\/∃ k o,x=.ptr k o/\k < n
def SO(n:Nat)(o:Ob):Prop:=(∃ t cs,o=.cells t cs/\∀ x∈cs,SX n x)\/∃ v s t,o=.tip v s t
def SMn(n:Nat)(h:Mem):Prop:=∀ o∈h,SO n o
abbrev SM(h:Mem):Prop:=SMn h.length h
theorem SX.c{n:Nat}(v:CV):SX n (.c v):=.inl ⟨v,rfl⟩
theorem SX.mono{n m:Nat}{x:X}(hx:SX n x)(hm:n<=m):SX m x:=by
 rcases hx with h | ⟨es,k,v,rfl,h⟩|⟨k,o,rfl,h⟩
 ·exact .inl h
 ·exact .inr (.inl ⟨es,k,v,rfl,by omega⟩)
 ·exact .inr (.inr ⟨k,o,rfl,by omega⟩)
theorem SO.mono{n m:Nat}{o:Ob}(hx:SO n o)(hm:n<=m):SO m o:=by
 rcases hx with ⟨t,cs,rfl,h⟩|h
 ·exact .inl ⟨t,cs,rfl,λ x hx=>(h x hx).mono hm⟩
 ·exact .inr h
theorem WH{n:Nat}(l:List CV):∀ x∈l.map X.c,SX n x:=λ x hx=>by
 obtain⟨c,_,rfl⟩:=List.mem_map.1 hx;exact .c c
theorem SX.idsL{n:Nat}:∀ {cs:List X},(∀ x∈cs,SX n x)->∃ l,X.ids.idsL 6 cs=some l/\ZM n l=true
 | [],_=>⟨[],rfl,rfl⟩
 | x::r,h=>by
  obtain⟨l,h1,h2⟩:=SX.idsL λ y hy=>h y (Zq _ hy)
  rcases h x Zv with ⟨c,rfl⟩|⟨es,k,v,rfl,hk⟩|⟨k,o,rfl,hk⟩
  ·exact⟨l,by simp only[X.ids.idsL,X.ids,h1];rfl,h2⟩
  ·exact⟨k::l,by simp only[X.ids.idsL,X.ids,h1];rfl,by simp only[ZM,h2,Bool.and_true];exact ZE hk⟩
  ·exact⟨k::l,by simp only[X.ids.idsL,X.ids,h1];rfl,by simp only[ZM,h2,Bool.and_true];exact ZE hk⟩
theorem QD{n:Nat}:∀ {h:Mem},ZL n h=true↔∀ o∈h,Ob.lt n o=true
 | []=>by simp[ZL]
 | o::r=>by simp only[ZL,Bool.and_eq_true,QD (h:=r),List.forall_mem_cons]
theorem SX.renL{n n':Nat}{ρ:Nat->Option Nat}(hρ:∀ j,j < n->∃ r,ρ j=some r/\r < n'):∀ {cs:List X},(∀ x∈cs,SX n x)->∃ cs',X.ren.renL ρ 6 cs=some cs'/\∀ x∈cs',SX n' x
 | [],_=>⟨[],rfl,λ x hx=>by cases hx⟩
 | x::r,h=>by
  obtain⟨l,h1,h2⟩:=SX.renL hρ λ y hy=>h y (Zq _ hy)
  rcases h x Zv with ⟨c,rfl⟩|⟨es,k,v,rfl,hk⟩|⟨k,o,rfl,hk⟩
  ·exact⟨.c c::l,by simp only[X.ren.renL,X.ren,h1],List.forall_mem_cons.2 ⟨.c c,h2⟩⟩
  ·obtain⟨q,hq,hq2⟩:=hρ k hk;exact⟨.own es q v::l,by simp only[X.ren.renL,X.ren,h1,hq],List.forall_mem_cons.2 ⟨.inr (.inl ⟨_,_,_,rfl,hq2⟩),h2⟩⟩
  ·obtain⟨q,hq,hq2⟩:=hρ k hk;exact⟨.ptr q o::l,by simp only[X.ren.renL,X.ren,h1,hq],List.forall_mem_cons.2 ⟨.inr (.inr ⟨_,_,rfl,hq2⟩),h2⟩⟩
theorem SO.ren{n n':Nat}{ρ:Nat->Option Nat}(hρ:∀ j,j < n->∃ r,ρ j=some r/\r < n'){o:Ob}(h:SO n o):∃ o',o.ren ρ=some o'/\SO n' o':=by
 rcases h with ⟨t,cs,rfl,h⟩|⟨v,s,t,rfl⟩
 ·obtain⟨l,h1,h2⟩:=SX.renL hρ h;exact⟨.cells t l,by simp only[Ob.ren,h1],.inl ⟨t,l,rfl,h2⟩⟩
 ·exact⟨_,rfl,.inr ⟨v,s,t,rfl⟩⟩
theorem uh{n n':Nat}{ρ:Nat->Option Nat}(hρ:∀ j,j < n->∃ r,ρ j=some r/\r < n'):∀ {H:Mem},SMn n H->∃ H',Mem.ren ρ H=some H'/\SMn n' H'/\H'.length=H.length/\∀ (j:Nat) o,H[j]?=some o->∃ o',o.ren ρ=some o'/\H'[j]?=some o'
 | [],_=>⟨[],rfl,λ o ho=>(by cases ho),rfl,λ j o ho=>(by simp at ho)⟩
 | o::r,h=>by
  obtain⟨o',h1,h2⟩:=(h o Zv).ren hρ;obtain⟨r',h3,h4,h5,h6⟩:=uh hρ (H:=r) λ q hq=>h q (Zq _ hq)
  refine⟨o'::r',by simp only[Mem.ren,h1,h3],List.forall_mem_cons.2 ⟨h2,h4⟩,by simp[h5],λ j q hq=>?_⟩
  cases j with
  | zero=>simp at hq;subst hq;exact⟨o',h1,rfl⟩
  | succ j=>simp at hq;obtain⟨q',hq1,hq2⟩:=h6 j q hq;exact⟨q',hq1,by simpa using hq2⟩
theorem SMn.set{n:Nat}{h:Mem}(hm:SMn n h)(i:Nat){o:Ob}(ho:SO n o):SMn n (h.set i o):=λ q hq=>by
 rcases List.mem_or_eq_of_mem_set hq with h1 | rfl
 ·exact hm q h1
 ·exact ho
theorem SMn.mono{n m:Nat}{h:Mem}(hm:SMn n h)(hn:n<=m):SMn m h:=λ o ho=>(hm o ho).mono hn
theorem SM.push{h:Mem}(hm:SM h){o:Ob}(ho:SO (h.length+1) o):SM (h++[o]):=λ q hq=>by
 rw[List.length_append];rcases List.mem_append.1 hq with h1 | h1
 ·exact(hm q h1).mono (by simp)
 ·simp at h1;subst h1;exact ho
theorem SM.set{h:Mem}(hm:SM h)(i:Nat){o:Ob}(ho:SO h.length o):SM (h.set i o):=by
 have:=SMn.set hm i ho
 rwa [SM,List.length_set]
abbrev oN:Ob:=.cells 36 [.c (.sl true [])]
abbrev oO(ps:List CV)(k v:Nat):Ob:=.cells 36 [.own ps k v]
abbrev qZ(v:Nat):Ob:=.tip v 16 46
abbrev M0:Mem:=[oN]
abbrev M1(ps:List CV)(v:Nat):Mem:=[oO ps 1 v,qZ v]
def St(h:Mem)(i:Nat)(ps:List CV):Option Nat->Prop
 | none=>ps=[]/\h[i]?=some oN
 | some k=>∃ v,k ≠ i/\h[i]?=some (oO ps k v)/\h[k]?=some (qZ v)
def CP(p:Prg)(f:Nat)(args0:List X)(zf:Nat->CV)(qs:List CV):Prop:=
 (∃ H ko,(Zo p).call f args0 M0=some (.c (zf 0),H)/\SM H/\St H 0 qs ko/\(ko=none->H=M0))/\
 ∀ ps v,ps.length+qs.length<=200->∃ v',(Zo p).call f args0 (M1 ps v)=some (.c (zf ps.length),M1 (ps++qs) v')
def Kp(h h':Mem)(i:Nat)(ko:Option Nat):Prop:=h.length<=h'.length/\∀ j,j < h.length->j ≠ i->ko ≠ some j->h'[j]?=h[j]?
def KO(n:Nat):Option Nat->Option Nat->Prop
 | some k,ko'=>ko'=some k
 | none,ko'=>∀ k,ko'=some k->n<=k
theorem Gm{f i:Nat}{args0 args:List X}{zf:Nat->CV}{ps qs:List CV}{ko:Option Nat}(hc:CP p f args0 zf qs)(hA1:X.ids.idsL 6 args=some [i])(hA2:∀ ρ:Nat->Option Nat,ρ i=some 0->X.ren.renL ρ 6 args=some args0)(hs:St h i ps ko)(hm:SM h)(hl:ps.length+qs.length<=200) :
  ∃ h' ko',Zi (Zo p) h f args=some (.c (zf ps.length),h')/\SM h'/\St h' i (ps++qs) ko'/\Kp h h' i ko/\KO h.length ko ko':=by
 have hpi:∀ l,Xw i (i::l)=some 0:=λ l=>by simp only[Xw,Nat.beq_refl,cond_true]
 cases ko with
 | none=>
  obtain⟨rfl,hi⟩:=hs;have hil:=(Za.1 hi).1
  obtain⟨⟨H,ko1,hcall,hSM,QJ,hn⟩,-⟩:=hc;have hHl:1<=H.length:=by
   cases ko1 with
   | none=>obtain⟨_,h1⟩:=QJ;have:=(Za.1 h1).1;omega
   | some k=>obtain⟨_,_,h1,_⟩:=QJ;have:=(Za.1 h1).1;omega
  obtain⟨ρ,hρ⟩:∃ ρ:Nat->Option Nat,ρ=λ k=>bif Nat.ble [i].length k then some (h.length+(k - [i].length)) else[i][k]?:=⟨_,rfl⟩
  have hρ0:ρ 0=some i:=by rw[hρ];rfl
  have hρS:∀ k,1<=k->ρ k=some (h.length+(k - 1)):=λ k hk=>by
   rw[hρ];have:Nat.ble [i].length k=true:=ZE hk
   show(bif Nat.ble [i].length k then some (h.length+(k - [i].length)) else[i][k]?)=_;rw[this];rfl
  obtain⟨H',hr1,hr2,hr3,hr4⟩:=uh (n':=h.length+(H.length - 1)) (ρ:=ρ) (λ j hj=>by
   cases j with
   | zero=>exact⟨i,hρ0,by omega⟩
   | succ j=>exact⟨_,hρS (j+1) (by omega),by omega⟩) hSM
  obtain⟨o',t',rfl⟩:∃ o' t',H'=o'::t':=by
   cases H' with
   | nil=>simp at hr3;omega
   | cons o t=>exact⟨o,t,rfl⟩
  have htl:t'.length=H.length - 1:=by simp at hr3;omega
  have hd:Zi (Zo p) h f args=some (.c (zf 0),h.set i o'++t'):=by
   refine YR (is:=[]) (ids:=[i]) (sub:=M0) (sub':=M0) (h'':=o'::t') hA1 ((ZS (n:=999) rfl hi rfl).trans YI) (hA2 _ (hpi [])) (by simp only[YM,hi]) rfl hcall ?_ rfl
   rw[<- hρ];exact hr1
  refine⟨h.set i o'++t',ko1.map λ k=>h.length+(k - 1),hd,?_,?_,?_,?_⟩
  ·have hL:(h.set i o'++t').length=h.length+(H.length - 1):=by simp[htl]
   rw[SM,hL];intro q hq;rcases List.mem_append.1 hq with h1 | h1
   ·exact SMn.set (hm.mono (by omega)) i (hr2 o' Zv) q h1
   ·exact hr2 q (Zq _ h1)
  ·cases ko1 with
   | none=>
    obtain⟨hq,h1⟩:=QJ;refine⟨by rw[hq];rfl,?_⟩
    obtain⟨o2,h2,h3⟩:=hr4 0 _ h1;simp at h3;subst h3;have:o'=oN:=by
     have:oN.ren ρ=some oN:=rfl
     rw[this]at h2;injection h2 with h2;exact h2.symm
    subst this;rw[Zr (by simpa using hil),ZG hil]
   | some k=>
    obtain⟨v,hk0,h1,h2⟩:=QJ;refine⟨v,by show h.length+(k - 1) ≠ i;omega,?_,?_⟩
    ·obtain⟨o2,h3,h4⟩:=hr4 0 _ h1;simp at h4;subst h4;have:(oO qs k v).ren ρ=some (oO qs (h.length+(k - 1)) v):=by
      simp only[Ob.ren,X.ren.renL,X.ren,hρS k (by omega)]
     rw[this]at h3;injection h3 with h3
     rw[Zr (by simpa using hil),ZG hil,<- h3];rfl
    ·obtain⟨o2,h3,h4⟩:=hr4 k _ h2;have:(qZ v).ren ρ=some (qZ v):=rfl
     rw[this]at h3;injection h3 with h3;subst h3
     show(h.set i o'++t')[h.length+(k - 1)]?=_;rw[Zp (by simp),List.length_set,Yk]
     obtain⟨k',rfl⟩:∃ k',k=k'+1:=⟨k - 1,by omega⟩
     simpa using h4
  ·refine⟨by simp,λ j hj hji _=>?_⟩
   rw[Zr (by simpa using hj),Zx (Ne.symm hji)]
  ·intro k hk;cases ko1 with
   | none=>cases hk
   | some k1=>simp at hk;omega
 | some k=>
  obtain⟨v,hki,hi,hk⟩:=hs;have hil:=(Za.1 hi).1
  have hkl:=(Za.1 hk).1
  obtain⟨v',hcall⟩:=hc.2 ps v hl;have hpk:Xw k [i,k]=some 1:=by
   have hb:Nat.beq i k=false:=by
    cases hq:Nat.beq i k with
    | false=>rfl
    | true=>exact absurd (Zd hq).symm hki
   simp only[Xw,hb,Nat.beq_refl,cond_true,cond_false]
  have hd:Zi (Zo p) h f args=some (.c (zf ps.length),(h.set i (oO (ps++qs) k v')).set k (qZ v')):=by
   refine YR (is:=[]) (ids:=[i,k]) (sub:=[oO ps k v,qZ v]) (sub':=M1 ps v) (h'':=[oO (ps++qs) k v',qZ v']) hA1 ((ZS (n:=999) rfl hi (l:=[k]) rfl).trans ((ZS (n:=998) (by simp[hki]) hk rfl).trans YI)) (hA2 _ (hpi _)) (by simp only[YM,hi,hk]) ?_ hcall ?_ (by simp[YS])
   ·simp only[Mem.ren,Ob.ren,X.ren.renL,X.ren,hpk]
   ·simp only[Mem.ren,Ob.ren,X.ren.renL,X.ren];rfl
  refine⟨_,some k,hd,?_,⟨v',hki,?_,?_⟩,⟨by simp,λ j hj hji hjk=>?_⟩,rfl⟩
  ·have h1:SM (h.set i (oO (ps++qs) k v')):=hm.set i (.inl ⟨36,_,rfl,by simp;exact .inr (.inl ⟨_,_,_,rfl,hkl⟩)⟩)
   exact h1.set k (.inr ⟨_,_,_,rfl⟩)
  ·rw[Zx hki,ZG hil]
  ·rw[ZG (by simpa using hkl)]
  ·rw[Zx (by intro e;exact hjk (by rw[e])),Zx (Ne.symm hji)]
end
section
variable {p:Prg} [Has p] [HasRx p] {h:Mem}
attribute [local simp] qY
theorem Zgt(k f ms ra of nu de na wi mt st pk pc pa te ar)(hk:k=6->ar ≠ [])(hp:zk (Ex.mk k f ms ra of nu de na wi mt st (.mk pk pc pa) te ar)=false):CP p 35 [.c (Ex.mk k f ms ra of nu de na wi mt st (.mk pk pc pa) te ar).cv,.ptr 0 0] (λ _=>.tup [(Ex.mk k f ms ra of nu de na wi mt st (.mk pk pc pa) te ar).cv,.bool false]) []:=by
 have h36:=λ h=>c36 (p:=p) (h:=h) k f ms ra of nu de na wi mt st pk pc pa te ar hk
 rw[hp]at h36;rw[Ex.cv_mk]at h36 ⊢;refine⟨⟨M0,none,Z4 Has.h35 (N:=1) (Zk rfl ?_),?_,⟨rfl,rfl⟩,λ _=>rfl⟩,λ ps v _=>⟨v,?_⟩⟩
 ·show W _ _ FS _ _ _ _;simp[FS,h36];refine⟨.inr rfl,?_⟩;simp[ZD,IA,Pi.results,ZN,Nat.ble,Z7,Yr,closedL,oneOf,Yl,ZL,Ob.lt,Ob.ids,X.ids.idsL,X.ids,ZM,X.wk,CV.wk,CV.wk0]
 ·intro o ho;simp at ho;subst ho;exact .inl ⟨_,_,rfl,by simp;exact .c _⟩
 ·rw[List.append_nil];refine Z4 Has.h35 (N:=1) (Zk rfl ?_);show W _ _ FS _ _ _ _;simp[FS,h36];refine⟨.inr rfl,?_⟩;simp[ZD,IA,Pi.results,ZN,Nat.ble,Z7,Yr,closedL,oneOf,Yl,ZL,Ob.lt,Ob.ids,X.ids.idsL,X.ids,ZM,X.wk,CV.wk,CV.wk0]
theorem Zgs(k f ms ra of nu de na wi mt st pk pc pa te ar)(hk:k=6->ar ≠ [])(hp:zk (Ex.mk k f ms ra of nu de na wi mt st (.mk pk pc pa) te ar)=true):CP p 35 [.c (Ex.mk k f ms ra of nu de na wi mt st (.mk pk pc pa) te ar).cv,.ptr 0 0] (λ n=>.tup [(Vd (XE n)).cv,.bool true]) [(Ex.mk k f ms ra of nu de na wi mt st (.mk pk pc pa) te ar).cv]:=by
 have h36:=λ h=>c36 (p:=p) (h:=h) k f ms ra of nu de na wi mt st pk pc pa te ar hk
 have hvc:∀ n,(Vd (XE n)).cv=.agg [.int .i64 13,.int .i64 0,.sl false [],.int .i64 0,.int .i64 0,.int .i64 0,.int .i64 0,.sl false [],.bool false,.int .i64 0,.sl false [],.int .i64 0,.sl false [],.sl false [],.str (XE n),.sl false []]:=λ n=>by rw[Vd,Ex.cv_mk];rfl
 simp only[hvc];rw[hp]at h36;rw[Ex.cv_mk]at h36 ⊢;obtain⟨E,hE⟩:∃ E:List CV,E=[.int .i64 k,.int .i64 f,.sl false (ms.map Mt.cv),.int .i64 ra,.int .i64 of,.int .i64 nu,.int .i64 de,.sl false (na.map CV.str),.bool wi,.int .i64 mt,.sl false (st.map Sg.cv),.int .i64 pk,.sl false (pc.map Cd.cv),.sl false (pa.map Pt.cv),.str te,.sl false (ar.map Ex.cv)]:=⟨_,rfl⟩;have hEl:E.length=16:=by rw[hE];rfl
 constructor
 ·have h37:∀ h,Zi (Zo p) h 37 [.c (.int .i64 0)]=some (.c (.str (XE 0)),h):=λ h=>c37 (p:=p) (h:=h) 0 (by omega)
  have hap:∀ h:Mem,ZP h 46 16 232 (.c (.sl true [])) [.agg E]=some (.own [.agg E] h.length 0,h++[qZ 0]):=λ h=>appF rfl (by simp) (by omega)
  refine⟨[oO [.agg E] 3 0,.cells 33 (E.map X.c),.cells 33 [.c (.int .i64 13),.c (.int .i64 0),.c (.sl true []),.c (.int .i64 0),.c (.int .i64 0),.c (.int .i64 0),.c (.int .i64 0),.c (.sl true []),.c (.bool false),.c (.int .i64 0),.c (.sl true []),.c (.int .i64 0),.c (.sl true []),.c (.sl true []),.c (.str (XE 0)),.c (.sl true [])],qZ 0],some 3,Z4 Has.h35 (N:=1) (Zk rfl ?_),?_,⟨0,by omega,by rw[hE];rfl,rfl⟩,λ h=>by cases h⟩
  ·show W _ _ FS _ _ _ _;rw[hE]at hap ⊢;simp[FS,h36,h37,ZH,Xo,ZO,hap];refine⟨.inr rfl,?_⟩;simp[ZD,IA,Pi.results,ZN,Nat.ble,Z7,Yr,closedL,oneOf,Yl,ZL,Ob.lt,Ob.ids,X.ids.idsL,X.ids,ZM,X.wk,CV.wk,CV.wk0]
  ·intro o ho;simp only[List.mem_cons,List.not_mem_nil,or_false]at ho;rcases ho with rfl | rfl | rfl | rfl
   ·exact .inl ⟨_,_,rfl,by simp;exact .inr (.inl ⟨_,_,_,rfl,by simp⟩)⟩
   ·exact .inl ⟨_,_,rfl,WH _⟩
   ·exact .inl ⟨_,_,rfl,WH [.int .i64 13,.int .i64 0,.sl true [],.int .i64 0,.int .i64 0,.int .i64 0,.int .i64 0,.sl true [],.bool false,.int .i64 0,.sl true [],.int .i64 0,.sl true [],.sl true [],.str (XE 0),.sl true []]⟩
   ·exact .inr ⟨_,_,_,rfl⟩
 ·intro ps v hl;simp at hl;have h37:=λ h=>c37 (p:=p) (h:=h) ps.length (by omega)
  have hap:∀ o1 o2,ZP [oO ps 1 v,qZ v,o1,o2] 46 16 232 (.own ps 1 v) [.agg E]=some (.own (ps++[.agg E]) 1 (v+1),[oO ps 1 v,qZ (v+1),o1,o2]):=λ o1 o2=>by rw[y9 rfl (by omega) (by omega)];rfl
  refine⟨v+1,Z4 Has.h35 (N:=1) (Zk rfl ?_)⟩;show W _ _ FS _ _ _ _;rw[hE]at hap;simp[FS,h36,h37,ZH,Xo,ZO,hap];refine⟨.inr rfl,?_⟩;simp[ZD,IA,Pi.results,ZN,Nat.ble,Z7,Yr,closedL,oneOf,Yl,ZL,Ob.lt,Ob.ids,X.ids.idsL,X.ids,ZM,X.wk,CV.wk,CV.wk0]
end
theorem St.push{h:Mem}{i:Nat}{ps:List CV}{ko:Option Nat}(hs:St h i ps ko)(o:Ob):St (h++[o]) i ps ko:=by
 cases ko with
 | none=>exact⟨hs.1,Y7 hs.2⟩
 | some k=>obtain⟨v,h1,h2,h3⟩:=hs;exact⟨v,h1,Y7 h2,Y7 h3⟩
theorem St.set{h:Mem}{i j:Nat}{ps:List CV}{ko:Option Nat}(hs:St h i ps ko)(hij:j ≠ i){o o':Ob}(hj:h[j]?=some o)(ho:∀ v,o ≠ qZ v):St (h.set j o') i ps ko:=by
 cases ko with
 | none=>exact⟨hs.1,by rw[Zx hij];exact hs.2⟩
 | some k=>
  obtain⟨v,h1,h2,h3⟩:=hs;have:j ≠ k:=λ e=>by rw[e,h3]at hj;injection hj with hj;exact ho v hj.symm
  exact⟨v,h1,by rw[Zx hij];exact h2,by rw[Zx this];exact h3⟩
theorem St.lt{h:Mem}{i:Nat}{ps:List CV}{ko:Option Nat}(hs:St h i ps ko):i < h.length:=by
 cases ko with
 | none=>exact(Za.1 hs.2).1
 | some k=>obtain⟨v,h1,h2,h3⟩:=hs;exact(Za.1 h2).1
theorem gg{n m:Nat}:∀ {cs:List X} {l:List Nat},(∀ x∈cs,SX n x)->X.ids.idsL 6 cs=some l->ZM m l=true->∀ x∈cs,SX m x
 | [],l,_,_,_=>λ x hx=>by cases hx
 | x::r,l,h,hl,hb=>by
  have hx:=h x Zv
  have hr:=λ y hy=>h y (Zq x hy)
  obtain⟨l2,h2,-⟩:=SX.idsL hr;rcases hx with ⟨c,rfl⟩|⟨es,k,v,rfl,hk⟩|⟨k,o,rfl,hk⟩
  ·simp only[X.ids.idsL,X.ids,h2,List.nil_append,Option.some.injEq]at hl;subst hl;exact List.forall_mem_cons.2 ⟨.c c,gg hr h2 hb⟩
  ·simp only[X.ids.idsL,X.ids,h2,Option.some.injEq]at hl;subst hl;simp only[List.cons_append,List.nil_append,ZM,Bool.and_eq_true]at hb;exact List.forall_mem_cons.2 ⟨.inr (.inl ⟨_,_,_,rfl,Zg hb.1⟩),gg hr h2 hb.2⟩
  ·simp only[X.ids.idsL,X.ids,h2,Option.some.injEq]at hl;subst hl;simp only[List.cons_append,List.nil_append,ZM,Bool.and_eq_true]at hb;exact List.forall_mem_cons.2 ⟨.inr (.inr ⟨_,_,rfl,Zg hb.1⟩),gg hr h2 hb.2⟩
theorem HK{n m:Nat}{o:Ob}(h:SO n o)(hb:Ob.lt m o=true):SO m o:=by
 rcases h with ⟨t,cs,rfl,h⟩|h
 ·obtain⟨l,h1,-⟩:=SX.idsL h;simp only[Ob.lt,Ob.ids,h1]at hb;exact .inl ⟨t,cs,rfl,gg h h1 hb⟩
 ·exact .inr h
theorem C0{h:Mem}{sl:Zf}{live:List Nat}{L:Nat}(hm:SM h)(hL:L<=h.length)(hL0:0 < L):∃ h',clean (some live) L ⟨sl,h⟩=⟨ZK live sl,h'⟩/\SM h'/\L<=h'.length/\(∀ j,j < L->h'[j]?=h[j]?)/\∀ ps ko,St h 0 ps ko->St h' 0 ps ko:=by
 simp only[clean,gc];cases hb:Nat.ble h.length L with
 | true=>exact⟨h,rfl,hm,hL,λ _ _=>rfl,λ _ _ h=>h⟩
 | false=>
  cases hc:(Yy L (ZK live sl)&&ZL L (List.take L h)) with
  | false=>exact⟨h,rfl,hm,hL,λ _ _=>rfl,λ _ _ h=>h⟩
  | true=>
   rw[Bool.and_eq_true]at hc;have hlen:(h.take L).length=L:=by simp;omega
   refine⟨h.take L,rfl,λ o ho=>?_,by omega,λ j hj=>List.getElem?_take_of_lt hj,λ ps ko hs=>?_⟩
   ·rw[hlen];exact HK (hm o (List.mem_of_mem_take ho)) (QD.1 hc.2 o ho)
   ·cases ko with
    | none=>exact⟨hs.1,by rw[List.getElem?_take_of_lt hL0];exact hs.2⟩
    | some k=>
     obtain⟨v,h1,h2,h3⟩:=hs;have h4:(h.take L)[0]?=some (oO ps k v):=by rw[List.getElem?_take_of_lt hL0];exact h2
     have h5:=QD.1 hc.2 _ (ZI h4)
     simp only[Ob.lt,Ob.ids,X.ids.idsL,X.ids,List.cons_append,List.nil_append,ZM,Bool.and_true]at h5;have:=Zg h5
     exact⟨v,h1,h4,by rw[List.getElem?_take_of_lt (by omega)];exact h3⟩
theorem KO.trans{n m:Nat}{a b c:Option Nat}(h1:KO n a b)(h2:KO m b c)(hm:n<=m):KO n a c:=by
 cases a with
 | some k=>rw[h1]at h2;exact h2
 | none=>
  cases b with
  | none=>exact λ k hk=>Nat.le_trans hm (h2 k hk)
  | some k=>have:=h1 k rfl;intro q hq;rw[h2]at hq;injection hq with hq;omega
theorem KO.self(n:Nat)(a:Option Nat):KO n a a:=by cases a with | some k=>rfl | none=>exact λ k hk=>(by cases hk)
section
variable {p:Prg} [Has p] [HasRx p] {h:Mem}
attribute [local simp] qY
abbrev oZ:Ob:=.cells 33 [.c (.int .i64 0),.c (.int .i64 0),.c (.sl true []),.c (.int .i64 0),.c (.int .i64 0),.c (.int .i64 0),.c (.int .i64 0),.c (.sl true []),.c (.bool false),.c (.int .i64 0),.c (.sl true []),.c (.int .i64 0),.c (.sl true []),.c (.sl true []),.c (.str []),.c (.sl true [])]
theorem Hj{n:Nat}:SO n oZ:=.inl ⟨_,_,rfl,WH [.int .i64 0,.int .i64 0,.sl true [],.int .i64 0,.int .i64 0,.int .i64 0,.int .i64 0,.sl true [],.bool false,.int .i64 0,.sl true [],.int .i64 0,.sl true [],.sl true [],.str [],.sl true []]⟩
def OX(m:Nat)(ko:Option Nat)(ps:List CV)(r:CV)(x:Pi.Exit)(sl:Zf)(h':Mem):Prop:=x=.ret/\∃ cs ko',Zm sl 4=.ptr (m+1) 0/\h'[m+1]?=some (.cells 33 cs)/\cs.length=16/\(Yr cs).wk=.c r/\SM h'/\St h' 0 ps ko'/\KO m ko ko'
theorem Gv{f:Nat}{v:CV}:X.ids.idsL 6 [.c v,.ptr 0 0]=some [0]/\∀ ρ:Nat->Option Nat,ρ 0=some 0->X.ren.renL ρ 6 [.c v,.ptr 0 0]=some [.c v,.ptr 0 0]:=
 ⟨rfl,λ ρ h=>by simp only[X.ren.renL,X.ren,h]⟩
theorem Kg{f i:Nat}{v:CV}:X.ids.idsL 6 [.c v,.func 35 [.ptr i 0]]=some [i]/\∀ ρ:Nat->Option Nat,ρ i=some 0->X.ren.renL ρ 6 [.c v,.func 35 [.ptr i 0]]=some [.c v,.func 35 [.ptr 0 0]]:=
 ⟨rfl,λ ρ h=>by simp only[X.ren.renL,X.ren,h]⟩
theorem ZcQ(k f ms ra of nu de na wi mt st pk pc pa te ar)(hk:k=6->ar ≠ [])(hp:zk (Ex.mk k f ms ra of nu de na wi mt st (.mk pk pc pa) te ar)=true)(h0:Mem)(ps:List CV)(ko:Option Nat)(hs:St h0 0 ps ko)(hm:SM h0)(hl:ps.length+1<=200):W (Zo p) 4 HH [(0,.c (Ex.mk k f ms ra of nu de na wi mt st (.mk pk pc pa) te ar).cv),(1,.func 35 [.ptr 0 0])] h0 [] (OX h0.length ko (ps++[(Ex.mk k f ms ra of nu de na wi mt st (.mk pk pc pa) te ar).cv]) (Vd (XE ps.length)).cv):=by
 have h35:=Zgs (p:=p) k f ms ra of nu de na wi mt st pk pc pa te ar hk hp
 have hvc:∀ n,(Vd (XE n)).cv=.agg [.int .i64 13,.int .i64 0,.sl false [],.int .i64 0,.int .i64 0,.int .i64 0,.int .i64 0,.sl false [],.bool false,.int .i64 0,.sl false [],.int .i64 0,.sl false [],.sl false [],.str (XE n),.sl false []]:=λ n=>by rw[Vd,Ex.cv_mk];rfl
 simp only[hvc]at h35 ⊢;rw[Ex.cv_mk]at h35 ⊢;obtain⟨h1,hh1⟩:∃ h1,h1=h0++[Ob.cells 33 [X.c (.int .i64 k),X.c (.int .i64 f),X.c (.sl false (ms.map Mt.cv)),X.c (.int .i64 ra),X.c (.int .i64 of),X.c (.int .i64 nu),X.c (.int .i64 de),X.c (.sl false (na.map CV.str)),X.c (.bool wi),X.c (.int .i64 mt),X.c (.sl false (st.map Sg.cv)),X.c (.int .i64 pk),X.c (.sl false (pc.map Cd.cv)),X.c (.sl false (pa.map Pt.cv)),X.c (.str te),X.c (.sl false (ar.map Ex.cv))]]++[oZ]:=⟨_,rfl⟩;obtain⟨m,hmm⟩:∃ m,m=h0.length:=⟨_,rfl⟩;have hl1:h1.length=m+2:=by rw[hh1,hmm];simp
 have hb:h1[m]?=some (Ob.cells 33 [X.c (.int .i64 k),X.c (.int .i64 f),X.c (.sl false (ms.map Mt.cv)),X.c (.int .i64 ra),X.c (.int .i64 of),X.c (.int .i64 nu),X.c (.int .i64 de),X.c (.sl false (na.map CV.str)),X.c (.bool wi),X.c (.int .i64 mt),X.c (.sl false (st.map Sg.cv)),X.c (.int .i64 pk),X.c (.sl false (pc.map Cd.cv)),X.c (.sl false (pa.map Pt.cv)),X.c (.str te),X.c (.sl false (ar.map Ex.cv))]):=by rw[hh1,hmm];exact Y7 (by simp)
 have hz:h1[m+1]?=some oZ:=by rw[hh1,hmm];simp
 have hs1:St h1 0 ps ko:=by rw[hh1];exact(hs.push _).push _
 have hm1:SM h1:=by rw[hh1];exact(hm.push (.inl ⟨_,_,rfl,WH [.int .i64 k,.int .i64 f,.sl false (ms.map Mt.cv),.int .i64 ra,.int .i64 of,.int .i64 nu,.int .i64 de,.sl false (na.map CV.str),.bool wi,.int .i64 mt,.sl false (st.map Sg.cv),.int .i64 pk,.sl false (pc.map Cd.cv),.sl false (pa.map Pt.cv),.str te,.sl false (ar.map Ex.cv)]⟩)).push Hj
 have hm0:0 < m:=by rw[hmm];exact hs.lt
 obtain⟨h2,ko2,hd,hm2,hs2,hK,hKO⟩:=Gm (p:=p) h35 (Gv (f:=35)).1 (Gv (f:=35)).2 hs1 hm1 hl;have hz2:h2[m+1]?=some oZ:=by
  rw[hK.2 (m+1) (by omega) (by omega) ?_];exact hz
  rintro rfl
  obtain⟨v,_,_,h3⟩:=hs1;rw[hz]at h3;cases h3
 rw[<- hmm];unfold HH;refine JB (λ s h=>h=h1/\Zm s 1=.func 35 [.ptr 0 0]/\Zm s 2=.ptr m 0/\Zm s 4=.ptr (m+1) 0) ?_ ?_
 ·simp[hh1,hmm]
 ·rintro s h ⟨rfl,s1,s2,s4⟩
  have gz:∀ o,(h2++[o])[m+1]?=some oZ:=λ o=>Y7 hz2
  simp[s1,s2,s4,hb,hd,gz];have hs3:=λ o=>hs2.push o
  refine⟨rfl,_,ko2,rfl,ZG (by simp;have:=hK.1;omega),rfl,by simp[Yr,closedL,X.wk,CV.wk,CV.wk0],(hm2.push ?_).set _ ?_,(hs3 _).set (by omega) (gz _) (λ v=>by simp),?_⟩
  ·exact .inl ⟨_,_,rfl,WH [.int .i64 13,.int .i64 0,.sl false [],.int .i64 0,.int .i64 0,.int .i64 0,.int .i64 0,.sl false [],.bool false,.int .i64 0,.sl false [],.int .i64 0,.sl false [],.sl false [],.str (XE ps.length),.sl false []]⟩
  ·exact .inl ⟨_,_,rfl,WH [.int .i64 13,.int .i64 0,.sl false [],.int .i64 0,.int .i64 0,.int .i64 0,.int .i64 0,.sl false [],.bool false,.int .i64 0,.sl false [],.int .i64 0,.sl false [],.sl false [],.str (XE ps.length),.sl false []]⟩
  ·exact KO.trans (KO.self m ko) (by rw[hl1]at hKO;exact hKO) (by omega)
end
section
variable {p:Prg} [Has p] [HasRx p] {h:Mem}
attribute [local simp] qY
theorem UM:∀ (l:List Ex) (n:Nat),(Z3 l n).length=l.length
 | [],n=>by simp[Z3]
 | a::r,n=>by simp only[Z3,List.length_cons,UM r]
theorem VC:∀ (l:List Ex) (i:Nat) (h:i < l.length),ZV (l.take (i+1))=ZV (l.take i)++l[i].parts
 | a::r,0,h=>by simp[ZV]
 | a::r,i+1,h=>by
  have:=VC r i (by simpa using h)
  simp only[List.take_succ_cons,ZV,this,List.getElem_cons_succ,List.append_assoc]
theorem V9:∀ (l:List Ex) (n i:Nat) (h:i < l.length),Z3 (l.take (i+1)) n=Z3 (l.take i) n++[l[i].rest (n+(ZV (l.take i)).length)]
 | a::r,n,0,h=>by simp[Z3,ZV]
 | a::r,n,i+1,h=>by
  have:=V9 r (n+a.parts.length) i (by simpa using h)
  simp only[List.take_succ_cons,Z3,ZV,this,List.getElem_cons_succ,List.cons_append,List.length_append,Nat.add_assoc]
theorem VX(l:List Ex)(i:Nat):(ZV (l.take i)).length<=(ZV l).length:=by
 induction l generalizing i with
 | nil=>simp
 | cons a r ih=>
  cases i with
  | zero=>simp[ZV]
  | succ i=>simp only[List.take_succ_cons,ZV,List.length_append];have:=ih i;omega
theorem ZcR(k f ms ra of nu de na wi mt st pk pc pa te ar)(hk:k=6->ar ≠ [])(hp:zk (Ex.mk k f ms ra of nu de na wi mt st (.mk pk pc pa) te ar)=false)(har:ar.length<=2)(ih:∀ a∈ar,CP p 34 [.c a.cv,.func 35 [.ptr 0 0]] (λ n=>(a.rest n).cv) (a.parts.map Ex.cv))(h0:Mem)(ps:List CV)(ko:Option Nat)(hs:St h0 0 ps ko)(hm:SM h0)(hl:ps.length+(ZV ar).length<=200):W (Zo p) 4 HH [(0,.c (Ex.mk k f ms ra of nu de na wi mt st (.mk pk pc pa) te ar).cv),(1,.func 35 [.ptr 0 0])] h0 [] (OX h0.length ko (ps++(ZV ar).map Ex.cv) (Ex.mk k f ms ra of nu de na wi mt st (.mk pk pc pa) te (Z3 ar ps.length)).cv):=by
 have h35:=Zgt (p:=p) k f ms ra of nu de na wi mt st pk pc pa te ar hk hp
 rw[Ex.cv_mk]at h35;rw[Ex.cv_mk,Ex.cv_mk];obtain⟨al,hal⟩:∃ al,al=ar.map Ex.cv:=⟨_,rfl⟩;have hall:al.length=ar.length:=by rw[hal];simp
 rw[<- hal]at h35 ⊢;obtain⟨OE,hOE⟩:∃ O,O=oE k f ms ra of nu de na wi mt st pk pc pa te al:=⟨_,rfl⟩;have soE:∀ n,SO n (oE k f ms ra of nu de na wi mt st pk pc pa te al):=λ n=>.inl ⟨_,_,rfl,WH [.int .i64 k,.int .i64 f,.sl false (ms.map Mt.cv),.int .i64 ra,.int .i64 of,.int .i64 nu,.int .i64 de,.sl false (na.map CV.str),.bool wi,.int .i64 mt,.sl false (st.map Sg.cv),.int .i64 pk,.sl false (pc.map Cd.cv),.sl false (pa.map Pt.cv),.str te,.sl false al]⟩
 obtain⟨h1,hh1⟩:∃ h1,h1=h0++[oE k f ms ra of nu de na wi mt st pk pc pa te al]++[oZ]:=⟨_,rfl⟩;obtain⟨m,hmm⟩:∃ m,m=h0.length:=⟨_,rfl⟩;have hl1:h1.length=m+2:=by rw[hh1,hmm];simp
 have hb:h1[m]?=some (oE k f ms ra of nu de na wi mt st pk pc pa te al):=by rw[hh1,hmm];exact Y7 (by simp)
 have hz:h1[m+1]?=some oZ:=by rw[hh1,hmm];simp
 have hs1:St h1 0 ps ko:=by rw[hh1];exact(hs.push _).push _
 have hm1:SM h1:=by rw[hh1];exact(hm.push (soE _)).push Hj
 have hm0:0 < m:=by rw[hmm];exact hs.lt
 obtain⟨h2,ko2,hd,hm2,hs2,hK,hKO⟩:=Gm (p:=p) h35 (Gv (f:=35)).1 (Gv (f:=35)).2 hs1 hm1 (by simp;omega)
 rw[hl1]at hKO;rw[List.append_nil]at hs2;have hz2:h2[m+1]?=some oZ:=by
  rw[hK.2 (m+1) (by omega) (by omega) ?_];exact hz
  rintro rfl
  obtain⟨v,_,_,h3⟩:=hs1;rw[hz]at h3;cases h3
 have hl2:=hK.1
 rw[hl1]at hl2;rw[<- hmm];unfold HH;refine JB (λ s h=>h=h1/\Zm s 1=.func 35 [.ptr 0 0]/\Zm s 2=.ptr m 0/\Zm s 4=.ptr (m+1) 0) ?_ ?_
 ·simp[hh1,hmm]
 rintro s h ⟨rfl,s1,s2,s4⟩
 have gz:∀ o,(h2++[o])[m+1]?=some oZ:=λ o=>Y7 hz2
 by_cases hae:ar.length=0
 ·have hnil:ar=[]:=List.eq_nil_of_length_eq_zero hae
  have he:((al.length:Int)==0)=true:=by rw[hall,hae];rfl
  simp[s1,s2,s4,hb,hd,gz,he];refine⟨rfl,_,ko2,rfl,ZG (by simp;omega),rfl,by rw[hal,hnil];simp[Yr,closedL,X.wk,CV.wk,CV.wk0,Z3],(hm2.push (soE _)).set _ (soE _),?_,?_⟩
  ·rw[hnil,ZV,List.map_nil,List.append_nil];exact(hs2.push _).set (by omega) (gz _) (λ v=>by simp)
  ·exact KO.trans (KO.self m ko) hKO (by omega)
 have hae2:¬ al.length=0:=by omega
 have hbl:Nat.ble 0 al.length=true:=rfl
 have hbl2:Nat.ble al.length Qq=true:=ZE (by simp[Qq];omega)
 have hal0:al.length ≠ 0:=by omega
 have hal1:al ≠ []:=by rintro rfl;simp at hal0
 have he:((al.length:Int)==0)=false:=by simp;omega
 have hle:al.length<=4294967296:=by omega
 simp[s1,s2,s4,hb,hd,gz,he,hle]
 split
 ·rename_i hx;exact absurd hx hal0
 rotate_left
 ·rename_i hx;omega
 clear he;rename_i n hx;simp;obtain⟨b,hbb⟩:∃ b,b=h2.length:=⟨_,rfl⟩;rw[<- hbb];obtain⟨hL,hhL⟩:∃ hL,hL=h2++[oE k f ms ra of nu de na wi mt st pk pc pa te al,Ob.tip 0 16 33]:=⟨_,rfl⟩;rw[<- hhL];have hLl:hL.length=b+2:=by rw[hhL,hbb];simp
 have hLe:hL=h2++[oE k f ms ra of nu de na wi mt st pk pc pa te al]++[Ob.tip 0 16 33]:=by rw[hhL];simp
 obtain⟨J,hJ⟩:∃ J:Nat->Zf->Mem->Prop,J=λ i sl h=>SM h/\b+2<=h.length/\(∃ ko',St h 0 (ps++(ZV (ar.take i)).map Ex.cv) ko'/\KO m ko ko')/\h[m+1]?=some oZ/\h[b]?=some (oE k f ms ra of nu de na wi mt st pk pc pa te al)/\h[b+1]?=some (.tip i 16 33)/\Zm sl 1=.func 35 [.ptr 0 0]/\Zm sl 4=.ptr (m+1) 0/\Zm sl 5=.ptr b 0/\Zm sl 7=.own ((Z3 (ar.take i) ps.length).map Ex.cv) (b+1) i/\Zm sl 29=.c (.sl false al)/\Zm sl 30=.c (.int .i64 al.length)/\Zm sl 31=.c (.int .i64 i):=⟨_,rfl⟩
 refine ZU J al.length (by omega) ?_ ?_
 ·rw[hJ];refine⟨?_,by omega,⟨ko2,?_,KO.trans (KO.self m ko) hKO (by omega)⟩,?_,?_,?_,by simp,by simp,by simp,by simp[Z3],by simp,by simp,by simp⟩
  ·rw[hLe];exact(hm2.push (soE _)).push (.inr ⟨_,_,_,rfl⟩)
  ·rw[hLe];simp only[List.take_zero,ZV,List.map_nil,List.append_nil];exact(hs2.push _).push _
  ·rw[hLe];exact Y7 (Y7 hz2)
  ·rw[hLe,hbb];exact Y7 (by simp)
  ·rw[hLe,hbb];simp
 intro i sl h hi hJi;rw[hJ]at hJi;obtain⟨jm,jl,⟨ko3,js,jk⟩,jz,je,jt,g1,g4,g5,g7,g29,g30,g31⟩:=hJi;obtain⟨h3,hcl,cm,cl,ck,cs⟩:=C0 (sl:=sl) (live:=[1,4,5,7,29,30,31]) (L:=b+2) jm jl (by omega)
 rw[hLl,hcl]
 replace js:=cs _ _ js
 replace jz:h3[m+1]?=some oZ:=by rw[ck _ (by omega)];exact jz
 replace je:h3[b]?=some (oE k f ms ra of nu de na wi mt st pk pc pa te al):=by rw[ck _ (by omega)];exact je
 replace jt:h3[b+1]?=some (.tip i 16 33):=by rw[ck _ (by omega)];exact jt
 clear hcl cs ck jm jl h;rcases Zl i al.length with hlt | hge
 ·have hw:IntKind.i64.wrap ((i:Int)+1)=(i:Int)+1:=ZA (by omega) (by omega)
  have hia:i < ar.length:=by omega
  have hxa:al[i]=ar[i].cv:=by simp[hal]
  have h34:=ih ar[i] (Zh hia)
  have hpt:=VC ar i hia
  have hrt:=V9 ar ps.length i hia
  have hple:=VX ar (i+1)
  rw[hpt,List.length_append]at hple;obtain⟨R,hR⟩:∃ R,R=ar[i].rest (ps.length+(ZV (ar.take i)).length):=⟨_,rfl⟩;obtain⟨k2,f2,ms2,ra2,of2,nu2,de2,na2,wi2,mt2,st2,pk2,pc2,pa2,te2,ar2,hsh⟩:=Ex.shape ar[i];obtain⟨k3,f3,ms3,ra3,of3,nu3,de3,na3,wi3,D3,st3,pk3,pc3,pa3,te3,ar3,hsh3⟩:=Ex.shape R;have soC:∀ n,SO n (oE k2 f2 ms2 ra2 of2 nu2 de2 na2 wi2 mt2 st2 pk2 pc2 pa2 te2 (ar2.map Ex.cv)):=λ n=>.inl ⟨_,_,rfl,WH [.int .i64 k2,.int .i64 f2,.sl false (ms2.map Mt.cv),.int .i64 ra2,.int .i64 of2,.int .i64 nu2,.int .i64 de2,.sl false (na2.map CV.str),.bool wi2,.int .i64 mt2,.sl false (st2.map Sg.cv),.int .i64 pk2,.sl false (pc2.map Cd.cv),.sl false (pa2.map Pt.cv),.str te2,.sl false (ar2.map Ex.cv)]⟩
  obtain⟨h4,ko4,d34,dm,ds,dK,dKO⟩:=Gm (p:=p) h34 (Kg (f:=34)).1 (Kg (f:=34)).2 (js.push (oE k2 f2 ms2 ra2 of2 nu2 de2 na2 wi2 mt2 st2 pk2 pc2 pa2 te2 (ar2.map Ex.cv))) (cm.push (soC _)) (by simp;omega)
  have hzf:(ar[i].rest (ps++(ZV (ar.take i)).map Ex.cv).length).cv=R.cv:=by rw[hR];simp
  rw[hzf,hsh3,Ex.cv_mk,hsh,Ex.cv_mk]at d34;rw[hsh,Ex.cv_mk]at hxa;have h4l:h3.length+1<=h4.length:=by have:=dK.1;simpa using this
  have kp4:∀ j o,j < b+2->j ≠ 0->h3[j]?=some o->(∀ v,o ≠ qZ v)->h4[j]?=some o:=by
   intro j o hj hj0 ho hv;have hjl:=(Za.1 ho).1
   rw[dK.2 j (by simp;omega) hj0 ?_]
   ·exact Y7 ho
   ·rintro rfl
    obtain⟨v,_,_,q⟩:=js;rw[ho]at q;injection q with q;exact hv v q
  have t4:=kp4 (b+1) _ (by omega) (by omega) jt (λ v hv=>by cases hv)
  have z4:=kp4 (m+1) _ (by omega) (by omega) jz (λ v hv=>by cases hv)
  have e4:=kp4 b _ (by omega) (by omega) je (λ v hv=>by cases hv)
  obtain⟨es,hes⟩:∃ es,es=(Z3 (ar.take i) ps.length).map Ex.cv:=⟨_,rfl⟩;have hesl:es.length=i:=by rw[hes,List.length_map,UM,List.length_take];omega
  rw[<- hes]at g7;have hap:∀ y,ZP h4 33 16 232 (.own es (b+1) i) [y]=some (.own (es++[y]) (b+1) (i+1),h4.set (b+1) (.tip (i+1) 16 33)):=λ y=>y9 t4 (by omega) (by omega)
  simp[g1,g4,g5,g7,g29,g30,g31,hlt,hw,Zn,hxa,d34,Xo,ZO,hap];rw[hJ];have hbl4:b+1 < h4.length:=by omega
  refine⟨dm.set _ (.inr ⟨_,_,_,rfl⟩),by simp;omega,⟨ko4,?_,KO.trans jk dKO (by simp;omega)⟩,?_,?_,?_,by simp,by simp,by simp,?_,by simp,by simp,by simp⟩
  ·rw[hpt,List.map_append,<- List.append_assoc];exact ds.set (by omega) t4 (λ v hv=>by cases hv)
  ·rw[Zx (by omega)];exact z4
  ·rw[Zx (by omega)];exact e4
  ·rw[ZG hbl4]
  ·rw[hrt,List.map_append,<- hes,<- hR,hsh3,List.map_cons,List.map_nil,Ex.cv_mk];simp
 ·obtain rfl:i=al.length:=by omega
  rw[hall,List.take_length]at js g7;obtain⟨es,hes⟩:∃ es,es=(Z3 ar ps.length).map Ex.cv:=⟨_,rfl⟩;rw[<- hes]at g7 ⊢;have hzs:∀ (o:Ob),(h3.set b o)[m+1]?=some oZ:=λ o=>by rw[Zx (by omega)];exact jz
  have hbs:∀ (o:Ob),(h3.set b o)[b]?=some o:=λ o=>by rw[ZG (by omega)]
  simp[g1,g4,g5,g7,g29,g30,g31,je,jz,hzs,hbs];have soF:∀ n,b+1 < n->SO n (Ob.cells 33 [X.c (.int .i64 k),X.c (.int .i64 f),X.c (.sl false (ms.map Mt.cv)),X.c (.int .i64 ra),X.c (.int .i64 of),X.c (.int .i64 nu),X.c (.int .i64 de),X.c (.sl false (na.map CV.str)),X.c (.bool wi),X.c (.int .i64 mt),X.c (.sl false (st.map Sg.cv)),X.c (.int .i64 pk),X.c (.sl false (pc.map Cd.cv)),X.c (.sl false (pa.map Pt.cv)),X.c (.str te),X.own es (b+1) ar.length]):=λ n hn=>.inl ⟨_,_,rfl,λ x hx=>by
   have hx2:x∈([.int .i64 k,.int .i64 f,.sl false (ms.map Mt.cv),.int .i64 ra,.int .i64 of,.int .i64 nu,.int .i64 de,.sl false (na.map CV.str),.bool wi,.int .i64 mt,.sl false (st.map Sg.cv),.int .i64 pk,.sl false (pc.map Cd.cv),.sl false (pa.map Pt.cv),.str te]:List CV).map X.c++[X.own es (b+1) ar.length]:=hx
   rcases List.mem_append.1 hx2 with h1 | h1
   ·exact WH _ x h1
   ·simp at h1;subst h1;exact .inr (.inl ⟨_,_,_,rfl,hn⟩)⟩
  refine⟨rfl,_,ko3,rfl,ZG (by simp;omega),rfl,rfl,(cm.set _ (soF _ (by omega))).set _ (by rw[List.length_set];exact soF _ (by omega)),?_,jk⟩
  exact(js.set (by omega) je (λ v=>by simp)).set (by omega) (hzs _) (λ v=>by simp)
end
section
variable {p:Prg} [Has p] [HasRx p] {h:Mem}
attribute [local simp] qY
theorem Ke:∀ {l:List Ex} {a:Ex},a∈l->a.parts.length<=(ZV l).length
 | x::r,a,h=>by
  simp only[ZV,List.length_append];rcases List.mem_cons.1 h with rfl | h
  ·omega
  ·have:=Ke h;omega
theorem Hv{m:Nat}{ko:Option Nat}{ps:List CV}{r:CV}{x:Pi.Exit}{sl:Zf}{h':Mem}(hq:OX m ko ps r x sl h'):ZD f34 m ⟨sl,h'⟩=some (.c r,bif ZL m (h'.take m) then h'.take m else h'):=by
 obtain⟨rfl,cs,ko',h1,h2,h3,h4,-⟩:=hq;have hmc:ZN h' (m+1)=some cs:=by simp only[ZN,h2]
 have hb:Nat.ble (0+16) cs.length=true:=by rw[h3];rfl
 have ht:(cs.drop 0).take 16=cs:=by rw[List.drop_zero,List.take_of_length_le (by omega)]
 have hr:Pi.results ⟨sl,h'⟩ f34.res=some [Yr cs]:=by
  simp only[f34,Pi.results,h1,hmc,hb,ht,Z7,cond_true]
 simp only[ZD,hr];have hk:f34.keep=false:=rfl
 simp only[hk,cond_false,List.map_cons,List.map_nil,h4,oneOf];have hi:(X.ids.idsL 6 [X.c r]).elim false (ZM m)=true:=rfl
 simp only[hi,cond_true];cases ZL m (h'.take m)<;>rfl
theorem gj{q:Ex}(hw:∀ h0 ps ko,St h0 0 ps ko->SM h0->ps.length+q.parts.length<=200->W (Zo p) 4 HH [(0,.c q.cv),(1,.func 35 [.ptr 0 0])] h0 [] (OX h0.length ko (ps++q.parts.map Ex.cv) (q.rest ps.length).cv))(hl:q.parts.length<=200):CP p 34 [.c q.cv,.func 35 [.ptr 0 0]] (λ n=>(q.rest n).cv) (q.parts.map Ex.cv):=by
 constructor
 ·obtain⟨x,sl,h',hex,hQ⟩:=hw M0 [] none ⟨rfl,rfl⟩ (λ o ho=>by simp at ho;subst ho;exact .inl ⟨_,_,rfl,by simp;exact .c _⟩) (by simpa using hl)
  have hQ2:OX 1 none ([]++q.parts.map Ex.cv) (q.rest 0).cv x sl h':=hQ
  have hfin:=Hv hQ2
  obtain⟨hx,cs,ko',-,-,-,-,hm,hs,hK⟩:=hQ2;have hrun:(Zo p).call 34 [.c q.cv,.func 35 [.ptr 0 0]] M0=some (.c (q.rest 0).cv,bif ZL 1 (h'.take 1) then h'.take 1 else h'):=Z4 Has.h34 (N:=4) (Zk rfl ⟨x,sl,h',hex,.inr hx,hfin⟩)
  rw[List.nil_append]at hs;refine⟨_,ko',hrun,?_⟩;cases ko' with
  | none=>
   have ht:h'.take 1=M0:=by
    obtain⟨_,h1⟩:=hs;cases h' with
    | nil=>simp at h1
    | cons o t=>
     have h1':o=oN:=by simpa using h1
     subst h1';rfl
   rw[ht];exact(show SM M0/\St M0 0 _ none/\((none:Option Nat)=none->M0=M0) from⟨λ o ho=>by simp at ho;subst ho;exact .inl ⟨_,_,rfl,by simp;exact .c _⟩,⟨hs.1,rfl⟩,λ _=>rfl⟩)
  | some k=>
   have hk1:=hK k rfl
   have ht:ZL 1 (h'.take 1)=false:=by
    obtain⟨v,_,h1,_⟩:=hs;cases h' with
    | nil=>simp at h1
    | cons o t=>
     simp at h1;subst h1;have hb:Nat.ble (k+1) 1=false:=by
      cases hb:Nat.ble (k+1) 1 with
      | false=>rfl
      | true=>have:=Zg hb;omega
     simp only[List.take_succ_cons,ZL,Ob.lt,Ob.ids,X.ids.idsL,X.ids,List.cons_append,List.nil_append,ZM,hb,Bool.false_and]
   rw[ht];exact⟨hm,hs,λ e=>by cases e⟩
 ·intro ps v hps;rw[List.length_map]at hps;obtain⟨x,sl,h',hex,hQ⟩:=hw (M1 ps v) ps (some 1) ⟨v,by omega,rfl,rfl⟩ (λ o ho=>by
   simp only[List.mem_cons,List.not_mem_nil,or_false]at ho;rcases ho with rfl | rfl
   ·exact .inl ⟨_,_,rfl,by simp;exact .inr (.inl ⟨_,_,_,rfl,by simp⟩)⟩
   ·exact .inr ⟨_,_,_,rfl⟩) hps
  have hQ2:OX 2 (some 1) (ps++q.parts.map Ex.cv) (q.rest ps.length).cv x sl h':=hQ
  have hfin:=Hv hQ2
  obtain⟨hx,cs,ko',-,-,-,-,hm,hs,hK⟩:=hQ2;have hK2:ko'=some 1:=hK
  subst hK2;obtain⟨v',_,h1,h2⟩:=hs;have ht:h'.take 2=M1 (ps++q.parts.map Ex.cv) v':=by
   match h' with
   | []=>simp at h1
   | [_]=>simp at h2
   | a::b::t=>simp at h1 h2;subst h1;subst h2;rfl
  have hlt:ZL 2 (M1 (ps++q.parts.map Ex.cv) v')=true:=rfl
  rw[ht,hlt]at hfin;exact⟨v',Z4 Has.h34 (N:=4) (Zk rfl ⟨x,sl,h',hex,.inr hx,hfin⟩)⟩
theorem c34(q:Ex):q.ck=0->q.parts.length<=200->CP p 34 [.c q.cv,.func 35 [.ptr 0 0]] (λ n=>(q.rest n).cv) (q.parts.map Ex.cv):=by
 induction q using Ex.ind
 rename_i k f ms ra of nu de na wi mt st pt te ar ih;obtain⟨pk,pc,pa⟩:=pt;intro hck hl;obtain⟨-,hlen,hsub,hE⟩:=ck0 hck;have hna:nA k<=2:=by unfold nA;split;omega;split<;>omega
 have hk6:k=6->ar ≠ []:=by
  rintro rfl rfl
  simp[nA]at hlen
 cases hp:zk (Ex.mk k f ms ra of nu de na wi mt st (.mk pk pc pa) te ar) with
 | true=>
  have e1:Ex.parts (Ex.mk k f ms ra of nu de na wi mt st (.mk pk pc pa) te ar)=[(Ex.mk k f ms ra of nu de na wi mt st (.mk pk pc pa) te ar)]:=by simp only[Ex.parts,hp,if_true]
  refine gj (λ h0 ps ko hs hm hps=>?_) hl
  have e2:Ex.rest (Ex.mk k f ms ra of nu de na wi mt st (.mk pk pc pa) te ar) ps.length=Vd (XE ps.length):=by simp only[Ex.rest,hp,if_true]
  rw[e1]at hps ⊢;rw[e2];exact ZcQ k f ms ra of nu de na wi mt st pk pc pa te ar hk6 hp h0 ps ko hs hm (by simpa using hps)
 | false=>
  have e1:Ex.parts (Ex.mk k f ms ra of nu de na wi mt st (.mk pk pc pa) te ar)=ZV ar:=by simp only[Ex.parts,hp,Bool.false_eq_true,if_false]
  have hl':=hl
  rw[e1]at hl';refine gj (λ h0 ps ko hs hm hps=>?_) hl
  have e2:Ex.rest (Ex.mk k f ms ra of nu de na wi mt st (.mk pk pc pa) te ar) ps.length=Ex.mk k f ms ra of nu de na wi mt st (.mk pk pc pa) te (Z3 ar ps.length):=by simp only[Ex.rest,hp,Bool.false_eq_true,if_false]
  rw[e1]at hps ⊢;rw[e2];exact ZcR k f ms ra of nu de na wi mt st pk pc pa te ar hk6 hp (by omega) (λ a ha=>ih a ha (hsub a ha) (by have:=Ke ha;omega)) h0 ps ko hs hm hps
end
section
variable {p:Prg} [Has p] [HasRx p] {h:Mem}
attribute [local simp] qY
abbrev oZ2:Ob:=.cells 38 [.c (.sl true []),.c (.int .i64 0),.c (.int .i64 0),.c (.sl true []),.c (.int .i64 0),.c (.int .i64 0),.c (.int .i64 0),.c (.int .i64 0),.c (.sl true []),.c (.bool false),.c (.int .i64 0),.c (.sl true []),.c (.int .i64 0),.c (.sl true []),.c (.sl true []),.c (.str []),.c (.sl true [])]
def X5(ps:List Ex)(r:Ex):CV:=.agg (.sl false (ps.map Ex.cv)::r.cells)
theorem Wb(ps:List Ex)(k f ms ra of nu de na wi mt st pk pc pa te ar):X5 ps (Ex.mk k f ms ra of nu de na wi mt st (.mk pk pc pa) te ar)=.agg [.sl false (ps.map Ex.cv),.int .i64 k,.int .i64 f,.sl false (ms.map Mt.cv),.int .i64 ra,.int .i64 of,.int .i64 nu,.int .i64 de,.sl false (na.map CV.str),.bool wi,.int .i64 mt,.sl false (st.map Sg.cv),.int .i64 pk,.sl false (pc.map Cd.cv),.sl false (pa.map Pt.cv),.str te,.sl false (ar.map Ex.cv)]:=by
 have h1:=Ex.cv_mk k f ms ra of nu de na wi mt st pk pc pa te ar
 rw[Ex.cv]at h1;injection h1 with h1
 rw[X5,h1]
theorem c17(q:Ex)(hck:q.ck=0)(hl:q.parts.length<=200):Zi (Zo p) h 17 [.c q.cv]=some (.c (X5 q.parts (q.rest 0)),h):=by
 have h34:=c34 (p:=p) q hck hl
 obtain⟨k,f,ms,ra,of,nu,de,na,wi,mt,st,pk,pc,pa,te,ar,hsh⟩:=q.shape;obtain⟨k2,f2,ms2,ra2,of2,nu2,de2,na2,wi2,mt2,st2,pk2,pc2,pa2,te2,ar2,hr⟩:=(q.rest 0).shape;have hq1:=congrArg Ex.cv hsh
 rw[Ex.cv_mk]at hq1;have hr1:=congrArg Ex.cv hr
 rw[Ex.cv_mk]at hr1;obtain⟨PS,hPS⟩:∃ PS,PS=q.parts.map Ex.cv:=⟨_,rfl⟩;have hPl:PS.length<=200:=by rw[hPS,List.length_map];exact hl
 have soE:∀ n,SO n (oE k f ms ra of nu de na wi mt st pk pc pa te (ar.map Ex.cv)):=λ n=>.inl ⟨_,_,rfl,WH [.int .i64 k,.int .i64 f,.sl false (ms.map Mt.cv),.int .i64 ra,.int .i64 of,.int .i64 nu,.int .i64 de,.sl false (na.map CV.str),.bool wi,.int .i64 mt,.sl false (st.map Sg.cv),.int .i64 pk,.sl false (pc.map Cd.cv),.sl false (pa.map Pt.cv),.str te,.sl false (ar.map Ex.cv)]⟩
 rw[<- hPS]at h34;have hm:SM [oE k f ms ra of nu de na wi mt st pk pc pa te (ar.map Ex.cv),oZ2,oN]:=by
  intro o ho;simp only[List.mem_cons,List.not_mem_nil,or_false]at ho;rcases ho with rfl | rfl | rfl
  ·exact soE _
  ·exact .inl ⟨_,_,rfl,WH [.sl true [],.int .i64 0,.int .i64 0,.sl true [],.int .i64 0,.int .i64 0,.int .i64 0,.int .i64 0,.sl true [],.bool false,.int .i64 0,.sl true [],.int .i64 0,.sl true [],.sl true [],.str [],.sl true []]⟩
  ·exact .inl ⟨_,_,rfl,WH [.sl true []]⟩
 obtain⟨h4,ko,d34,dm,ds,dK,dKO⟩:=Gm (p:=p) (i:=2) (ps:=[]) (ko:=none) h34 (Kg (f:=34)).1 (Kg (f:=34)).2 ⟨rfl,rfl⟩ hm (by simpa using hPl)
 have d34':Zi (Zo p) [oE k f ms ra of nu de na wi mt st pk pc pa te (ar.map Ex.cv),oZ2,oN] 34 [.c q.cv,.func 35 [.ptr 2 0]]=some (.c (q.rest 0).cv,h4):=d34
 rw[hq1,hr1]at d34';have h4l:3<=h4.length:=dK.1
 have hz4:h4[1]?=some oZ2:=by rw[dK.2 1 (by simp) (by omega) (by simp)];rfl
 have gz:∀ o,(h4++[o])[1]?=some oZ2:=λ o=>Y7 hz4
 refine ZB Has.h17 ?_;rw[hr,Wb,<- hPS,hq1];refine⟨1,Zk rfl ?_⟩;show W _ _ b17 _ _ _ _;rw[List.nil_append]at ds;cases ko with
 | none=>
  obtain⟨hn,h2⟩:=ds;have g2:∀ o,(h4++[o])[2]?=some oN:=λ o=>Y7 h2
  have hz5:∀ o o',(((h4++[o]).set 1 o'))[1]?=some o':=λ o o'=>ZG (by simp;omega)
  simp[b17,d34',gz,g2,ZH,hz5];refine⟨.inr rfl,?_⟩;simp[ZD,f17,Pi.results,ZN,hz5,Nat.ble,Z7,Yr,closedL,oneOf,ZL,X.ids.idsL,X.ids,ZM,X.wk,CV.wk,CV.wk0,hn]
 | some k=>
  obtain⟨v,_,h2,_⟩:=ds;have g2:∀ o,(h4++[o])[2]?=some (oO PS k v):=λ o=>Y7 h2
  have hz5:∀ o o',(((h4++[o]).set 1 o'))[1]?=some o':=λ o o'=>ZG (by simp;omega)
  simp[b17,d34',gz,g2,ZH,hz5];refine⟨.inr rfl,?_⟩;simp[ZD,f17,Pi.results,ZN,hz5,Nat.ble,Z7,Yr,closedL,oneOf,ZL,X.ids.idsL,X.ids,ZM,X.wk,CV.wk,CV.wk0,X.wk0]
end
section
variable {p:Prg} [Has p] [HasRx p] [HasK p] {h:Mem}
attribute [local simp] qY
mutual
theorem VW:∀ q:Ex,q.parts.length<=q.sz
 | .mk k f ms ra of nu de na wi mt st pa te ar=>by
  have:=Jh ar
  simp only[Ex.parts,Ex.sz]
  split
  ·simp;omega
  ·omega
theorem Jh:∀ l:List Ex,(ZV l).length<=Ex.szs l
 | []=>by simp[ZV]
 | a::r=>by
  have:=VW a
  have:=Jh r
  simp only[ZV,Ex.szs,List.length_append];omega
end
def OG:Ex:=.mk 0 0 [] 0 0 0 0 [] false 0 [] (.mk 0 [] []) [] []
def Ex.plE(q:Ex):Int:=if q.typ.2=0 then(if q.typ.1=1\/q.typ.1=2 then 0 else 15) else q.typ.2
def Ex.plV(q:Ex):CV:=if q.plE=0 then X5 q.parts (q.rest 0) else X5 [] OG
theorem yl{q:Ex}(h:q.typ.2=0):q.chk=0:=by
 unfold Ex.typ at h;split at h
 ·rename_i hx;exact absurd h hx
 ·rename_i hx;simpa using hx
theorem Fz{q:Ex}(hc:q.chk=0):q.sz<=100/\q.dep<=12/\q.ck=0:=by
 unfold Ex.chk at hc;split at hc
 ·cases hc
 ·split at hc
  ·cases hc
  ·exact⟨by omega,by omega,hc⟩
theorem c6(q:Ex)(hq:q.ok):Zi (Zo p) h 6 [.c q.cv]=some (.c (.tup [q.plV,.int .i64 q.plE]),h):=by
 have h16:=λ h=>c16 (p:=p) (h:=h) q hq
 have h17:q.typ.2=0->∀ h,Zi (Zo p) h 17 [.c q.cv]=some (.c (X5 q.parts (q.rest 0)),h):=λ ht h=>by
  obtain⟨h1,h2,h3⟩:=Fz (yl ht);exact c17 (p:=p) q h3 (by have:=VW q;omega)
 obtain⟨k,f,ms,ra,of,nu,de,na,wi,mt,st,pk,pc,pa,te,ar,hsh⟩:=q.shape;obtain⟨k2,f2,ms2,ra2,of2,nu2,de2,na2,wi2,mt2,st2,pk2,pc2,pa2,te2,ar2,hr⟩:=(q.rest 0).shape;obtain⟨z,hz⟩:∃ z,z=q.plV:=⟨_,rfl⟩;have hzE:X5 [] OG=.agg [.sl false [],.int .i64 0,.int .i64 0,.sl false [],.int .i64 0,.int .i64 0,.int .i64 0,.int .i64 0,.sl false [],.bool false,.int .i64 0,.sl false [],.int .i64 0,.sl false [],.sl false [],.str [],.sl false []]:=by rw[OG,Wb];rfl
 have hq1:=congrArg Ex.cv hsh
 rw[Ex.cv_mk]at hq1;have hP:X5 q.parts (q.rest 0)=X5 q.parts (Ex.mk k2 f2 ms2 ra2 of2 nu2 de2 na2 wi2 mt2 st2 (.mk pk2 pc2 pa2) te2 ar2):=by rw[hr]
 rw[Wb]at hP;rw[hP,hq1]at h17;obtain⟨t1,t2,hty⟩:∃ t1 t2,q.typ=(t1,t2):=⟨_,_,rfl⟩;rw[hty]at h16 h17;rw[hq1]at h16;simp only at h16 h17;refine ZB Has.h6 ?_;have hE:q.plE=if t2=0 then(if t1=1\/t1=2 then 0 else 15) else t2:=by simp only[Ex.plE,hty]
 simp only[Ex.plV,hE];rw[hP,hzE,hq1];by_cases ht:t2=0
 ·subst ht;have h17:=h17 rfl
  by_cases h1:t1=1\/t1=2
  ·simp only[if_pos h1,if_true];rcases h1 with rfl | rfl
   ·refine⟨1,Zk rfl ?_⟩;show W _ _ b6 _ _ _ _;simp[b6,h16,h17,ZH];refine⟨.inr rfl,?_⟩;simp[ZD,f6,Pi.results,ZN,Nat.ble,Z7,Yr,closedL,oneOf,Yl,ZL,X.ids.idsL,X.ids,ZM,X.wk,CV.wk,CV.wk0]
   ·refine⟨1,Zk rfl ?_⟩;show W _ _ b6 _ _ _ _;simp[b6,h16,h17,ZH];refine⟨.inr rfl,?_⟩;simp[ZD,f6,Pi.results,ZN,Nat.ble,Z7,Yr,closedL,oneOf,Yl,ZL,X.ids.idsL,X.ids,ZM,X.wk,CV.wk,CV.wk0]
  ·have a1:(t1 != 1)=true:=by simpa using λ e=>h1 (.inl e)
   have a2:(t1 != 2)=true:=by simpa using λ e=>h1 (.inr e)
   simp only[if_neg h1,if_true,show ¬ (15:Int)=0 by decide,if_false]
   refine⟨1,Zk rfl ?_⟩;show W _ _ b6 _ _ _ _;simp[b6,h16,ZH,a1,a2];refine⟨.inr rfl,?_⟩;simp[ZD,f6,Pi.results,ZN,Nat.ble,Z7,Yr,closedL,oneOf,Yl,ZL,X.ids.idsL,X.ids,ZM,X.wk,CV.wk,CV.wk0]
 ·have a1:(t2 != 0)=true:=by simpa using ht
  simp only[if_neg ht];refine⟨1,Zk rfl ?_⟩;show W _ _ b6 _ _ _ _;simp[b6,h16,ZH,a1];refine⟨.inr rfl,?_⟩;simp[ZD,f6,Pi.results,ZN,Nat.ble,Z7,Yr,closedL,oneOf,Yl,ZL,X.ids.idsL,X.ids,ZM,X.wk,CV.wk,CV.wk0]
end
section
variable {p:Prg} [Has p] [HasRx p] {h:Mem}
attribute [local simp] qY
theorem qI{h:Mem}{t s bytes:Nat}{y:CV}{ys:List CV}(hl:ys.length+1<=4294967296)(hb:bytes<=4096):ZP h t s bytes (.c (.sl true [])) (y::ys)=some (.own (y::ys) h.length 0,h++[.tip 0 s t]):=by
 have h1:Nat.ble (([]:List CV).length+(y::ys).length) Qq=true:=ZE (by simpa [Qq] using hl)
 have h2:Nat.ble bytes 4096=true:=ZE hb
 simp only[ZP,YC,h1,h2,Bool.and_self,cond_true,List.nil_append]
theorem wE(l:List Ex):YC 16 (l.map Ex.cv)=true:=by
 cases l with
 | nil=>rfl
 | cons a r=>obtain⟨k,f,ms,ra,of,nu,de,na,wi,mt,st,pk,pc,pa,te,ar,rfl⟩:=a.shape;rw[List.map_cons,Ex.cv_mk];rfl
theorem D7{h:Mem}{fl:Bool}{a1 a2 a3 a4 a5 a6 a7 a8 a9 a10 a11 a12 a13 a14 a15 a16:CV}:ZO h true 16 (.c (.sl fl [.agg [a1,a2,a3,a4,a5,a6,a7,a8,a9,a10,a11,a12,a13,a14,a15,a16]]))=some [.agg [a1,a2,a3,a4,a5,a6,a7,a8,a9,a10,a11,a12,a13,a14,a15,a16]]:=rfl
abbrev D19(p:Prg)(q:Ex):Prop:=∀ (fl:Bool) (L:List Ex),L.length+q.parts.length<=200->∀ h,Zi (Zo p) h 19 [.c q.cv,.c (.sl fl (L.map Ex.cv))]=some (.c (.tup [(q.rest L.length).cv,.sl false ((L++q.parts).map Ex.cv)]),h)
theorem Zgd(k f ms ra of nu de na wi mt st pk pc pa te ar)(hk:k=6->ar.length=1)(hp:zk (Ex.mk k f ms ra of nu de na wi mt st (.mk pk pc pa) te ar)=true):D19 p (Ex.mk k f ms ra of nu de na wi mt st (.mk pk pc pa) te ar):=by
 intro fl L hl h;have h40:=λ h=>c40 (p:=p) (h:=h) k f ms ra of nu de na wi mt st pk pc pa te ar hk
 have h41:=λ h=>c41 (p:=p) (h:=h) k f ms ra of nu de na wi mt st pk pc pa te ar
 have hparts:Ex.parts (Ex.mk k f ms ra of nu de na wi mt st (.mk pk pc pa) te ar)=[(Ex.mk k f ms ra of nu de na wi mt st (.mk pk pc pa) te ar)]:=by simp only[Ex.parts,hp,if_true]
 have hrest:Ex.rest (Ex.mk k f ms ra of nu de na wi mt st (.mk pk pc pa) te ar) L.length=Vd (XE L.length):=by simp only[Ex.rest,hp,if_true]
 rw[hparts]at hl ⊢;rw[hrest,List.map_append,List.map_cons,List.map_nil];have hvc:∀ n,(Vd (XE n)).cv=.agg [.int .i64 13,.int .i64 0,.sl false [],.int .i64 0,.int .i64 0,.int .i64 0,.int .i64 0,.sl false [],.bool false,.int .i64 0,.sl false [],.int .i64 0,.sl false [],.sl false [],.str (XE n),.sl false []]:=λ n=>by rw[Vd,Ex.cv_mk];rfl
 rw[hvc,Ex.cv_mk];rw[Ex.cv_mk]at h40 h41;have hho:=wE L
 have h42:=λ h=>OP (p:=p) (h:=h) L.length (by simp at hl;omega)
 have h42':(Zo p).call 42 [.c (.int .i64 L.length)] []=some (.c (.str (XE L.length)),[]):=YZ h42
 obtain⟨PS,hPS⟩:∃ PS,PS=L.map Ex.cv:=⟨_,rfl⟩;have hPl:PS.length=L.length:=by rw[hPS,List.length_map]
 rw[<- hPS]at hho ⊢;rw[<- hPl]at h42 h42' hl ⊢;simp at hl;obtain⟨OE,hOE⟩:∃ O,O=oE k f ms ra of nu de na wi mt st pk pc pa te (ar.map Ex.cv):=⟨_,rfl⟩;have hel:∀ h:Mem,ZO h true 16 (.c (.sl fl PS))=some PS:=λ h=>by simp only[ZO,hho,cond_true]
 refine Ym Has.h19 ?_;refine⟨1,Zk rfl ?_⟩;show W _ _ OR _ _ _ _;cases h6:(k==6&&hd2 ar) with
 | true=>
  rw[h6]at h40;simp[OR,h40];refine Gt λ C hC=>?_
  by_cases hps:PS=[]
  ·subst hps;simp at hel h42 h42';have a1:∀ h:Mem,ZP h 46 16 232 (.c (.sl true [])) []=some (.c (.sl true []),h):=λ h=>rfl
   have a2:∀ (h:Mem) (y:CV),ZP h 46 16 232 (.c (.sl true [])) [y]=some (.own [y] h.length 0,h++[qZ 0]):=λ h y=>qI (by simp) (by omega)
   simp[h42,h42',ZH,Xo,D7,hel,a1,a2];refine⟨hC _ _ _ rfl rfl (λ q hq=>?_) (λ H hH q hq=>?_),rfl,by simp[Mem.same,Ze,Zj],.inr rfl,?_⟩
   ·rcases ZF.1 hq with rfl;exact⟨_,rfl⟩
   ·cases hH;rcases ZF.1 hq with rfl;exact⟨_,rfl⟩
   simp[ZD,Fc,Pi.results,ZN,Nat.ble,Z7,Yr,closedL,oneOf,Yl,ZL,X.ids.idsL,X.ids,ZM,X.wk,CV.wk,CV.wk0,X.wk0]
  ·have a1:∀ h:Mem,ZP h 46 16 232 (.c (.sl true [])) PS=some (.own PS h.length 0,h++[qZ 0]):=λ h=>by
    obtain⟨y,ys,rfl⟩:=List.exists_cons_of_ne_nil hps;exact qI (by simp at hl;omega) (by omega)
   have a2:∀ (o1 o2:Ob) (z:CV),ZP [o1,o2,qZ 0] 46 16 232 (.own PS 2 0) [z]=some (.own (PS++[z]) 2 1,[o1,o2,qZ 1]):=λ o1 o2 z=>y9 rfl (by omega) (by omega)
   simp[h42,h42',ZH,Xo,D7,hel,a1,a2];refine⟨hC _ _ _ rfl rfl (λ q hq=>?_) (λ H hH q hq=>?_),rfl,by simp[Mem.same,Ze,Zj],.inr rfl,?_⟩
   ·rcases ZF.1 hq with rfl;exact⟨_,rfl⟩
   ·cases hH;rcases ZF.1 hq with rfl;exact⟨_,rfl⟩
   simp[ZD,Fc,Pi.results,ZN,Nat.ble,Z7,Yr,closedL,oneOf,Yl,ZL,X.ids.idsL,X.ids,ZM,X.wk,CV.wk,CV.wk0,X.wk0]
 | false=>
  have hlf:QV k=true:=by
   simp only[zk,h6,Bool.or_false]at hp;exact hp
  rw[h6]at h40;rw[hlf]at h41;simp[OR,h40,h41];refine Gt λ C hC=>?_
  by_cases hps:PS=[]
  ·subst hps;simp at hel h42 h42';have a1:∀ h:Mem,ZP h 46 16 232 (.c (.sl true [])) []=some (.c (.sl true []),h):=λ h=>rfl
   have a2:∀ (h:Mem) (y:CV),ZP h 46 16 232 (.c (.sl true [])) [y]=some (.own [y] h.length 0,h++[qZ 0]):=λ h y=>qI (by simp) (by omega)
   simp[h42,h42',ZH,Xo,D7,hel,a1,a2];refine⟨hC _ _ _ rfl rfl (λ q hq=>?_) (λ H hH q hq=>?_),rfl,by simp[Mem.same,Ze,Zj],.inr rfl,?_⟩
   ·rcases ZF.1 hq with rfl;exact⟨_,rfl⟩
   ·cases hH;rcases ZF.1 hq with rfl;exact⟨_,rfl⟩
   simp[ZD,Fc,Pi.results,ZN,Nat.ble,Z7,Yr,closedL,oneOf,Yl,ZL,X.ids.idsL,X.ids,ZM,X.wk,CV.wk,CV.wk0,X.wk0]
  ·have a1:∀ h:Mem,ZP h 46 16 232 (.c (.sl true [])) PS=some (.own PS h.length 0,h++[qZ 0]):=λ h=>by
    obtain⟨y,ys,rfl⟩:=List.exists_cons_of_ne_nil hps;exact qI (by simp at hl;omega) (by omega)
   have a2:∀ (o1 o2:Ob) (z:CV),ZP [o1,o2,qZ 0] 46 16 232 (.own PS 2 0) [z]=some (.own (PS++[z]) 2 1,[o1,o2,qZ 1]):=λ o1 o2 z=>y9 rfl (by omega) (by omega)
   simp[h42,h42',ZH,Xo,D7,hel,a1,a2];refine⟨hC _ _ _ rfl rfl (λ q hq=>?_) (λ H hH q hq=>?_),rfl,by simp[Mem.same,Ze,Zj],.inr rfl,?_⟩
   ·rcases ZF.1 hq with rfl;exact⟨_,rfl⟩
   ·cases hH;rcases ZF.1 hq with rfl;exact⟨_,rfl⟩
   simp[ZD,Fc,Pi.results,ZN,Nat.ble,Z7,Yr,closedL,oneOf,Yl,ZL,X.ids.idsL,X.ids,ZM,X.wk,CV.wk,CV.wk0,X.wk0]
end
section
variable {p:Prg} [Has p] [HasRx p] {h:Mem}
attribute [local simp] qY
theorem zX{h l:Mem}{o:Ob}{j:Nat}(hp:h[j]?=some o):(h++l)[j]?=some o:=by
 rw[Zr (Za.1 hp).1];exact hp
def AS(hb:Mem)(h:Mem)(B:X)(es:List CV):Prop:=(B=.c (.sl true [])/\es=[]/\h=hb)\/∃ k v,2<=k/\B=.own es k v/\h[k]?=some (.tip v 16 33)
theorem Zge(k f ms ra of nu de na wi mt st pk pc pa te ar)(hk:k=6->ar.length=1)(hp:zk (Ex.mk k f ms ra of nu de na wi mt st (.mk pk pc pa) te ar)=false)(har:ar.length<=2)(ih:∀ a∈ar,D19 p a):D19 p (Ex.mk k f ms ra of nu de na wi mt st (.mk pk pc pa) te ar):=by
 intro fl L hl h;have h40:=λ h=>c40 (p:=p) (h:=h) k f ms ra of nu de na wi mt st pk pc pa te ar hk
 have h41:=λ h=>c41 (p:=p) (h:=h) k f ms ra of nu de na wi mt st pk pc pa te ar
 have hparts:Ex.parts (Ex.mk k f ms ra of nu de na wi mt st (.mk pk pc pa) te ar)=ZV ar:=by simp only[Ex.parts,hp,Bool.false_eq_true,if_false]
 have hrest:Ex.rest (Ex.mk k f ms ra of nu de na wi mt st (.mk pk pc pa) te ar) L.length=Ex.mk k f ms ra of nu de na wi mt st (.mk pk pc pa) te (Z3 ar L.length):=by simp only[Ex.rest,hp,Bool.false_eq_true,if_false]
 rw[hparts]at hl ⊢;rw[hrest];have hp':QV k=false/\(k==6&&hd2 ar)=false:=by simpa only[zk,ZZ] using hp
 rw[hp'.2]at h40;rw[hp'.1]at h41;rw[Ex.cv_mk]at h40 h41;rw[Ex.cv_mk,Ex.cv_mk];obtain⟨al,hal⟩:∃ al,al=ar.map Ex.cv:=⟨_,rfl⟩;have hall:al.length=ar.length:=by rw[hal];simp
 rw[<- hal]at h40 h41 ⊢;refine Ym Has.h19 ?_;refine⟨4,Zk rfl ?_⟩;show W _ _ OR _ _ _ _;simp[OR,h40,h41];obtain⟨hb,hhb⟩:∃ hb,hb=[oE k f ms ra of nu de na wi mt st pk pc pa te al,oZ]:=⟨_,rfl⟩;obtain⟨J,hJ⟩:∃ J:Nat->Zf->Mem->Prop,J=λ i sl h=>h[0]?=some (oE k f ms ra of nu de na wi mt st pk pc pa te al)/\h[1]?=some oZ/\(∃ fl,Zm sl 1=.c (.sl fl ((L++ZV (ar.take i)).map Ex.cv)))/\Zm sl 2=.ptr 0 0/\Zm sl 4=.ptr 1 0/\(∃ B,Zm sl 6=B/\AS hb h B ((Z3 (ar.take i) L.length).map Ex.cv))/\Zm sl 7=.c (.int .i64 i):=⟨_,rfl⟩
 refine ZU J ar.length (by omega) ?_ ?_
 ·rw[hJ];exact⟨rfl,rfl,⟨fl,by simp[ZV]⟩,by simp,by simp,⟨_,rfl,.inl ⟨by simp,by simp[Z3],by rw[hhb]⟩⟩,by simp⟩
 intro i sl h hi hJi;rw[hJ]at hJi;obtain⟨m0,m1,⟨fl1,g1⟩,g2,g4,⟨B,g6,hA⟩,g7⟩:=hJi;have hcl:clean (some [1,2,4,6,7]) 2 ⟨sl,h⟩=⟨ZK [1,2,4,6,7] sl,h⟩:=by
  rcases hA with ⟨h1,h2,h3⟩|⟨k1,v1,hk1,h1,h2⟩
  ·exact Yf (by rw[h3,hhb];simp)
  ·exact Kz (by simp) (g6.trans h1) hk1
 have m0':∀ o,(h++[o])[0]?=some (oE k f ms ra of nu de na wi mt st pk pc pa te al):=λ o=>Y7 m0
 have m0g:∀ o (hl:0 < (h++[o]).length),(h++[o])[0]=oE k f ms ra of nu de na wi mt st pk pc pa te al:=λ o hl=>by have:=m0' o;rw[Zb hl]at this;injection this
 rcases Zl i al.length with hlt | hge
 ·have hw:IntKind.i64.wrap ((i:Int)+1)=(i:Int)+1:=ZA (by omega) (by omega)
  have hia:i < ar.length:=by omega
  have hxa:al[i]=ar[i].cv:=by simp[hal]
  have hpt:=VC ar i hia
  have hrt:=V9 ar L.length i hia
  have hple:=VX ar (i+1)
  rw[hpt,List.length_append]at hple;obtain⟨R,hR⟩:∃ R,R=ar[i].rest (L.length+(ZV (ar.take i)).length):=⟨_,rfl⟩;have h19:=ih ar[i] (Zh hia) false (L++ZV (ar.take i)) (by simp;omega)
  rw[List.length_append,<- hR,List.append_assoc,<- hpt]at h19;obtain⟨PS,hPS⟩:∃ PS,PS=(L++ZV (ar.take i)).map Ex.cv:=⟨_,rfl⟩;obtain⟨PS2,hPS2⟩:∃ PS2,PS2=(L++ZV (ar.take (i+1))).map Ex.cv:=⟨_,rfl⟩;rw[<- hPS,<- hPS2]at h19;rw[<- hPS]at g1;obtain⟨k2,f2,ms2,ra2,of2,nu2,de2,na2,wi2,mt2,st2,pk2,pc2,pa2,te2,ar2,hsh⟩:=Ex.shape ar[i];obtain⟨k3,f3,ms3,ra3,of3,nu3,de3,na3,wi3,D3,st3,pk3,pc3,pa3,te3,ar3,hsh3⟩:=Ex.shape R;rw[hsh3,Ex.cv_mk,hsh,Ex.cv_mk]at h19;rw[hsh,Ex.cv_mk]at hxa;have hfin:∀ (sl:Zf) (h2:Mem) (k1 v1:Nat) (es1:List CV),2<=k1->h2[0]?=some (oE k f ms ra of nu de na wi mt st pk pc pa te al)->h2[1]?=some oZ->h2[k1]?=some (.tip v1 16 33)->es1=(Z3 (ar.take i) L.length).map Ex.cv++[Ex.cv (.mk k3 f3 ms3 ra3 of3 nu3 de3 na3 wi3 D3 st3 (.mk pk3 pc3 pa3) te3 ar3)]->Zm sl 1=.c (.sl false PS2)->Zm sl 2=.ptr 0 0->Zm sl 4=.ptr 1 0->Zm sl 6=.own es1 k1 v1->Zm sl 7=.c (.int .i64 ((i:Int)+1))->J (i+1) sl h2:=by
   intro sl h2 k1 v1 es1 a1 a2 a3 a4 a5 b1 b2 b4 b6 b7;rw[hJ];refine⟨a2,a3,⟨false,by rw[b1,hPS2]⟩,b2,b4,⟨_,b6,.inr ⟨k1,v1,a1,?_,a4⟩⟩,by rw[b7];simp⟩
   rw[hrt,List.map_append,<- hR,hsh3,a5];rfl
  rcases hA with ⟨hA1,hA2,hA3⟩|⟨k1,v1,hk1,hA1,hA2⟩
  ·have hap:∀ (h:Mem) y,ZP h 33 16 232 (.c (.sl true [])) [y]=some (.own [y] h.length 0,h++[.tip 0 16 33]):=λ h y=>qI (by simp) (by omega)
   rw[hA1]at g6;simp[hcl,g1,g2,g4,g6,g7,m0,m0',m0g,hlt,hw,Zn,hxa,h19,Xo,D7,ZH,hap,Vq];have hhl:h.length=2:=by rw[hA3,hhb];rfl
   exact⟨hia,hfin _ _ (h.length+1) 0 _ (by omega) (zX m0) (zX m1) (by simp) (by rw[hA2,Ex.cv_mk];rfl) rfl rfl rfl rfl rfl⟩
  ·obtain⟨es,hes⟩:∃ es,es=(Z3 (ar.take i) L.length).map Ex.cv:=⟨_,rfl⟩;have hesl:es.length=i:=by rw[hes,List.length_map,UM,List.length_take];omega
   rw[<- hes]at hA1 hfin;have hap:∀ (o:Ob) y,ZP (h++[o]) 33 16 232 (.own es k1 v1) [y]=some (.own (es++[y]) k1 (v1+1),(h++[o]).set k1 (.tip (v1+1) 16 33)):=λ o y=>y9 (Y7 hA2) (by omega) (by omega)
   have hkl:=(Za.1 hA2).1
   rw[hA1]at g6;simp[hcl,g1,g2,g4,g6,g7,m0,m0',m0g,hlt,hw,Zn,hxa,h19,Xo,D7,ZH,hap,Vq];exact⟨hia,hfin _ _ k1 (v1+1) _ hk1 (by rw[Zx (by omega)];exact m0' _) (by rw[Zx (by omega)];exact Y7 m1) (ZG (by simp;omega)) (by rw[Ex.cv_mk]) rfl rfl rfl rfl rfl⟩
 ·obtain rfl:i=ar.length:=by omega
  rw[List.take_length]at g1 hA;have hh1:1 < h.length:=(Za.1 m1).1
  have z0:∀ o,(h.set 0 o)[0]?=some o:=λ o=>ZG (by omega)
  have z1:∀ o,(h.set 0 o)[1]?=some oZ:=λ o=>by rw[Zx (by omega)];exact m1
  have z2:∀ o o',((h.set 0 o).set 1 o')[1]?=some o':=λ o o'=>ZG (by simpa using hh1)
  have hll:¬ (al.length < al.length):=by omega
  rw[<- hall]at g7;obtain⟨PS,hPS⟩:∃ PS,PS=L.map Ex.cv++(ZV ar).map Ex.cv:=⟨_,rfl⟩;obtain⟨es,hes⟩:∃ es,es=(Z3 ar L.length).map Ex.cv:=⟨_,rfl⟩;rw[List.map_append,<- hPS]at g1;rw[<- hPS];rw[<- hes]at hA ⊢;rcases hA with ⟨hA1,hA2,hA3⟩|⟨k1,v1,hk1,hA1,hA2⟩
  ·rw[hA1]at g6;simp[hcl,g1,g2,g4,g6,g7,m0,hll,z0,z1];refine⟨.inr rfl,?_⟩;simp[ZD,Fc,Pi.results,ZN,z2,Nat.ble,Z7,Yr,closedL,oneOf,Yl,ZL,X.ids.idsL,X.ids,ZM,X.wk,CV.wk,CV.wk0,X.wk0,hA2]
  ·rw[hA1]at g6;simp[hcl,g1,g2,g4,g6,g7,m0,hll,z0,z1];refine⟨.inr rfl,?_⟩;simp[ZD,Fc,Pi.results,ZN,z2,Nat.ble,Z7,Yr,closedL,oneOf,Yl,ZL,X.ids.idsL,X.ids,ZM,X.wk,CV.wk,CV.wk0,X.wk0]
end
end Go.Proofs.YtmckcikeefggdaaGreatDoor
