/- Part 5 of the proof. -/
import Derived.Test.YtmckcikeefggdaaGreatDoorPD
set_option linter.unusedVariables false
set_option linter.unusedSimpArgs false
set_option linter.unusedSectionVars false
set_option maxRecDepth 100000
set_option maxHeartbeats 16000000
namespace Go.Proofs.YtmckcikeefggdaaGreatDoor
open Go.Pi Go.Pi.S
section
variable {p:Prg} [Has p] [HasRx p] {h:Mem}
theorem ZaJ(k f ms ra of nu de na wi mt st pk pc pa te ar)(k0:1<=k)(k1:k<=8)(hok:(Ex.mk k f ms ra of nu de na wi mt st (.mk pk pc pa) te ar).ok):Zi (Zo p) h 84 [.c (Ex.mk k f ms ra of nu de na wi mt st (.mk pk pc pa) te ar).cv,.c KT]=some (.c (.int .i64 (QO (Ex.mk k f ms ra of nu de na wi mt st (.mk pk pc pa) te ar))),h):=by
 refine Ym Has.h84 ?_;obtain⟨o1,o2,o3,o4,o5,o6,o7,o8,o9,o10⟩:=hok;have h55:=λ h=>c55 (p:=p) (h:=h) k f ms ra of nu de na wi mt st pk pc pa te ar (by omega) (by omega)
 have h132:=λ h=>Zbo (p:=p) (h:=h) k f ms ra of nu de na wi mt st pk pc pa te ar
 obtain⟨L,hL⟩:∃ L,L=GT f ms ra of nu de na wi mt st (Vi pk pc pa) te:=⟨_,rfl⟩;rw[<- hL]at h132;have hLl:L.length=10:=by rw[hL];rfl
 have h133:=λ h=>HD (p:=p) (h:=h) L (yI k f) hLl rfl
 obtain⟨R,hR⟩:∃ R,R=List.zipWith (λ a b=>a&&!b) L (yI k f):=⟨_,rfl⟩
 rw[<- hR]at h133;have hz:=uU R (by rw[hR];simp[hLl,yI])
 have hfg:uQ k f ms ra of nu de na wi mt st (Vi pk pc pa) te ar.length=(R.any id||!((ar.length:Int)==nA k)):=by rw[uQ,<- hL,<- hR]
 generalize R.any id=F at hz hfg;clear hR hL hLl;have h134:=λ f h=>Mu (p:=p) (h:=h) f ms o1 o2
 have h135:=λ h=>Zbn (p:=p) (h:=h) k f ms ra of nu de na wi mt st pk pc pa te ar
 have h136:=λ f h=>Ms (p:=p) (h:=h) (λ s=>if (k:Int)=4 then Yj s else nm s) f (decide ((k:Int)=4)) na (λ s=>by by_cases hk4:k=4<;>first|(simp[hk4];done)|(simp[hk4];have:=@Gk s;cases h1:Yj s<;>simp_all)) (by simp only[ZX]at o3;omega) (λ s hs=>by have:=o4 s hs;simp only[ZX]at this;omega)
 have hG:Vk (λ s=>if (k:Int)=4 then Yj s else nm s) na=De k na:=by simp only[De];by_cases hk4:k=4<;>simp[hk4]
 rw[hG]at h136;have h137:=λ f h=>Zbm (p:=p) (h:=h) f st o5 o6
 have h138:=λ h=>Zbl (p:=p) (h:=h) _ o7
 have h139:=λ h=>Zbk (p:=p) (h:=h) k f ms ra of nu de na wi mt st pk pc pa te ar (by simp only[ZX]at o8;exact o8)
 clear o1 o2 o3 o4 o5 o6 o7 o8 o9 o10 hG;have k132:=YZ h132
 have k133:=VR h133
 have hkk:k=1\/k=2\/k=3\/k=4\/k=5\/k=6\/k=7\/k=8:=by omega
 clear k0 k1;rcases hkk with rfl | rfl | rfl | rfl | rfl | rfl | rfl | rfl
 all_goals
  simp only[Ex.cv_mk]at h132 k132 h135 h139;simp at h136;simp[Ex.cv_mk,OL,Cp,Cn,Ck,Cj,Ci,Ch,Cg,Cf,Ce,qk,qj,qi,qh,yI,nf,JW,JE,QW,QX,Q7,QJ,QI,JV,Kh]at h55;simp[yI,nf,JW,JE,QW,QX,Q7,QJ,QI,JV,Kh]at h133 k133;simp only[Pt.cv_mk]at h138;refine⟨1,Zk rfl ?_⟩;show W _ _ MF _ _ _ _;simp[MF,Ex.cv_mk,KT,Cp,Cn,Ck,Cj,Ci,Ch,Cg,Cf,Ce,qk,qj,qi,qh,findKey,We,YG,Ye,h55,h132,h133,k132,k133,hz,h134,h135,h136,h137,h138,h139,ZH];repeat' first
   | (refine ZQ (.inr rfl) rfl rfl ?_;(simp only[QO];rw[hfg];simp[nA,yI,nf,JW,JE,QW,QX,Q7,QJ,QI,JV,Kh];clear h55 h132 h133 k132 k133 hz h134 h135 h136 h137 h138 h139;((try simp[nA, *])<;>first|done | omega | (simp_all;done)|(simp_all;omega))))
   | ((first|refine Z8 true ?_ ?_ | refine Z9 true ?_ ?_ | refine ZT true ?_ ?_)<;>intro ht<;>simp[ht,h55,h132,h133,k132,k133,hz,h134,h135,h136,h137,h138,h139,ZH])
   | (refine Zw rfl (by simp[Mem.same,Ze,Zj]) ?_;simp[h55,h132,h133,k132,k133,hz,h134,h135,h136,h137,h138,h139,ZH])
   | exact Zu rfl rfl rfl
   | (refine⟨Zu rfl rfl rfl,?_⟩;first|rfl | (simp[*];done))
theorem ZaI(k f ms ra of nu de na wi mt st pk pc pa te ar)(k0:9<=k)(k1:k<=13)(hok:(Ex.mk k f ms ra of nu de na wi mt st (.mk pk pc pa) te ar).ok):Zi (Zo p) h 84 [.c (Ex.mk k f ms ra of nu de na wi mt st (.mk pk pc pa) te ar).cv,.c KT]=some (.c (.int .i64 (QO (Ex.mk k f ms ra of nu de na wi mt st (.mk pk pc pa) te ar))),h):=by
 refine Ym Has.h84 ?_;obtain⟨o1,o2,o3,o4,o5,o6,o7,o8,o9,o10⟩:=hok;have h55:=λ h=>c55 (p:=p) (h:=h) k f ms ra of nu de na wi mt st pk pc pa te ar (by omega) (by omega)
 have h132:=λ h=>Zbo (p:=p) (h:=h) k f ms ra of nu de na wi mt st pk pc pa te ar
 obtain⟨L,hL⟩:∃ L,L=GT f ms ra of nu de na wi mt st (Vi pk pc pa) te:=⟨_,rfl⟩;rw[<- hL]at h132;have hLl:L.length=10:=by rw[hL];rfl
 have h133:=λ h=>HD (p:=p) (h:=h) L (yI k f) hLl rfl
 obtain⟨R,hR⟩:∃ R,R=List.zipWith (λ a b=>a&&!b) L (yI k f):=⟨_,rfl⟩
 rw[<- hR]at h133;have hz:=uU R (by rw[hR];simp[hLl,yI])
 have hfg:uQ k f ms ra of nu de na wi mt st (Vi pk pc pa) te ar.length=(R.any id||!((ar.length:Int)==nA k)):=by rw[uQ,<- hL,<- hR]
 generalize R.any id=F at hz hfg;clear hR hL hLl;have h134:=λ f h=>Mu (p:=p) (h:=h) f ms o1 o2
 have h135:=λ h=>Zbn (p:=p) (h:=h) k f ms ra of nu de na wi mt st pk pc pa te ar
 have h136:=λ f h=>Ms (p:=p) (h:=h) (λ s=>if (k:Int)=4 then Yj s else nm s) f (decide ((k:Int)=4)) na (λ s=>by by_cases hk4:k=4<;>first|(simp[hk4];done)|(simp[hk4];have:=@Gk s;cases h1:Yj s<;>simp_all)) (by simp only[ZX]at o3;omega) (λ s hs=>by have:=o4 s hs;simp only[ZX]at this;omega)
 have hG:Vk (λ s=>if (k:Int)=4 then Yj s else nm s) na=De k na:=by simp only[De];by_cases hk4:k=4<;>simp[hk4]
 rw[hG]at h136;have h137:=λ f h=>Zbm (p:=p) (h:=h) f st o5 o6
 have h138:=λ h=>Zbl (p:=p) (h:=h) _ o7
 have h139:=λ h=>Zbk (p:=p) (h:=h) k f ms ra of nu de na wi mt st pk pc pa te ar (by simp only[ZX]at o8;exact o8)
 clear o1 o2 o3 o4 o5 o6 o7 o8 o9 o10 hG;have k132:=YZ h132
 have k133:=VR h133
 have hkk:k=9\/k=10\/k=11\/k=12\/k=13:=by omega
 clear k0 k1;rcases hkk with rfl | rfl | rfl | rfl | rfl
 all_goals
  simp only[Ex.cv_mk]at h132 k132 h135 h139;simp at h136;simp[Ex.cv_mk,OL,Cp,Cn,Ck,Cj,Ci,Ch,Cg,Cf,Ce,qk,qj,qi,qh,yI,nf,JW,JE,QW,QX,Q7,QJ,QI,JV,Kh]at h55;simp[yI,nf,JW,JE,QW,QX,Q7,QJ,QI,JV,Kh]at h133 k133;simp only[Pt.cv_mk]at h138;refine⟨1,Zk rfl ?_⟩;show W _ _ MF _ _ _ _;simp[MF,Ex.cv_mk,KT,Cp,Cn,Ck,Cj,Ci,Ch,Cg,Cf,Ce,qk,qj,qi,qh,findKey,We,YG,Ye,h55,h132,h133,k132,k133,hz,h134,h135,h136,h137,h138,h139,ZH];repeat' first
   | (refine ZQ (.inr rfl) rfl rfl ?_;(simp only[QO];rw[hfg];simp[nA,yI,nf,JW,JE,QW,QX,Q7,QJ,QI,JV,Kh];clear h55 h132 h133 k132 k133 hz h134 h135 h136 h137 h138 h139;((try simp[nA, *])<;>first|done | omega | (simp_all;done)|(simp_all;omega))))
   | ((first|refine Z8 false ?_ ?_ | refine Z9 false ?_ ?_ | refine ZT false ?_ ?_)<;>intro ht<;>simp[ht,h55,h132,h133,k132,k133,hz,h134,h135,h136,h137,h138,h139,ZH])
   | (refine Zw rfl (by simp[Mem.same,Ze,Zj]) ?_;simp[h55,h132,h133,k132,k133,hz,h134,h135,h136,h137,h138,h139,ZH])
   | exact Zu rfl rfl rfl
   | (refine⟨Zu rfl rfl rfl,?_⟩;first|rfl | (simp[*];done))
end
section
variable {p:Prg} [Has p] [HasRx p] {h:Mem}
theorem c84(q:Ex)(hok:q.ok):Zi (Zo p) h 84 [.c q.cv,.c KT]=some (.c (.int .i64 (QO q)),h):=by
 obtain⟨k,f,ms,ra,of,nu,de,na,wi,mt,st,⟨pk,pc,pa⟩,te,ar⟩:=q;by_cases hk:k < 1\/13 < k
 ·rw[FB k f ms ra of nu de na wi mt st pk pc pa te ar hk];simp only[QO];rw[if_pos hk]
 ·by_cases h8:k<=8
  ·exact ZaJ k f ms ra of nu de na wi mt st pk pc pa te ar (by omega) h8 hok
  ·exact ZaI k f ms ra of nu de na wi mt st pk pc pa te ar (by omega) (by omega) hok
end
section
variable {p:Prg} [Has p] [HasRx p] {h:Mem}
def JX(k:Int):List By:=if k=2 then[[],[108,97,115,116],[99,111,117,110,116],[115,117,109],[109,105,110],[109,97,120],[97,118,103],[100,101,108,116,97],[105,110,99,114,101,97,115,101],[114,97,116,101],[113,117,97,110,116,105,108,101],[104,105,115,116,113,117,97,110,116,105,108,101]] else if k=3 then[[],[108,105,110,101,115],[98,121,116,101,115],[117,110,119,114,97,112]] else if k=6 then[[],[115,117,109],[99,111,117,110,116],[109,105,110],[109,97,120],[97,118,103],[113,117,97,110,116,105,108,101],[116,111,112],[100,105,115,116,105,110,99,116],[115,107,101,116,99,104]] else if k=7 then[[],[43],[45],[42],[47],[61,61],[33,61],[60],[60,61],[62],[62,61]] else[]
theorem Mw(k:Int):Zi (Zo p) h 120 [.c (.int .i64 k)]=some (.c (.sl false ((JX k).map CV.str)),h):=by
 refine ZB Has.h120 ?_;by_cases h2:k=2
 ·subst h2;refine⟨1,Zk rfl ?_⟩;show W _ _ qH _ _ _ _;simp[qH,ZH];exact⟨.inr rfl,by simp[z9,ZD,Pi.results,ZL,ZM,oneOf,JX]⟩
 by_cases h3:k=3
 ·subst h3;refine⟨1,Zk rfl ?_⟩;show W _ _ qH _ _ _ _;simp[qH,ZH];exact⟨.inr rfl,by simp[z9,ZD,Pi.results,ZL,ZM,oneOf,JX]⟩
 by_cases h6:k=6
 ·subst h6;refine⟨1,Zk rfl ?_⟩;show W _ _ qH _ _ _ _;simp[qH,ZH];exact⟨.inr rfl,by simp[z9,ZD,Pi.results,ZL,ZM,oneOf,JX]⟩
 by_cases h7:k=7
 ·subst h7;refine⟨1,Zk rfl ?_⟩;show W _ _ qH _ _ _ _;simp[qH,ZH];exact⟨.inr rfl,by simp[z9,ZD,Pi.results,ZL,ZM,oneOf,JX]⟩
 ·have e2:(k==2)=false:=by simpa using h2
  have e3:(k==3)=false:=by simpa using h3
  have e6:(k==6)=false:=by simpa using h6
  have e7:(k==7)=false:=by simpa using h7
  refine⟨1,Zk rfl ?_⟩;show W _ _ qH _ _ _ _;simp[qH,e2,e3,e6,e7,ZH];exact⟨.inr rfl,by simp[z9,ZD,Pi.results,ZL,ZM,oneOf,JX,h2,h3,h6,h7]⟩
theorem yW(k f ms ra of nu de na wi mt st pk pc pa te ar)(hk:k=1\/k=2\/k=3\/k=4)(h2:k=2->f<=11):Zi (Zo p) h 118 [.c (Ex.mk k f ms ra of nu de na wi mt st (.mk pk pc pa) te ar).cv]=some (.c (.agg [.bool (QX k),.bool (QJ k),.bool (Q7 k),.bool (QI k),.bool (JE k f),.bool (JV k),.bool (Kh k),.bool (JW k),.bool (QW k f),.int .i64 (nA k)]),h):=by
 refine ZB Has.h118 ?_;rcases hk with rfl | rfl | rfl | rfl
 all_goals
  simp at h2;refine⟨1,Zk rfl ?_⟩;show W _ _ y8 _ _ _ _;simp[y8,Ex.cv_mk,ZH];repeat' first
   | ((first|refine Z8 false ?_ ?_ | refine Z9 false ?_ ?_ | refine ZT false ?_ ?_)<;>intro ht<;>simp[ht,ZH])
   | (refine Zw rfl (by simp[Mem.same,Ze,Zj]) ?_;simp[ZH])
   | exact Zu rfl rfl rfl
   | (refine⟨Zu rfl rfl rfl,?_⟩;first|rfl | (simp[*];done))
  all_goals
   refine⟨.inr rfl,?_⟩;simp[vC,ZD,Pi.results,ZL,ZM,oneOf,JW,JE,QW,QX,Q7,QJ,QI,JV,Kh,nA]
 all_goals first|omega | (simp_all;done)|(simp_all;omega)
theorem vQ(k f ms ra of nu de na wi mt st pk pc pa te ar)(hk:k=5\/k=6\/k=7)(h2:k=2->f<=11):Zi (Zo p) h 118 [.c (Ex.mk k f ms ra of nu de na wi mt st (.mk pk pc pa) te ar).cv]=some (.c (.agg [.bool (QX k),.bool (QJ k),.bool (Q7 k),.bool (QI k),.bool (JE k f),.bool (JV k),.bool (Kh k),.bool (JW k),.bool (QW k f),.int .i64 (nA k)]),h):=by
 refine ZB Has.h118 ?_;rcases hk with rfl | rfl | rfl
 all_goals
  simp at h2;refine⟨1,Zk rfl ?_⟩;show W _ _ y8 _ _ _ _;simp[y8,Ex.cv_mk,ZH];repeat' first
   | ((first|refine Z8 false ?_ ?_ | refine Z9 false ?_ ?_ | refine ZT false ?_ ?_)<;>intro ht<;>simp[ht,ZH])
   | (refine Zw rfl (by simp[Mem.same,Ze,Zj]) ?_;simp[ZH])
   | exact Zu rfl rfl rfl
   | (refine⟨Zu rfl rfl rfl,?_⟩;first|rfl | (simp[*];done))
  all_goals
   refine⟨.inr rfl,?_⟩;simp[vC,ZD,Pi.results,ZL,ZM,oneOf,JW,JE,QW,QX,Q7,QJ,QI,JV,Kh,nA]
 all_goals first|omega | (simp_all;done)|(simp_all;omega)
theorem vP(k f ms ra of nu de na wi mt st pk pc pa te ar)(hk:k=8\/k=9\/k=10)(h2:k=2->f<=11):Zi (Zo p) h 118 [.c (Ex.mk k f ms ra of nu de na wi mt st (.mk pk pc pa) te ar).cv]=some (.c (.agg [.bool (QX k),.bool (QJ k),.bool (Q7 k),.bool (QI k),.bool (JE k f),.bool (JV k),.bool (Kh k),.bool (JW k),.bool (QW k f),.int .i64 (nA k)]),h):=by
 refine ZB Has.h118 ?_;rcases hk with rfl | rfl | rfl
 all_goals
  simp at h2;refine⟨1,Zk rfl ?_⟩;show W _ _ y8 _ _ _ _;simp[y8,Ex.cv_mk,ZH];repeat' first
   | ((first|refine Z8 false ?_ ?_ | refine Z9 false ?_ ?_ | refine ZT false ?_ ?_)<;>intro ht<;>simp[ht,ZH])
   | (refine Zw rfl (by simp[Mem.same,Ze,Zj]) ?_;simp[ZH])
   | exact Zu rfl rfl rfl
   | (refine⟨Zu rfl rfl rfl,?_⟩;first|rfl | (simp[*];done))
  all_goals
   refine⟨.inr rfl,?_⟩;simp[vC,ZD,Pi.results,ZL,ZM,oneOf,JW,JE,QW,QX,Q7,QJ,QI,JV,Kh,nA]
 all_goals first|omega | (simp_all;done)|(simp_all;omega)
theorem vO(k f ms ra of nu de na wi mt st pk pc pa te ar)(hk:k=11\/k=12\/k=13)(h2:k=2->f<=11):Zi (Zo p) h 118 [.c (Ex.mk k f ms ra of nu de na wi mt st (.mk pk pc pa) te ar).cv]=some (.c (.agg [.bool (QX k),.bool (QJ k),.bool (Q7 k),.bool (QI k),.bool (JE k f),.bool (JV k),.bool (Kh k),.bool (JW k),.bool (QW k f),.int .i64 (nA k)]),h):=by
 refine ZB Has.h118 ?_;rcases hk with rfl | rfl | rfl
 all_goals
  simp at h2;refine⟨1,Zk rfl ?_⟩;show W _ _ y8 _ _ _ _;simp[y8,Ex.cv_mk,ZH];repeat' first
   | ((first|refine Z8 false ?_ ?_ | refine Z9 false ?_ ?_ | refine ZT false ?_ ?_)<;>intro ht<;>simp[ht,ZH])
   | (refine Zw rfl (by simp[Mem.same,Ze,Zj]) ?_;simp[ZH])
   | exact Zu rfl rfl rfl
   | (refine⟨Zu rfl rfl rfl,?_⟩;first|rfl | (simp[*];done))
  all_goals
   refine⟨.inr rfl,?_⟩;simp[vC,ZD,Pi.results,ZL,ZM,oneOf,JW,JE,QW,QX,Q7,QJ,QI,JV,Kh,nA]
 all_goals first|omega | (simp_all;done)|(simp_all;omega)
theorem Mx(k f ms ra of nu de na wi mt st pk pc pa te ar)(h0:1<=k)(h1:k<=13)(h2:k=2->f<=11):Zi (Zo p) h 118 [.c (Ex.mk k f ms ra of nu de na wi mt st (.mk pk pc pa) te ar).cv]=some (.c (.agg [.bool (QX k),.bool (QJ k),.bool (Q7 k),.bool (QI k),.bool (JE k f),.bool (JV k),.bool (Kh k),.bool (JW k),.bool (QW k f),.int .i64 (nA k)]),h):=by
 rcases WX h0 h1 with hk | hk | hk | hk | hk | hk | hk | hk | hk | hk | hk | hk | hk
 ·exact yW (p:=p) (h:=h) k f ms ra of nu de na wi mt st pk pc pa te ar (by omega) h2
 ·exact yW (p:=p) (h:=h) k f ms ra of nu de na wi mt st pk pc pa te ar (by omega) h2
 ·exact yW (p:=p) (h:=h) k f ms ra of nu de na wi mt st pk pc pa te ar (by omega) h2
 ·exact yW (p:=p) (h:=h) k f ms ra of nu de na wi mt st pk pc pa te ar (by omega) h2
 ·exact vQ (p:=p) (h:=h) k f ms ra of nu de na wi mt st pk pc pa te ar (by omega) h2
 ·exact vQ (p:=p) (h:=h) k f ms ra of nu de na wi mt st pk pc pa te ar (by omega) h2
 ·exact vQ (p:=p) (h:=h) k f ms ra of nu de na wi mt st pk pc pa te ar (by omega) h2
 ·exact vP (p:=p) (h:=h) k f ms ra of nu de na wi mt st pk pc pa te ar (by omega) h2
 ·exact vP (p:=p) (h:=h) k f ms ra of nu de na wi mt st pk pc pa te ar (by omega) h2
 ·exact vP (p:=p) (h:=h) k f ms ra of nu de na wi mt st pk pc pa te ar (by omega) h2
 ·exact vO (p:=p) (h:=h) k f ms ra of nu de na wi mt st pk pc pa te ar (by omega) h2
 ·exact vO (p:=p) (h:=h) k f ms ra of nu de na wi mt st pk pc pa te ar (by omega) h2
 ·exact vO (p:=p) (h:=h) k f ms ra of nu de na wi mt st pk pc pa te ar (by omega) h2
end
section
variable {p:Prg} [Has p] [HasRx p] {h:Mem}
theorem isE{α:Type}(l:List α):l.isEmpty=decide (l.length=0):=by cases l<;>simp
theorem Zhq(k f ms ra of nu de na wi mt st pk pc pa te ar)(k0:1<=k)(k1:k<=13)(h2:k=2->f<=11)(hpc:ZX pc.length)(hpa:ZX pa.length):Zi (Zo p) h 155 [.c (Ex.mk k f ms ra of nu de na wi mt st (.mk pk pc pa) te ar).cv]=some (.c (.bool (uQ k f ms ra of nu de na wi mt st (Vi pk pc pa) te ar.length)),h):=by
 refine ZB Has.h155 ?_;have h118:=λ h=>Mx (p:=p) (h:=h) k f ms ra of nu de na wi mt st pk pc pa te ar (by omega) (by omega) h2
 have h120:=λ h=>Mw (p:=p) (h:=h) k
 have hP:Vi pk pc pa=(pk != 0||!pc.isEmpty||!pa.isEmpty):=rfl
 have hw:IntKind.i64.wrap ((pc.length:Int)+(pa.length:Int))=(pc.length:Int)+(pa.length:Int):=by simp only[ZX]at hpc hpa;exact ZA (by omega) (by omega)
 obtain⟨Z,hZ⟩:∃ Z,Z=(nu==0&&de==0):=⟨_,rfl⟩;have hz:XM [.int .i64 nu,.int .i64 de] [.int .i64 0,.int .i64 0] [(0,0),(0,1)]=some Z:=by simp[XM,YG,We,Ye,hZ]
 have hd1:=UH ms
 have hd2:=UH st
 have hd3:=UH na
 obtain⟨F,hF⟩:∃ F,F=uQ k f ms ra of nu de na wi mt st (Vi pk pc pa) te ar.length:=⟨_,rfl⟩;rw[<- hF];rcases WX k0 k1 with rfl | rfl | rfl | rfl | rfl | rfl | rfl | rfl | rfl | rfl | rfl | rfl | rfl
 all_goals
  clear k0 k1;simp only[Ex.cv_mk]at h118;simp[nf,JW,JE,QW,QX,Q7,QJ,QI,JV,Kh,nA]at h118;simp[JX]at h120;have hF':=hF
  simp[uQ,GT,yI,nf,JW,JE,QW,QX,Q7,QJ,QI,JV,Kh,nA]at hF';clear hF;refine⟨1,Zk rfl ?_⟩;show W _ _ NG _ _ _ _;simp[NG,Ex.cv_mk,h118,h120,hw,Zn];repeat' first
   | (refine Y0 (.inr rfl) rfl rfl ?_;(clear h118 h120 hz;subst hZ;rw[hF'];clear hF';(try simp only[hP]);clear hP;simp only[isE pc,isE pa,isE ms,isE na,isE st];(try simp only[bne]);generalize ((ar.length:Int)==0)=q3;(try generalize ((ar.length:Int)==1)=q4);(try generalize ((ar.length:Int)==2)=q5);by_cases q1:pc.length=0<;>by_cases q2:pa.length=0<;>first|(exfalso;omega)|(simp_all;done)|(simp_all;omega)|(cases wi<;>simp_all;done)|(cases wi<;>simp_all<;>omega)))
   | ((first|refine Z8 true ?_ ?_ | refine Z9 true ?_ ?_ | refine ZT true ?_ ?_)<;>intro ht<;>simp[ht,h118,h120,hw,Zn,hz,ZH])
   | (refine Zw rfl (by simp[Mem.same,Ze,Zj]) ?_;simp[h118,h120,hw,Zn,hz,ZH])
   | exact Zu rfl rfl rfl
   | (refine⟨Zu rfl rfl rfl,?_⟩;first|rfl | (simp[*];done))
end
section
variable {p:Prg} [Has p] [HasRx p] {h:Mem}
theorem Zbt(k f ms ra of nu de na wi mt st pk pc pa te ar)(k0:1<=k)(k1:k<=13)(hok:(Ex.mk k f ms ra of nu de na wi mt st (.mk pk pc pa) te ar).ok):Zi (Zo p) h 117 [.c (Ex.mk k f ms ra of nu de na wi mt st (.mk pk pc pa) te ar).cv]=some (.c (.int .i64 (QO (Ex.mk k f ms ra of nu de na wi mt st (.mk pk pc pa) te ar))),h):=by
 refine ZB Has.h117 ?_;obtain⟨o1,o2,o3,o4,o5,o6,o7,o8,o9,o10⟩:=hok;have h120:=λ h=>Mw (p:=p) (h:=h) k
 have h118:=λ q h=>Mx (p:=p) (h:=h) k f ms ra of nu de na wi mt st pk pc pa te ar (by omega) (by omega) q
 have o7':=o7
 simp only[Pt.ok]at o7';have h155:=λ q h=>Zhq (p:=p) (h:=h) k f ms ra of nu de na wi mt st pk pc pa te ar k0 k1 q o7'.1 o7'.2.2.1
 have hmz:QX k=false->uQ k f ms ra of nu de na wi mt st (Vi pk pc pa) te ar.length=false->QY ms=0:=λ q1 q2=>by
  cases ms with
  | nil=>rfl
  | cons m r=>exfalso;rw[uQ]at q2;simp[GT,yI,q1]at q2
 obtain⟨F,hF⟩:∃ F,F=uQ k f ms ra of nu de na wi mt st (Vi pk pc pa) te ar.length:=⟨_,rfl⟩;rw[<- hF]at hmz;simp only[<- hF]at h155;have h156:=λ f h=>Zbh (p:=p) (h:=h) f ms o1 o2
 have h157:=λ h=>Zhp (p:=p) (h:=h) k f ms ra of nu de na wi mt st pk pc pa te ar
 have h158:=λ h=>Zho (p:=p) (h:=h) k f ms ra of nu de na wi mt st pk pc pa te ar o3 o4
 have h159:=λ f h=>Zhn (p:=p) (h:=h) f st o5 o6
 have h160:=λ h=>Zhm (p:=p) (h:=h) _ o7
 have h161:=λ q h=>Zhl (p:=p) (h:=h) k f ms ra of nu de na wi mt st pk pc pa te ar (by simp only[ZX]at o8;exact o8) q
 rw[show(Ex.mk k f ms ra of nu de na wi mt st (Pt.mk pk pc pa) te ar).cells=_ from by have:=Ex.cv_mk k f ms ra of nu de na wi mt st pk pc pa te ar;simpa [Ex.cv] using this]at h158
 clear o1 o2 o3 o4 o5 o6 o7 o8 o9 o10 o7';by_cases hf11:k=2->f<=11
 ·have h118:=h118 hf11
  have h155:=h155 hf11
  clear hf11;rcases WX k0 k1 with rfl | rfl | rfl | rfl | rfl | rfl | rfl | rfl | rfl | rfl | rfl | rfl | rfl
  all_goals
   clear k0 k1;simp[nf,JW,JE,QW,QX,Q7,QJ,QI,JV,Kh,nA]at hmz;simp only[Ex.cv_mk]at h118 h155 h157 h161;simp[nf,JW,JE,QW,QX,Q7,QJ,QI,JV,Kh,nA]at h118 h155 h161;simp only[Pt.cv_mk]at h160;simp[JX]at h120;refine⟨1,Zk rfl ?_⟩;show W _ _ ue _ _ _ _;simp[ue,Ex.cv_mk,h120,h118,h155,h156,h157,h158,h159,h160,h161,ZH];repeat' first
    | (refine ZQ (.inr rfl) rfl rfl ?_;(simp only[QO];rw[<- hF];simp[nf,JW,JE,QW,QX,Q7,QJ,QI,JV,Kh,nA];clear h118 h120 h155 h156 h157 h158 h159 h160 h161;((try simp[nA, *])<;>first|done | omega | (simp_all;done)|(simp_all;omega))))
    | ((first|refine Z8 true ?_ ?_ | refine Z9 true ?_ ?_ | refine ZT true ?_ ?_)<;>intro ht<;>simp[ht,h118,h120,h155,h156,h157,h158,h159,h160,h161,ZH])
    | (refine Zw rfl (by simp[Mem.same,Ze,Zj]) ?_;simp[h118,h120,h155,h156,h157,h158,h159,h160,h161,ZH])
    | exact Zu rfl rfl rfl
    | (refine⟨Zu rfl rfl rfl,?_⟩;first|rfl | (simp[*];done))
 ·obtain⟨rfl,hf2⟩:k=2/\(12:Int)<=f:=by omega
  have hf1:¬ f < 1:=by omega
  simp[JX]at h120;refine⟨1,Zk rfl ?_⟩;show W _ _ ue _ _ _ _;simp[ue,Ex.cv_mk,h120,ZH,hf1,hf2];exact ZQ (.inr rfl) rfl rfl (by simp only[QO];simp[nf,JW,JE,QW,QX,Q7,QJ,QI,JV,Kh,nA];omega)
end
section
variable {p:Prg} [Has p] [HasRx p] {h:Mem}
theorem Fw{k f ms ra of nu de na wi mt st pk pc pa te ar}(hk:k < 1\/13 < k):QO (Ex.mk k f ms ra of nu de na wi mt st (.mk pk pc pa) te ar)=8:=by
 simp only[QO];rw[if_pos hk]
theorem ZhA(q:Ex)(hok:q.ok):Zi (Zo p) h 117 [.c q.cv]=some (.c (.int .i64 (QO q)),h):=by
 obtain⟨k,f,ms,ra,of,nu,de,na,wi,mt,st,⟨pk,pc,pa⟩,te,ar⟩:=q;by_cases hk:k < 1\/13 < k
 ·rw[Fw hk];refine ZB Has.h117 ?_;refine⟨1,Zk rfl ?_⟩;show W _ _ ue _ _ _ _;simp[ue,Ex.cv_mk];repeat' first
   | (refine ZQ (.inr rfl) rfl rfl ?_;rfl)
   | ((first|refine Z8 false ?_ ?_ | refine Z9 false ?_ ?_ | refine ZT false ?_ ?_)<;>intro ht<;>simp[ht])
   | (refine Zw rfl (by simp[Mem.same,Ze,Zj]) ?_;simp)
   | exact Zu rfl rfl rfl
   | (refine⟨Zu rfl rfl rfl,?_⟩;first|rfl | (simp[*];done))
   | ((exfalso;omega);done)
 ·exact Zbt k f ms ra of nu de na wi mt st pk pc pa te ar (by omega) (by omega) hok
end
theorem Ex.shape(q:Ex):∃ k f ms ra of nu de na wi mt st pk pc pa te ar,q=.mk k f ms ra of nu de na wi mt st (.mk pk pc pa) te ar:=by
 obtain⟨k,f,ms,ra,of,nu,de,na,wi,mt,st,⟨pk,pc,pa⟩,te,ar⟩:=q;exact⟨k,f,ms,ra,of,nu,de,na,wi,mt,st,pk,pc,pa,te,ar,rfl⟩
def Pt.psz:Pt->Nat
 | .mk k c a=>if Vi k c a then(Pt.mk k c a).sz else 0
mutual
def Ex.sz:Ex->Nat
 | .mk _ _ _ _ _ _ _ _ _ _ st pa _ ar=>1+st.length+pa.psz+Ex.szs ar
def Ex.szs:List Ex->Nat
 | []=>0
 | p::r=>p.sz+Ex.szs r
end
mutual
def Ex.dep:Ex->Nat
 | .mk _ _ _ _ _ _ _ _ _ _ _ _ _ ar=>Ex.deps ar+1
def Ex.deps:List Ex->Nat
 | []=>0
 | p::r=>max p.dep (Ex.deps r)
end
mutual
theorem Ex.dep_sz:∀ p:Ex,p.dep<=p.sz
 | .mk _ _ _ _ _ _ _ _ _ _ _ _ _ ar=>by have:=Ex.deps_szs ar;simp only[Ex.dep,Ex.sz];omega
theorem Ex.deps_szs:∀ l:List Ex,Ex.deps l<=Ex.szs l
 | []=>by simp[Ex.deps]
 | p::r=>by have:=Ex.dep_sz p;have:=Ex.deps_szs r;simp only[Ex.deps,Ex.szs];omega
end
theorem Ex.dep_mem:∀ {l:List Ex} {q:Ex},q∈l->q.dep<=Ex.deps l
 | p::r,q,hq=>by
  simp only[Ex.deps];rcases List.mem_cons.1 hq with rfl | hq
  ·omega
  ·have:=Ex.dep_mem hq;omega
theorem Ex.deps_cons(q:Ex)(r:List Ex):Ex.deps (q::r)=max q.dep (Ex.deps r):=by rw[Ex.deps]
theorem jI(q:Ex)(r:List Ex):Ex.szs (q::r)=q.sz+Ex.szs r:=by rw[Ex.szs]
mutual
def Ex.ck:Ex->Int
 | .mk k f ms ra of nu de na wi mt st pa te ar=>if QO (.mk k f ms ra of nu de na wi mt st pa te ar)=0 then Ex.cks ar else QO (.mk k f ms ra of nu de na wi mt st pa te ar)
def Ex.cks:List Ex->Int
 | []=>0
 | p::r=>if p.ck=0 then Ex.cks r else p.ck
end
theorem Ex.cks_ferr:∀ l:List Ex,Ex.cks l=YJ Ex.ck l
 | []=>by simp[Ex.cks,YJ]
 | p::r=>by simp[Ex.cks,YJ,Ex.cks_ferr r]
def Ex.chk(e:Ex):Int:=if 100 < e.sz then 4 else if 12 < e.dep then 30 else e.ck
def bty(f:Int)(na:List By)(wi:Bool)(mt:Int)(a b:Int):Int:=
 if (a ≠ 1/\a ≠ 2)\/(b ≠ 1/\b ≠ 2) then 0
 else if a=2/\b=2 then 2
 else if na ≠ []\/wi=true\/mt ≠ 0 then 0
 else if a=2\/b=2 then 2
 else if 5<=f then 0 else 1
def Ht(k:Int):Int:=if k=1 then 1 else if k=2\/k=3\/k=4\/k=5\/k=6 then 2 else if k=8\/k=12 then 3 else if k=9\/k=11 then 4 else if k=10 then 5 else 0
def Gx(k f:Int)(na:List By)(wi:Bool)(mt:Int)(l:List Int):Int:=
 if k=6 then(if l.getD 0 0=2 then 2 else 0)
 else if k=12 then(if l.getD 0 0=4 then 3 else 0)
 else if k=7 then bty f na wi mt (l.getD 0 0) (l.getD 1 0)
 else Ht k
mutual
def Ex.ty:Ex->Int
 | .mk k f _ _ _ _ _ na wi mt _ _ _ ar=>Gx k f na wi mt (WE ar)
def WE:List Ex->List Int
 | []=>[]
 | p::r=>p.ty::WE r
end
section
variable {p:Prg} [Has p] [HasRx p] {h:Mem}
theorem c83(q:Ex):q.ok->∀ (n:Int),0<=n->n<=100->∀ h,Zi (Zo p) h 83 [.c q.cv,.c (.int .i64 n)]=some (.c (.int .i64 (min (n+q.sz) 101)),h):=by
 induction q using Ex.ind
 rename_i k f ms ra of nu de na wi mt st pt te ar ih;obtain⟨pk,pc,pa,rfl⟩:=Pt.shape pt;intro hok nn hn0 hn1 h;simp only[Ex.ok,ZX]at hok;refine Ym Has.h83 ?_;have h130:=λ h=>Zbq (p:=p) (h:=h) k f ms ra of nu de na wi mt st pk pc pa te ar
 have h131:=λ x h0 h1 h=>Zbp (p:=p) (.mk pk pc pa) hok.2.2.2.2.2.2.1 x h0 h1 h
 have hps:(Pt.mk pk pc pa).psz=if Vi pk pc pa then(Pt.mk pk pc pa).sz else 0:=rfl
 generalize Vi pk pc pa=hp at *
 simp only[Ex.cv_mk]at h130;simp only[Pt.cv_mk]at h131;obtain⟨m1,hm1⟩:∃ m1:Int,m1=nn+(1+min (st.length:Int) 100):=⟨_,rfl⟩;have hmm:(if (100:Int) < st.length then(100:Int) else st.length)=min (st.length:Int) 100:=by split<;>omega
 have hw0:IntKind.i64.wrap (1+min (st.length:Int) 100)=1+min (st.length:Int) 100:=ZA (by omega) (by omega)
 have hw1:IntKind.i64.wrap (nn+(1+min (st.length:Int) 100))=m1:=by rw[ZA (by omega) (by omega),hm1]
 obtain⟨m2,hm2⟩:∃ m2:Int,m2=if hp=true/\m1<=100 then min (m1+(Pt.mk pk pc pa).sz) 101 else m1:=⟨_,rfl⟩;have hb0:0<=m2/\m2<=201:=by rw[hm2];split<;>omega
 have hb1:min (nn+(Ex.sz (Ex.mk k f ms ra of nu de na wi mt st (.mk pk pc pa) te ar):Nat)) 101=min (m2+(Ex.szs ar:Nat)) 101:=by
  simp only[Ex.sz,hps];rw[hm2];cases hp<;>simp<;>(try split)<;>omega
 have e101:IntKind.i64.wrap 101=101:=rfl
 have hgo:W (Zo p) (ar.length+1) (.seq (.seq (.ops [q 24 15 2,l 25 24,a 26 (.lenSl T25),a 27 (.mov (.k I0))])
 (.block 0 (.loop (some [1,25,26,27]) (.seq (.ops [a 28 (.bin .lss T27 T26)])
 (.seq (.cond T28 .skip
 (.exit 0))
 (.seq (.block 1 (.seq (.ops [a 29 (.idxSl 16 T25 T27),
 a 30 (.load true 16 T29),
 a 6 (.alloc 33 [I0,I0,(.sl true []),I0,I0,I0,I0,(.sl true []),(.bool false),I0,(.sl true []),I0,(.sl true []),(.sl true []),(.str []),(.sl true [])]),
 n (.store 16 T6 T30)])
 (.seq (.seq (.ops [m 31 1,
 a 32 (.bin .gtr T31 (.k (I 100)))])
 (.cond T32 (.exit 0)
 .skip))
 (.ops [a 33 (.load true 16 T6),
 m 34 1,
 a 35 (.call 83 [T33,T34]),
 m 1 35]))))
 (.ops [a 36 (.bin .add T27 (.k (I 1))),
 m 27 36])))))))
 (.live [1] (.seq (.ops [m 37 1,
 a 38 (.minmax false [T37,(.k (I 101))]),
 m 4 38])
 .ret))) [(1,.c (.int .i64 m2)),(2,.ptr 0 0)] [Ob.cells 33 [X.c (.int .i64 k),X.c (.int .i64 f),X.c (.sl false (ms.map Mt.cv)),X.c (.int .i64 ra),X.c (.int .i64 of),X.c (.int .i64 nu),X.c (.int .i64 de),X.c (.sl false (na.map CV.str)),X.c (.bool wi),X.c (.int .i64 mt),X.c (.sl false (st.map Sg.cv)),X.c (.int .i64 pk),X.c (.sl false (pc.map Cd.cv)),X.c (.sl false (pa.map Pt.cv)),X.c (.str te),X.c (.sl false (ar.map Ex.cv))]] [] (Gu f83 0 (.c (.int .i64 (min (nn+(Ex.sz (Ex.mk k f ms ra of nu de na wi mt st (.mk pk pc pa) te ar):Nat)) 101))) []):=by
  simp;refine ZU (λ i sl h=>Cm [1,25,26,27] [Ob.cells 33 [X.c (.int .i64 k),X.c (.int .i64 f),X.c (.sl false (ms.map Mt.cv)),X.c (.int .i64 ra),X.c (.int .i64 of),X.c (.int .i64 nu),X.c (.int .i64 de),X.c (.sl false (na.map CV.str)),X.c (.bool wi),X.c (.int .i64 mt),X.c (.sl false (st.map Sg.cv)),X.c (.int .i64 pk),X.c (.sl false (pc.map Cd.cv)),X.c (.sl false (pa.map Pt.cv)),X.c (.str te),X.c (.sl false (ar.map Ex.cv))]] sl h/\Zm sl 25=.c (.sl false (ar.map Ex.cv))/\Zm sl 26=.c (.int .i64 ar.length)/\Zm sl 27=.c (.int .i64 i)/\(∃ m:Int,Zm sl 1=.c (.int .i64 m)/\0<=m/\m<=201/\min (nn+(Ex.sz (Ex.mk k f ms ra of nu de na wi mt st (.mk pk pc pa) te ar):Nat)) 101=min (m+(Ex.szs (ar.drop i):Nat)) 101)) (ar.length) (by omega) ⟨Xh,by simp,by simp,by simp,by exact⟨m2,by simp,by omega,by omega,by simpa using hb1⟩⟩ ?_
  rintro i sl h hi ⟨hcm,h25,h26,h27,hq⟩
  simp only[Cm]at hcm;rw[hcm];rcases Zl i (ar.length) with hlt | hge
  ·have hw:IntKind.i64.wrap ((i:Int)+1)=(i:Int)+1:=ZA (by omega) (by omega)
   obtain⟨m,h1,hm0,hm1,hq⟩:=hq;have hd:=Zs hlt
   rw[hd,jI]at hq;have hn:=λ hm=>ih ar[i] (Zh hlt) (Ex.oks_mem hok.2.2.2.2.2.2.2.2.2 _ (Zh hlt)) m hm0 hm
   generalize (ar[i]).sz=z at hn hq;obtain⟨k2,f2,ms2,ra2,of2,nu2,de2,na2,wi2,mt2,st2,pk2,pc2,pa2,te2,ar2,hai⟩:=Ex.shape ar[i];rw[hai]at hn;simp only[Ex.cv_mk]at hn;by_cases hm:m<=100
   ·have hn:=hn hm
    have hm':¬ 100 < m:=by omega
    simp[h25,h26,h27,h1,hn,Zn,hlt,hw,hai,Ex.cv_mk,hm'];refine⟨Zu rfl rfl rfl,by omega,by omega,by omega⟩
   ·have hm':100 < m:=by omega
    have hmx:(if (101:Int) < m then(101:Int) else m)=101:=by split<;>omega
    have hz:min (nn+(Ex.sz (Ex.mk k f ms ra of nu de na wi mt st (.mk pk pc pa) te ar):Nat)) 101=101:=by omega
    by_cases hm2':101 < m
    ·simp[h25,h26,h27,h1,hn,Zn,hlt,hw,hai,Ex.cv_mk,hm',evalOp.go,hm2'];exact ZQ (.inr rfl) rfl rfl hz.symm
    ·simp[h25,h26,h27,h1,hn,Zn,hlt,hw,hai,Ex.cv_mk,hm',evalOp.go,hm2'];exact ZQ (.inr rfl) rfl rfl (by omega)
  ·obtain rfl:i=(ar.length):=by omega
   obtain⟨m,h1,hm0,hm1,hq⟩:=hq;simp[Ex.szs]at hq;by_cases hm2':101 < m
   ·simp[h25,h26,h27,h1,evalOp.go,hm2'];exact ZQ (.inr rfl) rfl rfl (by omega)
   ·simp[h25,h26,h27,h1,evalOp.go,hm2'];exact ZQ (.inr rfl) rfl rfl (by omega)
 simp at hgo;have hfin:∀ x:Int,x=m1->(∀ z:Int,z=m2->True):=λ _ _ _ _=>trivial
 by_cases hl:(100:Int) < st.length
 ·simp only[hl,if_true]at hmm;have hw1':IntKind.i64.wrap (nn+101)=m1:=by rw[ZA (by omega) (by omega)];omega
  have hm100:¬ m1<=100:=by omega
  have e2:m2=m1:=by rw[hm2,if_neg (λ q=>hm100 q.2)]
  rw[e2]at hgo;refine⟨ar.length+1,Zk rfl ?_⟩;show W _ _ b83 _ _ _ _;simp[b83,Ex.cv_mk,evalOp.go,hl,Zn,hw1',h130,e101];cases hp with
  | false=>simp;exact hgo
  | true=>simp[hm100];exact hgo
 ·simp only[hl,if_false]at hmm;simp only[<- hmm]at hw0 hw1;refine⟨ar.length+1,Zk rfl ?_⟩;show W _ _ b83 _ _ _ _;simp[b83,Ex.cv_mk,evalOp.go,hl,Zn,hw0,hw1,h130,e101];cases hp with
  | false=>
   have e2:m2=m1:=by rw[hm2,if_neg (λ q=>by simp at q)]
   rw[e2]at hgo;simp;exact hgo
  | true=>
   by_cases hm100:m1<=100
   ·have e2:m2=min (m1+((Pt.mk pk pc pa).sz:Int)) 101:=by rw[hm2,if_pos ⟨rfl,hm100⟩]
    have hc:=h131 m1 (by omega) hm100
    rw[<- e2]at hc;simp[hm100,hc];exact hgo
   ·have e2:m2=m1:=by rw[hm2,if_neg (λ q=>hm100 q.2)]
    rw[e2]at hgo;simp[hm100];exact hgo
theorem c44(q:Ex)(hq:q.ok):Zi (Zo p) h 44 [.c q.cv]=some (.c (.int .i64 (min (q.sz:Nat) 101)),h):=by
 refine ZB Has.h44 ?_;have h1:=c83 (p:=p) q hq 0 (by omega) (by omega)
 simp only[Int.zero_add]at h1;generalize q.sz=z at *
 obtain⟨k,f,ms,ra,of,nu,de,na,wi,mt,st,pk,pc,pa,te,ar,rfl⟩:=Ex.shape q;simp only[Ex.cv_mk]at h1;refine⟨1,Zk rfl ?_⟩;show W _ _ b44 _ _ _ _;simp[b44,Ex.cv_mk,h1];exact ZQ (.inr rfl) rfl rfl rfl
theorem c45(q:Ex):q.ok->q.dep<=1000->∀ h,Zi (Zo p) h 45 [.c q.cv]=some (.c (.int .i64 (q.dep:Nat)),h):=by
 induction q using Ex.ind
 rename_i k f ms ra of nu de na wi mt st pt te ar ih;obtain⟨pk,pc,pa,rfl⟩:=Pt.shape pt;intro hok hdp h;simp only[Ex.ok,ZX]at hok;simp only[Ex.dep]at hdp;refine ZB Has.h45 ?_;refine⟨ar.length+1,Zk rfl ?_⟩;show W _ _ b45 _ _ _ _;simp[b45,Ex.cv_mk];refine ZU (λ i sl h=>Cm [3,7,8,9] [Ob.cells 33 [X.c (.int .i64 k),X.c (.int .i64 f),X.c (.sl false (ms.map Mt.cv)),X.c (.int .i64 ra),X.c (.int .i64 of),X.c (.int .i64 nu),X.c (.int .i64 de),X.c (.sl false (na.map CV.str)),X.c (.bool wi),X.c (.int .i64 mt),X.c (.sl false (st.map Sg.cv)),X.c (.int .i64 pk),X.c (.sl false (pc.map Cd.cv)),X.c (.sl false (pa.map Pt.cv)),X.c (.str te),X.c (.sl false (ar.map Ex.cv))]] sl h/\Zm sl 7=.c (.sl false (ar.map Ex.cv))/\Zm sl 8=.c (.int .i64 ar.length)/\Zm sl 9=.c (.int .i64 i)/\(∃ m:Nat,Zm sl 3=.c (.int .i64 (m:Int))/\Ex.deps ar=max m (Ex.deps (ar.drop i)))) (ar.length) (by omega) ⟨Xh,by simp,by simp,by simp,by exact⟨0,by simp,by simp⟩⟩ ?_
 rintro i sl h hi ⟨hcm,h7,h8,h9,hq⟩
 simp only[Cm]at hcm;rw[hcm];rcases Zl i (ar.length) with hlt | hge
 ·have hw:IntKind.i64.wrap ((i:Int)+1)=(i:Int)+1:=ZA (by omega) (by omega)
  obtain⟨m,h1,hq⟩:=hq;have hd:=Zs hlt
  rw[hd,Ex.deps_cons]at hq;have hdm:=Ex.dep_mem (Zh hlt)
  have hn:=ih ar[i] (Zh hlt) (Ex.oks_mem hok.2.2.2.2.2.2.2.2.2 _ (Zh hlt)) (by omega)
  generalize hde:ar[i].dep=dd at hn hq;obtain⟨k2,f2,ms2,ra2,of2,nu2,de2,na2,wi2,mt2,st2,pk2,pc2,pa2,te2,ar2,hai⟩:=Ex.shape ar[i];rw[hai]at hn;simp only[Ex.cv_mk]at hn;by_cases hm:m < dd
  ·simp[h7,h8,h9,h1,hn,Zn,hlt,hw,hai,Ex.cv_mk,hm,evalOp.go];exact⟨Zu rfl rfl rfl,dd,by rfl,by omega⟩
  ·simp[h7,h8,h9,h1,hn,Zn,hlt,hw,hai,Ex.cv_mk,hm,evalOp.go];exact⟨Zu rfl rfl rfl,m,by rfl,by omega⟩
 ·obtain rfl:i=(ar.length):=by omega
  obtain⟨m,h1,hq⟩:=hq;simp[Ex.deps]at hq;have hw1:IntKind.i64.wrap ((m:Int)+1)=(m:Int)+1:=ZA (by omega) (by omega)
  simp[h7,h8,h9,h1,Zn,hw1];exact ZQ (.inr rfl) rfl rfl (by simp only[Ex.dep];omega)
theorem c80(q:Ex):q.ok->q.dep<=1000->∀ h,Zi (Zo p) h 80 [.c q.cv]=some (.c (.int .i64 (q.dep:Nat)),h):=by
 induction q using Ex.ind
 rename_i k f ms ra of nu de na wi mt st pt te ar ih;obtain⟨pk,pc,pa,rfl⟩:=Pt.shape pt;intro hok hdp h;simp only[Ex.ok,ZX]at hok;simp only[Ex.dep]at hdp;refine ZB Has.h80 ?_;refine⟨ar.length+1,Zk rfl ?_⟩;show W _ _ b80 _ _ _ _;simp[b80,Ex.cv_mk];refine ZU (λ i sl h=>h=[Ob.cells 33 [X.c (.int .i64 k),X.c (.int .i64 f),X.c (.sl false (ms.map Mt.cv)),X.c (.int .i64 ra),X.c (.int .i64 of),X.c (.int .i64 nu),X.c (.int .i64 de),X.c (.sl false (na.map CV.str)),X.c (.bool wi),X.c (.int .i64 mt),X.c (.sl false (st.map Sg.cv)),X.c (.int .i64 pk),X.c (.sl false (pc.map Cd.cv)),X.c (.sl false (pa.map Pt.cv)),X.c (.str te),X.c (.sl false (ar.map Ex.cv))]]/\Zm sl 1=.ptr 0 0/\Zm sl 4=.c (.int .i64 i)/\(∃ m:Nat,Zm sl 3=.c (.int .i64 (m:Int))/\Ex.deps ar=max m (Ex.deps (ar.drop i)))) (ar.length) (by omega) ⟨rfl,by simp,by simp,by exact⟨0,by simp,by simp⟩⟩ ?_
 rintro i sl h hi ⟨rfl,h1,h4,hq⟩
 rcases Zl i (ar.length) with hlt | hge
 ·have hw:IntKind.i64.wrap ((i:Int)+1)=(i:Int)+1:=ZA (by omega) (by omega)
  obtain⟨m,h3,hq⟩:=hq;have hd:=Zs hlt
  rw[hd,Ex.deps_cons]at hq;have hdm:=Ex.dep_mem (Zh hlt)
  have hn:=ih ar[i] (Zh hlt) (Ex.oks_mem hok.2.2.2.2.2.2.2.2.2 _ (Zh hlt)) (by omega)
  generalize hde:ar[i].dep=dd at hn hq;obtain⟨k2,f2,ms2,ra2,of2,nu2,de2,na2,wi2,mt2,st2,pk2,pc2,pa2,te2,ar2,hai⟩:=Ex.shape ar[i];rw[hai]at hn;simp only[Ex.cv_mk]at hn;by_cases hm:m < dd
  ·simp[h1,h4,h3,hn,Zn,hlt,hw,hai,Ex.cv_mk,hm,evalOp.go];exact⟨dd,by rfl,by omega⟩
  ·simp[h1,h4,h3,hn,Zn,hlt,hw,hai,Ex.cv_mk,hm,evalOp.go];exact⟨m,by rfl,by omega⟩
 ·obtain rfl:i=(ar.length):=by omega
  obtain⟨m,h3,hq⟩:=hq;simp[Ex.deps]at hq;have hw1:IntKind.i64.wrap ((m:Int)+1)=(m:Int)+1:=ZA (by omega) (by omega)
  simp[h1,h4,h3,Zn,hw1];exact ZQ (.inr rfl) rfl rfl (by simp only[Ex.dep];omega)
end
mutual
def Ex.cnt:Ex->Int->Int
 | .mk _ _ _ _ _ _ _ _ _ _ st pa _ ar,n=>
  if 100 < st.length then 101 else XI ar (if pa.psz ≠ 0/\n+1+st.length<=100 then min (n+1+st.length+pa.psz) 101 else n+1+st.length)
def XI:List Ex->Int->Int
 | [],n=>n
 | p::r,n=>if n<=100 then XI r (p.cnt n) else n
end
theorem AI(q:Pt):0 < q.sz:=by obtain⟨k,c,a⟩:=q;simp only[Pt.sz];omega
theorem ul(k:Int)(c:List Cd)(a:List Pt):(Pt.mk k c a).psz ≠ 0↔Vi k c a=true:=by
 have:=AI (.mk k c a)
 simp only[Pt.psz];split<;>simp_all;omega
theorem AJ{k:Int}{c:List Cd}{a:List Pt}(h:Vi k c a=true):(Pt.mk k c a).psz=(Pt.mk k c a).sz:=by simp only[Pt.psz];rw[if_pos h]
mutual
theorem KF:∀ (q:Ex) (n:Int),0<=n->n<=100->0<=q.cnt n/\q.cnt n<=201/\min (q.cnt n) 101=min (n+q.sz) 101
 | .mk _ _ _ _ _ _ _ _ _ _ st pa _ ar,n,h0,h1=>by
  simp only[Ex.cnt,Ex.sz]
  split
  ·omega
  ·rename_i hs
   split
   ·rename_i hp;have:=JD ar (min (n+1+st.length+pa.psz) 101) (by omega) (by omega)
    omega
   ·rename_i hp;have:=JD ar (n+1+st.length) (by omega) (by omega)
    omega
theorem JD:∀ (l:List Ex) (n:Int),0<=n->n<=201->0<=XI l n/\XI l n<=201/\min (XI l n) 101=min (n+Ex.szs l) 101
 | [],n,h0,h1=>by simp[XI,Ex.szs];omega
 | p::r,n,h0,h1=>by
  simp only[XI,Ex.szs]
  split
  ·rename_i hn;have h2:=KF p n h0 hn
   have:=JD r (p.cnt n) (by omega) (by omega)
   omega
  ·omega
end
section
variable {p:Prg} [Has p] [HasRx p] {h:Mem}
theorem zi(q:Ex)(r:List Ex)(x:Int):XI (q::r) x=if x<=100 then XI r (q.cnt x) else x:=by rw[XI]
theorem c23(q:Ex):q.ok->∀ (nn:Int),0<=nn->nn<=100->∀ h,Zi (Zo p) h 23 [.c q.cv,.c (.int .i64 nn)]=some (.c (.int .i64 (q.cnt nn)),h):=by
 induction q using Ex.ind
 rename_i k f ms ra of nu de na wi mt st pt te ar ih;obtain⟨pk,pc,pa,rfl⟩:=Pt.shape pt;intro hok nn hn0 hn1 h;simp only[Ex.ok,ZX]at hok;have hokp:=hok.2.2.2.2.2.2.1
 simp only[Pt.ok,ZX]at hokp;refine Ym Has.h23 ?_;have h47:=λ x h0 h1 h=>c47 (p:=p) (.mk pk pc pa) hok.2.2.2.2.2.2.1 x h0 h1 h
 simp only[Pt.cv_mk]at h47;have hw0:IntKind.i64.wrap (nn+1)=nn+1:=ZA (by omega) (by omega)
 by_cases hl:(100:Int) < st.length
 ·have hl':100 < st.length:=by omega
  refine⟨1,Zk rfl ?_⟩;show W _ _ b23 _ _ _ _;simp[b23,Ex.cv_mk,hl,Zn,hw0];exact ZQ (.inr rfl) rfl rfl (by simp only[Ex.cnt];rw[if_pos hl'])
 have hl':¬ 100 < st.length:=by omega
 obtain⟨m1,hm1⟩:∃ m1:Int,m1=nn+1+st.length:=⟨_,rfl⟩;have hw1:IntKind.i64.wrap (nn+1+(st.length:Int))=m1:=by rw[ZA (by omega) (by omega),hm1]
 obtain⟨m2,hm2⟩:∃ m2:Int,m2=if (Pt.mk pk pc pa).psz ≠ 0/\m1<=100 then min (m1+(Pt.mk pk pc pa).psz) 101 else m1:=⟨_,rfl⟩;have hb0:0<=m2/\m2<=201:=by rw[hm2];split<;>omega
 have hdef:Ex.cnt (Ex.mk k f ms ra of nu de na wi mt st (.mk pk pc pa) te ar) nn=XI ar m2:=by simp only[Ex.cnt];rw[if_neg hl',hm2,hm1]
 have hgo:W (Zo p) (ar.length+1) (.seq (.seq (.ops [a 5 (.mov (.k I0))])
 (.block 0 (.loop (some [1,2,5]) (.seq (.seq (.ops [m 41 5,
 q 42 15 2,
 l 43 42,
 a 44 (.lenSl T43),
 a 45 (.bin .lss T41 T44),
 m 46 45,
 g 47 (.mov T1) 46 true,
 g 48 (.bin .leq T47 (.k (I 100))) 46 true,
 a 49 (.pick T46 T48 (.k (.bool false)))])
 (.cond T49 .skip
 (.exit 0)))
 (.live [1,2,5] (.seq (.block 1 (.ops [q 52 15 2,
 l 53 52,
 m 54 5,
 a 55 (.idxSl 16 T53 T54),
 a 56 (.load true 16 T55),
 m 57 1,
 a 58 (.call 23 [T56,T57]),
 m 1 58]))
 (.live [1,2,5] (.ops [m 50 5,
 a 51 (.bin .add T50 (.k (I 1))),
 m 5 51]))))))))
 (.seq (.ops [m 59 1,
 m 4 59])
 .ret)) [(1,.c (.int .i64 m2)),(2,.ptr 0 0)] [Ob.cells 33 [X.c (.int .i64 k),X.c (.int .i64 f),X.c (.sl false (ms.map Mt.cv)),X.c (.int .i64 ra),X.c (.int .i64 of),X.c (.int .i64 nu),X.c (.int .i64 de),X.c (.sl false (na.map CV.str)),X.c (.bool wi),X.c (.int .i64 mt),X.c (.sl false (st.map Sg.cv)),X.c (.int .i64 pk),X.c (.sl false (pc.map Cd.cv)),X.c (.sl false (pa.map Pt.cv)),X.c (.str te),X.c (.sl false (ar.map Ex.cv))]] [] (Gu f23 0 (.c (.int .i64 (Ex.cnt (Ex.mk k f ms ra of nu de na wi mt st (.mk pk pc pa) te ar) nn))) []):=by
  simp;refine ZU (λ i sl h=>h=[Ob.cells 33 [X.c (.int .i64 k),X.c (.int .i64 f),X.c (.sl false (ms.map Mt.cv)),X.c (.int .i64 ra),X.c (.int .i64 of),X.c (.int .i64 nu),X.c (.int .i64 de),X.c (.sl false (na.map CV.str)),X.c (.bool wi),X.c (.int .i64 mt),X.c (.sl false (st.map Sg.cv)),X.c (.int .i64 pk),X.c (.sl false (pc.map Cd.cv)),X.c (.sl false (pa.map Pt.cv)),X.c (.str te),X.c (.sl false (ar.map Ex.cv))]]/\Zm sl 2=.ptr 0 0/\Zm sl 5=.c (.int .i64 i)/\(∃ m:Int,Zm sl 1=.c (.int .i64 m)/\0<=m/\m<=201/\XI ar m2=XI (ar.drop i) m)) (ar.length) (by omega) ⟨rfl,by simp,by simp,by exact⟨m2,by simp,by omega,by omega,by simp⟩⟩ ?_
  rintro i sl h hi ⟨rfl,h2,h5,hq⟩
  rcases Zl i (ar.length) with hlt | hge
  ·have hw:IntKind.i64.wrap ((i:Int)+1)=(i:Int)+1:=ZA (by omega) (by omega)
   obtain⟨m,h1,hm0,hm1,hq⟩:=hq;have hd:=Zs hlt
   rw[hd,zi]at hq;have hn:=λ hm=>ih ar[i] (Zh hlt) (Ex.oks_mem hok.2.2.2.2.2.2.2.2.2 _ (Zh hlt)) m hm0 hm
   have hcb:=λ hm=>KF ar[i] m hm0 hm
   generalize (ar[i]).cnt m=z at hn hq hcb;obtain⟨k2,f2,ms2,ra2,of2,nu2,de2,na2,wi2,mt2,st2,pk2,pc2,pa2,te2,ar2,hai⟩:=Ex.shape ar[i];rw[hai]at hn;simp only[Ex.cv_mk]at hn;by_cases hm:m<=100
   ·have hn:=hn hm
    have hcb:=hcb hm
    rw[if_pos hm]at hq;simp[h2,h5,h1,hn,Zn,hlt,hw,hai,Ex.cv_mk,hm];exact⟨by omega,by omega,hq⟩
   ·rw[if_neg hm]at hq;simp[h2,h5,h1,hn,Zn,hlt,hw,hai,Ex.cv_mk,hm];exact ZQ (.inr rfl) rfl rfl (by rw[hdef,hq])
  ·obtain rfl:i=(ar.length):=by omega
   obtain⟨m,h1,hm0,hm1,hq⟩:=hq;simp[XI]at hq;simp[h2,h5,h1];exact ZQ (.inr rfl) rfl rfl (by rw[hdef,hq])
 simp at hgo;have hwp:IntKind.i64.wrap ((pc.length:Int)+(pa.length:Int))=(pc.length:Int)+(pa.length:Int):=ZA (by omega) (by omega)
 have hpi:=ul pk pc pa
 have hpe:=@AJ pk pc pa
 have hP:Vi pk pc pa=true↔(pk ≠ 0\/(0:Int) < pc.length+pa.length):=by
  cases pc<;>cases pa<;>simp[Vi]<;>omega
 refine⟨ar.length+1,Zk rfl ?_⟩;show W _ _ b23 _ _ _ _;simp[b23,Ex.cv_mk,hl,Zn,hw0,hw1,hwp];by_cases hh:Vi pk pc pa=true
 ·have hpe:=hpe hh
  by_cases hm100:m1<=100
  ·have e2:m2=min (m1+((Pt.mk pk pc pa).sz:Int)) 101:=by rw[hm2,if_pos ⟨hpi.2 hh,hm100⟩,hpe]
   have hc:=h47 m1 (by omega) hm100
   rw[<- e2]at hc;repeat' first
    | (exact hgo)
    | ((first|refine Z8 true ?_ ?_ | refine Z9 true ?_ ?_ | refine ZT true ?_ ?_)<;>intro ht<;>simp[ht,hm100,hc,Zn,hwp])
    | (refine Zw rfl (by simp[Mem.same,Ze,Zj]) ?_;simp[hm100,hc,Zn,hwp])
    | exact Zu rfl rfl rfl
    | (refine⟨Zu rfl rfl rfl,?_⟩;first|rfl | (simp[*];done))
   all_goals (exfalso;have hP1:=hP;clear hgo hP hpi hpe;simp only[hh]at hP1;simp at *;omega)
  ·have e2:m2=m1:=by rw[hm2,if_neg (λ q=>hm100 q.2)]
   rw[e2]at hgo;repeat' first
    | (exact hgo)
    | ((first|refine Z8 true ?_ ?_ | refine Z9 true ?_ ?_ | refine ZT true ?_ ?_)<;>intro ht<;>simp[ht,hm100,Zn,hwp])
    | (refine Zw rfl (by simp[Mem.same,Ze,Zj]) ?_;simp[hm100,Zn,hwp])
    | exact Zu rfl rfl rfl
    | (refine⟨Zu rfl rfl rfl,?_⟩;first|rfl | (simp[*];done))
   all_goals (exfalso;have hP1:=hP;clear hgo hP hpi hpe;simp only[hh]at hP1;simp at *;omega)
 ·have e2:m2=m1:=by rw[hm2,if_neg (λ q=>hh (hpi.1 q.1))]
  rw[e2]at hgo;repeat' first
   | (exact hgo)
   | ((first|refine Z8 true ?_ ?_ | refine Z9 true ?_ ?_ | refine ZT true ?_ ?_)<;>intro ht<;>simp[ht,Zn,hwp])
   | (refine Zw rfl (by simp[Mem.same,Ze,Zj]) ?_;simp[Zn,hwp])
   | exact Zu rfl rfl rfl
   | (refine⟨Zu rfl rfl rfl,?_⟩;first|rfl | (simp[*];done))
  all_goals (exfalso;have hP1:=hP;clear hgo hP hpi hpe;simp only[hh]at hP1;simp at *;omega)
theorem c12(q:Ex)(hq:q.ok):Zi (Zo p) h 12 [.c q.cv]=some (.c (.int .i64 (min (q.sz:Nat) 101)),h):=by
 refine ZB Has.h12 ?_;have h1:=c23 (p:=p) q hq 0 (by omega) (by omega)
 have hz:=KF q 0 (by omega) (by omega)
 generalize q.cnt 0=y at *
 generalize q.sz=z at *
 obtain⟨k,f,ms,ra,of,nu,de,na,wi,mt,st,pk,pc,pa,te,ar,rfl⟩:=Ex.shape q;simp only[Ex.cv_mk]at h1;by_cases hy:101 < y
 ·refine⟨1,Zk rfl ?_⟩;show W _ _ b12 _ _ _ _;simp[b12,Ex.cv_mk,h1,evalOp.go,hy];exact ZQ (.inr rfl) rfl rfl (by omega)
 ·refine⟨1,Zk rfl ?_⟩;show W _ _ b12 _ _ _ _;simp[b12,Ex.cv_mk,h1,evalOp.go,hy];exact ZQ (.inr rfl) rfl rfl (by omega)
@[simp] theorem Zjt:KT.wk=KT:=rfl
class HasK(p:Prg):Prop where
 k30:Ul p 30 [] []=some (.c KT,[])
theorem k30[HasK p]:(Zo p).call 30 [] []=some (.c KT,[]):=HasK.k30
theorem c30[HasK p]:Zi (Zo p) h 30 []=some (.c KT,h):=W6 (vs:=[]) HasK.k30
theorem c46(q:Ex):q.ok->∀ h,Zi (Zo p) h 46 [.c q.cv,.c KT]=some (.c (.int .i64 q.ck),h):=by
 induction q using Ex.ind
 rename_i k f ms ra of nu de na wi mt st pt te ar ih;obtain⟨pk,pc,pa,rfl⟩:=Pt.shape pt;intro hok h;have h84:=λ h=>c84 (p:=p) (h:=h) _ hok
 simp only[Ex.ok,ZX]at hok;refine Ym Has.h46 ?_;have hdef:Ex.ck (Ex.mk k f ms ra of nu de na wi mt st (.mk pk pc pa) te ar)=if QO (Ex.mk k f ms ra of nu de na wi mt st (.mk pk pc pa) te ar)=0 then YJ Ex.ck ar else QO (Ex.mk k f ms ra of nu de na wi mt st (.mk pk pc pa) te ar):=by rw[Ex.ck,Ex.cks_ferr]
 generalize QO (Ex.mk k f ms ra of nu de na wi mt st (.mk pk pc pa) te ar)=z at h84 hdef;simp only[Ex.cv_mk]at h84;refine⟨ar.length+1,Zk rfl ?_⟩;show W _ _ b46 _ _ _ _;simp[b46,Ex.cv_mk,h84];by_cases hz:z=0
 ·rw[if_pos hz]at hdef;have hz1:(z==0)=true:=by simpa using hz
  have hz2:(z != 0)=false:=by simpa using hz
  simp[hz2];refine ZU (λ i sl h=>Cm [1,16,17,18] [Ob.cells 33 [X.c (.int .i64 k),X.c (.int .i64 f),X.c (.sl false (ms.map Mt.cv)),X.c (.int .i64 ra),X.c (.int .i64 of),X.c (.int .i64 nu),X.c (.int .i64 de),X.c (.sl false (na.map CV.str)),X.c (.bool wi),X.c (.int .i64 mt),X.c (.sl false (st.map Sg.cv)),X.c (.int .i64 pk),X.c (.sl false (pc.map Cd.cv)),X.c (.sl false (pa.map Pt.cv)),X.c (.str te),X.c (.sl false (ar.map Ex.cv))]] sl h/\Zm sl 1=.c KT/\Zm sl 16=.c (.sl false (ar.map Ex.cv))/\Zm sl 17=.c (.int .i64 ar.length)/\Zm sl 18=.c (.int .i64 i)/\(YJ Ex.ck ar=YJ Ex.ck (ar.drop i))) (ar.length) (by omega) ⟨Xh,by simp,by simp,by simp,by simp,by simp⟩ ?_
  rintro i sl h hi ⟨hcm,h1,h16,h17,h18,hq⟩
  simp only[Cm]at hcm;rw[hcm];rcases Zl i (ar.length) with hlt | hge
  ·have hw:IntKind.i64.wrap ((i:Int)+1)=(i:Int)+1:=ZA (by omega) (by omega)
   have hd:=Zs hlt
   have hn:=ih ar[i] (Zh hlt) (Ex.oks_mem hok.2.2.2.2.2.2.2.2.2 _ (Zh hlt))
   rw[hd,Xk]at hq;generalize hde:ar[i].ck=dd at hn hq;obtain⟨k2,f2,ms2,ra2,of2,nu2,de2,na2,wi2,mt2,st2,pk2,pc2,pa2,te2,ar2,hai⟩:=Ex.shape ar[i];rw[hai]at hn;simp only[Ex.cv_mk]at hn;simp[h1,h16,h17,h18,hn,Zn,hlt,hw,hai,Ex.cv_mk];repeat' first
    | (refine ZQ (.inr rfl) rfl rfl ?_;(rw[hdef,hq];by_cases hz:dd=0<;>simp_all))
    | ((first|refine Z8 true ?_ ?_ | refine Z9 true ?_ ?_ | refine ZT true ?_ ?_)<;>intro ht<;>simp[ht,h1,h16,h17,h18,hn,Zn,hw])
    | (refine Zw rfl (by simp[Mem.same,Ze,Zj]) ?_;simp[h1,h16,h17,h18,hn,Zn,hw])
    | exact Zu rfl rfl rfl
    | (refine⟨Zu rfl rfl rfl,?_⟩;first|rfl | (simp[*];done))
    | (refine⟨Zu rfl rfl rfl,?_⟩;rw[hq];simp_all;done)
  ·obtain rfl:i=(ar.length):=by omega
   simp[h1,h16,h17,h18];exact ZQ (.inr rfl) rfl rfl (by rw[hdef,hq];simp[YJ])
 ·rw[if_neg hz]at hdef;have hz2:(z != 0)=true:=by simpa using hz
  simp[hz2];exact ZQ (.inr rfl) rfl rfl hdef.symm
theorem c81(q:Ex):q.ok->∀ h,Zi (Zo p) h 81 [.c q.cv]=some (.c (.int .i64 q.ck),h):=by
 induction q using Ex.ind
 rename_i k f ms ra of nu de na wi mt st pt te ar ih;obtain⟨pk,pc,pa,rfl⟩:=Pt.shape pt;intro hok h;have h117:=λ h=>ZhA (p:=p) (h:=h) _ hok
 simp only[Ex.ok,ZX]at hok;refine ZB Has.h81 ?_;have hdef:Ex.ck (Ex.mk k f ms ra of nu de na wi mt st (.mk pk pc pa) te ar)=if QO (Ex.mk k f ms ra of nu de na wi mt st (.mk pk pc pa) te ar)=0 then YJ Ex.ck ar else QO (Ex.mk k f ms ra of nu de na wi mt st (.mk pk pc pa) te ar):=by rw[Ex.ck,Ex.cks_ferr]
 generalize QO (Ex.mk k f ms ra of nu de na wi mt st (.mk pk pc pa) te ar)=z at h117 hdef;simp only[Ex.cv_mk]at h117;refine⟨ar.length+1,Zk rfl ?_⟩;show W _ _ b81 _ _ _ _;simp[b81,Ex.cv_mk,h117];by_cases hz:z=0
 ·rw[if_pos hz]at hdef;have hz2:(z != 0)=false:=by simpa using hz
  simp[hz2];refine ZU (λ i sl h=>h=[Ob.cells 33 [X.c (.int .i64 k),X.c (.int .i64 f),X.c (.sl false (ms.map Mt.cv)),X.c (.int .i64 ra),X.c (.int .i64 of),X.c (.int .i64 nu),X.c (.int .i64 de),X.c (.sl false (na.map CV.str)),X.c (.bool wi),X.c (.int .i64 mt),X.c (.sl false (st.map Sg.cv)),X.c (.int .i64 pk),X.c (.sl false (pc.map Cd.cv)),X.c (.sl false (pa.map Pt.cv)),X.c (.str te),X.c (.sl false (ar.map Ex.cv))]]/\Zm sl 1=.ptr 0 0/\Zm sl 4=.c (.int .i64 i)/\(YJ Ex.ck ar=YJ Ex.ck (ar.drop i))) (ar.length) (by omega) ⟨rfl,by simp,by simp,by simp⟩ ?_
  rintro i sl h hi ⟨rfl,h1,h4,hq⟩
  rcases Zl i (ar.length) with hlt | hge
  ·have hw:IntKind.i64.wrap ((i:Int)+1)=(i:Int)+1:=ZA (by omega) (by omega)
   have hd:=Zs hlt
   have hn:=ih ar[i] (Zh hlt) (Ex.oks_mem hok.2.2.2.2.2.2.2.2.2 _ (Zh hlt))
   rw[hd,Xk]at hq;generalize hde:ar[i].ck=dd at hn hq;obtain⟨k2,f2,ms2,ra2,of2,nu2,de2,na2,wi2,mt2,st2,pk2,pc2,pa2,te2,ar2,hai⟩:=Ex.shape ar[i];rw[hai]at hn;simp only[Ex.cv_mk]at hn;simp[h1,h4,hn,Zn,hlt,hw,hai,Ex.cv_mk];repeat' first
    | (refine ZQ (.inr rfl) rfl rfl ?_;(rw[hdef,hq];by_cases hz:dd=0<;>simp_all))
    | ((first|refine Z8 true ?_ ?_ | refine Z9 true ?_ ?_ | refine ZT true ?_ ?_)<;>intro ht<;>simp[ht,h1,h4,hn,Zn,hw])
    | (refine Zw rfl (by simp[Mem.same,Ze,Zj]) ?_;simp[h1,h4,hn,Zn,hw])
    | exact Zu rfl rfl rfl
    | (refine⟨Zu rfl rfl rfl,?_⟩;first|rfl | (simp[*];done))
    | (rw[hq];simp_all;done)
  ·obtain rfl:i=(ar.length):=by omega
   simp[h1,h4];exact ZQ (.inr rfl) rfl rfl (by rw[hdef,hq];simp[YJ])
 ·rw[if_neg hz]at hdef;have hz2:(z != 0)=true:=by simpa using hz
  simp[hz2];exact ZQ (.inr rfl) rfl rfl hdef.symm
theorem c21[HasK p](q:Ex)(hq:q.ok):Zi (Zo p) h 21 [.c q.cv]=some (.c (.int .i64 q.chk),h):=by
 refine ZB Has.h21 ?_;have h1:=λ h=>c44 (p:=p) (h:=h) q hq
 have h2:=λ hd=>c45 (p:=p) q hq hd
 have h3:=c46 (p:=p) q hq
 have hds:=Ex.dep_sz q
 by_cases hs:100 < q.sz
 ·have e1:min (q.sz:Int) 101=101:=by omega
  have hc:q.chk=4:=by simp[Ex.chk,hs]
  rw[hc];rw[e1]at h1;obtain⟨k,f,ms,ra,of,nu,de,na,wi,mt,st,pk,pc,pa,te,ar,rfl⟩:=Ex.shape q;simp only[Ex.cv_mk]at h1;refine⟨1,Zk rfl ?_⟩;show W _ _ b21 _ _ _ _;simp[b21,Ex.cv_mk,h1];exact ZQ (.inr rfl) rfl rfl rfl
 ·have e1:min (q.sz:Int) 101=q.sz:=by omega
  have e2:¬ (100:Int) < q.sz:=by omega
  have h2:=h2 (by omega)
  rw[e1]at h1;have hc:q.chk=if 12 < q.dep then 30 else q.ck:=by simp[Ex.chk,hs]
  rw[hc];generalize q.sz=z at *
  generalize q.dep=y at *
  generalize q.ck=w at *
  clear hc;obtain⟨k,f,ms,ra,of,nu,de,na,wi,mt,st,pk,pc,pa,te,ar,rfl⟩:=Ex.shape q;simp only[Ex.cv_mk]at h1 h2 h3;have k46:=VR h3
  refine⟨1,Zk rfl ?_⟩;show W _ _ b21 _ _ _ _;simp[b21,Ex.cv_mk,h1,h2,h3,e2];repeat' first
   | (refine ZQ (.inr rfl) rfl rfl ?_;((try simp[WG, *])<;>first|done | omega | (simp_all;done)|(simp_all;omega)))
   | ((first|refine Z8 false ?_ ?_ | refine Z9 false ?_ ?_ | refine ZT false ?_ ?_)<;>intro ht<;>simp[ht,h1,h2,h3,k46,k30,c30])
   | (refine Zw rfl (by simp[Mem.same,Ze,Zj]) ?_;simp[h1,h2,h3,k46,k30,c30])
   | exact Zu rfl rfl rfl
   | (refine⟨Zu rfl rfl rfl,?_⟩;first|rfl | (simp[*];done))
theorem c38(q:Ex)(hq:q.ok):Zi (Zo p) h 38 [.c q.cv]=some (.c (.int .i64 q.chk),h):=by
 refine ZB Has.h38 ?_;have h1:=λ h=>c12 (p:=p) (h:=h) q hq
 have h2:=λ hd=>c80 (p:=p) q hq hd
 have h3:=c81 (p:=p) q hq
 have hds:=Ex.dep_sz q
 by_cases hs:100 < q.sz
 ·have e1:min (q.sz:Int) 101=101:=by omega
  have hc:q.chk=4:=by simp[Ex.chk,hs]
  rw[hc];rw[e1]at h1;obtain⟨k,f,ms,ra,of,nu,de,na,wi,mt,st,pk,pc,pa,te,ar,rfl⟩:=Ex.shape q;simp only[Ex.cv_mk]at h1;refine⟨1,Zk rfl ?_⟩;show W _ _ b38 _ _ _ _;simp[b38,Ex.cv_mk,h1];exact ZQ (.inr rfl) rfl rfl rfl
 ·have e1:min (q.sz:Int) 101=q.sz:=by omega
  have e2:¬ (100:Int) < q.sz:=by omega
  have h2:=h2 (by omega)
  rw[e1]at h1;have hc:q.chk=if 12 < q.dep then 30 else q.ck:=by simp[Ex.chk,hs]
  rw[hc];generalize q.sz=z at *
  generalize q.dep=y at *
  generalize q.ck=w at *
  clear hc;obtain⟨k,f,ms,ra,of,nu,de,na,wi,mt,st,pk,pc,pa,te,ar,rfl⟩:=Ex.shape q;simp only[Ex.cv_mk]at h1 h2 h3;refine⟨1,Zk rfl ?_⟩;show W _ _ b38 _ _ _ _;simp[b38,Ex.cv_mk,h1,h2,h3,e2];repeat' first
   | (refine ZQ (.inr rfl) rfl rfl ?_;((try simp[WG, *])<;>first|done | omega | (simp_all;done)|(simp_all;omega)))
   | ((first|refine Z8 false ?_ ?_ | refine Z9 false ?_ ?_ | refine ZT false ?_ ?_)<;>intro ht<;>simp[ht,h1,h2,h3])
   | (refine Zw rfl (by simp[Mem.same,Ze,Zj]) ?_;simp[h1,h2,h3])
   | exact Zu rfl rfl rfl
   | (refine⟨Zu rfl rfl rfl,?_⟩;first|rfl | (simp[*];done))
end
theorem Vo{α:Type}{f:α->Int}:∀ {l:List α},YJ f l=0->∀ x∈l,f x=0
 | y::r,h,x,hx=>by
  rw[Xk]at h;by_cases hy:f y=0
  ·rw[if_pos hy]at h;rcases List.mem_cons.1 hx with rfl | hx
   ·exact hy
   ·exact Vo h x hx
  ·rw[if_neg hy]at h;exact absurd h hy
theorem ji{k f ms ra of nu de na wi mt st pk pc pa te ar}(h:QO (.mk k f ms ra of nu de na wi mt st (.mk pk pc pa) te ar)=0):1<=k/\k<=13/\(0 < nf k->1<=f/\f<=nf k)/\uQ k f ms ra of nu de na wi mt st (Vi pk pc pa) te ar.length=false:=by
 simp only[QO]at h;split at h
 ·cases h
 ·split at h
  ·cases h
  ·split at h
   ·cases h
   ·rename_i h1 h2 h3;exact⟨by omega,by omega,λ q=>by omega,by simpa using h3⟩
theorem E5{k f ms ra of nu de na wi mt st hp te n}(h:uQ k f ms ra of nu de na wi mt st hp te n=false):(n:Int)=nA k:=by
 simp only[uQ,ZZ]at h
 simpa using h.2
theorem ck0{k f ms ra of nu de na wi mt st pk pc pa te ar}(h:Ex.ck (.mk k f ms ra of nu de na wi mt st (.mk pk pc pa) te ar)=0):(1<=k/\k<=13)/\(ar.length:Int)=nA k/\(∀ q∈ar,q.ck=0)/\QO (.mk k f ms ra of nu de na wi mt st (.mk pk pc pa) te ar)=0:=by
 rw[Ex.ck,Ex.cks_ferr]at h;by_cases hz:QO (.mk k f ms ra of nu de na wi mt st (.mk pk pc pa) te ar)=0
 ·rw[if_pos hz]at h;have:=ji hz
  exact⟨⟨this.1,this.2.1⟩,E5 this.2.2.2,Vo h,hz⟩
 ·rw[if_neg hz]at h;exact absurd h hz
theorem zI{k:Int}(h0:1<=k)(h1:k<=13){α:Type}{l:List α}(hl:(l.length:Int)=nA k):(nA k=0/\l=[])\/((k=6\/k=12)/\∃ a,l=[a])\/(k=7/\∃ a b,l=[a,b]):=by
 by_cases h6:k=6\/k=12
 ·refine .inr (.inl ⟨h6,?_⟩);have:nA k=1:=by simp[nA,h6]
  rw[this]at hl
  match l,hl with
  | [a],_=>exact⟨a,rfl⟩
  | [],h=>simp at h
  | _::_::_,h=>simp at h;omega
 ·by_cases h7:k=7
  ·refine .inr (.inr ⟨h7,?_⟩);have:nA k=2:=by simp[nA,h7]
   rw[this]at hl
   match l,hl with
   | [a,b],_=>exact⟨a,b,rfl⟩
   | [],h=>simp at h
   | [_],h=>simp at h
   | _::_::_::_,h=>simp at h;omega
  ·have:nA k=0:=by simp[nA,h6,h7]
   rw[this]at hl;refine .inl ⟨this,?_⟩
   match l,hl with
   | [],_=>rfl
   | _::_,h=>simp at h;omega
theorem zo{k f na wi mt}(h:nA k=0):Gx k f na wi mt []=Ht k:=by
 have h6:¬ k=6:=λ e=>by subst e;simp[nA]at h
 have h12:¬ k=12:=λ e=>by subst e;simp[nA]at h
 have h7:¬ k=7:=λ e=>by subst e;simp[nA]at h
 simp[Gx,h6,h12,h7]
def Ex.typ(q:Ex):Int × Int:=if q.chk ≠ 0 then(0,q.chk) else if q.ty=0 then(0,15) else(q.ty,0)
theorem KG{q:Ex}(h:q.chk=0):q.ck=0/\q.sz<=100/\q.dep<=12:=by
 simp only[Ex.chk]at h;split at h
 ·cases h
 ·split at h
  ·cases h
  ·exact⟨h,by omega,by omega⟩
end Go.Proofs.YtmckcikeefggdaaGreatDoor
namespace Go.Pi
section
variable {e:Env} {N:Nat} {s:Zf} {h:Mem} {k:List Fk} {Q:Pi.Exit->Zf->Mem->Prop}
def WL(e:Env)(N:Nat)(live:Option (List Nat))(L:Nat)(b:PCode)(n:Nat)(s:Zf)(h:Mem)(k:List Fk)(Q:Pi.Exit->Zf->Mem->Prop):Prop:=∃ r,W3 (Yn e N b) (clean live L) n ⟨s,h⟩=some r/\Re e N k Q r.1 r.2.s r.2.h
theorem Ut{live:Option (List Nat)}{b:PCode}(hw:WL e N live h.length b N s h k Q):W e N (.loop live b) s h k Q:=by
 obtain⟨⟨x,σ⟩,h1,h2⟩:=hw;exact⟨x,σ.s,σ.h,by simp only[Yn];exact h1,h2⟩
def Rn(e:Env)(N:Nat)(live:Option (List Nat))(L:Nat)(b:PCode)(n:Nat)(k:List Fk)(Q:Pi.Exit->Zf->Mem->Prop):Pi.Exit->Zf->Mem->Prop
 | .normal,s,h=>WL e N live L b n s h k Q
 | x,s,h=>Re e N k Q x s h
theorem X4{live:Option (List Nat)}{L n:Nat}{b:PCode}{s1:Zf}{h1:Mem}(hc:clean live L ⟨s,h⟩=⟨s1,h1⟩)(hw:W e N b s1 h1 [] (Rn e N live L b n k Q)):WL e N live L b (n+1) s h k Q:=by
 obtain⟨x,s',h',h2,h3⟩:=hw;have h3:Rn e N live L b n k Q x s' h':=h3
 cases x with
 | normal=>
  obtain⟨r,h4,h5⟩:=h3;exact⟨r,by simp only[W3,hc,h2];exact h4,h5⟩
 | exit i=>exact⟨(.exit i,⟨s',h'⟩),by simp only[W3,hc,h2],h3⟩
 | ret=>exact⟨(.ret,⟨s',h'⟩),by simp only[W3,hc,h2],h3⟩
@[simp] theorem OV{live:Option (List Nat)}{L n:Nat}{b:PCode}:Rn e N live L b n k Q .normal s h=WL e N live L b n s h k Q:=rfl
@[simp] theorem ZcM{live:Option (List Nat)}{L n:Nat}{b:PCode}{i:Nat}:Rn e N live L b n k Q (.exit i) s h=Re e N k Q (.exit i) s h:=rfl
@[simp] theorem ZiJ{live:Option (List Nat)}{L n:Nat}{b:PCode}:Rn e N live L b n k Q .ret s h=Re e N k Q .ret s h:=rfl
end
theorem Z6{e:Env}{N:Nat}{fn:PFn}{args:List X}{h:Mem}(P:X->Mem->Prop)(hl:args.length=fn.np)(hw:W e N fn.body (Xb 0 args) h [] (λ x s h2=>∃ z h',P z h'/\Gu fn h.length z h' x s h2)):∃ z h',P z h'/\Z5 e N fn args h=some (z,h'):=by
 obtain⟨x,s',h2,h3,z,h',hp,h4,h5⟩:=hw;have hb:Nat.beq args.length fn.np=true:=by rw[hl];exact Nat.beq_refl _
 refine⟨z,h',hp,?_⟩;simp only[Z5,hb,cond_true,h3];rcases h4 with rfl | rfl<;>exact h5
theorem Cs{p:Prg}{f:Nat}{fn:PFn}{a:CV}(P:CV->Prop)(hf:p.fn f=some (.body fn))(hr:∃ N,∃ z h',(∃ v,z=.c v/\h'=[]/\P v)/\Z5 (Zo p) N fn [.c a] []=some (z,h')):∃ v,P v/\∀ h,Zi (Zo p) h f [.c a]=some (.c v,h):=by
 obtain⟨N,z,h',⟨v,rfl,rfl,hp⟩,hr⟩:=hr;exact⟨v,hp,λ h=>ZB hf ⟨N,hr⟩⟩
end Go.Pi
namespace Go.Proofs.YtmckcikeefggdaaGreatDoor
open Go.Pi Go.Pi.S
section
variable {p:Prg} [Has p] [HasRx p] {h:Mem}
theorem c78(k f ms ra of nu de na wi mt st pk pc pa te ar)(x y:Int):Zi (Zo p) h 78 [.c (Ex.mk k f ms ra of nu de na wi mt st (.mk pk pc pa) te ar).cv,.c (.int .i64 x),.c (.int .i64 y)]=some (.c (.int .i64 (bty f na wi mt x y)),h):=by
 refine uM Has.h78 ?_;rcases na with _ | ⟨n0,nr⟩
 all_goals
  refine⟨1,Zk rfl ?_⟩;show W _ _ b78 _ _ _ _;simp[b78,Ex.cv_mk];repeat' first
   | (refine ZQ (.inr rfl) rfl rfl ?_;((try simp[bty, *])<;>first|done | omega | (simp_all;done)|(simp_all;omega)))
   | ((first|refine Z8 true ?_ ?_ | refine Z9 true ?_ ?_ | refine ZT true ?_ ?_)<;>intro ht<;>simp[ht])
   | (refine Zw rfl (by simp[Mem.same,Ze,Zj]) ?_;simp)
   | exact Zu rfl rfl rfl
   | (refine⟨Zu rfl rfl rfl,?_⟩;first|rfl | (simp[*];done))
theorem ZaQ(k f ms ra of nu de na wi mt st pk pc pa te)(hk:1<=k/\k<=13)(hn:nA k=0):Zi (Zo p) h 33 [.c (Ex.mk k f ms ra of nu de na wi mt st (.mk pk pc pa) te []).cv,.c KT]=some (.c (.int .i64 (Ht k)),h):=by
 refine Ym Has.h33 ?_;rcases WX hk.1 hk.2 with rfl | rfl | rfl | rfl | rfl | rfl | rfl | rfl | rfl | rfl | rfl | rfl | rfl
 all_goals first|(exfalso;simp[nA]at hn;done)|skip
 all_goals
  refine⟨2,Zk rfl ?_⟩;show W _ _ MN _ _ _ _;simp[MN,Ex.cv_mk];refine Ut ?_;refine X4 rfl ?_;simp[KT,Cp,Cn,Ck,Cj,Ci,Ch,Cg,Cf,Ce,qk,qj,qi,qh,findKey,We,YG,Ye];exact ZQ (.inr rfl) rfl rfl (by simp[Ht])
theorem ZaP(k f ms ra of nu de na wi mt st pk pc pa te)(a:Ex)(hk:k=6\/k=12)(ha:∀ h,Zi (Zo p) h 33 [.c a.cv,.c KT]=some (.c (.int .i64 a.ty),h)):Zi (Zo p) h 33 [.c (Ex.mk k f ms ra of nu de na wi mt st (.mk pk pc pa) te [a]).cv,.c KT]=some (.c (.int .i64 (Gx k f na wi mt [a.ty])),h):=by
 refine Ym Has.h33 ?_;generalize a.ty=y at ha;obtain⟨k2,f2,ms2,ra2,of2,nu2,de2,na2,wi2,mt2,st2,pk2,pc2,pa2,te2,ar2,rfl⟩:=Ex.shape a;simp only[Ex.cv_mk]at ha;rcases hk with rfl | rfl
 all_goals
  refine⟨3,Zk rfl ?_⟩;show W _ _ MN _ _ _ _;simp[MN,Ex.cv_mk];refine Ut ?_;refine X4 rfl ?_;simp[ha,ZH,ZO,ZP,Zn];refine X4 rfl ?_;simp;repeat' first
   | (refine ZQ (.inr rfl) rfl rfl ?_;((try simp[Gx,Ht, *])<;>first|done | omega | (simp_all;done)|(simp_all;omega)))
   | ((first|refine Z8 true ?_ ?_ | refine Z9 true ?_ ?_ | refine ZT true ?_ ?_)<;>intro ht<;>simp[ht,KT,Cp,Cn,Ck,Cj,Ci,Ch,Cg,Cf,Ce,qk,qj,qi,qh,findKey,We,YG,Ye])
   | (refine Zw rfl (by simp[Mem.same,Ze,Zj]) ?_;simp[KT,Cp,Cn,Ck,Cj,Ci,Ch,Cg,Cf,Ce,qk,qj,qi,qh,findKey,We,YG,Ye])
   | exact Zu rfl rfl rfl
   | (refine⟨Zu rfl rfl rfl,?_⟩;first|rfl | (simp[*];done))
theorem ZaO(f ms ra of nu de na wi mt st pk pc pa te)(a b:Ex)(ha:∀ h,Zi (Zo p) h 33 [.c a.cv,.c KT]=some (.c (.int .i64 a.ty),h))(hb:∀ h,Zi (Zo p) h 33 [.c b.cv,.c KT]=some (.c (.int .i64 b.ty),h)):Zi (Zo p) h 33 [.c (Ex.mk 7 f ms ra of nu de na wi mt st (.mk pk pc pa) te [a,b]).cv,.c KT]=some (.c (.int .i64 (Gx 7 f na wi mt [a.ty,b.ty])),h):=by
 have h78:=λ h=>c78 (p:=p) (h:=h) 7 f ms ra of nu de na wi mt st pk pc pa te [a,b] a.ty b.ty
 refine Ym Has.h33 ?_;generalize a.ty=y at *
 generalize b.ty=z at *
 obtain⟨k2,f2,ms2,ra2,of2,nu2,de2,na2,wi2,mt2,st2,pk2,pc2,pa2,te2,ar2,rfl⟩:=Ex.shape a;obtain⟨k3,f3,ms3,ra3,of3,nu3,de3,na3,wi3,D3,st3,pk3,pc3,pa3,te3,ar3,rfl⟩:=Ex.shape b;simp only[Ex.cv_mk,List.map_cons,List.map_nil]at ha hb h78;have k78:=X0 (vs:=[_,_,_]) h78
 simp only[List.map_cons,List.map_nil]at k78;refine⟨4,Zk rfl ?_⟩;show W _ _ MN _ _ _ _;simp[MN,Ex.cv_mk];refine Ut ?_;refine X4 rfl ?_;simp[ha,ZH,ZO,ZP,Zn];refine X4 rfl ?_;simp[hb,ZH,ZO,ZP,Zn];refine X4 rfl ?_;simp;repeat' first
  | (refine ZQ (.inr rfl) rfl rfl ?_;simp[Gx])
  | ((first|refine Z8 true ?_ ?_ | refine Z9 true ?_ ?_ | refine ZT true ?_ ?_)<;>intro ht<;>simp[ht,h78,k78])
  | (refine Zw rfl (by simp[Mem.same,Ze,Zj]) ?_;simp[h78,k78])
  | exact Zu rfl rfl rfl
  | (refine⟨Zu rfl rfl rfl,?_⟩;first|rfl | (simp[*];done))
end
section
variable {p:Prg} [Has p] [HasRx p] {h:Mem}
theorem c33(q:Ex):q.ck=0->∀ h,Zi (Zo p) h 33 [.c q.cv,.c KT]=some (.c (.int .i64 q.ty),h):=by
 induction q using Ex.ind
 rename_i k f ms ra of nu de na wi mt st pt te ar ih;obtain⟨pk,pc,pa,rfl⟩:=Pt.shape pt;intro hv h;obtain⟨⟨h0,h1⟩,hl,hr,-⟩:=ck0 hv;rcases zI h0 h1 hl with ⟨hz,rfl⟩|⟨hk,a,rfl⟩|⟨rfl,a,b,rfl⟩
 ·rw[ZaQ k f ms ra of nu de na wi mt st pk pc pa te ⟨h0,h1⟩ hz];rw[Ex.ty,WE,zo hz]
 ·rw[ZaP k f ms ra of nu de na wi mt st pk pc pa te a hk (ih a (by simp) (hr a (by simp)))]
  rw[Ex.ty,WE,WE]
 ·rw[ZaO f ms ra of nu de na wi mt st pk pc pa te a b (ih a (by simp) (hr a (by simp))) (ih b (by simp) (hr b (by simp)))]
  rw[Ex.ty,WE,WE,WE]
theorem ZaN(k f ms ra of nu de na wi mt st pk pc pa te)(hk:1<=k/\k<=13)(hn:nA k=0):Zi (Zo p) h 39 [.c (Ex.mk k f ms ra of nu de na wi mt st (.mk pk pc pa) te []).cv]=some (.c (.int .i64 (Ht k)),h):=by
 refine ZB Has.h39 ?_;rcases WX hk.1 hk.2 with rfl | rfl | rfl | rfl | rfl | rfl | rfl | rfl | rfl | rfl | rfl | rfl | rfl
 all_goals first|(exfalso;simp[nA]at hn;done)|skip
 all_goals
  refine⟨2,Zk rfl ?_⟩;show W _ _ MK _ _ _ _;simp[MK,Ex.cv_mk,ZH];refine Ut ?_;refine X4 rfl ?_;simp[YA]
  try (refine ZQ (.inr rfl) rfl rfl (by simp[Ht]))
theorem ZaM(k f ms ra of nu de na wi mt st pk pc pa te)(a:Ex)(hk:k=6\/k=12)(ha:∀ h,Zi (Zo p) h 39 [.c a.cv]=some (.c (.int .i64 a.ty),h)):Zi (Zo p) h 39 [.c (Ex.mk k f ms ra of nu de na wi mt st (.mk pk pc pa) te [a]).cv]=some (.c (.int .i64 (Gx k f na wi mt [a.ty])),h):=by
 refine ZB Has.h39 ?_;generalize a.ty=y at ha;obtain⟨k2,f2,ms2,ra2,of2,nu2,de2,na2,wi2,mt2,st2,pk2,pc2,pa2,te2,ar2,rfl⟩:=Ex.shape a;simp only[Ex.cv_mk]at ha;rcases hk with rfl | rfl
 all_goals
  refine⟨3,Zk rfl ?_⟩;show W _ _ MK _ _ _ _;simp[MK,Ex.cv_mk,ZH];refine Ut ?_;refine X4 rfl ?_;simp[ha,ZH,ZO,ZP,Zn];refine X4 rfl ?_;simp[YA];repeat' first
   | (refine ZQ (.inr rfl) rfl rfl ?_;((try simp[Gx,Ht, *])<;>first|done | omega | (simp_all;done)|(simp_all;omega)))
   | ((first|refine Z8 true ?_ ?_ | refine Z9 true ?_ ?_ | refine ZT true ?_ ?_)<;>intro ht<;>simp[ht,YA])
   | (refine Zw rfl (by simp[Mem.same,Ze,Zj]) ?_;simp[YA])
   | exact Zu rfl rfl rfl
   | (refine⟨Zu rfl rfl rfl,?_⟩;first|rfl | (simp[*];done))
theorem ZaL(f ms ra of nu de na wi mt st pk pc pa te)(a b:Ex)(ha:∀ h,Zi (Zo p) h 39 [.c a.cv]=some (.c (.int .i64 a.ty),h))(hb:∀ h,Zi (Zo p) h 39 [.c b.cv]=some (.c (.int .i64 b.ty),h)):Zi (Zo p) h 39 [.c (Ex.mk 7 f ms ra of nu de na wi mt st (.mk pk pc pa) te [a,b]).cv]=some (.c (.int .i64 (Gx 7 f na wi mt [a.ty,b.ty])),h):=by
 refine ZB Has.h39 ?_;generalize a.ty=y at *
 generalize b.ty=z at *
 obtain⟨k2,f2,ms2,ra2,of2,nu2,de2,na2,wi2,mt2,st2,pk2,pc2,pa2,te2,ar2,rfl⟩:=Ex.shape a;obtain⟨k3,f3,ms3,ra3,of3,nu3,de3,na3,wi3,D3,st3,pk3,pc3,pa3,te3,ar3,rfl⟩:=Ex.shape b;simp only[Ex.cv_mk,List.map_cons,List.map_nil]at ha hb;rcases na with _ | ⟨n0,nr⟩
 all_goals
  refine⟨4,Zk rfl ?_⟩;show W _ _ MK _ _ _ _;simp[MK,Ex.cv_mk,ZH];refine Ut ?_;refine X4 rfl ?_;simp[ha,ZH,ZO,ZP,Zn];refine X4 rfl ?_;simp[hb,ZH,ZO,ZP,Zn];refine X4 rfl ?_;simp[YA];repeat' first
   | (refine ZQ (.inr rfl) rfl rfl ?_;((try simp[Gx,bty, *])<;>first|done | omega | (simp_all;done)|(simp_all;omega)))
   | ((first|refine Z8 true ?_ ?_ | refine Z9 true ?_ ?_ | refine ZT true ?_ ?_)<;>intro ht<;>simp[ht,YA])
   | (refine Zw rfl (by simp[Mem.same,Ze,Zj]) ?_;simp[YA])
   | exact Zu rfl rfl rfl
   | (refine⟨Zu rfl rfl rfl,?_⟩;first|rfl | (simp[*];done))
theorem c39(q:Ex):q.ck=0->∀ h,Zi (Zo p) h 39 [.c q.cv]=some (.c (.int .i64 q.ty),h):=by
 induction q using Ex.ind
 rename_i k f ms ra of nu de na wi mt st pt te ar ih;obtain⟨pk,pc,pa,rfl⟩:=Pt.shape pt;intro hv h;obtain⟨⟨h0,h1⟩,hl,hr,-⟩:=ck0 hv;rcases zI h0 h1 hl with ⟨hz,rfl⟩|⟨hk,a,rfl⟩|⟨rfl,a,b,rfl⟩
 ·rw[ZaN k f ms ra of nu de na wi mt st pk pc pa te ⟨h0,h1⟩ hz];rw[Ex.ty,WE,zo hz]
 ·rw[ZaM k f ms ra of nu de na wi mt st pk pc pa te a hk (ih a (by simp) (hr a (by simp)))]
  rw[Ex.ty,WE,WE]
 ·rw[ZaL f ms ra of nu de na wi mt st pk pc pa te a b (ih a (by simp) (hr a (by simp))) (ih b (by simp) (hr b (by simp)))]
  rw[Ex.ty,WE,WE,WE]
theorem c16[HasK p](q:Ex)(hq:q.ok):Zi (Zo p) h 16 [.c q.cv]=some (.c (.tup [.int .i64 q.typ.1,.int .i64 q.typ.2]),h):=by
 refine ZB Has.h16 ?_;have h1:=λ h=>c21 (p:=p) (h:=h) q hq
 have h2:=λ hv=>c33 (p:=p) q hv
 by_cases hc:q.chk=0
 ·have h2:=h2 (KG hc).1
  rw[hc]at h1;by_cases ht:q.ty=0
  ·have hd:q.typ=(0,15):=by simp[Ex.typ,hc,ht]
   rw[hd];rw[ht]at h2;obtain⟨k,f,ms,ra,of,nu,de,na,wi,mt,st,pk,pc,pa,te,ar,rfl⟩:=Ex.shape q;simp only[Ex.cv_mk]at h1 h2;have k33:=VR h2
   refine⟨1,Zk rfl ?_⟩;show W _ _ NC _ _ _ _;simp[NC,Ex.cv_mk,h1,h2];refine Zw rfl (Yg _ _) ?_;simp[k30,c30,h2,k33];exact Xv (.inr rfl) rfl rfl rfl rfl rfl
  ·have hd:q.typ=(q.ty,0):=by simp[Ex.typ,hc,ht]
   rw[hd];generalize q.ty=y at *
   have hb:(y==0)=false:=by simpa using ht
   obtain⟨k,f,ms,ra,of,nu,de,na,wi,mt,st,pk,pc,pa,te,ar,rfl⟩:=Ex.shape q;simp only[Ex.cv_mk]at h1 h2;have k33:=VR h2
   refine⟨1,Zk rfl ?_⟩;show W _ _ NC _ _ _ _;simp[NC,Ex.cv_mk,h1,h2];refine Zw rfl (Yg _ _) ?_;simp[k30,c30,h2,k33,hb];exact Xv (.inr rfl) rfl rfl rfl rfl rfl
 ·have hd:q.typ=(0,q.chk):=by simp[Ex.typ,hc]
  rw[hd];generalize q.chk=y at *
  have hb:(y != 0)=true:=by simpa using hc
  obtain⟨k,f,ms,ra,of,nu,de,na,wi,mt,st,pk,pc,pa,te,ar,rfl⟩:=Ex.shape q;simp only[Ex.cv_mk]at h1;refine⟨1,Zk rfl ?_⟩;show W _ _ NC _ _ _ _;simp[NC,Ex.cv_mk,h1,hb];exact Xv (.inr rfl) rfl rfl rfl rfl rfl
theorem c18(q:Ex)(hq:q.ok):Zi (Zo p) h 18 [.c q.cv]=some (.c (.tup [.int .i64 q.typ.1,.int .i64 q.typ.2]),h):=by
 refine ZB Has.h18 ?_;have h1:=λ h=>c38 (p:=p) (h:=h) q hq
 have h2:=λ hv=>c39 (p:=p) q hv
 by_cases hc:q.chk=0
 ·have h2:=h2 (KG hc).1
  rw[hc]at h1;by_cases ht:q.ty=0
  ·have hd:q.typ=(0,15):=by simp[Ex.typ,hc,ht]
   rw[hd];rw[ht]at h2;obtain⟨k,f,ms,ra,of,nu,de,na,wi,mt,st,pk,pc,pa,te,ar,rfl⟩:=Ex.shape q;simp only[Ex.cv_mk]at h1 h2;refine⟨1,Zk rfl ?_⟩;show W _ _ Nq _ _ _ _;simp[Nq,Ex.cv_mk,h1,h2];exact Xv (.inr rfl) rfl rfl rfl rfl rfl
  ·have hd:q.typ=(q.ty,0):=by simp[Ex.typ,hc,ht]
   rw[hd];generalize q.ty=y at *
   have hb:(y==0)=false:=by simpa using ht
   obtain⟨k,f,ms,ra,of,nu,de,na,wi,mt,st,pk,pc,pa,te,ar,rfl⟩:=Ex.shape q;simp only[Ex.cv_mk]at h1 h2;refine⟨1,Zk rfl ?_⟩;show W _ _ Nq _ _ _ _;simp[Nq,Ex.cv_mk,h1,h2,hb];exact Xv (.inr rfl) rfl rfl rfl rfl rfl
 ·have hd:q.typ=(0,q.chk):=by simp[Ex.typ,hc]
  rw[hd];generalize q.chk=y at *
  have hb:(y != 0)=true:=by simpa using hc
  obtain⟨k,f,ms,ra,of,nu,de,na,wi,mt,st,pk,pc,pa,te,ar,rfl⟩:=Ex.shape q;simp only[Ex.cv_mk]at h1;refine⟨1,Zk rfl ?_⟩;show W _ _ Nq _ _ _ _;simp[Nq,Ex.cv_mk,h1,hb];exact Xv (.inr rfl) rfl rfl rfl rfl rfl
end
section
variable {p:Prg} [Has p] {h:Mem}
theorem yX(b:UInt8)(n:Nat)(hn:n < 256):((b.toNat:Int)==(n:Int))=decide (b=UInt8.ofNat n):=by
 rw[Bool.eq_iff_iff,beq_iff_eq,decide_eq_true_iff,<- UInt8.toNat_inj];have:(UInt8.ofNat n).toNat=n:=by simp[UInt8.toNat_ofNat'];omega
 rw[this];omega
theorem MA(c:UInt8):((c.toNat:Int)==10)=decide (c=10):=yX c 10 (by omega)
theorem FG(c:UInt8):((c.toNat:Int)==34)=decide (c=34):=yX c 34 (by omega)
theorem jq(c:UInt8):((c.toNat:Int)==40)=decide (c=40):=yX c 40 (by omega)
theorem vU(c:UInt8):((c.toNat:Int)==41)=decide (c=41):=yX c 41 (by omega)
theorem MC(c:UInt8):((c.toNat:Int) != 41)=!decide (c=41):=by rw[bne,vU]
theorem wb(c:UInt8):((c.toNat:Int)==42)=decide (c=42):=yX c 42 (by omega)
theorem yZ(c:UInt8):((c.toNat:Int)==43)=decide (c=43):=yX c 43 (by omega)
theorem FF(c:UInt8):((c.toNat:Int)==45)=decide (c=45):=yX c 45 (by omega)
theorem vT(c:UInt8):((c.toNat:Int)==46)=decide (c=46):=yX c 46 (by omega)
theorem vS(c:UInt8):((c.toNat:Int)==63)=decide (c=63):=yX c 63 (by omega)
theorem jp(c:UInt8):((c.toNat:Int)==91)=decide (c=91):=yX c 91 (by omega)
theorem Gc(c:UInt8):((c.toNat:Int)==92)=decide (c=92):=yX c 92 (by omega)
theorem FI(c:UInt8):((c.toNat:Int) != 92)=!decide (c=92):=by rw[bne,Gc]
theorem yY(c:UInt8):((c.toNat:Int)==93)=decide (c=93):=yX c 93 (by omega)
theorem y6(c:UInt8):((c.toNat:Int) != 93)=!decide (c=93):=by rw[bne,yY]
theorem Ay(c:UInt8):((c.toNat:Int)==94)=decide (c=94):=yX c 94 (by omega)
theorem Dj(c:UInt8):((c.toNat:Int)==95)=decide (c=95):=yX c 95 (by omega)
theorem u0(c:UInt8):((c.toNat:Int)==100)=decide (c=100):=yX c 100 (by omega)
theorem HF(c:UInt8):((c.toNat:Int) != 100)=!decide (c=100):=by rw[bne,u0]
theorem Dl(c:UInt8):((c.toNat:Int)==110)=decide (c=110):=yX c 110 (by omega)
theorem Dk(c:UInt8):((c.toNat:Int)==116)=decide (c=116):=yX c 116 (by omega)
theorem jr(c:UInt8):((c.toNat:Int)==119)=decide (c=119):=yX c 119 (by omega)
theorem HE(c:UInt8):((c.toNat:Int) != 119)=!decide (c=119):=by rw[bne,jr]
theorem K2(c:UInt8):((c.toNat:Int)==124)=decide (c=124):=yX c 124 (by omega)
theorem FC(c:UInt8):Zi (Zo p) h 254 [.c (Zt c)]=some (.c (.bool (decide (48<=c.toNat)&&decide (c.toNat<=57))),h):=by
 refine ZB Has.h254 ?_;refine⟨1,Zk rfl ?_⟩;show W _ _ MQ _ _ _ _;simp[MQ,Zt];repeat' first
  | (refine Y0 (.inr rfl) rfl rfl ?_;rw[Bool.eq_iff_iff];simp;omega)
  | ((first|refine Z8 false ?_ ?_ | refine Z9 false ?_ ?_ | refine ZT false ?_ ?_)<;>intro ht<;>simp[ht])
  | (refine Zw rfl (by simp[Mem.same,Ze,Zj]) ?_;simp)
  | exact Zu rfl rfl rfl
  | (refine⟨Zu rfl rfl rfl,?_⟩;first|rfl | (simp[*];done))
theorem Mn(c:UInt8):Zi (Zo p) h 256 [.c (Zt c)]=some (.c (.bool ((decide (97<=c.toNat)&&decide (c.toNat<=122))||(decide (65<=c.toNat)&&decide (c.toNat<=90)))),h):=by
 refine ZB Has.h256 ?_;refine⟨1,Zk rfl ?_⟩;show W _ _ MO _ _ _ _;simp[MO,Zt];repeat' first
  | (refine Y0 (.inr rfl) rfl rfl ?_;rw[Bool.eq_iff_iff];simp;omega)
  | ((first|refine Z8 false ?_ ?_ | refine Z9 false ?_ ?_ | refine ZT false ?_ ?_)<;>intro ht<;>simp[ht])
  | (refine Zw rfl (by simp[Mem.same,Ze,Zj]) ?_;simp)
  | exact Zu rfl rfl rfl
  | (refine⟨Zu rfl rfl rfl,?_⟩;first|rfl | (simp[*];done))
theorem ZaV(c:UInt8):Zi (Zo p) h 243 [.c (Zt c)]=some (.c (.bool (Ka c)),h):=by
 refine ZB Has.h243 ?_;refine⟨1,Zk rfl ?_⟩;show W _ _ MW _ _ _ _;simp[MW,Zt];repeat' first
  | (refine Y0 (.inr rfl) rfl rfl ?_;rw[Bool.eq_iff_iff];simp[Ka];omega)
  | ((first|refine Z8 false ?_ ?_ | refine Z9 false ?_ ?_ | refine ZT false ?_ ?_)<;>intro ht<;>simp[ht])
  | (refine Zw rfl (by simp[Mem.same,Ze,Zj]) ?_;simp)
  | exact Zu rfl rfl rfl
  | (refine⟨Zu rfl rfl rfl,?_⟩;first|rfl | (simp[*];done))
theorem ZaW(c:UInt8):∃ d,(∀ x,XS c=some x->d=x)/\∀ h,Zi (Zo p) h 242 [.c (Zt c)]=some (.c (.tup [Zt d,.bool (XS c).isSome]),h):=by
 by_cases h1:c=110
 ·subst h1;refine⟨10,λ x hx=>by simp[XS]at hx;exact hx,λ h=>ZB Has.h242 ?_⟩
  refine⟨1,Zk rfl ?_⟩;show W _ _ v7 _ _ _ _;simp[v7,Zt];exact Xv (.inr rfl) rfl rfl rfl rfl rfl
 by_cases h2:c=116
 ·subst h2;refine⟨9,λ x hx=>by simp[XS]at hx;exact hx,λ h=>ZB Has.h242 ?_⟩
  refine⟨1,Zk rfl ?_⟩;show W _ _ v7 _ _ _ _;simp[v7,Zt];exact Xv (.inr rfl) rfl rfl rfl rfl rfl
 ·have hn:=λ h=>ZaV (p:=p) (h:=h) c
  have hs:(XS c).isSome=!Ka c:=by simp[XS,h1,h2];cases Ka c<;>simp
  refine⟨c,λ x hx=>by simp[XS,h1,h2]at hx;exact hx.2,λ h=>ZB Has.h242 ?_⟩
  rw[hs];simp only[Zt]at hn ⊢;refine⟨1,Zk rfl ?_⟩;show W _ _ v7 _ _ _ _;simp[v7,Dl,Dk,h1,h2,hn];exact Xv (.inr rfl) rfl rfl rfl rfl rfl
theorem ZgC(c:UInt8):Zi (Zo p) h 237 [.c (Zt c)]=some (.c (.bool (Ws c)),h):=by
 refine ZB Has.h237 ?_;refine⟨1,Zk rfl ?_⟩;show W _ _ MZ _ _ _ _;simp[MZ,Zt,vT,jp,yY,jq,vU,K2,wb,yZ,vS,Gc];repeat' first
  | (refine Y0 (.inr rfl) rfl rfl ?_;((try simp[Ws, *])<;>first|done | omega | (simp_all;done)|(simp_all;omega)))
  | ((first|refine Z8 false ?_ ?_ | refine Z9 false ?_ ?_ | refine ZT false ?_ ?_)<;>intro ht<;>simp[ht,vT,jp,yY,jq,vU,K2,wb,yZ,vS,Gc])
  | (refine Zw rfl (by simp[Mem.same,Ze,Zj]) ?_;simp[vT,jp,yY,jq,vU,K2,wb,yZ,vS,Gc])
  | exact Zu rfl rfl rfl
  | (refine⟨Zu rfl rfl rfl,?_⟩;first|rfl | (simp[*];done))
class HasPr(p:Prg):Prop where
 h199:p.fn 199=some (.prim yq)
def we:By:=[46,91,93,40,41,124,42,43,63,92]
theorem wK(b:Nat):∀ (l:List UInt8) (i:Nat),0<=Qm b l i↔∃ x∈l,x.toNat=b % 256
 | [],i=>by
  have:Qm b [] i=-1:=rfl
  rw[this];simp
 | x::l,i=>by
  have h:Qm b (x::l) i=(Bool.rec (motive:=λ _=>Int) (Qm b l (i+1)) (.ofNat i) (Nat.beq x.toNat (Nat.mod b 256))):=rfl
  rw[h];have ih:=wK b l (i+1)
  cases hb:Nat.beq x.toNat (Nat.mod b 256) with
  | true=>
   have:=Zd hb
   exact⟨λ _=>⟨x,by simp,this⟩,λ _=>Int.natCast_nonneg i⟩
  | false=>
   have hne:¬ x.toNat=b % 256:=λ e=>by
    have:Nat.beq x.toNat (Nat.mod b 256)=true:=by rw[Nat.beq_eq];exact e
    rw[this]at hb;cases hb
   rw[ih];constructor
   ·rintro⟨y,hy,e⟩;exact⟨y,Zq _ hy,e⟩
   ·rintro⟨y,hy,e⟩
    rcases List.mem_cons.1 hy with rfl | hy
    ·exact absurd e hne
    ·exact⟨y,hy,e⟩
theorem ZgU[HasPr p](c:UInt8):∃ i:Int,(0<=i↔Ws c=true)/\∀ h,Zi (Zo p) h 199 [.c (.str we),.c (Zt c)]=some (.c (.int .i64 i),h):=by
 refine⟨Qm c.toNat we 0,?_,λ h=>Ar (wG HasPr.h199 rfl)⟩
 rw[wK];have hc:c.toNat % 256=c.toNat:=Nat.mod_eq_of_lt c.toNat_lt
 rw[hc];have hx:∀ x:UInt8,x.toNat=c.toNat↔c=x:=λ x=>⟨λ e=>(UInt8.toNat_inj.1 e).symm,λ e=>by rw[e]⟩
 simp only[hx,we,Ws];simp only[List.mem_cons,List.not_mem_nil,or_false,exists_eq_or_imp,exists_eq_left,Bool.or_eq_true,decide_eq_true_eq,or_assoc]
theorem Zhd[HasPr p](c:UInt8):∃ i:Int,(0<=i↔Ws c=true)/\∀ h,Zi (Zo p) h 175 [.c (.str we),.c (Zt c)]=some (.c (.int .i64 i),h):=by
 obtain⟨i,hi,hn⟩:=ZgU (p:=p) c;refine⟨i,hi,λ h=>Ym Has.h175 ?_⟩
 refine⟨1,Zk rfl ?_⟩;show W _ _ Nr _ _ _ _;simp[Nr,hn];exact ZQ (.inr rfl) rfl rfl rfl
theorem Zgy[HasPr p](c:UInt8):∃ i:Int,(0<=i↔Ws c=true)/\∀ h,Zi (Zo p) h 249 [.c (.str we),.c (Zt c)]=some (.c (.int .i64 i),h):=by
 obtain⟨i,hi,hn⟩:=Zhd (p:=p) c;refine⟨i,hi,λ h=>Ym Has.h249 ?_⟩
 refine⟨1,Zk rfl ?_⟩;show W _ _ MT _ _ _ _;simp[MT,hn];exact ZQ (.inr rfl) rfl rfl rfl
def Y4(s:By)(i:Nat):Ob:=.cells 258 [.c (.str s),.c (.int .i64 i)]
theorem CW{e:Env}{f:Nat}{z:CV}{s:By}{i j:Nat}{rest:Mem}(hc:e.call f [.ptr 0 0] [Y4 s i]=some (.c z,[Y4 s j])):Zi e (Y4 s i::rest) f [.ptr 0 0]=some (.c z,Y4 s j::rest):=
 vH (id:=0) rfl rfl (λ ρ=>rfl) (λ ρ=>rfl) hc
theorem wV{e:Env}{f:Nat}{x z:CV}{s:By}{i j:Nat}{rest:Mem}(hc:e.call f [.ptr 0 0,.c x] [Y4 s i]=some (.c z,[Y4 s j])):Zi e (Y4 s i::rest) f [.ptr 0 0,.c x]=some (.c z,Y4 s j::rest):=
 jg (id:=0) rfl rfl (λ ρ=>rfl) (λ ρ=>rfl) hc
def PC(p:Prg)(f:Nat)(s:By)(i:Nat)(z:CV)(j:Nat):Prop:=∀ rest,Zi (Zo p) (.cells 258 [.c (.str s),.c (.int .i64 i)]::rest) f [.ptr 0 0]=some (.c z,.cells 258 [.c (.str s),.c (.int .i64 j)]::rest)
theorem YP{f:Nat}{fn:PFn}{s:By}{i j:Nat}{z:CV}(hf:p.fn f=some (.body fn))(hr:∃ N,Z5 (Zo p) N fn [.ptr 0 0] [Y4 s i]=some (.c z,[Y4 s j])):PC p f s i z j:=by
 obtain⟨N,hr⟩:=hr;exact λ rest=>CW (Z4 hf hr)
theorem Yu{fn:PFn}{r q:Nat}{u v:CV}{x:Pi.Exit}{sl:Zf}{s:By}{j:Nat}{rest:Mem}(hx:x=.normal\/x=.ret)(hr:fn.res=[.t r,.t q])(hs:Zm sl r=.c u)(ht:Zm sl q=.c v)(hu:u.wk=u)(hv:v.wk=v):Gu fn 1 (.c (.tup [u,v])) [Y4 s j] x sl (Y4 s j::rest):=by
 refine⟨hx,?_⟩;have h1:X.wk (.c u)=.c u:=by simp[X.wk,hu]
 have h2:X.wk (.c v)=.c v:=by simp[X.wk,hv]
 have h3:Ob.lt 1 (Y4 s j)=true:=rfl
 cases hk:fn.keep<;>simp[ZD,Pi.results,hr,hs,ht,h1,h2,hu,hv,hk,ZL,h3,X.ids.idsL,X.ids,ZM,oneOf,Yl,closedL]
theorem uZ(s:By)(i:Nat)(hi:i=s.length):PC p 235 s i (.tup [.int .u8 0,.bool false]) i:=by
 refine YP Has.h235 ?_;have hb:((i:Int)==(s.length:Int))=true:=by simp[hi]
 refine⟨1,Zk rfl ?_⟩;show W _ _ Dt _ _ _ _;simp[Dt,Y4];refine Zw rfl (Yg _ _) ?_;simp[hb];exact Yu (.inr rfl) rfl rfl rfl rfl rfl
theorem Ax(s:By)(i:Nat)(hi:i < s.length):PC p 235 s i (.tup [Zt s[i],.bool true]) i:=by
 refine YP Has.h235 ?_;have hb:((i:Int)==(s.length:Int))=false:=by simp;omega
 have hx:s[i]?=some s[i]:=Zb hi
 refine⟨1,Zk rfl ?_⟩;show W _ _ Dt _ _ _ _;simp[Dt,Y4];refine Zw rfl (Yg _ _) ?_;simp[hb];refine Zw rfl (Yg _ _) ?_;simp[hx];exact Yu (.inr rfl) rfl rfl rfl rfl rfl
theorem KC{fn:PFn}{r:Nat}{u:CV}{x:Pi.Exit}{sl:Zf}{s:By}{j:Nat}{rest:Mem}(hx:x=.normal\/x=.ret)(hr:fn.res=[.t r])(hs:Zm sl r=.c u)(hu:u.wk=u):Gu fn 1 (.c u) [Y4 s j] x sl (Y4 s j::rest):=by
 refine⟨hx,?_⟩;have h1:X.wk (.c u)=.c u:=by simp[X.wk,hu]
 have h3:Ob.lt 1 (Y4 s j)=true:=rfl
 cases hk:fn.keep<;>simp[ZD,Pi.results,hr,hs,h1,hu,hk,ZL,h3,X.ids.idsL,X.ids,ZM,oneOf]
theorem jo(s:By)(i:Nat)(b:UInt8)(hb:s[i]? ≠ some b)(hi:i<=s.length):∀ rest,Zi (Zo p) (.cells 258 [.c (.str s),.c (.int .i64 i)]::rest) 231 [.ptr 0 0,.c (Zt b)]=some (.c (.bool false),.cells 258 [.c (.str s),.c (.int .i64 i)]::rest):=by
 have hr:∃ N,Z5 (Zo p) N CM [.ptr 0 0,.c (Zt b)] [Y4 s i]=some (.c (.bool false),[Y4 s i]):=by
  rcases Zl i s.length with hlt | hge
  ·have he:((i:Int)==(s.length:Int))=false:=by simp;omega
   have hx:s[i]?=some s[i]:=Zb hlt
   have hne:¬ s[i]=b:=λ q=>hb (by rw[hx,q])
   have hn:((s[i].toNat:Int) != (b.toNat:Int))=true:=by
    have:s[i].toNat ≠ b.toNat:=λ q=>hne (UInt8.toNat_inj.1 q)
    simp;omega
   refine⟨1,Zk rfl ?_⟩;show W _ _ v8 _ _ _ _;simp[v8,Y4,Zt];refine Zw rfl (Yg _ _) ?_;simp[he,hx,Zt,hn];exact KC (.inr rfl) rfl rfl rfl
  ·have he:((i:Int)==(s.length:Int))=true:=by simp;omega
   refine⟨1,Zk rfl ?_⟩;show W _ _ v8 _ _ _ _;simp[v8,Y4,Zt];refine Zw rfl (Yg _ _) ?_;simp[he];exact KC (.inr rfl) rfl rfl rfl
 obtain⟨N,hr⟩:=hr;exact λ rest=>wV (Z4 Has.h231 hr)
theorem K1(s:By)(i:Nat)(b:UInt8)(hb:s[i]?=some b)(hs:s.length<=200):∀ rest,Zi (Zo p) (.cells 258 [.c (.str s),.c (.int .i64 i)]::rest) 231 [.ptr 0 0,.c (Zt b)]=some (.c (.bool true),.cells 258 [.c (.str s),.c (.int .i64 (i+1:Nat))]::rest):=by
 have hlt:=(Za.1 hb).1
 have hr:∃ N,Z5 (Zo p) N CM [.ptr 0 0,.c (Zt b)] [Y4 s i]=some (.c (.bool true),[Y4 s (i+1)]):=by
  have he:((i:Int)==(s.length:Int))=false:=by simp;omega
  have hw:IntKind.i64.wrap ((i:Int)+1)=(i:Int)+1:=ZA (by omega) (by omega)
  refine⟨1,Zk rfl ?_⟩;show W _ _ v8 _ _ _ _;simp[v8,Y4,Zt];refine Zw rfl (Yg _ _) ?_;simp[he,hb,Zt,Zn,hw];exact KC (.inr rfl) rfl rfl rfl
 obtain⟨N,hr⟩:=hr;exact λ rest=>wV (Z4 Has.h231 hr)
theorem ZaS(c:UInt8):Zi (Zo p) h 250 [.c (Zt c)]=some (.c (.rptr [.int .i64 0,.bool true,Zt c,.nilptr,.sl false []]),h):=by
 refine ZB Has.h250 ?_;refine⟨1,Zk rfl ?_⟩;show W _ _ MS _ _ _ _;simp[MS,ZH,Zt];exact⟨.inr rfl,by simp[E7,ZD,Pi.results,ZL,ZM,oneOf,X.ids.idsL,X.ids,frz.frzL,frz]⟩
theorem Zgz(c:UInt8):Zi (Zo p) h 247 [.c (Zt c)]=some (.c (.bool true),h):=by
 refine ZB Has.h247 ?_;refine⟨1,Zk rfl ?_⟩;show W _ _ MU _ _ _ _;simp[MU];exact Y0 (.inr rfl) rfl rfl rfl
theorem Zgv(c:UInt8):∃ b:Bool,∀ h,Zi (Zo p) h 255 [.c (Zt c)]=some (.c (.bool b),h):=by
 have h1:=λ h=>Mn (p:=p) (h:=h) c
 have h2:=λ h=>FC (p:=p) (h:=h) c
 generalize ((decide (97<=c.toNat)&&decide (c.toNat<=122))||(decide (65<=c.toNat)&&decide (c.toNat<=90)))=b1 at h1
 generalize (decide (48<=c.toNat)&&decide (c.toNat<=57))=b2 at h2;refine⟨b1||b2||decide (c=95),λ h=>ZB Has.h255 ?_⟩
 simp only[Zt]at h1 h2 ⊢;refine⟨1,Zk rfl ?_⟩;show W _ _ MP _ _ _ _;simp[MP,h1];repeat' first
  | (refine Y0 (.inr rfl) rfl rfl ?_;((try simp[Dj, *])<;>first|done | omega | (simp_all;done)|(simp_all;omega)))
  | ((first|refine Z8 false ?_ ?_ | refine Z9 false ?_ ?_ | refine ZT false ?_ ?_)<;>intro ht<;>simp[ht,h1,h2,Dj])
  | (refine Zw rfl (by simp[Mem.same,Ze,Zj]) ?_;simp[h1,h2,Dj])
  | exact Zu rfl rfl rfl
  | (refine⟨Zu rfl rfl rfl,?_⟩;first|rfl | (simp[*];done))
theorem Jv(h:Mem)(m n:Nat):∀ L:List Bool,frz.frzL h m (n+1) (L.map λ b=>X.c (CV.bool b))=some (L.map CV.bool)
 | []=>by simp[frz.frzL]
 | b::r=>by simp[frz.frzL,frz,Jv h m n r]
theorem Mo(F:Nat)(B:UInt8->Bool)(hF:∀ c h,Zi (Zo p) h F [.c (Zt c)]=some (.c (.bool (B c)),h)):∃ v,(∃ L:List Bool,L.length=256/\v=.rptr (L.map CV.bool))/\∀ h,Zi (Zo p) h 246 [.c (.func F [])]=some (.c v,h):=by
 refine Cs _ Has.h246 ⟨257,Z6 _ rfl ?_⟩;show W _ _ Dr _ _ _ _;simp[Dr];refine ZU (λ i sl h=>(∃ L:List Bool,L.length=256/\h=[.cells 281 (L.map λ b=>X.c (.bool b))])/\Zm sl 0=.c (.func F [])/\Zm sl 3=.ptr 0 0/\Zm sl 5=.c (.int .i64 i)) 256 (by omega) ⟨⟨List.replicate 256 false,by simp,by simp[YX]⟩,by simp,by simp,by simp⟩ ?_
 rintro i sl h hi ⟨⟨L,hL,rfl⟩,h0,h3,h5⟩
 rcases Zl i 256 with hlt | hge
 ·have hw:IntKind.i64.wrap ((i:Int)+1)=(i:Int)+1:=ZA (by omega) (by omega)
  obtain⟨c,hu⟩:∃ c:UInt8,IntKind.u8.wrap (i:Int)=(c.toNat:Int):=⟨UInt8.ofNat i,by simp[IntKind.wrap,IntKind.bits,IntKind.signed,UInt8.toNat_ofNat']⟩
  have hc:=hF c
  simp only[Zt]at hc;have hlt':(i:Int) < 256:=by omega
  have hle:i<=255:=by omega
  have hset:(L.map λ b=>X.c (CV.bool b)).set i (X.c (CV.bool (B c)))=(L.set i (B c)).map λ b=>X.c (CV.bool b):=by simp[List.map_set]
  simp[h0,h3,h5,hlt,hlt',hle,hw,hu,hc,Zn,hL];exact⟨L.set i (B c),by simp[hL],by simp[List.map_set]⟩
 ·obtain rfl:i=256:=by omega
  simp[h0,h3,h5];refine⟨.c (.rptr (L.map CV.bool)),[],⟨_,rfl,rfl,L,hL,rfl⟩,.inr rfl,?_⟩;have hz:=Jv [Ob.cells 281 (List.map (λ b=>X.c (CV.bool b)) L)] 0 48 L
  simp[Al,ZD,Pi.results,ZL,ZM,oneOf,X.ids.idsL,X.ids,frz.frzL,frz,ZN,hz]
end
section
variable {p:Prg} [Has p] {h:Mem}
def jX(x:UInt8):CV:=.rptr [.int .i64 0,.bool true,.int .u8 x.toNat,.nilptr,.sl false []]
theorem HB(s:By)(i:Nat)(hi:i=s.length):PC p 248 s i (.tup [.nilptr,.bool false]) i:=by
 have h235:=uZ (p:=p) s i hi
 simp only[PC]at h235;refine YP Has.h248 ?_;refine⟨1,Zk rfl ?_⟩;show W _ _ JA _ _ _ _;simp[JA,Y4,h235];exact Yu (.inr rfl) rfl rfl rfl rfl rfl
theorem Hz(s:By)(i:Nat)(hi:i < s.length)(hs:s.length<=200)(x:UInt8)(hne:s[i] ≠ 100/\s[i] ≠ 119)(hx:XS s[i]=some x):PC p 248 s i (.tup [jX x,.bool true]) (i+1):=by
 have h235:=Ax (p:=p) s i hi
 have h250:=λ c h=>ZaS (p:=p) (h:=h) c
 simp only[PC,Zt]at h235 h250;have hw:IntKind.i64.wrap ((i:Int)+1)=(i:Int)+1:=ZA (by omega) (by omega)
 generalize hc:s[i]=c at *
 refine YP Has.h248 ?_;by_cases h1:c=110
 ·subst h1;have:x=10:=by simp[XS]at hx;exact hx.symm
  subst this;have h250:=h250 10
  simp at h250;refine⟨1,Zk rfl ?_⟩;show W _ _ JA _ _ _ _;simp[JA,Y4,h235,Zn,hw,h250];exact Yu (.inr rfl) rfl rfl rfl rfl rfl
 by_cases h2:c=116
 ·subst h2;have:x=9:=by simp[XS]at hx;exact hx.symm
  subst this;have h250:=h250 9
  simp at h250;refine⟨1,Zk rfl ?_⟩;show W _ _ JA _ _ _ _;simp[JA,Y4,h235,Zn,hw,h250];exact Yu (.inr rfl) rfl rfl rfl rfl rfl
 ·have hx2:Ka c=false/\c=x:=by simpa [XS,h1,h2] using hx
  obtain⟨ha,rfl⟩:=hx2;have h256:=λ h=>Mn (p:=p) (h:=h) c
  have h254:=λ h=>FC (p:=p) (h:=h) c
  simp only[Zt]at h256 h254;simp only[Ka,ZZ]at ha;have ha1:((decide (97<=c.toNat)&&decide (c.toNat<=122))||(decide (65<=c.toNat)&&decide (c.toNat<=90)))=false:=by rw[ZZ];exact ha.1
  rw[ha1]at h256;rw[ha.2]at h254;have h3:=hne.1
  have h4:=hne.2
  clear ha ha1 hx hne;refine⟨1,Zk rfl ?_⟩;show W _ _ JA _ _ _ _;simp[JA,Y4,h235,Zn,hw,h250,Dl,Dk,u0,jr,h1,h2,h3,h4,h256,h254];exact Yu (.inr rfl) rfl rfl rfl rfl rfl
theorem HA(s:By)(i:Nat)(hi:i < s.length)(hs:s.length<=200)(hne:s[i] ≠ 100/\s[i] ≠ 119)(hx:XS s[i]=none):PC p 248 s i (.tup [.nilptr,.bool false]) (i+1):=by
 have h235:=Ax (p:=p) s i hi
 simp only[PC,Zt]at h235;have hw:IntKind.i64.wrap ((i:Int)+1)=(i:Int)+1:=ZA (by omega) (by omega)
 generalize hc:s[i]=c at *
 refine YP Has.h248 ?_;have h1:¬ c=110:=λ q=>by subst q;simp[XS]at hx
 have h2:¬ c=116:=λ q=>by subst q;simp[XS]at hx
 have ha:Ka c=true:=by simpa [XS,h1,h2] using hx
 have h256:=λ h=>Mn (p:=p) (h:=h) c
 have h254:=λ h=>FC (p:=p) (h:=h) c
 simp only[Zt]at h256 h254;simp only[Ka]at ha;generalize ((decide (97<=c.toNat)&&decide (c.toNat<=122))||(decide (65<=c.toNat)&&decide (c.toNat<=90)))=b1 at *
 generalize (decide (48<=c.toNat)&&decide (c.toNat<=57))=b2 at *
 have h3:=hne.1
 have h4:=hne.2
 clear hx hne;refine⟨1,Zk rfl ?_⟩;show W _ _ JA _ _ _ _;simp[JA,Y4,h235,Zn,hw,Dl,Dk,u0,jr,h1,h2,h3,h4,h256,h254];cases b1<;>simp at ha<;>simp[h254,ha]
 all_goals exact Yu (.inr rfl) rfl rfl rfl rfl rfl
theorem HC(s:By)(i:Nat)(hi:i < s.length)(hs:s.length<=200)(hne:s[i]=100\/s[i]=119):∃ v:CV,PC p 248 s i (.tup [.rptr [.int .i64 0,.bool false,.int .u8 0,v,.sl false []],.bool true]) (i+1):=by
 have h235:=Ax (p:=p) s i hi
 simp only[PC,Zt]at h235;have hw:IntKind.i64.wrap ((i:Int)+1)=(i:Int)+1:=ZA (by omega) (by omega)
 generalize hc:s[i]=c at *
 rcases hne with rfl | rfl
 ·obtain⟨v,⟨L,hL,rfl⟩,h246⟩:=Mo (p:=p) 254 _ (λ c h=>FC (p:=p) (h:=h) c)
  refine⟨.rptr (L.map CV.bool),YP Has.h248 ?_⟩;refine⟨1,Zk rfl ?_⟩;show W _ _ JA _ _ _ _;simp[JA,Y4,h235,Zn,hw,h246,ZH];exact⟨.inr rfl,by simp[CK,ZD,Pi.results,ZL,Ob.lt,Ob.ids,X.ids.idsL,X.ids,ZM,oneOf,Yl,closedL,frz.frzL,frz,ZN]⟩
 ·have h255:=λ c=>Zgv (p:=p) c
  obtain⟨v,⟨L,hL,rfl⟩,h246⟩:=Mo (p:=p) 255 (λ c=>Classical.choose (h255 c)) (λ c h=>Classical.choose_spec (h255 c) h)
  refine⟨.rptr (L.map CV.bool),YP Has.h248 ?_⟩;refine⟨1,Zk rfl ?_⟩;show W _ _ JA _ _ _ _;simp[JA,Y4,h235,Zn,hw,h246,ZH];exact⟨.inr rfl,by simp[CK,ZD,Pi.results,ZL,Ob.lt,Ob.ids,X.ids.idsL,X.ids,ZM,oneOf,Yl,closedL,frz.frzL,frz,ZN]⟩
theorem ZW{s:By}{i:Nat}(hi:i < s.length):s.drop i=s[i]::s.drop (i+1):=Zs hi
theorem Ys{s:By}{i:Nat}(hi:s.length<=i):s.drop i=[]:=List.drop_eq_nil_iff.2 hi
theorem Hy(s:By)(i:Nat)(hi:i<=s.length)(hs:s.length<=200):match XB (s.drop i) with
  | some (x,q)=>∃ j,j<=s.length/\i < j/\s.drop j=q/\PC p 251 s i (.tup [.int .u8 x.toNat,.bool true]) j
  | none=>∃ j,j<=s.length/\PC p 251 s i (.tup [.int .u8 0,.bool false]) j:=by
 rcases Zl i s.length with hlt | hge
 ·rw[ZW hlt];have h235:=Ax (p:=p) s i hlt
  simp only[PC,Zt]at h235;have hw:IntKind.i64.wrap ((i:Int)+1)=(i:Int)+1:=ZA (by omega) (by omega)
  by_cases h93:s[i]=93
  ·have:XB (s[i]::s.drop (i+1))=none:=by simp[XB,h93]
   rw[this];refine⟨i,by omega,YP Has.h251 ?_⟩
   rw[h93]at h235;simp at h235;refine⟨1,Zk rfl ?_⟩;show W _ _ Jz _ _ _ _;simp[Jz,Y4,h235];exact Yu (.inr rfl) rfl rfl rfl rfl rfl
  by_cases h92:s[i]=92
  ·rw[h92]at h235;simp at h235;rcases Zl (i+1) s.length with hlt1 | hge1
   ·rw[ZW hlt1];have hit:XB (s[i]::s[i+1]::s.drop (i+1+1))=match XS s[i+1] with | some x=>some (x,s.drop (i+1+1))|none=>none:=by simp[XB,h92];cases XS s[i+1]<;>rfl
    rw[hit];by_cases hdw:s[i+1]=100\/s[i+1]=119
    ·have he:XS s[i+1]=none:=by rcases hdw with q | q<;>rw[q]<;>rfl
     obtain⟨v,h248⟩:=HC (p:=p) s (i+1) hlt1 hs hdw;simp only[PC]at h248;simp at h248;rw[he];refine⟨i+2,by omega,YP Has.h251 ?_⟩
     refine⟨1,Zk rfl ?_⟩;show W _ _ Jz _ _ _ _;simp[Jz,Y4,h235,hw,Zn,h248];exact Yu (.inr rfl) rfl rfl rfl rfl rfl
    ·cases he:XS s[i+1] with
     | none=>
      have h248:=HA (p:=p) s (i+1) hlt1 hs ⟨λ q=>hdw (.inl q),λ q=>hdw (.inr q)⟩ he
      simp only[PC]at h248;simp at h248;refine⟨i+2,by omega,YP Has.h251 ?_⟩
      refine⟨1,Zk rfl ?_⟩;show W _ _ Jz _ _ _ _;simp[Jz,Y4,h235,hw,Zn,h248];exact Yu (.inr rfl) rfl rfl rfl rfl rfl
     | some x=>
      have h248:=Hz (p:=p) s (i+1) hlt1 hs x ⟨λ q=>hdw (.inl q),λ q=>hdw (.inr q)⟩ he
      simp only[PC,jX]at h248;simp at h248;refine⟨i+2,by omega,by omega,by rfl,YP Has.h251 ?_⟩
      refine⟨1,Zk rfl ?_⟩;show W _ _ Jz _ _ _ _;simp[Jz,Y4,h235,hw,Zn,h248];exact Yu (.inr rfl) rfl rfl rfl rfl rfl
   ·rw[Ys hge1];have hit:XB (s[i]::[])=none:=by simp[XB,h92]
    rw[hit];have h248:=HB (p:=p) s (i+1) (by omega)
    simp only[PC]at h248;simp at h248;refine⟨i+1,by omega,YP Has.h251 ?_⟩
    refine⟨1,Zk rfl ?_⟩;show W _ _ Jz _ _ _ _;simp[Jz,Y4,h235,hw,Zn,h248];exact Yu (.inr rfl) rfl rfl rfl rfl rfl
  ·have hit:XB (s[i]::s.drop (i+1))=some (s[i],s.drop (i+1)):=by simp[XB,h92,h93]
   rw[hit];refine⟨i+1,by omega,by omega,rfl,YP Has.h251 ?_⟩
   generalize s[i]=c at *
   refine⟨1,Zk rfl ?_⟩;show W _ _ Jz _ _ _ _;simp[Jz,Y4,h235,hw,Zn,yY,FI,h92,h93];exact Yu (.inr rfl) rfl rfl rfl rfl rfl
 ·rw[Ys hge];have h235:=uZ (p:=p) s i (by omega)
  simp only[PC]at h235;refine⟨i,hi,YP Has.h251 ?_⟩;refine⟨1,Zk rfl ?_⟩;show W _ _ Jz _ _ _ _;simp[Jz,Y4,h235];exact Yu (.inr rfl) rfl rfl rfl rfl rfl
def XT:By->Bool
 | 45::d::_=>decide (d ≠ 93)
 | _=>false
theorem Zgx(s:By)(i:Nat)(hi:i<=s.length)(hs:s.length<=200):PC p 252 s i (.bool (XT (s.drop i))) i:=by
 refine YP Has.h252 ?_;have hw:IntKind.i64.wrap ((i:Int)+1)=(i:Int)+1:=ZA (by omega) (by omega)
 by_cases h1:(i:Int)+1 < s.length
 ·have hlt:i < s.length:=by omega
  have hlt1:i+1 < s.length:=by omega
  have hx:s[i]?=some s[i]:=Zb hlt
  have hx1:s[i+1]?=some s[i+1]:=Zb hlt1
  have hn1:YA (.c (.int .i64 ((i:Int)+1)))=some (i+1):=Jo .i64 (i+1)
  rw[ZW hlt,ZW hlt1];generalize s[i]=c at *
  generalize s[i+1]=d at *
  by_cases hc:c=45
  ·subst hc;have hr:XT (45::d::s.drop (i+1+1))=!decide (d=93):=by simp[XT]
   rw[hr];refine⟨1,Zk rfl ?_⟩;show W _ _ v6 _ _ _ _;simp[v6,Y4];refine Zw rfl (Yg _ _) ?_;simp[h1,hw,hx,hx1,Zn,Zt,FF,y6,hn1];exact KC (.inr rfl) rfl rfl rfl
  ·have hr:XT (c::d::s.drop (i+1+1))=false:=by
    unfold XT;split
    ·rename_i e;simp at e;exact absurd e.1 hc
    ·rfl
   rw[hr];refine⟨1,Zk rfl ?_⟩;show W _ _ v6 _ _ _ _;simp[v6,Y4];refine Zw rfl (Yg _ _) ?_;simp[h1,hw,hx,hx1,Zn,Zt,FF,y6,hc];exact KC (.inr rfl) rfl rfl rfl
 ·have hr:XT (s.drop i)=false:=by
   rcases Zl i s.length with hlt | hge
   ·rw[ZW hlt,Ys (by omega)];unfold XT;split
    ·rename_i e;simp at e
    ·rfl
   ·rw[Ys hge];rfl
  rw[hr];refine⟨1,Zk rfl ?_⟩;show W _ _ v6 _ _ _ _;simp[v6,Y4];refine Zw rfl (Yg _ _) ?_;simp[h1,hw,Zn];exact KC (.inr rfl) rfl rfl rfl
end
section
variable {p:Prg} [Has p] {h:Mem}
def Wh(L:List Bool):Ob:=.cells 281 (L.map λ b=>X.c (.bool b))
def Ui(b:Bool):Ob:=.cells 4 [.c (.bool b)]
theorem Ju:∀ L:List Bool,X.ids.idsL 6 (L.map λ b=>X.c (.bool b))=some []
 | []=>rfl
 | b::r=>by simp[Ju r]
theorem GO(ρ:Nat->Option Nat):∀ L:List Bool,X.ren.renL ρ 6 (L.map λ b=>X.c (.bool b))=some (L.map λ b=>X.c (.bool b))
 | []=>rfl
 | b::r=>by simp[X.ren.renL,X.ren,GO ρ r]
theorem GE(L:List Bool):(Wh L).ids=some []:=Ju L
theorem zy(L:List Bool)(ρ:Nat->Option Nat):(Wh L).ren ρ=some (Wh L):=by simp[Wh,Ob.ren,GO]
theorem qp(b:Bool):(Ui b).ids=some []:=rfl
theorem zS(b:Bool)(ρ:Nat->Option Nat):(Ui b).ren ρ=some (Ui b):=rfl
theorem JI{h:Mem}{i:Nat}{a:Ob}(hi:h[i]?=some a):h.set i a=h:=by
 obtain⟨hlt,he⟩:=Za.1 hi;exact List.ext_getElem? λ k=>by
  rw[List.getElem?_set]
  split
  ·rename_i e;subst e;exact hi.symm
  ·trivial
theorem vG{e:Env}{f i j:Nat}{x z:CV}{a b:Ob}(hi:h[i]?=some a)(hj:h[j]?=some b)(hne:i ≠ j)(ha:a.ids=some [])(hb:b.ids=some [])(ra:∀ ρ,a.ren ρ=some a)(rb:∀ ρ,b.ren ρ=some b)(hc:e.call f [.c x,.ptr 0 0,.ptr 1 0] [a,b]=some (.c z,[a,b])):Zi e h f [.c x,.ptr i 0,.ptr j 0]=some (.c z,h):=by
 have h1:X.ids.idsL 6 [X.c x,X.ptr i 0,X.ptr j 0]=some [i,j]:=rfl
 have hb1:Nat.beq i j=false:=by
  cases hq:Nat.beq i j with
  | false=>rfl
  | true=>exact absurd (Zd hq) hne
 have hji:¬ j=i:=λ q=>hne q.symm
 have h2:Xp h 1000 [i,j] []=some [i,j]:=by simp[Xp,hi,hj,ha,hb,hji]
 have h3:(h.set i a).set j b=h:=by rw[JI hi,JI hj]
 simp[Zi,h1,h2,X.ren.renL,X.ren,Xw,hb1,YM,hi,hj,Mem.ren,ra,rb,hc,YS,h3,hne,hji]
theorem vI{e:Env}{f g i j:Nat}{z:CV}{a b:Ob}(hi:h[i]?=some a)(hj:h[j]?=some b)(hne:i ≠ j)(ha:a.ids=some [])(hb:b.ids=some [])(ra:∀ ρ,a.ren ρ=some a)(rb:∀ ρ,b.ren ρ=some b)(hc:e.call f [.func g [.ptr 0 0,.ptr 1 0]] [a,b]=some (.c z,[a,b])):Zi e h f [.func g [.ptr i 0,.ptr j 0]]=some (.c z,h):=by
 have h1:X.ids.idsL 6 [X.func g [X.ptr i 0,X.ptr j 0]]=some [i,j]:=rfl
 have hb1:Nat.beq i j=false:=by
  cases hq:Nat.beq i j with
  | false=>rfl
  | true=>exact absurd (Zd hq) hne
 have hji:¬ j=i:=λ q=>hne q.symm
 have h2:Xp h 1000 [i,j] []=some [i,j]:=by simp[Xp,hi,hj,ha,hb,hji]
 have h3:(h.set i a).set j b=h:=by rw[JI hi,JI hj]
 simp[Zi,h1,h2,X.ren.renL,X.ren,Xw,hb1,YM,hi,hj,Mem.ren,ra,rb,hc,YS,h3,hne,hji]
theorem Zgw(L:List Bool)(hL:L.length=256)(b:Bool)(c:UInt8):∃ z:Bool,(Zo p).call 253 [.c (Zt c),.ptr 0 0,.ptr 1 0] [Wh L,Ui b]=some (.c (.bool z),[Wh L,Ui b]):=by
 have hc:c.toNat < L.length:=by have:=c.toNat_lt;omega
 have hx:L[c.toNat]?=some L[c.toNat]:=Zb hc
 have hle:c.toNat<=255:=by omega
 have hsm:Mem.same [Wh L,Ui b] [Wh L,Ui b]=true:=by simp[Mem.same,Wh,Ui,Ze]
 have hr:∃ N,Z5 (Zo p) N CJ [.c (Zt c),.ptr 0 0,.ptr 1 0] [Wh L,Ui b]=some (.c (.bool (L[c.toNat] != b)),[Wh L,Ui b]):=by
  refine⟨1,Zk rfl ?_⟩;show W _ _ MR _ _ _ _;simp[MR,Zt];refine Zw rfl hsm ?_;have ht:List.take 1 (List.drop c.toNat (L.map λ b=>X.c (CV.bool b)))=[X.c (.bool L[c.toNat])]:=by
   rw[Zs (by simpa using hc)];simp
  simp[Wh,Ui,hle,hx,hL,We,ht];exact⟨.inr rfl,by simp[CJ,ZD,Pi.results,ZL,Ob.lt,Ob.ids,Ju,ZM,oneOf];cases L[c.toNat]<;>cases b<;>rfl⟩
 obtain⟨N,hr⟩:=hr;exact⟨_,Z4 Has.h253 hr⟩
theorem ZaT(L:List Bool)(hL:L.length=256)(b:Bool):∃ v,(∃ M:List Bool,M.length=256/\v=.rptr (M.map CV.bool))/\(Zo p).call 246 [.func 253 [.ptr 0 0,.ptr 1 0]] [Wh L,Ui b]=some (.c v,[Wh L,Ui b]):=by
 have key:∃ z h',(∃ v,z=.c v/\h'=[Wh L,Ui b]/\∃ M:List Bool,M.length=256/\v=.rptr (M.map CV.bool))/\Z5 (Zo p) 257 Al [.func 253 [.ptr 0 0,.ptr 1 0]] [Wh L,Ui b]=some (z,h'):=by
  refine Z6 _ rfl ?_;show W _ _ Dr _ _ _ _;simp[Dr];refine ZU (λ i sl h=>(∃ M:List Bool,M.length=256/\h=[Wh L,Ui b,Wh M])/\Zm sl 0=.func 253 [.ptr 0 0,.ptr 1 0]/\Zm sl 3=.ptr 2 0/\Zm sl 5=.c (.int .i64 i)) 256 (by omega) ⟨⟨List.replicate 256 false,by simp,by simp[YX,Wh]⟩,by simp,by simp,by simp⟩ ?_
  rintro i sl h hi ⟨⟨M,hM,rfl⟩,h0,h3,h5⟩
  rcases Zl i 256 with hlt | hge
  ·have hw:IntKind.i64.wrap ((i:Int)+1)=(i:Int)+1:=ZA (by omega) (by omega)
   obtain⟨c,hu⟩:∃ c:UInt8,IntKind.u8.wrap (i:Int)=(c.toNat:Int):=⟨UInt8.ofNat i,by simp[IntKind.wrap,IntKind.bits,IntKind.signed,UInt8.toNat_ofNat']⟩
   obtain⟨z,hz⟩:=Zgw (p:=p) L hL b c;have hc:=vG (h:=[Wh L,Ui b,Wh M]) (i:=0) (j:=1) rfl rfl (by omega) (GE L) (qp b) (zy L) (zS b) hz
   simp only[Zt]at hc;have hlt':(i:Int) < 256:=by omega
   have hle:i<=255:=by omega
   have hset:(Ob.cells 281 ((M.map λ b=>X.c (CV.bool b)).set i (X.c (.bool z))))=Wh (M.set i z):=by simp[Wh,List.map_set]
   have e3:Wh M=Ob.cells 281 (M.map λ b=>X.c (CV.bool b)):=rfl
   have hl1:i+1<=M.length:=by omega
   simp[h0,h3,h5,hlt,hlt',hle,hw,hu,hc,Zn];simp[e3,hl1,hw];exact⟨⟨M.set i z,by simp[hM],by simp[Wh,List.map_set]⟩,by simp[Zn,hw]⟩
  ·obtain rfl:i=256:=by omega
   simp[h0,h3,h5];refine⟨.c (.rptr (M.map CV.bool)),_,⟨_,rfl,rfl,M,hM,rfl⟩,.inr rfl,?_⟩;have hz:=Jv [Wh L,Ui b,Wh M] 2 48 M
   have e1:=GE L
   have e2:=qp b
   have e3:Wh M=Ob.cells 281 (M.map λ b=>X.c (CV.bool b)):=rfl
   rw[e3]at hz ⊢;simp[Al,ZD,Pi.results,ZL,Ob.lt,e1,e2,ZM,oneOf,X.ids.idsL,X.ids,frz.frzL,frz,ZN,hz]
 obtain⟨z,h',⟨v,rfl,rfl,hv⟩,hr⟩:=key;exact⟨v,hv,Z4 Has.h246 hr⟩
def RR(p:Prg)(f:Nat)(s:By)(i:Nat)(o:Option By):Prop:=match o with
 | some q=>∃ j cs,j<=s.length/\i<=j/\s.drop j=q/\PC p f s i (.tup [.rptr cs,.bool true]) j
 | none=>∃ j,j<=s.length/\PC p f s i (.tup [.nilptr,.bool false]) j
theorem DT{f:Nat}{fn:PFn}{s:By}{i:Nat}{o:Option By}(hf:p.fn f=some (.body fn))
  (hr:∃ N,∃ z h',(∃ j,j<=s.length/\h'=[Y4 s j]/\((∃ q cs,o=some q/\i<=j/\s.drop j=q/\z=.c (.tup [.rptr cs,.bool true]))\/(o=none/\z=.c (.tup [.nilptr,.bool false]))))/\Z5 (Zo p) N fn [.ptr 0 0] [Y4 s i]=some (z,h')):RR p f s i o:=by
 obtain⟨N,z,h',⟨j,hj,rfl,hc⟩,hr⟩:=hr;rcases hc with ⟨q,cs,rfl,hij,hd,rfl⟩|⟨rfl,rfl⟩
 ·exact⟨j,cs,hj,hij,hd,YP hf ⟨N,hr⟩⟩
 ·exact⟨j,hj,YP hf ⟨N,hr⟩⟩
theorem qo(r:By):Q6 r=match XB r with
  | none=>none
  | some (lo,q)=>if XT q then(match XB q.tail with | none=>none | some (hi,y)=>if hi < lo then none else some y) else some q:=by
 unfold Q6;cases XB r with
 | none=>rfl
 | some w=>
  obtain⟨lo,q⟩:=w
  match q with
  | []=>simp[XT]
  | [c]=>
   by_cases hc:c=45
   ·subst hc;simp[XT]
   ·simp[XT]
  | c::d::z=>
   by_cases hc:c=45
   ·subst hc;by_cases hd:d=93
    ·subst hd;simp[XT]
    ·simp[XT,hd];cases XB (d::z)<;>rfl
   ·have hr:XT (c::d::z)=false:=by
     unfold XT;split
     ·rename_i e;simp at e;exact absurd e.1 hc
     ·rfl
    simp only[hr]
    split
    ·rename_i e;simp at e;exact absurd e.1 hc
    ·rfl
theorem Xz(r:By):YL r=match Q6 r with
  | none=>none
  | some z=>if z.head?=some 93 then some z.tail else YL z:=by
 rw[YL];cases h:Q6 r with
 | none=>rfl
 | some z=>
  have:=Kv h
  simp[this]
theorem ZgA(s:By)(i0:Nat)(hi0:i0<=s.length)(hs:s.length<=200):RR p 245 s i0 (Qi (s.drop i0)):=by
 refine DT Has.h245 ⟨s.length+300,Z6 _ rfl ?_⟩;show W _ _ MV _ _ _ _;obtain⟨b,i1,hi1,h01,hk,h231⟩:∃ (b:Bool) (i1:Nat),i1<=s.length/\i0<=i1/\Qi (s.drop i0)=YL (s.drop i1)/\∀ rest,Zi (Zo p) (.cells 258 [.c (.str s),.c (.int .i64 i0)]::rest) 231 [.ptr 0 0,.c (.int .u8 94)]=some (.c (.bool b),.cells 258 [.c (.str s),.c (.int .i64 i1)]::rest):=by
  by_cases hx:s[i0]?=some 94
  ·obtain⟨hlt,he⟩:=Za.1 hx;refine⟨true,i0+1,by omega,by omega,?_,K1 s i0 94 hx hs⟩
   rw[ZW hlt,he];rfl
  ·refine⟨false,i0,hi0,by omega,?_,jo s i0 94 hx hi0⟩
   unfold Qi;split
   ·rename_i q e;rcases Zl i0 s.length with hlt | hge
    ·rw[ZW hlt]at e;injection e with e1 e2
     exact absurd (by rw[Zb hlt,e1]) hx
    ·rw[Ys hge]at e;cases e
   ·rfl
 simp[MV,Y4,h231];obtain⟨I,hI⟩:∃ I:Nat->Zf->Mem->Prop,I=λ k sl h=>∃ (j:Nat) (e:Bool) (L:List Bool),j<=s.length/\i1<=j/\L.length=256/\h=[.cells 258 [.c (.str s),.c (.int .i64 j)],.cells 4 [.c (.bool b)],.cells 281 (L.map λ b=>X.c (.bool b))]/\Zm sl 0=.ptr 0 0/\Zm sl 4=.ptr 1 0/\Zm sl 5=.ptr 2 0/\Zm sl 6=.c (.bool e)/\((e=false/\YL (s.drop i1)=YL (s.drop j)/\k+i1<=j)\/(e=true/\YL (s.drop i1)=some (s.drop j))):=⟨_,rfl⟩
 refine ZU I (s.length+1) (by omega) (by rw[hI];exact⟨i1,false,List.replicate 256 false,hi1,by omega,by simp,by simp[YX],by simp,by simp,by simp,by simp,.inl ⟨rfl,rfl,by omega⟩⟩) ?_
 intro k sl h hkn hik;rw[hI]at hik;obtain⟨j,e,L,hj,hij,hL,rfl,h0,h4,h5,h6,hcase⟩:=hik;have hcl:clean (some [0,4,5,6]) 3 ⟨sl,[.cells 258 [.c (.str s),.c (.int .i64 j)],.cells 4 [.c (.bool b)],.cells 281 (L.map λ b=>X.c (.bool b))]⟩=⟨ZK [0,4,5,6] sl,[.cells 258 [.c (.str s),.c (.int .i64 j)],.cells 4 [.c (.bool b)],.cells 281 (L.map λ b=>X.c (.bool b))]⟩:=Yf (by simp)
 rcases hcase with ⟨rfl,hq,hkj⟩|⟨rfl,hq⟩
 ·have hitm:=Hy (p:=p) s j hj hs
  have hRR:=qo (s.drop j)
  cases hi0':XB (s.drop j) with
  | none=>
   rw[hi0']at hitm hRR;obtain⟨j2,hj2,h251⟩:=hitm;simp only[PC]at h251;simp[hcl,h0,h4,h5,h6,h251];refine⟨.c (.tup [.nilptr,.bool false]),[Y4 s j2],⟨j2,hj2,rfl,.inr ⟨?_,rfl⟩⟩,Yu (.inr rfl) rfl rfl rfl rfl rfl⟩;rw[hk,hq,Xz,hRR]
  | some w=>
   obtain⟨lo,q⟩:=w;rw[hi0']at hitm hRR;obtain⟨j2,hj2,hjj2,hd2,h251⟩:=hitm;have h252:=Zgx (p:=p) s j2 hj2 hs
   simp only[PC]at h251 h252;have hlo256:=lo.toNat_lt
   have hwlo:IntKind.i64.wrap (lo.toNat:Int)=(lo.toNat:Int):=ZA (by omega) (by omega)
   rw[hd2]at h252;cases hrg:XT q with
   | false=>
    rw[hrg]at h252;simp only[hrg]at hRR;obtain⟨hi,rfl⟩:∃ hi:UInt8,hi=lo:=⟨_,rfl⟩;obtain⟨j3,rfl⟩:∃ j3,j3=j2:=⟨_,rfl⟩;have hj3:=hj2
    have hit:Q6 (s.drop j)=some (s.drop j3):=by rw[hRR,hd2];rfl
    simp[hcl,h0,h4,h5,h6,h251,h252];refine ZU (λ m sl h=>∃ L:List Bool,L.length=256/\h=[.cells 258 [.c (.str s),.c (.int .i64 j3)],.cells 4 [.c (.bool b)],.cells 281 (L.map λ b=>X.c (.bool b))]/\Zm sl 0=.ptr 0 0/\Zm sl 4=.ptr 1 0/\Zm sl 5=.ptr 2 0/\Zm sl 9=.c (.int .u8 hi.toNat)/\Zm sl 10=.c (.int .i64 ((hi.toNat+m:Nat):Int))/\hi.toNat+m<=hi.toNat+1) 256 (by omega) ⟨L,hL,rfl,by simp,by simp,by simp,by simp,by simp[Zn,hwlo],by omega⟩ ?_
    rintro m sl2 h2 hm ⟨L2,hL2,rfl,g0,g4,g5,g9,g10,hmh⟩
    have hhi256:=hi.toNat_lt
    have hwhi:IntKind.i64.wrap (hi.toNat:Int)=(hi.toNat:Int):=ZA (by omega) (by omega)
    have hclean:clean (some [0,4,5,9,10]) 3 ⟨sl2,[.cells 258 [.c (.str s),.c (.int .i64 j3)],.cells 4 [.c (.bool b)],.cells 281 (L2.map λ b=>X.c (.bool b))]⟩=⟨ZK [0,4,5,9,10] sl2,[.cells 258 [.c (.str s),.c (.int .i64 j3)],.cells 4 [.c (.bool b)],.cells 281 (L2.map λ b=>X.c (.bool b))]⟩:=Yf (by simp)
    by_cases hle:hi.toNat+m<=hi.toNat
    ·have hle':((hi.toNat+m:Nat):Int)<=(hi.toNat:Int):=by omega
     have hw2:IntKind.i64.wrap (((hi.toNat+m:Nat):Int)+1)=((hi.toNat+(m+1):Nat):Int):=by rw[ZA (by omega) (by omega)];omega
     have hix:hi.toNat+m<=255:=by omega
     generalize hgn:hi.toNat+m=gn at *
     simp[hclean,g0,g4,g5,g9,g10,hwhi,hle',hw2,hix,hL2,Zn,hle];exact⟨by omega,L2.set gn true,by simp[hL2],by simp[List.map_set],by omega⟩
    ·have hle':¬ ((hi.toNat+m:Nat):Int)<=(hi.toNat:Int):=by omega
     generalize hi.toNat+m=gn at *
     by_cases h93:s[j3]?=some 93
     ·have hsk:=K1 (p:=p) s j3 93 h93 hs
      simp only[Zt]at hsk;simp at hsk;have hlt3:=(Za.1 h93).1
      simp[hclean,g0,g4,g5,g9,g10,hwhi,hle',hle,Zn,hsk];refine⟨by omega,?_⟩
      rw[hI];refine⟨j3+1,true,L2,by omega,by omega,hL2,rfl,rfl,rfl,rfl,rfl,.inr ⟨rfl,?_⟩⟩
      rw[hq,Xz,hit];rw[ZW hlt3];have:=(Za.1 h93).2
      simp[this]
     ·have hsk:=jo (p:=p) s j3 93 h93 hj3
      simp only[Zt]at hsk;simp at hsk;simp[hclean,g0,g4,g5,g9,g10,hwhi,hle',hle,Zn,hsk];refine⟨by omega,?_⟩
      rw[hI];refine⟨j3,false,L2,by omega,by omega,hL2,rfl,rfl,rfl,rfl,rfl,.inl ⟨rfl,?_,by omega⟩⟩
      rw[hq,Xz,hit];simp[h93]
   | true=>
    rw[hrg]at h252;simp only[hrg,if_true]at hRR;have hw1:IntKind.i64.wrap ((j2:Int)+1)=(j2:Int)+1:=ZA (by omega) (by omega)
    have hq2:j2+1<=s.length/\s.drop (j2+1)=q.tail:=by
     have hlt2:j2 < s.length:=by
      rcases Zl j2 s.length with q1 | q1
      ·exact q1
      ·rw[Ys q1]at hd2;subst hd2;simp[XT]at hrg
     exact⟨by omega,by rw[<- hd2,ZW hlt2];rfl⟩
    have hitm2:=Hy (p:=p) s (j2+1) hq2.1 hs
    rw[hq2.2]at hitm2;cases hi1':XB q.tail with
    | none=>
     rw[hi1']at hitm2 hRR;obtain⟨j4,hj4,h251b⟩:=hitm2;simp only[PC]at h251b;simp at h251b;simp[hcl,h0,h4,h5,h6,h251,h252,Zn,hw1,h251b];refine⟨.c (.tup [.nilptr,.bool false]),[Y4 s j4],⟨j4,hj4,rfl,.inr ⟨?_,rfl⟩⟩,Yu (.inr rfl) rfl rfl rfl rfl rfl⟩;rw[hk,hq,Xz,hRR]
    | some w2=>
     obtain⟨hi,y⟩:=w2;rw[hi1']at hitm2 hRR;obtain⟨j3,hj3,hjj3,hd3,h251b⟩:=hitm2;simp only[PC]at h251b;simp at h251b;by_cases hlh:hi < lo
     ·have hlt':hi.toNat < lo.toNat:=UInt8.lt_iff_toNat_lt.1 hlh
      simp only[hlh,if_true]at hRR;simp[hcl,h0,h4,h5,h6,h251,h252,Zn,hw1,h251b,hlt'];refine⟨.c (.tup [.nilptr,.bool false]),[Y4 s j3],⟨j3,hj3,rfl,.inr ⟨?_,rfl⟩⟩,Yu (.inr rfl) rfl rfl rfl rfl rfl⟩;rw[hk,hq,Xz,hRR]
     ·have hlt':¬ hi.toNat < lo.toNat:=λ q=>hlh (UInt8.lt_iff_toNat_lt.2 q)
      simp only[hlh,if_false]at hRR;have hit:Q6 (s.drop j)=some (s.drop j3):=by rw[hRR,hd3]
      simp[hcl,h0,h4,h5,h6,h251,h252,Zn,hw1,h251b,hlt'];refine ZU (λ m sl h=>∃ L:List Bool,L.length=256/\h=[.cells 258 [.c (.str s),.c (.int .i64 j3)],.cells 4 [.c (.bool b)],.cells 281 (L.map λ b=>X.c (.bool b))]/\Zm sl 0=.ptr 0 0/\Zm sl 4=.ptr 1 0/\Zm sl 5=.ptr 2 0/\Zm sl 9=.c (.int .u8 hi.toNat)/\Zm sl 10=.c (.int .i64 ((lo.toNat+m:Nat):Int))/\lo.toNat+m<=hi.toNat+1) 256 (by omega) ⟨L,hL,rfl,by simp,by simp,by simp,by simp,by simp[Zn,hwlo],by omega⟩ ?_
      rintro m sl2 h2 hm ⟨L2,hL2,rfl,g0,g4,g5,g9,g10,hmh⟩
      have hhi256:=hi.toNat_lt
      have hwhi:IntKind.i64.wrap (hi.toNat:Int)=(hi.toNat:Int):=ZA (by omega) (by omega)
      have hclean:clean (some [0,4,5,9,10]) 3 ⟨sl2,[.cells 258 [.c (.str s),.c (.int .i64 j3)],.cells 4 [.c (.bool b)],.cells 281 (L2.map λ b=>X.c (.bool b))]⟩=⟨ZK [0,4,5,9,10] sl2,[.cells 258 [.c (.str s),.c (.int .i64 j3)],.cells 4 [.c (.bool b)],.cells 281 (L2.map λ b=>X.c (.bool b))]⟩:=Yf (by simp)
      by_cases hle:lo.toNat+m<=hi.toNat
      ·have hle':((lo.toNat+m:Nat):Int)<=(hi.toNat:Int):=by omega
       have hw2:IntKind.i64.wrap (((lo.toNat+m:Nat):Int)+1)=((lo.toNat+(m+1):Nat):Int):=by rw[ZA (by omega) (by omega)];omega
       have hix:lo.toNat+m<=255:=by omega
       generalize hgn:lo.toNat+m=gn at *
       simp[hclean,g0,g4,g5,g9,g10,hwhi,hle',hw2,hix,hL2,Zn,hle];exact⟨by omega,L2.set gn true,by simp[hL2],by simp[List.map_set],by omega⟩
      ·have hle':¬ ((lo.toNat+m:Nat):Int)<=(hi.toNat:Int):=by omega
       generalize lo.toNat+m=gn at *
       by_cases h93:s[j3]?=some 93
       ·have hsk:=K1 (p:=p) s j3 93 h93 hs
        simp only[Zt]at hsk;simp at hsk;have hlt3:=(Za.1 h93).1
        simp[hclean,g0,g4,g5,g9,g10,hwhi,hle',hle,Zn,hsk];refine⟨by omega,?_⟩
        rw[hI];refine⟨j3+1,true,L2,by omega,by omega,hL2,rfl,rfl,rfl,rfl,rfl,.inr ⟨rfl,?_⟩⟩
        rw[hq,Xz,hit];rw[ZW hlt3];have:=(Za.1 h93).2
        simp[this]
       ·have hsk:=jo (p:=p) s j3 93 h93 hj3
        simp only[Zt]at hsk;simp at hsk;simp[hclean,g0,g4,g5,g9,g10,hwhi,hle',hle,Zn,hsk];refine⟨by omega,?_⟩
        rw[hI];refine⟨j3,false,L2,by omega,by omega,hL2,rfl,rfl,rfl,rfl,rfl,.inl ⟨rfl,?_,by omega⟩⟩
        rw[hq,Xz,hit];simp[h93]
 ·obtain⟨v,⟨M,hM,rfl⟩,hc⟩:=ZaT (p:=p) L hL b;have hcl2:=vI (h:=[Y4 s j,Ui b,Wh L]) (i:=2) (j:=1) rfl rfl (by omega) (GE L) (qp b) (zy L) (zS b) hc
  simp only[Y4,Ui,Wh]at hcl2;simp[hcl,h0,h4,h5,h6,hcl2,ZH];refine⟨_,_,⟨j,hj,rfl,.inl ⟨s.drop j,by rw[hk,hq],by omega,rfl,[.int .i64 0,.bool false,.int .u8 0,.rptr (M.map CV.bool),.sl false []],rfl⟩⟩,.inr rfl,?_⟩
  simp[E8,ZD,Pi.results,ZL,Ob.lt,Ob.ids,X.ids.idsL,X.ids,ZM,oneOf,Yl,closedL,frz.frzL,frz,ZN]
end
section
variable {p:Prg} [Has p] [HasPr p] {h:Mem}
theorem um(c:UInt8)(r:By):A (c::r)=if c=40 then(match E r with | some (41::q)=>some q | _=>none)
  else if c=91 then Qi r
  else if c=46 then some r
  else if c=92 then(match r with | []=>none | d::q=>if d=100\/d=119 then some q else match XS d with | some _=>some q | none=>none)
  else if Ws c then none else some r:=by rw[A.eq_def];rfl
theorem Qk{s q:By}{j:Nat}{c:UInt8}(h:s.drop j=c::q):s[j]?=some c/\s.drop (j+1)=q/\j < s.length:=by
 have hlt:j < s.length:=by
  rcases Zl j s.length with q1 | q1
  ·exact q1
  ·rw[Ys q1]at h;cases h
 rw[ZW hlt]at h;injection h with h1 h2
 exact⟨by rw[Zb hlt,h1],h2,hlt⟩
theorem gb(s:By)(i:Nat)(hi:i<=s.length)(hs:s.length<=200)(hch:i < s.length->RR p 225 s (i+1) (E (s.drop (i+1)))):RR p 241 s i (A (s.drop i)):=by
 rcases Zl i s.length with hlt | hge
 ·have hch:=hch hlt
  rw[ZW hlt,um];have h235:=Ax (p:=p) s i hlt
  simp only[PC,Zt]at h235;have hw:IntKind.i64.wrap ((i:Int)+1)=(i:Int)+1:=ZA (by omega) (by omega)
  by_cases h40:s[i]=40
  ·rw[if_pos h40];rw[h40]at h235;simp at h235;cases hE:E (s.drop (i+1)) with
   | none=>
    rw[hE]at hch;obtain⟨j,hj,h225⟩:=hch;simp only[PC]at h225;simp at h225;refine⟨j,hj,YP Has.h241 ?_⟩;refine⟨1,Zk rfl ?_⟩;show W _ _ WQ _ _ _ _;simp[WQ,Y4,h235,hw,Zn,h225];exact Yu (.inr rfl) rfl rfl rfl rfl rfl
   | some q=>
    rw[hE]at hch;obtain⟨j,cs,hj,hij,hd,h225⟩:=hch;simp only[PC]at h225;simp at h225;by_cases h41:s[j]?=some 41
    ·obtain⟨hlt2,he⟩:=Za.1 h41;have hq:q=41::s.drop (j+1):=by rw[<- hd,ZW hlt2,he]
     subst hq;have hsk:=K1 (p:=p) s j 41 h41 hs
     simp only[Zt]at hsk;simp at hsk;refine⟨j+1,cs,by omega,by omega,rfl,YP Has.h241 ?_⟩
     refine⟨1,Zk rfl ?_⟩;show W _ _ WQ _ _ _ _;simp[WQ,Y4,h235,hw,Zn,h225,hsk];exact Yu (.inr rfl) rfl rfl rfl rfl rfl
    ·have hm:(match (some q:Option By) with | some (41::q)=>some q | _=>none)=none:=by
      split
      ·rename_i e;injection e with e
       subst e;exact absurd (Qk hd).1 h41
      ·rfl
     rw[hm];have hsk:=jo (p:=p) s j 41 h41 hj
     simp only[Zt]at hsk;simp at hsk;refine⟨j,hj,YP Has.h241 ?_⟩;refine⟨1,Zk rfl ?_⟩;show W _ _ WQ _ _ _ _;simp[WQ,Y4,h235,hw,Zn,h225,hsk];exact Yu (.inr rfl) rfl rfl rfl rfl rfl
  rw[if_neg h40];by_cases h91:s[i]=91
  ·rw[if_pos h91];rw[h91]at h235;simp at h235;have hb:=ZgA (p:=p) s (i+1) (by omega) hs
   cases hK:Qi (s.drop (i+1)) with
   | none=>
    rw[hK]at hb;obtain⟨j,hj,h245⟩:=hb;simp only[PC]at h245;simp at h245;refine⟨j,hj,YP Has.h241 ?_⟩;refine⟨1,Zk rfl ?_⟩;show W _ _ WQ _ _ _ _;simp[WQ,Y4,h235,hw,Zn,h245];exact Yu (.inr rfl) rfl rfl rfl rfl rfl
   | some q=>
    rw[hK]at hb;obtain⟨j,cs,hj,hij,hd,h245⟩:=hb;simp only[PC]at h245;simp at h245;refine⟨j,cs,hj,by omega,hd,YP Has.h241 ?_⟩
    refine⟨1,Zk rfl ?_⟩;show W _ _ WQ _ _ _ _;simp[WQ,Y4,h235,hw,Zn,h245];exact Yu (.inr rfl) rfl rfl rfl rfl rfl
  rw[if_neg h91];by_cases h46:s[i]=46
  ·rw[if_pos h46];rw[h46]at h235;simp at h235;obtain⟨v,⟨L,hL,rfl⟩,h246⟩:=Mo (p:=p) 247 (λ _=>true) (λ c h=>Zgz (p:=p) (h:=h) c)
   refine⟨i+1,[.int .i64 0,.bool false,.int .u8 0,.rptr (L.map CV.bool),.sl false []],by omega,by omega,rfl,YP Has.h241 ?_⟩
   refine⟨1,Zk rfl ?_⟩;show W _ _ WQ _ _ _ _;simp[WQ,Y4,h235,hw,Zn,h246,ZH];exact⟨.inr rfl,by simp[E9,ZD,Pi.results,ZL,Ob.lt,Ob.ids,X.ids.idsL,X.ids,ZM,oneOf,Yl,closedL,frz.frzL,frz,ZN]⟩
  rw[if_neg h46];by_cases h92:s[i]=92
  ·rw[if_pos h92];rw[h92]at h235;simp at h235;rcases Zl (i+1) s.length with hlt1 | hge1
   ·rw[ZW hlt1];by_cases hdw:s[i+1]=100\/s[i+1]=119
    ·obtain⟨v,h248⟩:=HC (p:=p) s (i+1) hlt1 hs hdw;simp only[PC]at h248;simp at h248;simp only[hdw,if_true];refine⟨i+1+1,[.int .i64 0,.bool false,.int .u8 0,v,.sl false []],by omega,by omega,rfl,YP Has.h241 ?_⟩
     refine⟨1,Zk rfl ?_⟩;show W _ _ WQ _ _ _ _;simp[WQ,Y4,h235,hw,Zn,h248];exact Yu (.inr rfl) rfl rfl rfl rfl rfl
    ·simp only[hdw,if_false];cases he:XS s[i+1] with
     | none=>
      have h248:=HA (p:=p) s (i+1) hlt1 hs ⟨λ q=>hdw (.inl q),λ q=>hdw (.inr q)⟩ he
      simp only[PC]at h248;simp at h248;refine⟨i+1+1,by omega,YP Has.h241 ?_⟩
      refine⟨1,Zk rfl ?_⟩;show W _ _ WQ _ _ _ _;simp[WQ,Y4,h235,hw,Zn,h248];exact Yu (.inr rfl) rfl rfl rfl rfl rfl
     | some x=>
      have h248:=Hz (p:=p) s (i+1) hlt1 hs x ⟨λ q=>hdw (.inl q),λ q=>hdw (.inr q)⟩ he
      simp only[PC,jX]at h248;simp at h248;refine⟨i+1+1,[.int .i64 0,.bool true,.int .u8 x.toNat,.nilptr,.sl false []],by omega,by omega,rfl,YP Has.h241 ?_⟩
      refine⟨1,Zk rfl ?_⟩;show W _ _ WQ _ _ _ _;simp[WQ,Y4,h235,hw,Zn,h248];exact Yu (.inr rfl) rfl rfl rfl rfl rfl
   ·rw[Ys hge1];have h248:=HB (p:=p) s (i+1) (by omega)
    simp only[PC]at h248;simp at h248;refine⟨i+1,by omega,YP Has.h241 ?_⟩
    refine⟨1,Zk rfl ?_⟩;show W _ _ WQ _ _ _ _;simp[WQ,Y4,h235,hw,Zn,h248];exact Yu (.inr rfl) rfl rfl rfl rfl rfl
  rw[if_neg h92];obtain⟨m,hm,h249⟩:=Zgy (p:=p) s[i];have h250:=λ h=>ZaS (p:=p) (h:=h) s[i]
  simp only[Zt,we]at h249 h250;generalize s[i]=c at *
  by_cases hsp:Ws c=true
  ·rw[if_pos hsp];have hm0:=hm.2 hsp
   refine⟨i+1,by omega,YP Has.h241 ?_⟩
   refine⟨1,Zk rfl ?_⟩;show W _ _ WQ _ _ _ _;simp[WQ,Y4,h235,hw,Zn,jq,jp,vT,Gc,h40,h91,h46,h92,h249,hm0];exact Yu (.inr rfl) rfl rfl rfl rfl rfl
  ·rw[if_neg hsp];have hm0:¬ 0<=m:=λ q=>hsp (hm.1 q)
   refine⟨i+1,[.int .i64 0,.bool true,.int .u8 c.toNat,.nilptr,.sl false []],by omega,by omega,rfl,YP Has.h241 ?_⟩
   refine⟨1,Zk rfl ?_⟩;show W _ _ WQ _ _ _ _;simp[WQ,Y4,h235,hw,Zn,jq,jp,vT,Gc,h40,h91,h46,h92,h249,hm0,h250];exact Yu (.inr rfl) rfl rfl rfl rfl rfl
 ·rw[Ys hge];have hA:A []=none:=by rw[A]
  rw[hA];have h235:=uZ (p:=p) s i (by omega)
  simp only[PC]at h235;refine⟨i,hi,YP Has.h241 ?_⟩;refine⟨1,Zk rfl ?_⟩;show W _ _ WQ _ _ _ _;simp[WQ,Y4,h235];exact Yu (.inr rfl) rfl rfl rfl rfl rfl
theorem OA(r:By):F r=match A r with | none=>none | some []=>some []|some (d::y)=>if Ve d then some y else some (d::y):=by
 unfold F;cases A r with
 | none=>rfl
 | some z=>cases z<;>rfl
theorem wM(s:By)(i:Nat)(hi:i<=s.length)(hs:s.length<=200)(ha:RR p 241 s i (A (s.drop i))):RR p 236 s i (F (s.drop i)):=by
 rw[OA];cases hA:A (s.drop i) with
 | none=>
  rw[hA]at ha;obtain⟨j,hj,h241⟩:=ha;simp only[PC]at h241;refine⟨j,hj,YP Has.h236 ?_⟩;refine⟨1,Zk rfl ?_⟩;show W _ _ qG _ _ _ _;simp[qG,Y4,h241];exact Yu (.inr rfl) rfl rfl rfl rfl rfl
 | some z=>
  rw[hA]at ha;obtain⟨j,cs,hj,hij,hd,h241⟩:=ha;simp only[PC]at h241;by_cases h42:s[j]?=some 42
  ·obtain⟨hlt,he⟩:=Za.1 h42;have hz:z=42::s.drop (j+1):=by rw[<- hd,ZW hlt,he]
   subst hz;have hsk:=K1 (p:=p) s j 42 h42 hs
   simp only[Zt]at hsk;simp at hsk;refine⟨j+1,[.int .i64 3,.bool false,.int .u8 0,.nilptr,.sl false [.rptr cs]],by omega,by omega,rfl,YP Has.h236 ?_⟩
   refine⟨1,Zk rfl ?_⟩;show W _ _ qG _ _ _ _;simp[qG,Y4,h241,hsk,ZH];exact⟨.inr rfl,by simp[Am,ZD,Pi.results,ZL,Ob.lt,Ob.ids,X.ids.idsL,X.ids,ZM,oneOf,Yl,closedL,frz.frzL,frz,ZN]⟩
  have k42:=jo (p:=p) s j 42 h42 hj
  by_cases h43:s[j]?=some 43
  ·obtain⟨hlt,he⟩:=Za.1 h43;have hz:z=43::s.drop (j+1):=by rw[<- hd,ZW hlt,he]
   subst hz;have hsk:=K1 (p:=p) s j 43 h43 hs
   simp only[Zt]at hsk k42;simp at hsk k42;refine⟨j+1,[.int .i64 4,.bool false,.int .u8 0,.nilptr,.sl false [.rptr cs]],by omega,by omega,rfl,YP Has.h236 ?_⟩
   refine⟨1,Zk rfl ?_⟩;show W _ _ qG _ _ _ _;simp[qG,Y4,h241,hsk,k42,ZH];exact⟨.inr rfl,by simp[Am,ZD,Pi.results,ZL,Ob.lt,Ob.ids,X.ids.idsL,X.ids,ZM,oneOf,Yl,closedL,frz.frzL,frz,ZN]⟩
  have k43:=jo (p:=p) s j 43 h43 hj
  by_cases h63:s[j]?=some 63
  ·obtain⟨hlt,he⟩:=Za.1 h63;have hz:z=63::s.drop (j+1):=by rw[<- hd,ZW hlt,he]
   subst hz;have hsk:=K1 (p:=p) s j 63 h63 hs
   simp only[Zt]at hsk k42 k43;simp at hsk k42 k43;refine⟨j+1,[.int .i64 5,.bool false,.int .u8 0,.nilptr,.sl false [.rptr cs]],by omega,by omega,rfl,YP Has.h236 ?_⟩
   refine⟨1,Zk rfl ?_⟩;show W _ _ qG _ _ _ _;simp[qG,Y4,h241,hsk,k42,k43,ZH];exact⟨.inr rfl,by simp[Am,ZD,Pi.results,ZL,Ob.lt,Ob.ids,X.ids.idsL,X.ids,ZM,oneOf,Yl,closedL,frz.frzL,frz,ZN]⟩
  have k63:=jo (p:=p) s j 63 h63 hj
  have hz:(match (some z:Option By) with | none=>none | some []=>some []|some (d::y)=>if Ve d then some y else some (d::y))=some z:=by
   cases z with
   | nil=>rfl
   | cons d y=>
    have hg:=(Qk hd).1
    have hqd:Ve d=false:=by
     simp only[Ve,ZZ,decide_eq_false_iff_not];exact⟨⟨λ e=>h42 (by rw[hg,e]),λ e=>h43 (by rw[hg,e])⟩,λ e=>h63 (by rw[hg,e])⟩
    simp[hqd]
  rw[hz];simp only[Zt]at k42 k43 k63;simp at k42 k43 k63;refine⟨j,cs,hj,hij,hd,YP Has.h236 ?_⟩;refine⟨1,Zk rfl ?_⟩;show W _ _ qG _ _ _ _;simp[qG,Y4,h241,k42,k43,k63];exact Yu (.inr rfl) rfl rfl rfl rfl rfl
def Gi(k:Int)(B:X):Ob:=.cells 266 [.c (.int .i64 k),.c (.bool false),.c (.int .u8 0),.c .nilptr,B]
def TM(s:By)(j:Nat)(k:Int)(h:Mem)(es:List CV):Prop:=(es=[]/\h=[Y4 s j,Gi k (.c (.sl true []))])\/∃ v,es ≠ []/\h=[Y4 s j,Gi k (.own es 2 v),.tip v 1 235]
theorem jC{s:By}{j:Nat}{k:Int}{h:Mem}{es:List CV}{live:List Nat}{sl:Zf}(hT:TM s j k h es):clean (some live) 2 ⟨sl,h⟩=⟨ZK live sl,h⟩:=by
 rcases hT with ⟨rfl,rfl⟩|⟨v,hne0,rfl⟩
 ·exact Yf (by simp)
 ·have hm:ZL 2 (List.take 2 [Y4 s j,Gi k (.own es 2 v),.tip v 1 235])=false:=by
   simp[ZL,Ob.lt,Ob.ids,Y4,Gi,X.ids.idsL,X.ids,ZM]
  have hb:Nat.ble (List.length [Y4 s j,Gi k (.own es 2 v),.tip v 1 235]) 2=false:=rfl
  simp only[clean,gc,hm,hb,Bool.and_false,cond_false]
theorem A6(s:By)(i:Nat)(hi:i<=s.length)(hs:s.length<=200)(hf:∀ j,i<=j->j<=s.length->RR p 236 s j (F (s.drop j))):RR p 230 s i (S (s.drop i)):=by
 refine DT Has.h230 ⟨s.length+2,Z6 _ rfl ?_⟩;show W _ _ M3 _ _ _ _;obtain⟨I,hI⟩:∃ I:Nat->Zf->Mem->Prop,I=λ k sl h=>∃ (j:Nat) (es:List CV),j<=s.length/\i+k<=j/\(∀ x∈es,∃ cs,x=.rptr cs)/\es.length<=k/\TM s j 1 h es/\Zm sl 0=.ptr 0 0/\Zm sl 4=.ptr 1 0/\S (s.drop i)=S (s.drop j):=⟨_,rfl⟩
 simp[M3,ZH];refine ZU I (s.length+1) (by omega) (by rw[hI];exact⟨i,[],hi,by omega,by simp,by simp,.inl ⟨rfl,rfl⟩,by simp,by simp,rfl⟩) ?_
 intro k sl h hkn hik;rw[hI]at hik;obtain⟨j,es,hj,hij,hes,hel,hT,h0,h4,hq⟩:=hik;have hcl:clean (some [0,4]) 2 ⟨sl,h⟩=⟨ZK [0,4] sl,h⟩:=jC hT
 rcases Zl j s.length with hlt | hge
 ·have h235:=Ax (p:=p) s j hlt
  have hcons:=ZW hlt
  rw[hcons,qP,<- hcons]at hq;simp only[PC,Zt]at h235;by_cases hst:s[j]=124\/s[j]=41
  ·rw[if_pos hst]at hq;rcases hT with ⟨rfl,rfl⟩|⟨v,hne0,rfl⟩<;>simp only[Y4,Gi]at hcl
   ·rcases hst with e | e
    all_goals
     rw[e]at h235;simp at h235;simp[hcl,h0,h4,Y4,Gi,h235];refine⟨_,_,⟨j,hj,rfl,.inl ⟨s.drop j,hq,by omega,rfl,[.int .i64 1,.bool false,.int .u8 0,.nilptr,.sl false []],rfl⟩⟩,.inr rfl,?_⟩
     simp[vB,ZD,Pi.results,ZL,Ob.lt,Ob.ids,X.ids.idsL,X.ids,ZM,oneOf,Yl,closedL,frz.frzL,frz,ZN]
   ·rcases hst with e | e
    all_goals
     rw[e]at h235;simp at h235;simp[hcl,h0,h4,Y4,Gi,h235];refine⟨_,_,⟨j,hj,rfl,.inl ⟨s.drop j,hq,by omega,rfl,[.int .i64 1,.bool false,.int .u8 0,.nilptr,.sl false es],rfl⟩⟩,.inr rfl,?_⟩
     simp[vB,ZD,Pi.results,ZL,Ob.lt,Ob.ids,X.ids.idsL,X.ids,ZM,oneOf,Yl,closedL,frz.frzL,frz,ZN]
  ·rw[if_neg hst]at hq;have hf1:=hf j (by omega) hj
   have hn1:¬ s[j]=124:=λ e=>hst (.inl e)
   have hn2:¬ s[j]=41:=λ e=>hst (.inr e)
   have hF0:∀ q,F (s.drop j)=some q->q.length < (s.drop j).length:=λ q=>DZ
   cases hF:F (s.drop j) with
   | none=>
    rw[hF]at hf1 hq;obtain⟨j2,hj2,h236⟩:=hf1;simp only[PC]at h236;generalize s[j]=c at *
    rcases hT with ⟨rfl,rfl⟩|⟨v,hne0,rfl⟩<;>simp only[Y4,Gi]at hcl
    all_goals
     simp[hcl,h0,h4,Y4,Gi,h235,K2,vU,hn1,hn2,h236];exact⟨.c (.tup [.nilptr,.bool false]),[Y4 s j2],⟨j2,hj2,rfl,.inr ⟨hq,rfl⟩⟩,Yu (.inr rfl) rfl rfl rfl rfl rfl⟩
   | some z=>
    rw[hF]at hf1 hq;obtain⟨j2,cs,hj2,hjj,hd,h236⟩:=hf1;have hlt2:j < j2:=by
     have:=hF0 _ hF
     rw[<- hd]at this;simp at this;omega
    simp only[PC]at h236;generalize s[j]=c at *
    rcases hT with ⟨rfl,rfl⟩|⟨v,hne0,rfl⟩<;>simp only[Y4,Gi]at hcl
    ·simp[hcl,h0,h4,Y4,Gi,h235,K2,vU,hn1,hn2,h236,ZH,ZO,ZP];rw[hI];exact⟨by omega,j2,[.rptr cs],hj2,by omega,by simp,by simp,.inr ⟨0,by simp,rfl⟩,rfl,rfl,by rw[hq,hd]⟩
    ·have hhead:YC 1 es=true:=by
      cases es with
      | nil=>rfl
      | cons x r=>obtain⟨cs,rfl⟩:=hes x (by simp);rfl
     have hbig:es.length+1<=4294967296:=by omega
     simp[hcl,h0,h4,Y4,Gi,h235,K2,vU,hn1,hn2,h236,ZH,ZO,ZP,hbig];rw[hI];exact⟨by omega,j2,es++[.rptr cs],hj2,by omega,λ x hx=>by
      rcases List.mem_append.1 hx with hx | hx
      ·exact hes x hx
      ·exact⟨cs,ZF.1 hx⟩,by simp;omega,.inr ⟨v+1,by simp,rfl⟩,rfl,rfl,by rw[hq,hd]⟩
 ·have h235:=uZ (p:=p) s j (by omega)
  rw[Ys hge]at hq;have hS:S []=some []:=by rw[S]
  rw[hS]at hq;simp only[PC]at h235;rcases hT with ⟨rfl,rfl⟩|⟨v,hne0,rfl⟩<;>simp only[Y4,Gi]at hcl
  ·simp[hcl,h0,h4,Y4,Gi,h235];refine⟨_,_,⟨j,hj,rfl,.inl ⟨[],hq,by omega,Ys hge,[.int .i64 1,.bool false,.int .u8 0,.nilptr,.sl false []],rfl⟩⟩,.inr rfl,?_⟩
   simp[vB,ZD,Pi.results,ZL,Ob.lt,Ob.ids,X.ids.idsL,X.ids,ZM,oneOf,Yl,closedL,frz.frzL,frz,ZN]
  ·simp[hcl,h0,h4,Y4,Gi,h235];refine⟨_,_,⟨j,hj,rfl,.inl ⟨[],hq,by omega,Ys hge,[.int .i64 1,.bool false,.int .u8 0,.nilptr,.sl false es],rfl⟩⟩,.inr rfl,?_⟩
   simp[vB,ZD,Pi.results,ZL,Ob.lt,Ob.ids,X.ids.idsL,X.ids,ZM,oneOf,Yl,closedL,frz.frzL,frz,ZN]
theorem AL(r:By):E r=match S r with | none=>none | some (124::q)=>E q | some z=>some z:=E_S r.length r (Nat.le_refl _)
theorem ya(s:By)(i:Nat)(hi:i<=s.length)(hs:s.length<=200)(hf:∀ j,i<=j->j<=s.length->RR p 230 s j (S (s.drop j))):RR p 225 s i (E (s.drop i)):=by
 refine DT Has.h225 ⟨s.length+2,Z6 _ rfl ?_⟩;show W _ _ M5 _ _ _ _;obtain⟨I,hI⟩:∃ I:Nat->Zf->Mem->Prop,I=λ k sl h=>∃ (j:Nat) (es:List CV),j<=s.length/\i+k<=j/\(∀ x∈es,∃ cs,x=.rptr cs)/\es.length=k/\TM s j 2 h es/\Zm sl 0=.ptr 0 0/\Zm sl 4=.ptr 1 0/\E (s.drop i)=E (s.drop j):=⟨_,rfl⟩
 simp[M5,ZH];refine ZU I (s.length+1) (by omega) (by rw[hI];exact⟨i,[],hi,by omega,by simp,by simp,.inl ⟨rfl,rfl⟩,by simp,by simp,rfl⟩) ?_
 intro k sl h hkn hik;rw[hI]at hik;obtain⟨j,es,hj,hij,hes,hel,hT,h0,h4,hq⟩:=hik;have hcl:clean (some [0,4]) 2 ⟨sl,h⟩=⟨ZK [0,4] sl,h⟩:=jC hT
 have hf1:=hf j (by omega) hj
 rw[AL (s.drop j)]at hq;cases hS:S (s.drop j) with
 | none=>
  rw[hS]at hf1 hq;obtain⟨j2,hj2,h230⟩:=hf1;simp only[PC]at h230;rcases hT with ⟨rfl,rfl⟩|⟨v,hne0,rfl⟩<;>simp only[Y4,Gi]at hcl
  all_goals
   simp[hcl,h0,h4,Y4,Gi,h230];exact⟨.c (.tup [.nilptr,.bool false]),[Y4 s j2],⟨j2,hj2,rfl,.inr ⟨hq,rfl⟩⟩,Yu (.inr rfl) rfl rfl rfl rfl rfl⟩
 | some z=>
  rw[hS]at hf1 hq;obtain⟨j2,cs,hj2,hjj,hd,h230⟩:=hf1;simp only[PC]at h230;have hhead:YC 1 es=true:=by
   cases es with
   | nil=>rfl
   | cons x r=>obtain⟨cs,rfl⟩:=hes x (by simp);rfl
  have hbig:es.length+1<=4294967296:=by omega
  obtain⟨v2,happ⟩:∃ v2:Nat,∀ q:Nat,True:=⟨0,λ _=>trivial⟩
  by_cases h124:s[j2]?=some 124
  ·obtain⟨hlt,he⟩:=Za.1 h124;have hz:z=124::s.drop (j2+1):=by rw[<- hd,ZW hlt,he]
   subst hz;have hsk:=K1 (p:=p) s j2 124 h124 hs
   simp only[Zt]at hsk;simp at hsk;rcases hT with ⟨rfl,rfl⟩|⟨v,hne0,rfl⟩<;>simp only[Y4,Gi]at hcl
   ·simp[hcl,h0,h4,Y4,Gi,h230,ZH,ZO,ZP,hsk];rw[hI];exact⟨by omega,j2+1,[.rptr cs],by omega,by omega,by simp,by simp at hel ⊢;omega,.inr ⟨0,by simp,rfl⟩,rfl,rfl,hq⟩
   ·simp[hcl,h0,h4,Y4,Gi,h230,ZH,ZO,ZP,hsk,hbig];rw[hI];exact⟨by omega,j2+1,es++[.rptr cs],by omega,by omega,λ x hx=>by
      rcases List.mem_append.1 hx with hx | hx
      ·exact hes x hx
      ·exact⟨cs,ZF.1 hx⟩,by simp;omega,.inr ⟨v+1,by simp,rfl⟩,rfl,rfl,hq⟩
  ·have hsk:=jo (p:=p) s j2 124 h124 hj2
   simp only[Zt]at hsk;simp at hsk;have hz:E (s.drop i)=some z:=by
    rw[hq];cases z with
    | nil=>rfl
    | cons c q=>
     have hg:=(Qk hd).1
     have hc:c ≠ 124:=λ e=>h124 (by rw[hg,e])
     split
     ·rename_i e;cases e
     ·rename_i q' e;injection e with e;injection e with e1 e2;exact absurd e1 hc
     ·rename_i e;exact e.symm
   rcases hT with ⟨rfl,rfl⟩|⟨v,hne0,rfl⟩<;>simp only[Y4,Gi]at hcl
   ·simp[hcl,h0,h4,Y4,Gi,h230,ZH,ZO,ZP,hsk];exact⟨.c (.tup [.rptr cs,.bool true]),[Y4 s j2],⟨j2,hj2,rfl,.inl ⟨z,hz,by omega,hd,cs,rfl⟩⟩,Yu (.inr rfl) rfl rfl rfl rfl rfl⟩
   ·have hn1:((es.length:Int)+1==1)=false:=by
     have:es.length ≠ 0:=λ e=>hne0 (List.length_eq_zero_iff.1 e)
     simp;omega
    simp[hcl,h0,h4,Y4,Gi,h230,ZH,ZO,ZP,hsk,hbig,hne0,hn1];refine⟨_,_,⟨j2,hj2,rfl,.inl ⟨z,hz,by omega,hd,[.int .i64 2,.bool false,.int .u8 0,.nilptr,.sl false (es++[.rptr cs])],rfl⟩⟩,.inr rfl,?_⟩
    simp[Fb,ZD,Pi.results,ZL,Ob.lt,Ob.ids,X.ids.idsL,X.ids,ZM,oneOf,Yl,closedL,frz.frzL,frz,ZN]
theorem Ml(s:By)(hs:s.length<=200):∀ (n i:Nat),i<=s.length->s.length - i<=n->RR p 225 s i (E (s.drop i)):=by
 intro n
 induction n with
 | zero=>
  intro i hi hn;refine ya s i hi hs λ j hij hj=>A6 s j hj hs λ k hjk hk=>wM s k hk hs (gb s k hk hs λ hlt=>by omega)
 | succ n ih=>
  intro i hi hn;refine ya s i hi hs λ j hij hj=>A6 s j hj hs λ k hjk hk=>wM s k hk hs (gb s k hk hs λ hlt=>ih (k+1) (by omega) (by omega))
theorem ZgN(s:By)(hs:s.length<=200):∃ v:CV,∀ h,Zi (Zo p) h 213 [.c (.str s)]=some (.c (.tup [v,.bool (Qa s)]),h):=by
 have hc:=Ml (p:=p) s hs s.length 0 (by omega) (by omega)
 have hd0:s.drop 0=s:=rfl
 rw[hd0]at hc;have hl:¬ (200:Int) < s.length:=by omega
 cases hE:E s with
 | none=>
  rw[hE]at hc;obtain⟨j,hj,h225⟩:=hc;simp only[PC]at h225;simp at h225;refine⟨.nilptr,λ h=>ZB Has.h213 ?_⟩
  have hr:Qa s=false:=by simp[Qa,hE]
  rw[hr];refine⟨1,Zk rfl ?_⟩;show W _ _ ua _ _ _ _;simp[ua,ZH,hl,h225];exact Xv (.inr rfl) rfl rfl rfl rfl rfl
 | some q=>
  rw[hE]at hc;obtain⟨j,cs,hj,hij,hd,h225⟩:=hc;simp only[PC]at h225;simp at h225;by_cases hjl:j=s.length
  ·have hq:q=[]:=by rw[<- hd,Ys (by omega)]
   have hr:Qa s=true:=by simp[Qa,hE,hq]
   have hne:((j:Int) != (s.length:Int))=false:=by simp[hjl]
   refine⟨.rptr cs,λ h=>ZB Has.h213 ?_⟩
   rw[hr];refine⟨1,Zk rfl ?_⟩;show W _ _ ua _ _ _ _;simp[ua,ZH,hl,h225,hne];exact Xv (.inr rfl) rfl rfl rfl rfl rfl
  ·have hr:Qa s=false:=by
    simp only[Qa,hE];cases q with
    | nil=>have:=congrArg List.length hd;simp at this;omega
    | cons c r=>rfl
   have hne:((j:Int) != (s.length:Int))=true:=by simp;omega
   refine⟨.nilptr,λ h=>ZB Has.h213 ?_⟩
   rw[hr];refine⟨1,Zk rfl ?_⟩;show W _ _ ua _ _ _ _;simp[ua,ZH,hl,h225,hne];exact Xv (.inr rfl) rfl rfl rfl rfl rfl
theorem c197(s:By)(h:Mem):Zi (Zo p) h 197 [.c (.str s)]=some (.c (.int .i64 (rx s)),h):=by
 refine ZB Has.h197 ?_;by_cases hl:200 < s.length
 ·have hl':(200:Int) < s.length:=by omega
  have hr:rx s=4:=by simp[rx,hl]
  rw[hr];refine⟨1,Zk rfl ?_⟩;show W _ _ Dx _ _ _ _;simp[Dx,hl'];exact ZQ (.inr rfl) rfl rfl rfl
 ·have hl':¬ (200:Int) < s.length:=by omega
  obtain⟨v,h213⟩:=ZgN (p:=p) s (by omega)
  cases hk:Qa s
  all_goals
   rw[hk]at h213;have hr:rx s=if Qa s then 0 else 3:=by simp[rx,hl]
   rw[hr,hk];refine⟨1,Zk rfl ?_⟩;show W _ _ Dx _ _ _ _;simp[Dx,hl',h213];exact ZQ (.inr rfl) rfl rfl rfl
end
section
structure V256 where
 l:List Bool
 len:l.length=256
def V256.put(L:V256)(i:Nat)(b:Bool):V256:=⟨L.1.set i b,by rw[List.length_set];exact L.2⟩
def BL:V256:=⟨List.replicate 256 false,by rw[List.length_replicate]⟩
def WN(L:V256)(k:Int)(s:Bool)(B:X):List X:=X.c (.int .i64 k)::((L.1.map λ b=>X.c (.bool b))++[X.c (.bool s),B])
def UD(L:V256)(k:Int)(s:Bool)(v:CV):List CV:=.int .i64 k::(L.1.map CV.bool++[.bool s,v])
def N0:List CV:=[S.I 0]++YX++[.bool false,.sl true []]
def N1:List CV:=[S.I 0]++YX++[.bool false,.sl false []]
theorem AO:[I0]++YX++[ZkK,ZkL]=N0:=rfl
section
variable {L:V256} {k:Int} {s:Bool} {B:X} {v:CV}
theorem Zio:YX=BL.1.map CV.bool:=by simp only[BL,List.map_replicate,YX]
theorem KD:N0.map X.c=WN BL 0 false (.c (.sl true [])):=by
 rw[N0,Zio];simp only[WN,List.map_append,List.map_cons,List.map_nil,List.map_map];rfl
theorem Wu:(WN L k s B).length=259:=by simp[WN,L.2]
theorem XY:(UD L k s v).length=259:=by simp[UD,L.2]
theorem QA:(UD L k s v).map X.c=WN L k s (.c v):=by
 simp only[UD,WN,List.map_append,List.map_cons,List.map_nil,List.map_map];rfl
theorem Qz{x:Int}:(WN L k s B).set 0 (X.c (.int .i64 x))=WN L x s B:=rfl
theorem ut{l:List X}{a b c d:X}(h:l.length=256):(l++[a,b]).set 256 c=l++[c,b]/\(l++[a,b]).set 257 d=l++[a,d]:=by
 constructor
 ·rw[List.set_append_right (h:=by omega),h];rfl
 ·rw[List.set_append_right (h:=by omega),h];rfl
theorem Vn{b:Bool}:(WN L k s B).set 257 (X.c (.bool b))=WN L k b B:=congrArg (X.c (.int .i64 k)::·) (ut (d:=B) (by simp[L.2])).1
theorem Vm{A:X}:(WN L k s B).set 258 A=WN L k s A:=congrArg (X.c (.int .i64 k)::·) (ut (c:=B) (by simp[L.2])).2
theorem VL{i:Nat}{b:Bool}(hi:i < 256):(WN L k s B).set (1+i) (X.c (.bool b))=WN (L.put i b) k s B:=by
 rw[Nat.add_comm,WN,List.set_cons_succ,List.set_append_left (h:=by simp[L.2,hi])]
 simp[WN,V256.put,List.map_set]
theorem WK:List.take 1 (List.drop 258 (WN L k s B))=[B]:=by
 have h:(258:Nat)=257+1:=rfl
 rw[WN,h,List.drop_succ_cons,List.drop_append,List.drop_eq_nil_of_le (by simp[L.2])]
 simp[L.2]
theorem BZ{i:Nat}(hi:i < 256):∃ b,List.take 1 (List.drop (1+i) (WN L k s B))=[X.c (.bool b)]:=by
 refine⟨L.1[i]'(by rw[L.2];exact hi),?_⟩
 have hl:i < (L.1.map λ b=>X.c (CV.bool b)).length:=by simp[L.2,hi]
 rw[Nat.add_comm,WN,List.drop_succ_cons,List.drop_append_of_le_length (Nat.le_of_lt hl),Zs hl];simp
theorem UC:List.take 259 (WN L k s B)=WN L k s B:=List.take_of_length_le (by rw[Wu];exact Nat.le_refl _)
theorem V3:∀ (l:List Bool) (r:List X),closedL ((l.map λ b=>X.c (.bool b))++r)=(closedL r).map (l.map CV.bool++·)
 | [],r=>by simp
 | b::l,r=>by
  simp only[List.map_cons,List.cons_append,closedL,V3 l r];cases closedL r<;>rfl
theorem WM:closedL (WN L k s (.c v))=some (UD L k s v):=by
 simp only[WN,closedL,V3,UD,Option.map_some]
theorem gt(l:List Bool):(l.map CV.bool).map CV.wk0=l.map CV.bool:=by rw[List.map_map];rfl
theorem Is:(UD L k s v).map CV.wk0=UD L k s v.wk0:=by
 simp only[UD,List.map_cons,List.map_append,gt,List.map_nil];rfl
theorem wg:∀ (vs cs pre:List X),vs.length<=cs.length->setAt (pre++cs) pre.length vs=pre++vs++cs.drop vs.length
 | [],cs,pre,_=>by simp[setAt]
 | v::r,cs,pre,h=>by
  cases cs with
  | nil=>simp at h
  | cons c cr=>
   have e:(pre++c::cr).set pre.length v=(pre++[v])++cr:=by simp
   have:=wg r cr (pre++[v]) (by simpa using h)
   rw[setAt,e];simp only[List.length_append,List.length_cons,List.length_nil,Nat.zero_add]at this;rw[this];simp
theorem Uf{M:V256}{k2:Int}{s2:Bool}{A:X}:setAt (WN L k s B) 0 (WN M k2 s2 A)=WN M k2 s2 A:=by
 have:=wg (WN M k2 s2 A) (WN L k s B) [] (by simp[Wu])
 simp only[List.nil_append,List.length_nil]at this;rw[this,Wu,<- Wu (L:=L) (k:=k) (s:=s) (B:=B),List.drop_length,List.append_nil]
end
variable {p:Prg} [Has p] {h:Mem}
theorem wk_agg(cs:List X):X.wk (Yr cs)=Yr (cs.map X.wk0):=by
 have h:∀ cs:List X,∀ l,closedL cs=some l->closedL (cs.map X.wk0)=some (l.map CV.wk0):=by
  intro cs
  induction cs with
  | nil=>intro l h;cases h;rfl
  | cons x r ih=>
   intro l h;cases x with
   | c v=>
    simp only[closedL]at h;cases hr:closedL r with
    | none=>rw[hr]at h;cases h
    | some q=>rw[hr]at h;cases h;simp only[List.map_cons,X.wk0,closedL,ih q hr]
   | _=>simp only[closedL]at h;cases h
 cases hc:closedL cs with
 | some l=>simp only[Yr,hc,X.wk,CV.wk,h cs l hc]
 | none=>simp only[Yr,hc,X.wk]
theorem Hp{L:V256}{k:Int}{s:Bool}{B:X}:(WN L k s B).map X.wk0=WN L k s B.wk0:=by
 simp only[WN,List.map_cons,List.map_append,List.map_nil,List.map_map];rfl
theorem Kb{L:V256}{k:Int}{s:Bool}{v:CV}:Yr (WN L k s (.c v))=.c (.agg (UD L k s v)):=by
 simp only[Yr,WM]
theorem QQ{L:V256}{k:Int}{s:Bool}{es:List CV}{id v:Nat}:Yr (WN L k s (.own es id v))=.agg (WN L k s (.own es id v)):=by
 have:closedL (WN L k s (.own es id v))=none:=by simp only[WN,closedL,V3,Option.map_none]
 simp only[Yr,this]
theorem qM{L:V256}{k:Int}{s:Bool}{B:X}{v:CV}(hB:B.wk0=.c v):(Yr (WN L k s B)).elem=some (.agg (UD L k s v)):=by
 simp only[X.elem,wk_agg,Hp,hB,Kb,X.closed]
theorem Us{L:V256}{k:Int}{s:Bool}{es:List CV}{id v:Nat}:(X.agg (WN L k s (.own es id v))).elem=some (.agg (UD L k s (.sl false es))):=by
 rw[<- QQ];exact qM rfl
theorem Qn{L:V256}{k:Int}{s:Bool}{b:Bool}{es:List CV}:(X.c (.agg (UD L k s (.sl b es)))).elem=some (.agg (UD L k s (.sl false es))):=by
 rw[<- Kb];exact qM rfl
theorem uL:∀ (n:Nat) (l:List CV),X.ids.idsL n (l.map X.c)=some []\/n=0
 | 0,_=>.inr rfl
 | n+1,[]=>.inl rfl
 | n+1,v::r=>by
  rcases uL (n+1) r with h | h
  ·left;simp[X.ids.idsL,X.ids,h]
  ·omega
def ndR(v:CV):List CV->CV
 | []=>v
 | u::r=>.tup (v::u::r)
theorem Vb{fn:PFn}{r id t:Nat}{L:V256}{k:Int}{s:Bool}{B:X}{w:CV}{ps:List PRes}{us:List CV}{x:Pi.Exit}{sl:Zf}{h:Mem}(hx:x=.normal\/x=.ret)(hk:fn.keep=false)(hr:fn.res=.cell r true 259::ps)(hs:Zm sl r=.ptr id 0)(hm:h[id]?=some (.cells t (WN L k s B)))(hB:B.wk0=.c w)
  (hu:Pi.results ⟨sl,h⟩ ps=some (us.map X.c)) (hw:us.map CV.wk=us):Gu fn 0 (.c (ndR (.agg (UD L k s w)) us)) [] x sl h:=by
 refine⟨hx,?_⟩;have h1:Pi.results ⟨sl,h⟩ fn.res=some (Yr (WN L k s B)::us.map X.c):=by
  rw[hr];have hb:Nat.ble (0+259) (WN L k s B).length=true:=by rw[Wu];rfl
  simp only[Pi.results,hs,ZN,hm,hb,cond_true,List.drop_zero,UC,Z7,hu]
 have h2:(Yr (WN L k s B)::us.map X.c).map X.wk=(.agg (UD L k s w)::us).map X.c:=by
  simp only[List.map_cons,wk_agg,Hp,hB,Kb,List.map_map]
  congr 1
  have:(X.wk ∘ X.c)=X.c ∘ CV.wk:=rfl
  rw[this,<- List.map_map,hw]
 have h3:X.ids.idsL 6 ((.agg (UD L k s w)::us).map X.c)=some []:=by rcases uL 6 (.agg (UD L k s w)::us) with q | q;exact q;omega
 have h4:∀ l:List CV,closedL (l.map X.c)=some l:=by
  intro l
  induction l with
  | nil=>rfl
  | cons v r ih=>simp only[List.map_cons,closedL,ih]
 simp only[ZD,h1,hk,cond_false,h2,ZL,List.take_zero,h3,Option.elim,ZM,cond_true];simp only[ndR];cases us with
 | nil=>rfl
 | cons u r=>simp only[List.map_cons,oneOf,Yl];rw[<- List.map_cons,<- List.map_cons,h4]
attribute [local simp] KD Wu XY QA Qz Vn Vm UC WK WM Uf Kb QQ Us Qn
attribute [-simp] List.map_append
def NV(v:CV):Prop:=∃ L k s aZ,v=.agg (UD L k s (.sl false aZ))
theorem VN{f:Nat}{fn:PFn}{vs:List CV}(P:CV->Prop)(hf:p.fn f=some (.body fn))(hr:∃ N,∃ z h',(∃ v,z=.c v/\h'=[]/\P v)/\Z5 (Zo p) N fn (vs.map X.c) []=some (z,h')):∃ v,P v/\∀ h,Zi (Zo p) h f (vs.map X.c)=some (.c v,h):=by
 obtain⟨N,z,h',⟨v,rfl,rfl,hp⟩,hr⟩:=hr;exact⟨v,hp,λ h=>Qj hf ⟨N,hr⟩⟩
theorem ZaY(c:UInt8):∃ v,NV v/\∀ h,Zi (Zo p) h 238 [.c (Zt c)]=some (.c v,h):=by
 have hc:=c.toNat_lt
 have hle:1+c.toNat<=258:=by omega
 have hle2:c.toNat<=255:=by omega
 have hset:=fun (L:V256) k s B b=>VL (L:=L) (k:=k) (s:=s) (B:=B) (i:=c.toNat) (b:=b) hc
 refine⟨_,⟨BL.put c.toNat true,1,true,[],rfl⟩,λ h=>ZB Has.h238 ⟨1,Zk rfl ?_⟩⟩
 show W _ _ MY _ _ _ _;simp only[MY,AO];simp[ZH,Zt,hle,hle2,hset];exact Vb (us:=[]) (.inr rfl) rfl rfl rfl rfl rfl rfl rfl
theorem ZgB(c:UInt8):∃ v,NV v/\∀ h,Zi (Zo p) h 239 [.c (Zt c)]=some (.c (.tup [v,.bool (decide (c=100)||decide (c=119)||(XS c).isSome)]),h):=by
 by_cases hd:c=100\/c=119
 ·have hb:(decide (c=100)||decide (c=119)||(XS c).isSome)=true:=by rcases hd with rfl | rfl<;>rfl
  rw[hb];have hc1:(!decide (c=100)&&!decide (c=119))=false:=by rcases hd with rfl | rfl<;>rfl
  have key:∃ v,(∃ w,NV w/\v=.tup [w,.bool true])/\∀ h,Zi (Zo p) h 239 ([Zt c].map X.c)=some (.c v,h):=by
   refine VN _ Has.h239 ⟨258,Z6 _ rfl ?_⟩;simp only[Zt,List.map_cons,List.map_nil];show W _ _ Ds _ _ _ _;simp only[Ds,AO];obtain⟨b1,hb1⟩:∃ b1,decide (c=100)=b1:=⟨_,rfl⟩;obtain⟨b2,hb2⟩:∃ b2,decide (c=119)=b2:=⟨_,rfl⟩;rw[hb1,hb2]at hc1;have hbb:(b1=true/\b2=false)\/(b1=false/\b2=true):=by
    rcases hd with rfl | rfl
    ·left;exact⟨hb1.symm,hb2.symm⟩
    ·right;exact⟨hb1.symm,hb2.symm⟩
   have hx1:((c.toNat:Int) != 100)=!b1:=by rw[HF,hb1]
   have hx2:((c.toNat:Int) != 119)=!b2:=by rw[HE,hb2]
   have hx3:((c.toNat:Int)==119)=b2:=by rw[jr,hb2]
   clear hb1 hb2 hd;rcases hbb with ⟨rfl,rfl⟩|⟨rfl,rfl⟩
   all_goals
    simp[ZH,hx1,hx2,hx3];refine ZU (λ i sl h=>(∃ L,h=[.cells 252 (WN BL 0 false (.c (.sl true []))),.cells 252 (WN L 1 false (.c (.sl true [])))])/\Zm sl 0=.c (.int .u8 c.toNat)/\Zm sl 2=.ptr 0 0/\Zm sl 4=.ptr 1 0/\Zm sl 7=.c (.int .i64 i)) 256 (by omega) ⟨⟨BL,rfl⟩,by simp,by simp,by simp,by simp⟩ ?_
    rintro i sl h hi ⟨⟨L,rfl⟩,h0,h2,h4,h7⟩
    rcases Zl i 256 with hlt | hge
    ·have hw:IntKind.i64.wrap ((i:Int)+1)=(i:Int)+1:=ZA (by omega) (by omega)
     obtain⟨x,hu⟩:∃ x:UInt8,IntKind.u8.wrap (i:Int)=(x.toNat:Int):=⟨UInt8.ofNat i,by simp[IntKind.wrap,IntKind.bits,IntKind.signed,UInt8.toNat_ofNat']⟩
     have h243:=λ h=>ZaV (p:=p) (h:=h) x
     simp only[Zt]at h243;have hlt':(i:Int) < 256:=by omega
     have hle:1+i<=258:=by omega
     have hle2:i<=255:=by omega
     have hset:=fun (L:V256) k s B b=>VL (L:=L) (k:=k) (s:=s) (B:=B) (i:=i) (b:=b) hlt
     simp[h0,h2,h4,h7,hlt,hlt',hw,hu,Zn];repeat' first
      | ((first|refine Z8 false ?_ ?_ | refine Z9 false ?_ ?_ | refine ZT false ?_ ?_)<;>intro ht<;>simp[ht,hx3,Dj,h243,hle,hle2,hset,hw,Zn,h0,h2,h4,h7])
      | (refine Zw rfl (by simp[Mem.same,Ze,Zj]) ?_;simp[hx3,Dj,h243,hle,hle2,hset,hw,Zn,h0,h2,h4,h7])
      | exact Zu rfl rfl rfl
      | (refine⟨Zu rfl rfl rfl,?_⟩;first|rfl | (simp[*];done))
      | (exact⟨_,rfl⟩;done)
    ·obtain rfl:i=256:=by omega
     simp[h0,h2,h4,h7];exact⟨_,_,⟨_,rfl,rfl,_,⟨L,1,false,[],rfl⟩,rfl⟩,Vb (us:=[.bool true]) (.inr rfl) rfl rfl rfl rfl rfl rfl rfl⟩
  obtain⟨_,⟨w,hw,rfl⟩,h⟩:=key;exact⟨w,hw,h⟩
 ·obtain⟨d,-,h242⟩:=ZaW (p:=p) c;obtain⟨v,hv,h238⟩:=ZaY (p:=p) d;obtain⟨h1,h2⟩:¬ c=100/\¬ c=119:=⟨λ q=>hd (.inl q),λ q=>hd (.inr q)⟩
  obtain⟨L,k,s,aZ,rfl⟩:=hv;refine⟨_,⟨L,k,s,aZ,rfl⟩,λ h=>ZB Has.h239 ⟨1,Zk rfl ?_⟩⟩
  simp only[Zt]at h242 h238 ⊢;show W _ _ Ds _ _ _ _;simp only[Ds,AO];simp[ZH,u0,jr,HF,HE,h1,h2,h242,h238];exact Vb (us:=[.bool (XS c).isSome]) (.inr rfl) rfl rfl rfl rfl rfl rfl rfl
end
end Go.Proofs.YtmckcikeefggdaaGreatDoor
