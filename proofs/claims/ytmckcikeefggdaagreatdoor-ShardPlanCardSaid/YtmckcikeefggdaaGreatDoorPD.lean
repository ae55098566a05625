/- Part 4 of the proof. -/
import Derived.Lib.Bytealg
import Derived.KernelRfl
import GoSem.ClaimChange
import GoSem.ClaimJoined
import Derived.Below
import Derived.FnData
import Derived.Test.YtmckcikeefggdaaGreatDoorPC
set_option linter.unusedVariables false
set_option linter.unusedSimpArgs false
set_option linter.unusedSectionVars false
set_option maxRecDepth 100000
set_option maxHeartbeats 16000000
namespace Go.Proofs.YtmckcikeefggdaaGreatDoor
open Go.Pi Go.Pi.S
def Z24:List CV:=List.replicate 24 (.int .u8 0)
def Sm0:List UInt8:=[48,48,48,49,48,50,48,51,48,52,48,53,48,54,48,55,48,56,48,57,49,48,49,49,49,50,49,51,49,52,49,53,49,54,49,55,49,56,49,57,50,48,50,49,50,50,50,51,50,52,50,53,50,54,50,55,50,56,50,57,51,48,51,49,51,50,51,51,51,52,51,53,51,54,51,55,51,56,51,57,52,48,52,49,52,50,52,51,52,52,52,53,52,54,52,55,52,56,52,57,53,48,53,49,53,50,53,51,53,52,53,53,53,54,53,55,53,56,53,57,54,48,54,49,54,50,54,51,54,52,54,53,54,54,54,55,54,56,54,57,55,48,55,49,55,50,55,51,55,52,55,53,55,54,55,55,55,56,55,57,56,48,56,49,56,50,56,51,56,52,56,53,56,54,56,55,56,56,56,57,57,48,57,49,57,50,57,51,57,52,57,53,57,54,57,55,57,56,57,57]
def Sm1:List UInt8:=[0,1,2,2,3,3,3,3,4,4,4,4,4,4,4,4,5,5,5,5,5,5,5,5,5,5,5,5,5,5,5,5,6,6,6,6,6,6,6,6,6,6,6,6,6,6,6,6,6,6,6,6,6,6,6,6,6,6,6,6,6,6,6,6,7,7,7,7,7,7,7,7,7,7,7,7,7,7,7,7,7,7,7,7,7,7,7,7,7,7,7,7,7,7,7,7,7,7,7,7,7,7,7,7,7,7,7,7,7,7,7,7,7,7,7,7,7,7,7,7,7,7,7,7,7,7,7,7,8,8,8,8,8,8,8,8,8,8,8,8,8,8,8,8,8,8,8,8,8,8,8,8,8,8,8,8,8,8,8,8,8,8,8,8,8,8,8,8,8,8,8,8,8,8,8,8,8,8,8,8,8,8,8,8,8,8,8,8,8,8,8,8,8,8,8,8,8,8,8,8,8,8,8,8,8,8,8,8,8,8,8,8,8,8,8,8,8,8,8,8,8,8,8,8,8,8,8,8,8,8,8,8,8,8,8,8,8,8,8,8,8,8,8,8,8,8,8,8,8,8,8,8,8,8,8,8]
def NH:PCode:=(ZkN [ZkD 2 (.str [])] (ZkN [m 3 0,ZkE 4 187 [T3,(ZkI 10)],m 2 4] .ret))
def LI:PFn:=⟨1,[.t 2],NH,false,true⟩
def Dy:PCode:=(ZkN [ZkD 4 (.str [])] (.seq (ZkN [m 10 1,a 11 (.bin .eql T10 (ZkI 10))] (.cond T11 (.seq (ZkN [m 12 0,a 13 (.bin .leq (ZkI 0) T12),m 14 13,g 15 (.mov T0) 14 true,g 16 (.bin .lss T15 (ZkI 100)) 14 true,a 17 (.pick T14 T16 ZkH)] (.live [0,17] (.cond T17 (ZkN [m 18 0,ZkE 19 205 [T18],m 4 19] .ret) .skip))) (.live [0] (ZkN [a 5 (.alloc 229 Z24)] (ZkN [m 20 0,a 21 (.toInt .u64 T20),m 6 21] (.seq (ZkN [m 22 0,a 23 (.bin .lss T22 (ZkI 0))] (.cond T23 (.ops [m 24 6,a 25 (.neg T24),m 6 25]) .skip)) (ZkN [m 26 6,ZkE 27 206 [T26],m 7 27] (ZkN [m 28 7,a 29 (.bin .add (ZkI 1) T28),a 30 (.slArr 24 1 T5 (some (ZkI 1)) (some T29)),m 31 6,ZkE 32 207 [T30,T31]] (.seq (ZkN [m 33 0,a 34 (.bin .lss T33 (ZkI 0))] (.cond T34 (ZkN [a 35 (.idxArr 24 1 T5 (ZkI 0)),n (.store 1 T35 (.k (.int .u8 (.ofNat 45))))] (ZkN [m 36 7,a 37 (.bin .add (ZkI 1) T36),a 38 (.slArr 24 1 T5 none (some T37)),a 39 (.bytesStr T38),m 4 39] .ret)) .skip)) (.live [5,7] (ZkN [m 40 7,a 41 (.bin .add (ZkI 1) T40),a 42 (.slArr 24 1 T5 (some (ZkI 1)) (some T41)),a 43 (.bytesStr T42),m 4 43] .ret)))))))))) .skip)) (.live [0,1] (ZkN [m 45 0,a 46 (.toInt .u64 T45),m 47 1,m 48 0,a 49 (.bin .lss T48 (ZkI 0)),ZkE 50 208 [(.k ZkL),T46,T47,T49,ZkH],m 44 50,a 51 (.ext T44 0),a 52 (.ext T44 1),m 8 51,m 9 52] (ZkN [m 53 9,m 4 53] .ret)))))
def Lp:PFn:=⟨2,[.t 4],Dy,false,true⟩
def FU:PCode:=(ZkN [ZkD 2 (.str [])] (.seq (ZkN [m 3 0,a 4 (.bin .lss T3 (ZkI 10))] (.cond T4 (ZkN [m 5 0,m 6 0,a 7 (.bin .add T6 (ZkI 1)),a 8 (.slStr (.k (.str [48,49,50,51,52,53,54,55,56,57,97,98,99,100,101,102,103,104,105,106,107,108,109,110,111,112,113,114,115,116,117,118,119,120,121,122])) (some T5) (some T7)),m 2 8] .ret) .skip)) (.live [0] (ZkN [m 9 0,a 10 (.bin .mul T9 (ZkI 2)),m 11 0,a 12 (.bin .mul T11 (ZkI 2)),a 13 (.bin .add T12 (ZkI 2)),a 14 (.slStr (.k (.str Sm0)) (some T10) (some T13)),m 2 14] .ret))))
def Ld:PFn:=⟨1,[.t 2],FU,false,true⟩
def Nf:PCode:=(ZkN [ZkD 2 I0] (ZkN [m 4 0,ZkE 5 218 [T4],ZkE 6 217 [T5],m 3 6] (ZkN [m 7 3,m 8 0,m 9 3,a 10 (.idxArr 20 1 (.g 5) T9),l 11 10,a 12 (.bin .geq T8 T11),ZkE 13 219 [T12],a 14 (.bin .add T7 T13),m 2 14] .ret)))
def Lc:PFn:=⟨1,[.t 2],Nf,false,true⟩
def Ne:PCode:=(ZkN [m 17 0,a 18 (.lenSl T17),m 4 18] (.seq (.block 0 (.loop (some [0,1,4]) (.seq (ZkN [m 19 4,a 20 (.bin .geq T19 (ZkI 8))] (.cond T20 .skip (.exit 0))) (.block 1 (ZkN [m 21 1,a 22 (.bin .rem T21 (.k (.int .u64 (.ofNat 100000000)))),a 23 (.toInt .u32 T22),m 5 23] (ZkN [m 24 1,a 25 (.bin .quo T24 (.k (.int .u64 (.ofNat 100000000)))),m 1 25] (ZkN [m 26 5,a 27 (.bin .quo T26 (.k (.int .u32 (.ofNat 10000)))),m 28 5,a 29 (.bin .rem T28 (.k (.int .u32 (.ofNat 10000)))),m 6 27,m 7 29] (.live [0,1,4,6,7] (ZkN [m 30 7,a 31 (.bin .quo T30 (.k (.int .u32 (.ofNat 100)))),a 32 (.bin .mul T31 (.k (.int .u32 (.ofNat 2)))),m 33 7,a 34 (.bin .rem T33 (.k (.int .u32 (.ofNat 100)))),a 35 (.bin .mul T34 (.k (.int .u32 (.ofNat 2)))),m 8 32,m 9 35] (.live [0,1,4,6,8,9] (ZkN [m 36 6,a 37 (.bin .quo T36 (.k (.int .u32 (.ofNat 100)))),a 38 (.bin .mul T37 (.k (.int .u32 (.ofNat 2)))),m 39 6,a 40 (.bin .rem T39 (.k (.int .u32 (.ofNat 100)))),a 41 (.bin .mul T40 (.k (.int .u32 (.ofNat 2)))),m 10 38,m 11 41] (.live [0,1,4,8,9,10,11] (.seq (.dops [m 42 0,m 43 4,a 44 (.bin .sub T43 (ZkI 1)),m 45 0,m 46 4,a 47 (.bin .sub T46 (ZkI 2)),m 48 9,a 49 (.bin .add T48 (.k (.int .u32 (.ofNat 1)))),a 50 (.idxStr (.k (.str Sm0)) T49),m 51 9,a 52 (.idxStr (.k (.str Sm0)) T51),a 53 (.idxSl 1 T42 T44),n (.store 1 T53 T50),a 54 (.idxSl 1 T45 T47),n (.store 1 T54 T52)] [[],[],[1],[],[],[4],[],[6],[7,6],[],[9],[0,2,8,1,7,6],[11,0,2,8,1,7,6],[3,5,10,12,4,9,11,0,2,8,1,7,6],[13,3,5,10,12,4,9,11,0,2,8,1,7,6]]) (.live [0,1,4,8,10,11] (.seq (.dops [m 55 0,m 56 4,a 57 (.bin .sub T56 (ZkI 3)),m 58 0,m 59 4,a 60 (.bin .sub T59 (ZkI 4)),m 61 8,a 62 (.bin .add T61 (.k (.int .u32 (.ofNat 1)))),a 63 (.idxStr (.k (.str Sm0)) T62),m 64 8,a 65 (.idxStr (.k (.str Sm0)) T64),a 66 (.idxSl 1 T55 T57),n (.store 1 T66 T63),a 67 (.idxSl 1 T58 T60),n (.store 1 T67 T65)] [[],[],[1],[],[],[4],[],[6],[7,6],[],[9],[0,2,8,1,7,6],[11,0,2,8,1,7,6],[3,5,10,12,4,9,11,0,2,8,1,7,6],[13,3,5,10,12,4,9,11,0,2,8,1,7,6]]) (.live [0,1,4,10,11] (.seq (.dops [m 68 0,m 69 4,a 70 (.bin .sub T69 (ZkI 5)),m 71 0,m 72 4,a 73 (.bin .sub T72 (ZkI 6)),m 74 11,a 75 (.bin .add T74 (.k (.int .u32 (.ofNat 1)))),a 76 (.idxStr (.k (.str Sm0)) T75),m 77 11,a 78 (.idxStr (.k (.str Sm0)) T77),a 79 (.idxSl 1 T68 T70),n (.store 1 T79 T76),a 80 (.idxSl 1 T71 T73),n (.store 1 T80 T78)] [[],[],[1],[],[],[4],[],[6],[7,6],[],[9],[0,2,8,1,7,6],[11,0,2,8,1,7,6],[3,5,10,12,4,9,11,0,2,8,1,7,6],[13,3,5,10,12,4,9,11,0,2,8,1,7,6]]) (.live [0,1,4,10] (.seq (.dops [m 81 0,m 82 4,a 83 (.bin .sub T82 (ZkI 7)),m 84 0,m 85 4,a 86 (.bin .sub T85 (ZkI 8)),m 87 10,a 88 (.bin .add T87 (.k (.int .u32 (.ofNat 1)))),a 89 (.idxStr (.k (.str Sm0)) T88),m 90 10,a 91 (.idxStr (.k (.str Sm0)) T90),a 92 (.idxSl 1 T81 T83),n (.store 1 T92 T89),a 93 (.idxSl 1 T84 T86),n (.store 1 T93 T91)] [[],[],[1],[],[],[4],[],[6],[7,6],[],[9],[0,2,8,1,7,6],[11,0,2,8,1,7,6],[3,5,10,12,4,9,11,0,2,8,1,7,6],[13,3,5,10,12,4,9,11,0,2,8,1,7,6]]) (.live [0,1,4] (.ops [m 94 4,a 95 (.bin .sub T94 (ZkI 8)),m 4 95]))))))))))))))))))))) (.live [0,1,4] (ZkN [m 96 1,a 97 (.toInt .u32 T96),m 12 97] (.seq (ZkN [m 98 4,a 99 (.bin .geq T98 (ZkI 4))] (.cond T99 (ZkN [m 100 12,a 101 (.bin .rem T100 (.k (.int .u32 (.ofNat 10000)))),m 13 101] (ZkN [m 102 12,a 103 (.bin .quo T102 (.k (.int .u32 (.ofNat 10000)))),m 12 103] (ZkN [m 104 13,a 105 (.bin .quo T104 (.k (.int .u32 (.ofNat 100)))),a 106 (.bin .mul T105 (.k (.int .u32 (.ofNat 2)))),m 107 13,a 108 (.bin .rem T107 (.k (.int .u32 (.ofNat 100)))),a 109 (.bin .mul T108 (.k (.int .u32 (.ofNat 2)))),m 14 106,m 15 109] (.live [0,4,12,14,15] (.seq (.dops [m 110 0,m 111 4,a 112 (.bin .sub T111 (ZkI 1)),m 113 0,m 114 4,a 115 (.bin .sub T114 (ZkI 2)),m 116 15,a 117 (.bin .add T116 (.k (.int .u32 (.ofNat 1)))),a 118 (.idxStr (.k (.str Sm0)) T117),m 119 15,a 120 (.idxStr (.k (.str Sm0)) T119),a 121 (.idxSl 1 T110 T112),n (.store 1 T121 T118),a 122 (.idxSl 1 T113 T115),n (.store 1 T122 T120)] [[],[],[1],[],[],[4],[],[6],[7,6],[],[9],[0,2,8,1,7,6],[11,0,2,8,1,7,6],[3,5,10,12,4,9,11,0,2,8,1,7,6],[13,3,5,10,12,4,9,11,0,2,8,1,7,6]]) (.live [0,4,12,14] (.seq (.dops [m 123 0,m 124 4,a 125 (.bin .sub T124 (ZkI 3)),m 126 0,m 127 4,a 128 (.bin .sub T127 (ZkI 4)),m 129 14,a 130 (.bin .add T129 (.k (.int .u32 (.ofNat 1)))),a 131 (.idxStr (.k (.str Sm0)) T130),m 132 14,a 133 (.idxStr (.k (.str Sm0)) T132),a 134 (.idxSl 1 T123 T125),n (.store 1 T134 T131),a 135 (.idxSl 1 T126 T128),n (.store 1 T135 T133)] [[],[],[1],[],[],[4],[],[6],[7,6],[],[9],[0,2,8,1,7,6],[11,0,2,8,1,7,6],[3,5,10,12,4,9,11,0,2,8,1,7,6],[13,3,5,10,12,4,9,11,0,2,8,1,7,6]]) (.live [0,4,12] (.ops [m 136 4,a 137 (.bin .sub T136 (ZkI 4)),m 4 137]))))))))) .skip)) (.live [0,4,12] (.seq (ZkN [m 138 4,a 139 (.bin .geq T138 (ZkI 2))] (.cond T139 (ZkN [m 140 12,a 141 (.bin .rem T140 (.k (.int .u32 (.ofNat 100)))),a 142 (.bin .mul T141 (.k (.int .u32 (.ofNat 2)))),m 16 142] (ZkN [m 143 12,a 144 (.bin .quo T143 (.k (.int .u32 (.ofNat 100)))),m 12 144] (.seq (.dops [m 145 0,m 146 4,a 147 (.bin .sub T146 (ZkI 1)),m 148 0,m 149 4,a 150 (.bin .sub T149 (ZkI 2)),m 151 16,a 152 (.bin .add T151 (.k (.int .u32 (.ofNat 1)))),a 153 (.idxStr (.k (.str Sm0)) T152),m 154 16,a 155 (.idxStr (.k (.str Sm0)) T154),a 156 (.idxSl 1 T145 T147),n (.store 1 T156 T153),a 157 (.idxSl 1 T148 T150),n (.store 1 T157 T155)] [[],[],[1],[],[],[4],[],[6],[7,6],[],[9],[0,2,8,1,7,6],[11,0,2,8,1,7,6],[3,5,10,12,4,9,11,0,2,8,1,7,6],[13,3,5,10,12,4,9,11,0,2,8,1,7,6]]) (.live [0,4,12] (.ops [m 158 4,a 159 (.bin .sub T158 (ZkI 2)),m 4 159]))))) .skip)) (.live [0,4,12] (ZkN [m 160 4,a 161 (.bin .gtr T160 (ZkI 0))] (.cond T161 (.ops [m 162 0,m 163 12,a 164 (.bin .add (.k (.int .u32 (.ofNat 48))) T163),a 165 (.toInt .u8 T164),a 166 (.idxSl 1 T162 (ZkI 0)),n (.store 1 T166 T165)]) .skip))))))))))
def An:PFn:=⟨2,[],Ne,false,true⟩
def M9:PCode:=(ZkN [ZkD 2 I0] (ZkN [m 3 0,a 4 (.bin .mul T3 (ZkI 78913)),a 5 (.bin .shr T4 (.k (.int .u64 (.ofNat 18)))),m 2 5] .ret))
def I5:PFn:=⟨1,[.t 2],M9,false,true⟩
def M8:PCode:=(ZkN [ZkD 2 I0] (.seq (ZkN [m 3 0,a 4 (.bin .geq T3 (.k (.int .u64 (.ofNat 4294967296))))] (.cond T4 (ZkN [m 5 0,a 6 (.bin .shr T5 (.k (.int .u64 (.ofNat 32)))),m 0 6] (.ops [ZkD 2 (I 32)])) .skip)) (.live [0,2] (.seq (ZkN [m 7 0,a 8 (.bin .geq T7 (.k (.int .u64 (.ofNat 65536))))] (.cond T8 (ZkN [m 9 0,a 10 (.bin .shr T9 (.k (.int .u64 (.ofNat 16)))),m 0 10] (.ops [m 11 2,a 12 (.bin .add T11 (ZkI 16)),m 2 12])) .skip)) (.live [0,2] (.seq (ZkN [m 13 0,a 14 (.bin .geq T13 (.k (.int .u64 (.ofNat 256))))] (.cond T14 (ZkN [m 15 0,a 16 (.bin .shr T15 (.k (.int .u64 (.ofNat 8)))),m 0 16] (.ops [m 17 2,a 18 (.bin .add T17 (ZkI 8)),m 2 18])) .skip)) (.live [0,2] (ZkN [m 19 2,m 20 0,a 21 (.toInt .u8 T20),a 22 (.idxStr (.k (.str Sm1)) T21),a 23 (.toInt .i64 T22),a 24 (.bin .add T19 T23),m 2 24] .ret))))))))
def IZ:PFn:=⟨1,[.t 2],M8,false,true⟩
def FT:PCode:=(ZkN [ZkD 2 I0] (.seq (ZkN [m 3 0] (.cond T3 (ZkN [ZkD 2 (I 1)] .ret) .skip)) (ZkN [ZkD 2 I0] .ret)))
def IY:PFn:=⟨1,[.t 2],FT,false,true⟩
class HasI(p:Prg):Prop where
 h154:p.fn 154=some (.body LI)
 h187:p.fn 187=some (.body Lp)
 h205:p.fn 205=some (.body Ld)
 h206:p.fn 206=some (.body Lc)
 h207:p.fn 207=some (.body An)
 h217:p.fn 217=some (.body I5)
 h218:p.fn 218=some (.body IZ)
 h219:p.fn 219=some (.body IY)
end Go.Proofs.YtmckcikeefggdaaGreatDoor
namespace Go.Pi
section
section
variable {P:Program}
theorem JZ{f:Nat}{fu:Func}{e:Array Value->Sem Value}(hf:P.funcs[f]?=some fu)(hname:(fu.name == "runtime.NumGoroutine")=false)(hb:fu.body.isNone=true)(hn:Extern.findNext fu=none)(he:Extern.find fu=some e)
  {G:Gh} {h:Mem} {w:World} {vs:Array Value} {v:Value} {z:X} (hi:Inv G h w) (hr:(e vs).run P w=.ok v w) (hx:RdX G v z):CallsAs P G h w f vs z h:=
 .inl ⟨v,w,G,by rw[run_callFunc_extern hf hname hb hn he,hr];rfl,Y5 hi,hx⟩
def yp:List X->Mem->Option (X × Mem)
 | [x],h=>some (x,h)
 | _,_=>none
theorem gH{p:Prg}{f:Nat}{fu:Func}(hf:P.funcs[f]?=some fu)(hname:(fu.name == "runtime.NumGoroutine")=false)(hb:fu.body.isNone=true)(hn:Extern.findNext fu=none)(he:Extern.find fu=some Extern.AbiNoEscape.same):JC P p f yp:=by
 intro args h z h' hp G w vs hi hv;unfold yp at hp;split at hp
 ·rename_i x hm;cases hp;obtain⟨hl,hr⟩:=hv
  match vs,hl with
  | [v],_=>exact JZ hf hname hb hn he hi (v:=v) rfl (hr 0 v z rfl rfl)
 ·cases hp
noncomputable def Qm(b:Nat)(l:List UInt8):Nat->Int:=
 List.rec (motive:=λ _=>Nat->Int) (λ _=>.negSucc 0) (λ x _ ih i=>Bool.rec (motive:=λ _=>Int) (ih (Nat.succ i)) (.ofNat i) (Nat.beq x.toNat (Nat.mod b 256))) l
noncomputable def yq:List X->Mem->Option (X × Mem)
 | [.c (.str s),.c (.int .u8 (.ofNat b))],h=>some (.c (.int .i64 (Qm b s 0)),h)
 | _,_=>none
theorem z7(b:Nat):∀ (l:List UInt8) (i:Nat),Qm b l i=if Lib.indexByte l b.toUInt8==-1 then -1 else(i:Int)+Lib.indexByte l b.toUInt8
 | [],i=>by simp[Qm,Lib.indexByte]
 | x::l,i=>by
  have h:Qm b (x::l) i=(Bool.rec (motive:=λ _=>Int) (Qm b l (i+1)) (.ofNat i) (Nat.beq x.toNat (Nat.mod b 256))):=rfl
  rw[h,z7 b l (i+1)];have hge:=Lib.indexByte_ge l b.toUInt8
  have hx:Nat.beq x.toNat (Nat.mod b 256)=(x==b.toUInt8):=by
   rw[Bool.eq_iff_iff,Nat.beq_eq,beq_iff_eq,<- UInt8.toNat_inj];have:(b.toUInt8).toNat=b % 256:=by simp[Nat.toUInt8,UInt8.toNat_ofNat']
   rw[this];rfl
  rw[hx];simp only[Lib.indexByte];by_cases hc:(x==b.toUInt8)=true
  ·simp[hc]
  ·simp only[Bool.not_eq_true]at hc;simp only[hc,Bool.false_eq_true,if_false];by_cases h1:Lib.indexByte l b.toUInt8=-1
   ·simp[h1]
   ·have h2:(Lib.indexByte l b.toUInt8==-1)=false:=by simpa using h1
    rw[h2];simp only[Bool.false_eq_true,if_false];have h3:(Lib.indexByte l b.toUInt8+1==-1)=false:=by rw[beq_eq_false_iff_ne];omega
    rw[h3];simp only[Bool.false_eq_true,if_false]
    push_cast;omega
theorem gI{p:Prg}{f:Nat}{fu:Func}(hf:P.funcs[f]?=some fu)(hname:(fu.name == "runtime.NumGoroutine")=false)(hb:fu.body.isNone=true)(hn:Extern.findNext fu=none)(he:Extern.find fu=some Extern.BytealgIndexByte.indexByte):JC P p f yq:=by
 intro args h z h' hp G w vs hi hv;unfold yq at hp;split at hp
 ·rename_i m s b;cases hp;obtain⟨hl,hr⟩:=hv
  match vs,hl with
  | [v,u],_=>
   have r1:=hr 0 v _ rfl rfl
   have r2:=hr 1 u _ rfl rfl
   have e1:=r1.str_inv
   have e2:=r2.int_inv
   subst e1;subst e2;refine JZ hf hname hb hn he hi (v:=.int .i64 (Qm b s 0)) ?_ (.c _ _ (.int _ _));have:=Lib.run_indexByteString (P:=P) ⟨s.toArray⟩ (Int.ofNat b) w
   rw[this,z7];have h1:(Int.ofNat b).toNat.toUInt8=b.toUInt8:=rfl
   rw[h1];simp only[List.toList_toArray];have hge:=Lib.indexByte_ge s b.toUInt8
   by_cases hq:Lib.indexByte s b.toUInt8=-1
   ·simp[hq]
   ·have h2:(Lib.indexByte s b.toUInt8==-1)=false:=by simpa using hq
    rw[h2];simp
 ·cases hp
end
end
end Go.Pi
namespace Go.Proofs.YtmckcikeefggdaaGreatDoor
open Go.Pi Go.Pi.S
noncomputable def ux:List X->Mem->Option (X × Mem):=yp
noncomputable def uw:List X->Mem->Option (X × Mem):=yq
noncomputable def tb0:List (Option Fun):=[none,none,none,some (.body f3),some (.body f4),some (.body f5),some (.body f6),some (.body f7),some (.body f8),some (.body f9),some (.body f10),some (.body f11),some (.body f12),some (.body f13),some (.body f14),some (.body f15)]
noncomputable def tb1:List (Option Fun):=[some (.body f16),some (.body f17),some (.body f18),some (.body Fc),some (.body f20),some (.body f21),some (.body ON),some (.body f23),some (.body f24),some (.body f25),some (.body f26),some (.body f27),some (.body f28),some (.body f29),some (.body f30),some (.body f31)]
noncomputable def tb2:List (Option Fun):=[some (.body f32),some (.body f33),some (.body f34),some (.body IA),some (.body f36),some (.body f37),some (.body f38),some (.body f39),some (.body f40),some (.body f41),some (.body CI),some (.body D6),some (.body f44),some (.body f45),some (.body f46),some (.body f47)]
noncomputable def tb3:List (Option Fun):=[some (.body f48),some (.body f49),some (.body f50),some (.body f51),some (.body f52),some (.body f53),some (.body f54),some (.body f55),some (.body f56),some (.body f57),some (.body f58),some (.body f59),some (.body f60),some (.body f61),some (.body f62),some (.body f63)]
noncomputable def tb4:List (Option Fun):=[some (.body f64),some (.body f65),some (.body f66),some (.body f67),some (.body f68),some (.body f69),some (.body f70),some (.body f71),some (.body f72),some (.body f73),some (.body f74),some (.body f75),some (.body f76),some (.body f77),some (.body f78),some (.body f79)]
noncomputable def tb5:List (Option Fun):=[some (.body f80),some (.body f81),some (.body f82),some (.body f83),some (.body f84),some (.body f85),some (.body f86),some (.body f87),some (.body f88),some (.body f89),some (.body f90),some (.body f91),some (.body f92),some (.body f93),some (.body f94),some (.body f95)]
noncomputable def tb6:List (Option Fun):=[some (.body f96),some (.body f97),some (.body f98),some (.body f99),some (.body f100),some (.body f101),some (.body f102),none,some (.body f104),some (.body CN),some (.body Me),some (.body Md),some (.body Mc),some (.body f109),some (.body Mb),some (.body f111)]
noncomputable def tb7:List (Option Fun):=[some (.body Ma),some (.body L9),some (.body L8),some (.body f115),some (.body L7),some (.body L6),some (.body vC),some (.body Fl),some (.body z9),some (.body L5),some (.body Fj),some (.body L4),some (.body L1),some (.body Fi),some (.body L0),some (.body LZ)]
noncomputable def tb8:List (Option Fun):=[some (.body LY),some (.body LX),some (.body LW),some (.body LV),some (.body Fh),some (.body Fg),some (.body LU),some (.body LR),some (.body LQ),some (.body LP),some (.body LO),some (.body LN),some (.body LL),some (.body f141),some (.body f142),some (.body f143)]
noncomputable def tb9:List (Option Fun):=[some (.body f144),some (.body f145),some (.body f146),some (.body f147),some (.body f148),none,some (.body f150),some (.body f151),some (.body LK),some (.body LJ),some (.body LI),some (.body LH),some (.body LG),some (.body LF),some (.body LE),some (.body LD)]
noncomputable def H9:List (Option Fun):=[some (.body LB),some (.body LA),some (.body Lz),some (.body Ly),some (.body Lx),some (.body Ff),some (.body Lw),some (.body Fe),some (.body Fd),some (.body Lv),some (.body Lu),some (.body Lt),some (.body Ls),some (.body Lr),some (.prim ux),some (.body Lq)]
noncomputable def H8:List (Option Fun):=[none,some (.body f177),some (.body f178),some (.body f179),none,none,none,none,none,some (.body f185),some (.body f186),some (.body Lp),some (.body Lo),some (.body Ln),some (.body Lm),some (.body Ll)]
noncomputable def H7:List (Option Fun):=[some (.body Lk),some (.body Lj),some (.body Li),some (.body Lh),some (.body Lg),some (.body Lf),some (.body Le),some (.prim uw),some (.body f200),some (.body f201),none,none,none,some (.body Ld),some (.body Lc),some (.body An)]
noncomputable def H6:List (Option Fun):=[some (.body f208),some (.body Lb),some (.body La),some (.body I9),some (.body I8),some (.body I7),some (.body I6),none,none,some (.body I5),some (.body IZ),some (.body IY),some (.body f220),some (.body f221),some (.body IX),some (.body IW)]
noncomputable def H5:List (Option Fun):=[some (.body IV),some (.body Fb),some (.body IU),some (.body f227),some (.body f228),some (.body IT),some (.body vB),some (.body CM),some (.body IS),some (.body Fa),some (.body IR),some (.body IQ),some (.body Am),some (.body IP),some (.body IN),some (.body IM)]
noncomputable def H4:List (Option Fun):=[some (.body IL),some (.body E9),some (.body IK),some (.body IJ),some (.body II),some (.body E8),some (.body Al),some (.body IH),some (.body CK),some (.body IG),some (.body E7),some (.body IF),some (.body IE),some (.body CJ),some (.body ID),some (.body IC)]
noncomputable def H3:List (Option Fun):=[some (.body IB),none,none,none,none,none,none,none,none,none,none,none,none,none,none,none]
noncomputable def H2:List (Option Fun):=[none,none,none,none,none,none,none,none,none,none,none,none,none,none,none,none]
noncomputable def H1:List (Option Fun):=[none,none,none,none,none,none,none,none,none,none,none,none,none,none,none,none]
noncomputable def zt:List (List (Option Fun)):=[tb0,tb1,tb2,tb3,tb4,tb5,tb6,tb7,tb8,tb9,H9,H8,H7,H6,H5,H4,H3,H2,H1]
def Ba(n:Nat)(v:Int):List CV:=List.replicate n (.int .u8 v)
def glob0:List CV:=Ba 9 0++(Ba 5 1++(Ba 18 0++(Ba 1 1++Ba 223 0)))
def pows:List Nat:=[1,10,100,1000,10000,100000,1000000,10000000,100000000,1000000000,10000000000,100000000000,1000000000000,10000000000000,100000000000000,1000000000000000,10000000000000000,100000000000000000,1000000000000000000,10000000000000000000]
def glob5:List CV:=pows.map λ n=>CV.int .u64 (n:Nat)
def Ct(g:Nat):Option (List CV):=match g with | 0=>some glob0 | 5=>some glob5 | _=>none
def Cc:List (Nat × Nat × Nat × Nat):=[(81,4,0,79),(79,2,0,79)]
noncomputable def WF:Prg:={ fn:=fnT zt,glob:=Ct,lies:=KR Cc }
end Go.Proofs.YtmckcikeefggdaaGreatDoor
namespace Go.Pi
section
open Go
def Xq(w:World):Gh where
 prot b o:=match w.cell? ⟨b,o,none⟩ with | some v=>if v.oneCell'=true then some v else none | none=>none
 pmap _:=none
 loc _:=none
 tip _ _:=none
theorem vt(w:World):Inv (Xq w) [] w where
 prot:=λ b o v h=>by
  simp only[Xq]at h;split at h
  ·split at h
   ·rename_i v' hv hq;cases h;exact⟨hv,hq⟩
   ·cases h
  ·cases h
 pmap:=λ b es h=>by cases h
 ob:=λ id o h=>by simp at h
 inj:=λ i j oi oj bi bj h=>by simp at h
 new:=λ id h=>⟨rfl,λ _=>rfl⟩
theorem KW{w:World}{b o:Nat}{v:Value}(h:w.cell? ⟨b,o,none⟩=some v)(h1:v.oneCell'=true):(Xq w).prot b o=some v:=by
 simp only[Xq,h,h1,if_true]
theorem Step.toBelow{G:Gh}{w:World}{G':Gh}{h':Mem}{w':World}(s:Step G [] w G' h' w'):Go.RowKit.Below w.heap.size w w' where
 os:=s.fr.os
 tape:=s.fr.tape
 output:=s.fr.output
 size:=s.fr.size
 block:=λ k hk=>s.fr.same k hk (λ ⟨id,o,ho,_⟩=>by simp at ho)
section
variable {H:Type} {enc:TypeId × Value->H} {P:Program} {w:World} {base:Nat} {sp:Nat->Bool} {held:Bool}
theorem Qh{α β:Type}{g:α->Option β}:∀ {l:List α} {r:List β},l.mapM g=some r->r.length=l.length
 | [],_,h=>by simp at h;subst h;rfl
 | x::l,r,h=>by
  simp only[List.mapM_cons,Option.bind_eq_bind,Option.pure_def]at h;cases hx:g x with
  | none=>rw[hx]at h;cases h
  | some y=>
   rw[hx]at h;cases hl:l.mapM g with
   | none=>rw[hl]at h;cases h
   | some ys=>
    rw[hl]at h;cases h;simp[Qh hl]
theorem qe{α β:Type}{g:α->Option β}:∀ {l:List α} {r:List β},l.mapM g=some r->∀ (i:Nat) a,l[i]?=some a->∃ b,r[i]?=some b/\g a=some b
 | [],_,_,i,a,h=>by simp at h
 | x::l,r,h,i,a,ha=>by
  simp only[List.mapM_cons,Option.bind_eq_bind,Option.pure_def]at h;cases hx:g x with
  | none=>rw[hx]at h;cases h
  | some y=>
   rw[hx]at h;cases hl:l.mapM g with
   | none=>rw[hl]at h;cases h
   | some ys=>
    rw[hl]at h;cases h;cases i with
    | zero=>simp at ha;subst ha;exact⟨y,rfl,hx⟩
    | succ i=>simp at ha;simpa using qe hl i a ha
theorem A4{L:List Value}{k:Nat}{v:Value}(h:L.take k=[v]):L[0]?=some v:=by
 cases L with
 | nil=>simp at h
 | cons a r=>cases k with
  | zero=>simp at h
  | succ k=>simp only[List.take_succ_cons,List.cons.injEq]at h;rw[h.1];rfl
theorem Bj{C:List Value}{o k:Nat}{v:Value}(h:(C.drop o).take k=[v]):C[o]?=some v:=by
 have:=A4 h
 simpa using this
theorem gw{k:IntKind}{u:TypeId}(hu:P.underlying u=some (.int k)){m:Nat}{cs:List Value}{y:DataW H × List MemPlace}(h:DataW.trod enc P w base sp held m u cs=some y):∃ n,cs=[.int k n]:=by
 cases m with
 | zero=>cases h
 | succ m=>
  simp only[DataW.trod,hu]at h;split at h<;>first|cases h | skip
  all_goals simp_all
theorem qD{a:Addr}{n:Nat}{vs:List Value}(h:w.cells? base a n=some vs):vs.length=n/\∀ j,j < n->∃ v,vs[j]?=some v/\w.cell? (a.add j)=some v:=by
 unfold World.cells? at h;split at h
 ·refine⟨by simpa using Qh h,λ j hj=>?_⟩
  exact qe h j j (by simp[hj])
 ·cases h
def Zah:Value->CV
 | .bool b=>.bool b
 | .int k n=>.int k n
 | .string s=>.str s.data.toList
 | _=>.nilptr
def Cr:Value->Bool
 | .bool _=>true
 | .int _ _=>true
 | .string _=>true
 | _=>false
theorem EU(G:Gh){v:Value}(h:Cr v=true):RdC G v (Zah v):=by
 cases v<;>simp[Cr]at h
 ·exact .bool _
 ·exact .int _ _
 ·rename_i s;exact .str s.data.toList
end
end
section
open Go
theorem zO{P:Program}{w:World}:∀ {l:List (String × DataW Unit)} {ps:List MemPlace},DataW.LaidVars P w l ps->∀ {n:String} {d:DataW Unit},(n,d)∈l->
  ∃ g t cs fuel p,P.globalNamed n=some g/\(P.globals[g]?).map (·.type)=some t/\w.var? P n=some cs/\DataW.trod (λ _=>()) P w 0 (λ _=>true) false fuel t cs.toList=some (d,p)
 | [],_,_,_,_,h=>by simp at h
 | (n',d')::r,ps,h,n,d,hm=>by
  obtain⟨g,t,cs,fuel,p,q,h1,h2,h3,h4,h5,_⟩:=h;rcases List.mem_cons.1 hm with e | hm
  ·cases e;exact⟨g,t,cs,fuel,p,h1,h2,h3,h4⟩
  ·exact zO h5 hm
section
variable {H:Type} {enc:TypeId × Value->H} {P:Program} {w:World} {base:Nat} {sp:Nat->Bool} {held:Bool}
theorem gv{k:IntKind}{u:TypeId}(hu:P.underlying u=some (.int k)){m:Nat}{cs:List Value}{y:DataW H × List MemPlace}(h:DataW.trod enc P w base sp held m u cs=some y):∃ n,cs=[.int k n]/\y.1=.lit (.int k n):=by
 cases m with
 | zero=>cases h
 | succ m=>
  simp only[DataW.trod,hu]at h;split at h<;>first|cases h | skip
  all_goals simp_all
  all_goals (try (rw[<- h.2]))
theorem DH{t t':TypeId}{n:Nat}{k:IntKind}(hu:P.underlying t=some (.array n t'))(hu':P.underlying t'=some (.int k))(hc:P.cellsOf t'=1){m:Nat}{cs:List Value}{zs:List Int}{p:List MemPlace}
  (h:DataW.trod enc P w base sp held m t cs=some (.agg (zs.map λ z=>.lit (.int k z)),p)):∀ (i:Nat) z,zs[i]?=some z->cs[i]?=some (.int k z):=by
 cases m with
 | zero=>cases h
 | succ m=>
  simp only[DataW.trod,hu]at h;split at h
  ·rename_i hl;simp only[Zc,Prod.mk.injEq,DataW.agg.injEq]at h;obtain⟨xs,hx,h1,_⟩:=h;intro i z hz;have hxl:=Qh hx
   have hi:i < xs.length:=by
    have:=(Za.1 hz).1
    have e:=congrArg List.length h1
    simp at e;omega
   have hr:(List.range n)[i]?=some i:=by rw[List.length_range]at hxl;exact List.getElem?_range (by omega)
   obtain⟨b,hb,hg⟩:=qe hx i i hr;obtain⟨n',e1,e2⟩:=gv hu' hg;have e3:(xs.map (·.1))[i]?=some b.1:=by simp[hb]
   rw[h1,List.getElem?_map,hz]at e3;simp only[Option.map_some,Option.some.injEq]at e3;rw[e2]at e3;simp only[DataW.lit.injEq,Lit.int.injEq,true_and]at e3;subst e3;rw[hc,Nat.mul_one]at e1;exact Bj e1
  ·cases h
end
theorem wz{P:Program}{w:World}{l:List (String × DataW Unit)}(h:laidMet P l w){n:String}{zs:List Int}{k:IntKind}(hm:(n,DataW.agg (zs.map λ z=>.lit (.int k z)))∈l)
  {g:Nat} {t t':TypeId} {c:Nat} (hg:P.globalNamed n=some g) (ht:(P.globals[g]?).map (·.type)=some t) (hu:P.underlying t=some (.array c t')) (hu':P.underlying t'=some (.int k)) (hc:P.cellsOf t'=1) :
  ∀ (i:Nat) (cv:CV),(zs.map (CV.int k))[i]?=some cv->∃ v,(Xq w).prot g i=some v/\RdC (Xq w) v cv:=by
 obtain⟨ps,hl,_,_⟩:=h;obtain⟨g',t0,cs,fuel,p,h1,h2,h3,h4⟩:=zO hl hm;rw[hg]at h1;cases h1;rw[ht]at h2;cases h2;intro i cv hcv;rw[List.getElem?_map,Zc]at hcv;obtain⟨z,hz,rfl⟩:=hcv;have h5:=DH hu hu' hc h4 i z hz
 have h6:=World.var?_cell hg h3 i
 rw[<- Array.getElem?_toList,h5]at h6;exact⟨.int k z,KW h6 rfl,.int k z⟩
section
variable {H:Type} {enc:TypeId × Value->H} {P:Program} {w:World} {base:Nat} {sp:Nat->Bool} {held:Bool}
end
end
section
open Go
def zj(P:Program)(t:TypeId)(cs:List CV):CV:=if QZ P t=true then .agg cs else match cs with | [c]=>c | cs=>.agg cs
inductive WT(P:Program):TypeId->List CV->Prop
 | bool (t:TypeId) (b:Bool) (hu:P.underlying t=some .bool):WT P t [.bool b]
 | int (t:TypeId) (k:IntKind) (n:Int) (hu:P.underlying t=some (.int k)):WT P t [.int k n]
 | str (t:TypeId) (s:List UInt8) (hu:P.underlying t=some .string) (hl:s.length<=reachBytes):WT P t [.str s]
 | sl (t e:TypeId) (es:List (List CV)) (hu:P.underlying t=some (.slice e)) (hl:es.length<=reachBytes) (hc:∀ cs,cs∈es->WT P e cs):WT P t [.sl false (es.map (zj P e))]
 | struct (t:TypeId) (fs:Array Field) (cs:List CV) (hu:P.underlying t=some (.struct fs)) (hl:cs.length=P.cellsOf t) (hf:∀ f,f∈fs.toList->WT P f.type ((cs.drop f.offset).take (P.cellsOf f.type))):WT P t cs
def Ab(P:Program)(T:TypeId->Bool):List Field->Nat->Nat->Bool
 | [],o,n=>Nat.beq o n
 | f::r,o,n=>Nat.beq f.offset o&&T f.type&&Ab P T r (o+P.cellsOf f.type) n
def Up(P:Program)(T:TypeId->Bool)(t:TypeId):Bool:=match P.underlying t with
 | some .bool=>true
 | some (.int _)=>true
 | some .string=>true
 | some (.slice e)=>T e&&(Nat.ble 1 (P.cellsOf e)&&Nat.ble 1 (P.bytesOf e))
 | some (.struct fs)=>Ab P T fs.toList 0 (P.cellsOf t)&&QZ P t
 | _=>false
theorem JQ{P:Program}{T:TypeId->Bool}:∀ {fs:List Field} {o n:Nat},Ab P T fs o n=true->o<=n/\∀ f∈fs,T f.type=true/\o<=f.offset/\f.offset+P.cellsOf f.type<=n
 | [],o,n,h=>⟨by rw[Yd h];exact Nat.le_refl _,λ f hf=>by simp at hf⟩
 | f::r,o,n,h=>by
  simp only[Ab,Bool.and_eq_true]at h;obtain⟨⟨h1,h2⟩,h3⟩:=h;have h1:=Yd h1
  obtain⟨h4,h5⟩:=JQ h3;refine⟨by omega,λ f' hf=>?_⟩
  rcases List.mem_cons.1 hf with rfl | hf
  ·exact⟨h2,by omega,by omega⟩
  ·have:=h5 f' hf
   exact⟨this.1,by omega,this.2.2⟩
section
variable {G:Gh} {P:Program} {T:TypeId->Bool}
theorem zN{cs:List Value}(R:TypeId->List CV->Prop):∀ {fs:List Field} {o:Nat},Ab P T fs o cs.length=true->o<=cs.length->
  (∀ f∈fs,∃ cvs,RdCL G ((cs.drop f.offset).take (P.cellsOf f.type)) cvs/\Ones ((cs.drop f.offset).take (P.cellsOf f.type))/\R f.type cvs)->
  ∃ cvs,RdCL G (cs.drop o) cvs/\Ones (cs.drop o)/\∀ f∈fs,R f.type ((cvs.drop (f.offset - o)).take (P.cellsOf f.type))
 | [],o,h,ho,hf=>by
  have:=Yd h
  have e:cs.drop o=[]:=List.drop_eq_nil_of_le (by omega)
  refine⟨[],by rw[e];exact RdCL.nil G,by rw[e];exact λ v hv=>by simp at hv,λ f hf=>by simp at hf⟩
 | f::r,o,h,ho,hf=>by
  have hm:=JQ h
  simp only[Ab,Bool.and_eq_true]at h;obtain⟨⟨h1,h2⟩,h3⟩:=h;have h1:=Yd h1
  have hle:=(hm.2 f Zv).2.2
  obtain⟨c2,a1,a2,a3⟩:=zN R h3 (by omega) (λ f' hf'=>hf f' (Zq _ hf'))
  obtain⟨c1,b1,b2,b3⟩:=hf f Zv;have hsplit:cs.drop o=(cs.drop f.offset).take (P.cellsOf f.type)++cs.drop (o+P.cellsOf f.type):=by
   rw[h1,<- List.drop_drop,List.take_append_drop]
  have hl1:c1.length=P.cellsOf f.type:=by rw[<- b1.1];simp;omega
  refine⟨c1++c2,by rw[hsplit];exact VK b1 a1,by rw[hsplit];exact λ v hv=>(List.mem_append.1 hv).elim (b2 v) (a2 v),λ f' hf'=>?_⟩
  rcases List.mem_cons.1 hf' with rfl | hf'
  ·have e:f'.offset - o=0:=by omega
   rw[e,List.drop_zero,List.take_append_of_le_length (by omega),List.take_of_length_le (by omega)];exact b3
  ·have h5:=(JQ h3).2 f' hf'
   have h6:=a3 f' hf'
   have e:(c1++c2).drop (f'.offset - o)=c2.drop (f'.offset - (o+P.cellsOf f.type)):=by
    rw[List.drop_append,List.drop_eq_nil_of_le (by omega),List.nil_append]
    congr 1;omega
   rw[e];exact h6
end
section
variable {H:Type} {enc:TypeId × Value->H} {P:Program} {w:World} {base:Nat} {held:Bool} {T:TypeId->Bool}
theorem Kt{α β:Type}{g:α->Option β}:∀ {l:List α} {ys:List β} {a:α},l.mapM g=some ys->a∈l->∃ y,g a=some y/\y∈ys
 | b::r,ys,a,h,ha=>by
  simp only[List.mapM_cons,Option.pure_def,Option.bind_eq_bind,Yb]at h;obtain⟨y,h1,zs,h2,h3⟩:=h;injection h3 with h3;subst h3
  rcases List.mem_cons.1 ha with rfl | ha
  ·exact⟨y,h1,Zv⟩
  ·obtain⟨z,h4,h5⟩:=Kt h2 ha;exact⟨z,h4,Zq _ h5⟩
theorem Vp{P:Program}{e:TypeId}{d:DataW H}:∀ {l:List (DataW H)},d∈l->∀ n∈d.weights P e,n∈DataW.weightsAll P e l
 | x::r,h,n,hn=>by
  simp only[DataW.weightsAll,List.mem_append];rcases List.mem_cons.1 h with rfl | h
  ·exact .inl hn
  ·exact .inr (Vp h n hn)
theorem Ub{P:Program}{α:Type}{ty:α->TypeId}{g:α->Option (DataW H × List MemPlace)}:∀ {l:List α} {xs:List (DataW H × List MemPlace)} {a:α},l.mapM g=some xs->a∈l->∃ z,g a=some z/\∀ n∈z.1.weights P (ty a),n∈DataW.weightsEach P (l.map ty) (xs.map (·.1))
 | b::r,xs,a,h,ha=>by
  simp only[List.mapM_cons,Option.pure_def,Option.bind_eq_bind,Yb]at h;obtain⟨y,h1,zs,h2,h3⟩:=h;injection h3 with h3;subst h3
  simp only[List.map_cons,DataW.weightsEach,List.mem_append];rcases List.mem_cons.1 ha with rfl | ha
  ·exact⟨y,h1,λ n hn=>.inl hn⟩
  ·obtain⟨z,h4,h5⟩:=Ub (ty:=ty) h2 ha;exact⟨z,h4,λ n hn=>.inr (h5 n hn)⟩
theorem zp{u t':TypeId}(hu:P.underlying u=some (.slice t')){m:Nat}{cs:List Value}{y:DataW H × List MemPlace}(h:DataW.trod enc P w base (λ _=>true) held (m+1) u cs=some y) :
  cs=[.slice none 0 0]\/∃ a len cap elems spare,cs=[.slice (some a) len cap]/\len<=cap/\cap<=maxLen/\y.1=.slice elems spare/\elems.length+spare.length=cap/\∀ i,i < cap->∃ vs z,w.cells? base (a.add (i*P.cellsOf t')) (P.cellsOf t')=some vs/\DataW.trod enc P w base (λ _=>true) held m t' vs=some z/\(z.1∈elems\/z.1∈spare):=by
 simp only[DataW.trod,hu]at h;split at h<;>first|cases h | skip
 all_goals simp_all
 have h2:=h.2
 rw[Yb]at h2;obtain⟨elems,he,h3⟩:=h2;rw[Zc]at h3;obtain⟨rest,hr,h4⟩:=h3;have hl1:=Qh he
 have hl2:=Qh hr
 simp only[List.length_range]at hl1 hl2;refine⟨_,_,_,⟨rfl,rfl,rfl⟩,h.1.2.1,h.1.2.2,elems.map (·.1),rest.map (·.1),by rw[<- h4],by simp;omega,λ i hi=>?_⟩
 rename_i a len cap _;rcases Zl i len with hlt | hge
 ·obtain⟨z,hz,hze⟩:=Kt he (List.mem_range.2 hlt);rw[Yb]at hz;obtain⟨vs,hv,hz⟩:=hz;exact⟨vs,hv,z.1,⟨z.2,hz⟩,.inl (List.mem_map_of_mem hze)⟩
 ·obtain⟨z,hz,hze⟩:=Kt hr (List.mem_range.2 (show i - len < cap - len by omega))
  rw[Yb]at hz;obtain⟨vs,hv,hz⟩:=hz;rw[show len+(i - len)=i by omega]at hv
  exact⟨vs,hv,z.1,⟨z.2,hz⟩,.inr (List.mem_map_of_mem hze)⟩
theorem gu{u:TypeId}(hu:P.underlying u=some .string){m:Nat}{cs:List Value}{y:DataW H × List MemPlace}{sp:Nat->Bool}(h:DataW.trod enc P w base sp held m u cs=some y):∃ s,cs=[.string s]/\y.1=.lit (.string s.data.toList):=by
 cases m with
 | zero=>cases h
 | succ m=>
  simp only[DataW.trod,hu]at h;split at h<;>first|cases h | skip
  all_goals simp_all
  all_goals rw[<- h.2]
theorem jR{u:TypeId}(hu:P.underlying u=some .bool){m:Nat}{cs:List Value}{y:DataW H × List MemPlace}{sp:Nat->Bool}(h:DataW.trod enc P w base sp held m u cs=some y):∃ b,cs=[.bool b]:=by
 cases m with
 | zero=>cases h
 | succ m=>
  simp only[DataW.trod,hu]at h;split at h<;>first|cases h | skip
  all_goals simp_all
theorem Kq{v:Value}{c:CV}(h:RdC (Xq w) v c)(h1:v.oneCell'=true):RdCL (Xq w) [v] [c]/\Ones [v]:=by
 refine⟨⟨rfl,λ i v' c' a b=>?_⟩,λ v' hv=>by rw[ZF.1 hv];exact h1⟩
 cases i with
 | zero=>simp at a b;subst a;subst b;exact h
 | succ i=>simp at a
theorem WT.mkE_cells{e:TypeId}{cs:List CV}(h:WT P e cs)(hf:Up P T e=true):(zj P e cs).cells=cs:=by
 unfold zj
 split
 ·rfl
 ·rename_i hag;cases h with
  | bool=>rfl
  | int=>rfl
  | str=>rfl
  | sl=>rfl
  | struct=>
   rename_i hu _ _;unfold Up at hf;rw[hu]at hf;simp only[Bool.and_eq_true]at hf;exact absurd hf.2 hag
theorem Mk(hT:∀ t,T t=true->Up P T t=true):∀ (m:Nat) {t:TypeId} {cs:List Value} {x:DataW H × List MemPlace},T t=true->DataW.trod enc P w 0 (λ _=>true) held m t cs=some x->(∀ n∈x.1.weights P t,n<=reachBytes)->∃ cvs,RdCL (Xq w) cs cvs/\Ones cs/\WT P t cvs
 | 0,t,cs,x,ht,h,_=>by cases h
 | m+1,t,cs,x,ht,h,hwt=>by
  have hf:=hT t ht
  have hf0:=hf
  unfold Up at hf;split at hf
  ·rename_i hu;obtain⟨b,rfl⟩:=jR hu h;have:=Kq (w:=w) (RdC.bool b) rfl
   exact⟨_,this.1,this.2,.bool t b hu⟩
  ·rename_i k hu;obtain⟨n,rfl⟩:=gw hu h;have:=Kq (w:=w) (RdC.int k n) rfl
   exact⟨_,this.1,this.2,.int t k n hu⟩
  ·rename_i hu;obtain⟨s,rfl,hs⟩:=gu hu h;have:=Kq (w:=w) (EU (v:=.string s) _ rfl) rfl
   rw[hs]at hwt;exact⟨_,this.1,this.2,.str t _ hu (hwt _ (by simp only[DataW.weights,ZF]))⟩
  ·rename_i e hu;simp only[Bool.and_eq_true]at hf;have hpos:=Zg hf.2.1
   have hby:=Zg hf.2.2
   rcases zp hu h with rfl | ⟨a,len,cap,elems,spare,rfl,hl,hc,hy,hcap,hel⟩
   ·have:=Kq (w:=w) (RdC.slnil none false) rfl
    exact⟨_,this.1,this.2,by have:=WT.sl (P:=P) t e [] hu (Nat.zero_le _) (λ cs hcs=>by simp at hcs);exact this⟩
   ·rw[hy]at hwt;simp only[DataW.weights,hu,List.mem_cons,List.mem_append]at hwt;have hcb:cap<=reachBytes:=by
     have h1:=hwt _ (.inl rfl)
     rw[hcap]at h1;exact Nat.le_trans (Nat.le_mul_of_pos_right cap hby) h1
    by_cases h0:cap=0
    ·subst h0;obtain rfl:len=0:=by omega
     have:=Kq (w:=w) (RdC.slnil (some a) false) rfl
     exact⟨_,this.1,this.2,by have:=WT.sl (P:=P) t e [] hu (Nat.zero_le _) (λ cs hcs=>by simp at hcs);exact this⟩
    ·
     obtain⟨B,O,sp⟩:=a;have hsp:sp=none:=by
      obtain⟨vs,z,h1,_,_⟩:=hel 0 (by omega)
      obtain⟨_,h3⟩:=qD h1;obtain⟨v,_,h4⟩:=h3 0 (by omega)
      simp only[Nat.zero_mul,Addr.add,if_true]at h4;unfold World.cell? at h4;cases sp with
      | none=>rfl
      | some q=>split at h4<;>simp at h4
     subst hsp;have hadd:∀ k,Addr.add ⟨B,O,none⟩ k=⟨B,O+k,none⟩:=λ k=>by
      unfold Addr.add;split
      ·rename_i e;rw[e];rfl
      ·rfl
     have key:∀ i,i < len->∃ cvs,(∀ (j:Nat) d,cvs[j]?=some d->∃ v,(Xq w).prot B (O+i*P.cellsOf e+j)=some v/\RdC (Xq w) v d)/\cvs.length=P.cellsOf e/\WT P e cvs:=by
      intro i hi;obtain⟨vs,z,h1,h2,h2m⟩:=hel i (by omega)
      obtain⟨cvs,r1,r2,r3⟩:=Mk hT m hf.1 h2 (λ n hn=>hwt n (.inr (h2m.elim (λ q=>.inl (Vp q n hn)) (λ q=>.inr (Vp q n hn)))))
      obtain⟨h3,h4⟩:=qD h1;refine⟨cvs,λ j d hd=>?_,by rw[<- r1.1];exact h3,r3⟩
      have hj:j < P.cellsOf e:=by rw[<- h3,r1.1];exact(Za.1 hd).1
      obtain⟨v,h5,h6⟩:=h4 j hj;rw[hadd]at h6;have:Addr.add ⟨B,O+i*P.cellsOf e,none⟩ j=⟨B,O+i*P.cellsOf e+j,none⟩:=by
       unfold Addr.add;split
       ·rename_i e;rw[e];rfl
       ·rfl
      rw[this]at h6;exact⟨v,KW h6 (r2 v (ZI h5)),r1.2 j v d h5 hd⟩
     let f:Nat->List CV:=λ i=>if hi:i < len then Classical.choose (key i hi) else[]
     have hfi:∀ i (hi:i < len),f i=Classical.choose (key i hi):=λ i hi=>by simp only[f,dif_pos hi]
     have hWT:∀ cs,cs∈(List.range len).map f->WT P e cs:=by
      intro cs hcs;obtain⟨i,hi,rfl⟩:=List.mem_map.1 hcs;have hi:=List.mem_range.1 hi
      rw[hfi i hi];exact(Classical.choose_spec (key i hi)).2.2
     have hE:Elems (Xq w) B O (P.cellsOf e) (((List.range len).map f).map (zj P e)):=by
      have get:∀ (i:Nat) c,(((List.range len).map f).map (zj P e))[i]?=some c->i < len/\c.cells=f i:=by
       intro i c hi;rw[List.getElem?_map,Zc]at hi;obtain⟨cs,hi,rfl⟩:=hi;have hlt:i < len:=by have:=(Za.1 hi).1;simpa using this
       have e2:((List.range len).map f)[i]?=some (f i):=by simp[hlt]
       rw[e2]at hi;cases hi;exact⟨hlt,(hWT _ (ZI e2)).mkE_cells (hT e hf.1)⟩
      refine⟨λ i c hi=>?_,λ i c j d hi hj=>?_⟩
      ·obtain⟨h1,h2⟩:=get i c hi;rw[h2,hfi i h1];exact(Classical.choose_spec (key i h1)).2.1
      ·obtain⟨h1,h2⟩:=get i c hi;rw[h2,hfi i h1]at hj;exact(Classical.choose_spec (key i h1)).1 j d hj
     have hrd:RdC (Xq w) (.slice (some ⟨B,O,none⟩) len cap) (.sl false (((List.range len).map f).map (zj P e))):=by
      have:=Xn (full:=false) (cap:=cap) hE (λ h=>by cases h) (by simp[hl])
      simpa using this
     have:=Kq hrd rfl
     exact⟨_,this.1,this.2,.sl t e _ hu (by simp;omega) hWT⟩
  ·rename_i fs hu;simp only[Bool.and_eq_true]at hf;simp only[DataW.trod,hu]at h;split at h
   ·rename_i hl;simp only[Zc]at h;obtain⟨xs,hx,hxe⟩:=h;rw[<- hxe]at hwt;simp only[DataW.weights,hu]at hwt;have hlay:=hf.1
    rw[<- hl]at hlay;obtain⟨cvs,r1,r2,r3⟩:=zN (G:=Xq w) (WT P) hlay (Nat.zero_le _) (λ f hfm=>by
     obtain⟨z,hz,hzw⟩:=Ub (P:=P) (ty:=λ f:Field=>f.type) hx hfm
     exact Mk hT m ((JQ hlay).2 f hfm).1 hz (λ n hn=>hwt n (hzw n hn)))
    rw[List.drop_zero]at r1 r2;refine⟨cvs,r1,r2,.struct t fs cvs hu (by rw[<- r1.1];exact hl) λ f hfm=>?_⟩
    have:=r3 f hfm
    rwa [Nat.sub_zero]at this
   ·cases h
  ·cases hf
end
end
end Go.Pi
namespace Go.Proofs.YtmckcikeefggdaaGreatDoor
open Go.Pi Go.Pi.S
abbrev By:=List UInt8
structure Mt where
 (kind:Int) (name value:By)
structure Cd where
 (field:By) (op:Int) (text:By) (num:Int)
structure Sg where
 (kind:Int) (text:By) (ms:List Mt) (names:List By)
inductive Pt where
 | mk (kind:Int) (conds:List Cd) (args:List Pt)
inductive Ex where
 | mk (kind func:Int) (ms:List Mt) (range offset num den:Int) (names:List By) (without:Bool) (mtch:Int) (stages:List Sg) (pat:Pt) (text:By) (args:List Ex)
def cI(n:Int):CV:=.int .i64 n
def Mt.cv(m:Mt):CV:=.agg [cI m.kind,.str m.name,.str m.value]
def Cd.cv(c:Cd):CV:=.agg [.str c.field,cI c.op,.str c.text,cI c.num]
def Sg.cv(s:Sg):CV:=.agg [cI s.kind,.str s.text,.sl false (s.ms.map Mt.cv),.sl false (s.names.map CV.str)]
mutual
def Pt.cells:Pt->List CV
 | .mk k c a=>[cI k,.sl false (c.map Cd.cv),.sl false (Pt.cvs a)]
def Pt.cvs:List Pt->List CV
 | []=>[]
 | p::r=>.agg (Pt.cells p)::Pt.cvs r
end
mutual
def Ex.cells:Ex->List CV
 | .mk k f ms ra of nu de na wi mt st pa te ar=>[cI k,cI f,.sl false (ms.map Mt.cv),cI ra,cI of,cI nu,cI de,.sl false (na.map CV.str),.bool wi,cI mt,.sl false (st.map Sg.cv)]++pa.cells++[.str te,.sl false (Ex.cvs ar)]
def Ex.cvs:List Ex->List CV
 | []=>[]
 | e::r=>.agg (Ex.cells e)::Ex.cvs r
end
end Go.Proofs.YtmckcikeefggdaaGreatDoor
namespace Go.Pi
section
variable {e:Env} {N:Nat} {s:Zf} {h:Mem} {k:List Fk} {Q:Pi.Exit->Zf->Mem->Prop} {d:Option Nat} {op:POp} {l:List POper} {a b:PCode} {s1:Zf}
attribute [-simp] y7
@[simp] theorem Zbz{d:IntKind}{a b:Int}:Pi.binOp .neq (.c (.int d a)) (.c (.int d b))=some (.bool !(a==b)):=by rw[y7];rfl
theorem X0{e:Env}{f:Nat}{vs:List CV}{z:CV}(hc:∀ h,Zi e h f (vs.map X.c)=some (.c z,h)):e.call f (vs.map X.c) []=some (.c z,[]):=by
 have h1:X.ids.idsL 6 (vs.map X.c)=some []:=by
  clear hc
  induction vs with
  | nil=>rfl
  | cons v r ih=>simp[X.ids.idsL,X.ids,ih]
 have:=hc []
 simp only[Zi,h1]at this;split at this
 ·rename_i r hr;cases this;exact hr
 ·rename_i r nw hn hr;split at this
  ·rename_i r' l h2 h3;have h4:l=[]:=by simpa using congrArg (λ q=>q.map Prod.snd) this
   subst h4;cases nw with
   | nil=>exact(hn rfl).elim
   | cons o os=>
    simp only[Mem.ren]at h3;split at h3<;>simp at h3
  ·cases this
 ·cases this
theorem YZ{e:Env}{f:Nat}{a z:CV}(hc:∀ h,Zi e h f [.c a]=some (.c z,h)):e.call f [.c a] []=some (.c z,[]):=X0 (vs:=[a]) hc
theorem VR{e:Env}{f:Nat}{a b z:CV}(hc:∀ h,Zi e h f [.c a,.c b]=some (.c z,h)):e.call f [.c a,.c b] []=some (.c z,[]):=X0 (vs:=[a,b]) hc
theorem Y0{fn:PFn}{r:Nat}{u v:Bool}{x:Pi.Exit}(hx:x=.normal\/x=.ret)(hr:fn.res=[.t r])(hs:Zm s r=.c (.bool u))(hw:u=v):Gu fn 0 (.c (.bool v)) [] x s h:=Je hx hr (by rw[hs,hw]) rfl
theorem ZQ{fn:PFn}{r:Nat}{kd:IntKind}{u v:Int}{x:Pi.Exit}(hx:x=.normal\/x=.ret)(hr:fn.res=[.t r])(hs:Zm s r=.c (.int kd u))(hw:u=v):Gu fn 0 (.c (.int kd v)) [] x s h:=Je hx hr (by rw[hs,hw]) rfl
@[simp] theorem Zby(b:UInt8):(Zt b).wk=Zt b:=rfl
@[simp] theorem OQ(b:UInt8):(Zt b).wk0=Zt b:=rfl
@[simp] theorem Zcm(k:IntKind):YA (.c (.int k 0))=some 0:=rfl
@[simp] theorem Zcl(k:IntKind):YA (.c (.int k 1))=some 1:=rfl
@[simp] theorem Zck(k:IntKind):YA (.c (.int k 2))=some 2:=rfl
def Cm(live:List Nat)(m:Mem)(s:Zf)(h:Mem):Prop:=clean (some live) m.length ⟨s,h⟩=⟨ZK live s,m⟩
theorem Xh{live:List Nat}{m:Mem}{s:Zf}:Cm live m s m:=Yf (Nat.le_refl _)
theorem Zu{live:List Nat}{m:Mem}{s:Zf}{h:Mem}(ht:h.take m.length=m)(hs:Yy m.length (ZK live s)=true)(hm:ZL m.length m=true):Cm live m s h:=by
 simp only[Cm,clean,gc,ht,hs,hm,Bool.and_self,cond_true];cases hb:Nat.ble h.length m.length with
 | false=>rfl
 | true=>
  have:=Zg hb
  rw[List.take_of_length_le this]at ht;subst ht;rfl
theorem UV{i:Nat}(h0:i ≠ 0)(h1:i < 9223372036854775808):IntKind.i64.wrap ((i:Int) - 1)=((i - 1:Nat):Int):=by rw[ZA (by omega) (by omega)];omega
@[simp] theorem O1:IntKind.i64.wrap 1=1:=rfl
@[simp] theorem O3:IntKind.i64.wrap 0=0:=rfl
@[simp] theorem O0:IntKind.i64.wrap 2=2:=rfl
theorem Xv{fn:PFn}{r q:Nat}{u v:CV}{x:Pi.Exit}(hx:x=.normal\/x=.ret)(hr:fn.res=[.t r,.t q])(hs:Zm s r=.c u)(ht:Zm s q=.c v)(hu:u.wk=u)(hv:v.wk=v):Gu fn 0 (.c (.tup [u,v])) [] x s h:=by
 refine⟨hx,?_⟩;have h1:X.wk (.c u)=.c u:=by simp[X.wk,hu]
 have h2:X.wk (.c v)=.c v:=by simp[X.wk,hv]
 cases hk:fn.keep<;>simp[ZD,Pi.results,hr,hs,ht,h1,h2,hu,hv,hk,ZL,X.ids.idsL,X.ids,ZM,oneOf,Yl,closedL]
end
section
class Spl(z t:Bool)(b:outParam Bool)(A B:outParam Prop):Prop where
 s:(A/\t=b)\/(B/\t=!b)
instance(priority:=10) Spl.i0 {z t:Bool}:Spl z t true (t=true) (t=false):=⟨by cases t<;>simp⟩
instance(priority:=20) Spl.i1 {z t:Bool}:Spl z (!t) false (t=true) (t=false):=⟨by cases t<;>simp⟩
instance ZiI{z:Bool}{P:Prop}[Decidable P]:Spl z (decide P) true P (¬ P):=⟨by by_cases h:P<;>simp[h]⟩
instance ZiH{z:Bool}{P:Prop}[Decidable P]:Spl z (!decide P) false P (¬ P):=⟨by by_cases h:P<;>simp[h]⟩
instance ZiG{α:Type}[BEq α][LawfulBEq α]{x y:α}:Spl false (x==y) true (x=y) ((x==y)=false/\(x != y)=true):=⟨by cases h:x==y<;>simp[bne,h]<;>exact eq_of_beq h⟩
instance ZiF{α:Type}[BEq α][LawfulBEq α]{x y:α}:Spl false (!(x==y)) false (x=y) ((x==y)=false/\(x != y)=true):=⟨by cases h:x==y<;>simp[bne,h]<;>exact eq_of_beq h⟩
instance ZiE{α:Type}[BEq α][LawfulBEq α]{x y:α}:Spl false (x != y) false (x=y) ((x==y)=false/\(x != y)=true):=⟨by cases h:x==y<;>simp[bne,h]<;>exact eq_of_beq h⟩
instance ZiD{α:Type}[BEq α]{x y:α}:Spl true (x==y) true ((x==y)=true/\(x != y)=false) ((x==y)=false/\(x != y)=true):=⟨by cases h:x==y<;>simp[bne,h]⟩
instance ZiC{α:Type}[BEq α]{x y:α}:Spl true (!(x==y)) false ((x==y)=true/\(x != y)=false) ((x==y)=false/\(x != y)=true):=⟨by cases h:x==y<;>simp[bne,h]⟩
instance ZiB{α:Type}[BEq α]{x y:α}:Spl true (x != y) false ((x==y)=true/\(x != y)=false) ((x==y)=false/\(x != y)=true):=⟨by cases h:x==y<;>simp[bne,h]⟩
variable {e:Env} {N:Nat} {s:Zf} {h:Mem} {k:List Fk} {Q:Pi.Exit->Zf->Mem->Prop} {d:Option Nat} {op:POp} {l:List POper} {a b:PCode} {s1:Zf} {t c:Bool} {A B:Prop}
theorem Z8(z:Bool)[q:Spl z t c A B](h1:A->Wg e N (some c) d op l s h k Q)(h2:B->Wg e N (some (!c)) d op l s h k Q):Wg e N (some t) d op l s h k Q:=by
 rcases q.s with ⟨a,rfl⟩|⟨a,rfl⟩
 ·exact h1 a
 ·exact h2 a
theorem Z9(z:Bool)[q:Spl z t c A B](h1:A->Wc e N (.c (.bool c)) a b s h k Q)(h2:B->Wc e N (.c (.bool !c)) a b s h k Q):Wc e N (.c (.bool t)) a b s h k Q:=by
 rcases q.s with ⟨a,rfl⟩|⟨a,rfl⟩
 ·exact h1 a
 ·exact h2 a
theorem ZT(z:Bool)[q:Spl z t c A B](h1:A->Oh e N (some c) s1 d op l s h k Q)(h2:B->Oh e N (some (!c)) s1 d op l s h k Q):Oh e N (some t) s1 d op l s h k Q:=by
 rcases q.s with ⟨a,rfl⟩|⟨a,rfl⟩
 ·exact h1 a
 ·exact h2 a
end
end Go.Pi
namespace Go.Proofs.YtmckcikeefggdaaGreatDoor
open Go.Pi Go.Pi.S
def Vs(c:UInt8):Bool:=(decide (97<=c.toNat)&&decide (c.toNat<=122))||(decide (65<=c.toNat)&&decide (c.toNat<=90))||(decide (48<=c.toNat)&&decide (c.toNat<=57))||decide (c.toNat=95)
def yQ:By->Bool
 | []=>false
 | c::_=>decide (48<=c.toNat)&&decide (c.toNat<=57)
def nm(s:By):Bool:=s.all Vs&&decide (0 < s.length)&&decide (s.length<=60)&&!yQ s
def YJ{α:Type}(f:α->Int):List α->Int
 | []=>0
 | x::r=>if f x=0 then YJ f r else f x
def wY(g:By->Bool):Option By->List By->Int
 | _,[]=>0
 | p,s::r=>if g s then(if (match p with | none=>false | some q=>!Op.bytesLess q s) then 9 else wY g (some s) r) else 5
def Vk(g:By->Bool)(l:List By):Int:=if 16 < l.length then 4 else wY g none l
def Yj(s:By):Bool:=s==[110,97,109,101]||s==[115,101,114,118,105,99,101]
def Ws(c:UInt8):Bool:=c=46||c=91||c=93||c=40||c=41||c=124||c=42||c=43||c=63||c=92
def Ka(c:UInt8):Bool:=(decide (97<=c.toNat)&&decide (c.toNat<=122))||(decide (65<=c.toNat)&&decide (c.toNat<=90))||(decide (48<=c.toNat)&&decide (c.toNat<=57))
def XS(c:UInt8):Option UInt8:=if c=110 then some 10 else if c=116 then some 9 else if Ka c then none else some c
def XB:By->Option (UInt8 × By)
 | []=>none
 | c::r=>if c=93 then none else if c=92 then(match r with | []=>none | d::q=>match XS d with | some x=>some (x,q)|none=>none) else some (c,r)
def Q6(r:By):Option By:=match XB r with
 | none=>none
 | some (lo,q)=>match q with
  | 45::d::z=>if d=93 then some q else match XB (d::z) with
   | none=>none
   | some (hi,y)=>if hi < lo then none else some y
  | _=>some q
theorem zR{r:By}{c:UInt8}{q:By}(h:XB r=some (c,q)):q.length < r.length:=by
 unfold XB at h;split at h
 ·cases h
 ·split at h
  ·cases h
  ·split at h
   ·split at h
    ·cases h
    ·split at h
     ·cases h;simp;omega
     ·cases h
   ·cases h;simp
theorem Kv{r q:By}(h:Q6 r=some q):q.length < r.length:=by
 unfold Q6 at h;split at h
 ·cases h
 ·rename_i lo q' hi;have h1:=zR hi
  split at h
  ·split at h
   ·cases h;exact h1
   ·split at h
    ·cases h
    ·rename_i hh;have h2:=zR hh
     split at h
     ·cases h
     ·cases h;simp at h1 h2;omega
  ·cases h;exact h1
def YL(r:By):Option By:=match Q6 r with
 | none=>none
 | some z=>if z.head?=some 93 then some z.tail else if z.length < r.length then YL z else none
termination_by r.length
def Qi(r:By):Option By:=match r with
 | 94::q=>YL q
 | r=>YL r
def Ve(d:UInt8):Bool:=d=42||d=43||d=63
mutual
def A:By->Option By
 | []=>none
 | c::r=>
  if c=40 then(match E r with | some (41::q)=>some q | _=>none)
  else if c=91 then Qi r
  else if c=46 then some r
  else if c=92 then(match r with | []=>none | d::q=>if d=100\/d=119 then some q else match XS d with | some _=>some q | none=>none)
  else if Ws c then none else some r
termination_by r=>(r.length,0)
def E:By->Option By
 | []=>some []
 | c::q=>if c=41 then some (c::q) else if c=124 then E q else
   match A (c::q) with
   | none=>none
   | some z=>match z with
    | []=>some []
    | d::y=>if Ve d then(if y.length < (c::q).length then E y else none) else if (d::y).length < (c::q).length then E (d::y) else none
termination_by r=>(r.length,1)
end
theorem qn:∀ (n:Nat) {r q:By},r.length<=n->YL r=some q->q.length < r.length:=by
 intro n
 induction n with
 | zero=>
  intro r q hn h;rw[YL]at h;split at h
  ·cases h
  ·rename_i z hz;have:=Kv hz;omega
 | succ n ih=>
  intro r q hn h;rw[YL]at h;split at h
  ·cases h
  ·rename_i z hz;have h1:=Kv hz
   split at h
   ·cases h;simp;omega
   ·have:=ih (by omega) h;omega
theorem Ad{r q:By}(h:Qi r=some q):q.length < r.length:=by
 unfold Qi at h;split at h
 ·have:=qn _ (Nat.le_refl _) h;simp;omega
 ·exact qn _ (Nat.le_refl _) h
theorem OF:∀ (n:Nat) (r:By),r.length<=n->(∀ q,A r=some q->q.length < r.length)/\(∀ q,E r=some q->q.length<=r.length):=by
 intro n
 induction n with
 | zero=>
  intro r hn;have:r=[]:=List.length_eq_zero_iff.1 (by omega)
  subst this;exact⟨λ q h=>by simp[A]at h,λ q h=>by simp[E]at h;subst h;simp⟩
 | succ n ih=>
  intro r hn
  match r,hn with
  | [],_=>exact⟨λ q h=>by simp[A]at h,λ q h=>by simp[E]at h;subst h;simp⟩
  | c::r,hn=>
   have hA:∀ q,A (c::r)=some q->q.length < (c::r).length:=by
    intro q h;rw[A.eq_def]at h;simp only at h;split at h
    ·split at h
     ·rename_i z hz;have:=(ih r (by simpa using hn)).2 _ hz
      cases h;simp at this ⊢;omega
     ·cases h
    ·split at h
     ·have:=Ad h;simp;omega
     ·split at h
      ·cases h;simp
      ·split at h
       ·split at h
        ·cases h
        ·split at h
         ·cases h;simp;omega
         ·split at h
          ·cases h;simp;omega
          ·cases h
       ·split at h
        ·cases h
        ·cases h;simp
   refine⟨hA,λ q h=>?_⟩
   rw[E]at h;split at h
   ·cases h;exact Nat.le_refl _
   ·split at h
    ·have:=(ih r (by simpa using hn)).2 _ h;simp;omega
    ·split at h
     ·cases h
     ·rename_i z hz;have h1:=hA _ hz
      split at h
      ·cases h;simp
      ·split at h
       ·split at h
        ·have:=(ih _ (by simp at hn h1 ⊢;omega)).2 _ h;simp at h1 ⊢;omega
        ·cases h
       ·have:=(ih _ (by simp at hn h1 ⊢;omega)).2 _ h;simp at h1 this ⊢;omega
theorem D1{r q:By}(h:A r=some q):q.length < r.length:=(OF _ r (Nat.le_refl _)).1 q h
def F(r:By):Option By:=match A r with
 | none=>none
 | some z=>match z with
  | []=>some []
  | d::y=>if Ve d then some y else some (d::y)
theorem DZ{r q:By}(h:F r=some q):q.length < r.length:=by
 unfold F at h;split at h
 ·cases h
 ·rename_i z hz;have:=D1 hz
  split at h
  ·cases h;simp at this ⊢;omega
  ·split at h
   ·cases h;simp at this;omega
   ·cases h;exact this
theorem OB(c:UInt8)(q:By):E (c::q)=if c=41 then some (c::q) else if c=124 then E q else match F (c::q) with | none=>none | some z=>E z:=by
 rw[E]
 split
 ·rfl
 ·split
  ·rfl
  ·unfold F;cases hA:A (c::q) with
   | none=>rfl
   | some z=>
    have h1:=D1 hA
    cases z with
    | nil=>simp[E]
    | cons d y=>
     simp only;simp only[List.length_cons]at h1 ⊢;by_cases hd:Ve d=true
     ·rw[if_pos hd,if_pos hd,if_pos (by omega)]
     ·rw[if_neg hd,if_neg hd,if_pos (by omega)]
def S(r:By):Option By:=match r with
 | []=>some []
 | c::q=>if c=124\/c=41 then some (c::q) else match F (c::q) with
  | none=>none
  | some z=>if z.length < (c::q).length then S z else none
termination_by r.length
theorem qP(c:UInt8)(q:By):S (c::q)=if c=124\/c=41 then some (c::q) else match F (c::q) with | none=>none | some z=>S z:=by
 rw[S]
 split
 ·rfl
 ·cases hF:F (c::q) with
  | none=>rfl
  | some z=>simp only;rw[if_pos (DZ hF)]
theorem E_S:∀ (n:Nat) (r:By),r.length<=n->E r=match S r with | none=>none | some (124::q)=>E q | some z=>some z:=by
 intro n
 induction n with
 | zero=>
  intro r hn;have:r=[]:=List.length_eq_zero_iff.1 (by omega)
  subst this;simp[E,S]
 | succ n ih=>
  intro r hn
  match r,hn with
  | [],_=>simp[E,S]
  | c::r,hn=>
   rw[OB,qP];by_cases h1:c=41
   ·subst h1;simp
   ·by_cases h2:c=124
    ·subst h2;simp
    ·rw[if_neg h1,if_neg h2,if_neg (by simp[h1,h2])]
     cases hF:F (c::r) with
     | none=>rfl
     | some z=>exact ih z (by have:=DZ hF;simp at this hn;omega)
def Qa(s:By):Bool:=match E s with | some []=>true | _=>false
def rx(s:By):Int:=if 200 < s.length then 4 else if Qa s then 0 else 3
def vJ(m:Mt):Int:=if m.kind < 1\/4 < m.kind then 8 else if nm m.name=false then 5 else if 2 < m.kind then rx m.value else if 200 < m.value.length then 4 else 0
def QY(l:List Mt):Int:=if 16 < l.length then 4 else YJ vJ l
def Jx(s:Sg):Int:=
 if s.kind < 1\/8 < s.kind then 8
 else if (s.text ≠ []/\3 < s.kind)\/(s.names ≠ []/\s.kind < 6)\/(s.names=[]/\6<=s.kind)\/(s.ms ≠ []/\s.kind ≠ 5)\/(s.ms=[]/\s.kind=5)\/(s.kind<=2/\s.text=[]) then 1
 else if s.kind<=2 then(if 200 < s.text.length then 4 else 0)
 else if s.kind=3 then rx s.text
 else if s.kind=5 then QY s.ms
 else Vk nm s.names
def UR(l:List Sg):Int:=if 100 < l.length then 4 else YJ Jx l
theorem Xk{α:Type}(f:α->Int)(x:α)(r:List α):YJ f (x::r)=if f x=0 then YJ f r else f x:=rfl
def ZX(n:Nat):Prop:=n < 4611686018427387904
def Mt.ok(m:Mt):Prop:=ZX m.name.length/\ZX m.value.length
def Cd.ok(c:Cd):Prop:=ZX c.field.length/\ZX c.text.length
def Sg.ok(s:Sg):Prop:=ZX s.text.length/\ZX s.ms.length/\(∀ m∈s.ms,m.ok)/\ZX s.names.length/\∀ n∈s.names,ZX n.length
def K9(s:By):Bool:=s==[115,116,97,116,117,115]||s==[100,117,114,97,116,105,111,110]
def Xf(s:By):Bool:=decide (5<=s.length)&&(s.take 5==[97,116,116,114,46])
def Qr(s:By):Bool:=Xf s&&nm (s.drop 5)
def WG(c:Cd):Int:=
 if K9 c.field then(if c.op ≠ 1/\c.op ≠ 2/\c.op ≠ 5/\c.op ≠ 6 then 8 else if c.text ≠ [] then 1 else if c.num < 0\/1099511627776 < c.num then 2 else 0)
 else if Yj c.field||Qr c.field then(if c.op < 1\/4 < c.op then 8 else if c.num ≠ 0 then 1 else if 3<=c.op then rx c.text else if 200 < c.text.length then 4 else 0)
 else 5
def De(k:Int)(l:List By):Int:=Vk (if k=4 then Yj else nm) l
theorem Gk{s:By}(h:Yj s=true):nm s=true:=by
 simp only[Yj,Bool.or_eq_true,beq_iff_eq]at h;rcases h with rfl | rfl<;>rfl
theorem Pt.ind{M:Pt->Prop}(h:∀ k c a,(∀ q∈a,M q)->M (.mk k c a))(p:Pt):M p:=
 Pt.rec (motive_1:=M) (motive_2:=λ l=>∀ q∈l,M q) (λ k c a ih=>h k c a ih) (λ q hq=>by simp at hq) (λ p r hp hr q hq=>by rcases List.mem_cons.1 hq with rfl | hq;exact hp;exact hr q hq) p
theorem Ex.ind{M:Ex->Prop}(h:∀ k f ms ra of nu de na wi mt st pa te ar,(∀ q∈ar,M q)->M (.mk k f ms ra of nu de na wi mt st pa te ar))(e:Ex):M e:=
 Ex.rec (motive_1:=M) (motive_2:=λ l=>∀ q∈l,M q) (λ k f ms ra of nu de na wi mt st pa te ar ih=>h k f ms ra of nu de na wi mt st pa te ar ih) (λ q hq=>by simp at hq) (λ p r hp hr q hq=>by rcases List.mem_cons.1 hq with rfl | hq;exact hp;exact hr q hq) e
def Pt.cv(p:Pt):CV:=.agg p.cells
def Ex.cv(e:Ex):CV:=.agg e.cells
theorem Pt.cvs_map:∀ l:List Pt,Pt.cvs l=l.map Pt.cv
 | []=>by simp[Pt.cvs]
 | p::r=>by simp[Pt.cvs,Pt.cvs_map r,Pt.cv]
theorem Ex.cvs_map:∀ l:List Ex,Ex.cvs l=l.map Ex.cv
 | []=>by simp[Ex.cvs]
 | p::r=>by simp[Ex.cvs,Ex.cvs_map r,Ex.cv]
theorem K3(k:Int)(c:List Cd)(a:List Pt):(Pt.mk k c a).cells=[.int .i64 k,.sl false (c.map Cd.cv),.sl false (a.map Pt.cv)]:=by simp[Pt.cells,Pt.cvs_map,cI]
theorem Pt.cv_mk(k:Int)(c:List Cd)(a:List Pt):(Pt.mk k c a).cv=.agg [.int .i64 k,.sl false (c.map Cd.cv),.sl false (a.map Pt.cv)]:=by rw[Pt.cv,K3]
theorem Ex.cv_mk(k f:Int)(ms:List Mt)(ra of nu de:Int)(na:List By)(wi:Bool)(mt:Int)(st:List Sg)(pk:Int)(pc:List Cd)(pa:List Pt)(te:By)(ar:List Ex):(Ex.mk k f ms ra of nu de na wi mt st (.mk pk pc pa) te ar).cv=.agg [.int .i64 k,.int .i64 f,.sl false (ms.map Mt.cv),.int .i64 ra,.int .i64 of,.int .i64 nu,.int .i64 de,.sl false (na.map CV.str),.bool wi,.int .i64 mt,.sl false (st.map Sg.cv),.int .i64 pk,.sl false (pc.map Cd.cv),.sl false (pa.map Pt.cv),.str te,.sl false (ar.map Ex.cv)]:=by
 simp[Ex.cv,Ex.cells,K3,Ex.cvs_map,cI]
mutual
def Pt.sz:Pt->Nat
 | .mk _ _ a=>1+Pt.szs a
def Pt.szs:List Pt->Nat
 | []=>0
 | p::r=>p.sz+Pt.szs r
end
mutual
def Pt.dep:Pt->Nat
 | .mk _ _ a=>Pt.deps a+1
def Pt.deps:List Pt->Nat
 | []=>0
 | p::r=>max p.dep (Pt.deps r)
end
mutual
theorem Pt.dep_sz:∀ p:Pt,p.dep<=p.sz
 | .mk _ _ a=>by have:=Pt.deps_szs a;simp only[Pt.dep,Pt.sz];omega
theorem Pt.deps_szs:∀ l:List Pt,Pt.deps l<=Pt.szs l
 | []=>by simp[Pt.deps]
 | p::r=>by have:=Pt.dep_sz p;have:=Pt.deps_szs r;simp only[Pt.deps,Pt.szs];omega
end
def G8(k:Int):Nat:=if k=1 then 0 else if k=9 then 1 else 2
mutual
def Pt.ck:Pt->Int
 | .mk k c a=>if k < 1\/9 < k then 8 else if (k ≠ 1/\c ≠ [])\/a.length ≠ G8 k then 1 else if 16 < c.length then 4 else if YJ WG c=0 then Pt.cks a else YJ WG c
def Pt.cks:List Pt->Int
 | []=>0
 | p::r=>if p.ck=0 then Pt.cks r else p.ck
end
mutual
def Pt.ok:Pt->Prop
 | .mk _ c a=>ZX c.length/\(∀ x∈c,x.ok)/\ZX a.length/\Pt.oks a
def Pt.oks:List Pt->Prop
 | []=>True
 | p::r=>p.ok/\Pt.oks r
end
theorem Pt.oks_mem:∀ {l:List Pt},Pt.oks l->∀ q∈l,q.ok
 | p::r,h,q,hq=>by
  simp only[Pt.oks]at h;rcases List.mem_cons.1 hq with rfl | hq
  ·exact h.1
  ·exact Pt.oks_mem h.2 q hq
theorem Pt.cks_ferr:∀ l:List Pt,Pt.cks l=YJ Pt.ck l
 | []=>by simp[Pt.cks,YJ]
 | p::r=>by simp[Pt.cks,YJ,Pt.cks_ferr r]
def Pt.chk(p:Pt):Int:=if 100 < p.sz then 4 else if 12 < p.dep then 30 else p.ck
theorem Pt.dep_mem:∀ {l:List Pt} {q:Pt},q∈l->q.dep<=Pt.deps l
 | p::r,q,hq=>by
  simp only[Pt.deps];rcases List.mem_cons.1 hq with rfl | hq
  ·omega
  ·have:=Pt.dep_mem hq;omega
class Has(p:Prg):Prop where
 h3:p.fn 3=some (.body f3)
 h4:p.fn 4=some (.body f4)
 h6:p.fn 6=some (.body f6)
 h7:p.fn 7=some (.body f7)
 h8:p.fn 8=some (.body f8)
 h9:p.fn 9=some (.body f9)
 h10:p.fn 10=some (.body f10)
 h11:p.fn 11=some (.body f11)
 h12:p.fn 12=some (.body f12)
 h13:p.fn 13=some (.body f13)
 h15:p.fn 15=some (.body f15)
 h16:p.fn 16=some (.body f16)
 h17:p.fn 17=some (.body f17)
 h18:p.fn 18=some (.body f18)
 h19:p.fn 19=some (.body Fc)
 h20:p.fn 20=some (.body f20)
 h21:p.fn 21=some (.body f21)
 h22:p.fn 22=some (.body ON)
 h23:p.fn 23=some (.body f23)
 h24:p.fn 24=some (.body f24)
 h25:p.fn 25=some (.body f25)
 h26:p.fn 26=some (.body f26)
 h27:p.fn 27=some (.body f27)
 h31:p.fn 31=some (.body f31)
 h32:p.fn 32=some (.body f32)
 h33:p.fn 33=some (.body f33)
 h34:p.fn 34=some (.body f34)
 h35:p.fn 35=some (.body IA)
 h36:p.fn 36=some (.body f36)
 h37:p.fn 37=some (.body f37)
 h38:p.fn 38=some (.body f38)
 h39:p.fn 39=some (.body f39)
 h40:p.fn 40=some (.body f40)
 h41:p.fn 41=some (.body f41)
 h42:p.fn 42=some (.body CI)
 h43:p.fn 43=some (.body D6)
 h44:p.fn 44=some (.body f44)
 h45:p.fn 45=some (.body f45)
 h46:p.fn 46=some (.body f46)
 h47:p.fn 47=some (.body f47)
 h55:p.fn 55=some (.body f55)
 h64:p.fn 64=some (.body f64)
 h65:p.fn 65=some (.body f65)
 h66:p.fn 66=some (.body f66)
 h67:p.fn 67=some (.body f67)
 h68:p.fn 68=some (.body f68)
 h69:p.fn 69=some (.body f69)
 h70:p.fn 70=some (.body f70)
 h71:p.fn 71=some (.body f71)
 h72:p.fn 72=some (.body f72)
 h73:p.fn 73=some (.body f73)
 h74:p.fn 74=some (.body f74)
 h75:p.fn 75=some (.body f75)
 h76:p.fn 76=some (.body f76)
 h77:p.fn 77=some (.body f77)
 h78:p.fn 78=some (.body f78)
 h79:p.fn 79=some (.body f79)
 h80:p.fn 80=some (.body f80)
 h81:p.fn 81=some (.body f81)
 h82:p.fn 82=some (.body f82)
 h83:p.fn 83=some (.body f83)
 h84:p.fn 84=some (.body f84)
 h85:p.fn 85=some (.body f85)
 h105:p.fn 105=some (.body CN)
 h106:p.fn 106=some (.body Me)
 h107:p.fn 107=some (.body Md)
 h108:p.fn 108=some (.body Mc)
 h110:p.fn 110=some (.body Mb)
 h112:p.fn 112=some (.body Ma)
 h113:p.fn 113=some (.body L9)
 h114:p.fn 114=some (.body L8)
 h116:p.fn 116=some (.body L7)
 h117:p.fn 117=some (.body L6)
 h118:p.fn 118=some (.body vC)
 h119:p.fn 119=some (.body Fl)
 h120:p.fn 120=some (.body z9)
 h121:p.fn 121=some (.body L5)
 h122:p.fn 122=some (.body Fj)
 h123:p.fn 123=some (.body L4)
 h124:p.fn 124=some (.body L1)
 h125:p.fn 125=some (.body Fi)
 h126:p.fn 126=some (.body L0)
 h127:p.fn 127=some (.body LZ)
 h128:p.fn 128=some (.body LY)
 h129:p.fn 129=some (.body LX)
 h130:p.fn 130=some (.body LW)
 h131:p.fn 131=some (.body LV)
 h132:p.fn 132=some (.body Fh)
 h133:p.fn 133=some (.body Fg)
 h134:p.fn 134=some (.body LU)
 h135:p.fn 135=some (.body LR)
 h136:p.fn 136=some (.body LQ)
 h137:p.fn 137=some (.body LP)
 h138:p.fn 138=some (.body LO)
 h139:p.fn 139=some (.body LN)
 h140:p.fn 140=some (.body LL)
 h152:p.fn 152=some (.body LK)
 h153:p.fn 153=some (.body LJ)
 h155:p.fn 155=some (.body LH)
 h156:p.fn 156=some (.body LG)
 h157:p.fn 157=some (.body LF)
 h158:p.fn 158=some (.body LE)
 h159:p.fn 159=some (.body LD)
 h160:p.fn 160=some (.body LB)
 h161:p.fn 161=some (.body LA)
 h162:p.fn 162=some (.body Lz)
 h163:p.fn 163=some (.body Ly)
 h164:p.fn 164=some (.body Lx)
 h165:p.fn 165=some (.body Ff)
 h166:p.fn 166=some (.body Lw)
 h167:p.fn 167=some (.body Fe)
 h168:p.fn 168=some (.body Fd)
 h169:p.fn 169=some (.body Lv)
 h170:p.fn 170=some (.body Lu)
 h171:p.fn 171=some (.body Lt)
 h172:p.fn 172=some (.body Ls)
 h173:p.fn 173=some (.body Lr)
 h175:p.fn 175=some (.body Lq)
 h188:p.fn 188=some (.body Lo)
 h189:p.fn 189=some (.body Ln)
 h190:p.fn 190=some (.body Lm)
 h191:p.fn 191=some (.body Ll)
 h192:p.fn 192=some (.body Lk)
 h193:p.fn 193=some (.body Lj)
 h194:p.fn 194=some (.body Li)
 h195:p.fn 195=some (.body Lh)
 h196:p.fn 196=some (.body Lg)
 h197:p.fn 197=some (.body Lf)
 h198:p.fn 198=some (.body Le)
 h209:p.fn 209=some (.body Lb)
 h210:p.fn 210=some (.body La)
 h211:p.fn 211=some (.body I9)
 h212:p.fn 212=some (.body I8)
 h213:p.fn 213=some (.body I7)
 h214:p.fn 214=some (.body I6)
 h222:p.fn 222=some (.body IX)
 h223:p.fn 223=some (.body IW)
 h224:p.fn 224=some (.body IV)
 h225:p.fn 225=some (.body Fb)
 h226:p.fn 226=some (.body IU)
 h229:p.fn 229=some (.body IT)
 h230:p.fn 230=some (.body vB)
 h231:p.fn 231=some (.body CM)
 h232:p.fn 232=some (.body IS)
 h233:p.fn 233=some (.body Fa)
 h234:p.fn 234=some (.body IR)
 h235:p.fn 235=some (.body IQ)
 h236:p.fn 236=some (.body Am)
 h237:p.fn 237=some (.body IP)
 h238:p.fn 238=some (.body IN)
 h239:p.fn 239=some (.body IM)
 h240:p.fn 240=some (.body IL)
 h241:p.fn 241=some (.body E9)
 h242:p.fn 242=some (.body IK)
 h243:p.fn 243=some (.body IJ)
 h244:p.fn 244=some (.body II)
 h245:p.fn 245=some (.body E8)
 h246:p.fn 246=some (.body Al)
 h247:p.fn 247=some (.body IH)
 h248:p.fn 248=some (.body CK)
 h249:p.fn 249=some (.body IG)
 h250:p.fn 250=some (.body E7)
 h251:p.fn 251=some (.body IF)
 h252:p.fn 252=some (.body IE)
 h253:p.fn 253=some (.body CJ)
 h254:p.fn 254=some (.body ID)
 h255:p.fn 255=some (.body IC)
 h256:p.fn 256=some (.body IB)
section
variable {p:Prg} [Has p] {h:Mem}
theorem Mp(c:UInt8):Zi (Zo p) h 224 [.c (Zt c)]=some (.c (.bool (Vs c)),h):=by
 refine ZB Has.h224 ?_;refine⟨1,Zk rfl ?_⟩;show W _ _ M6 _ _ _ _;simp[M6,Zt];repeat' first
  | (refine Y0 (.inr rfl) rfl rfl ?_;rw[Bool.eq_iff_iff];simp[Vs];omega)
  | ((first|refine Z8 false ?_ ?_ | refine Z9 false ?_ ?_ | refine ZT false ?_ ?_)<;>intro ht<;>simp[ht])
  | (refine Zw rfl (by simp[Mem.same,Ze,Zj]) ?_;simp)
  | exact Zu rfl rfl rfl
  | (refine⟨Zu rfl rfl rfl,?_⟩;first|rfl | (simp[*];done))
theorem Mq(c:UInt8):Zi (Zo p) h 211 [.c (Zt c)]=some (.c (.bool (Vs c)),h):=by
 refine ZB Has.h211 ?_;refine⟨1,Zk rfl ?_⟩;show W _ _ Nb _ _ _ _;simp[Nb,Zt];repeat' first
  | (refine Y0 (.inr rfl) rfl rfl ?_;rw[Bool.eq_iff_iff];simp[Vs];omega)
  | ((first|refine Z8 false ?_ ?_ | refine Z9 false ?_ ?_ | refine ZT false ?_ ?_)<;>intro ht<;>simp[ht])
  | (refine Zw rfl (by simp[Mem.same,Ze,Zj]) ?_;simp)
  | exact Zu rfl rfl rfl
  | (refine⟨Zu rfl rfl rfl,?_⟩;first|rfl | (simp[*];done))
theorem FD(s:By)(hs:s.length < 9223372036854775808):Zi (Zo p) h 194 [.c (.str s)]=some (.c (.bool (nm s)),h):=by
 refine ZB Has.h194 ?_;refine⟨s.length+1,Zk rfl ?_⟩;show W _ _ Nj _ _ _ _;simp[Nj];refine ZU (λ i sl h=>h=[]/\Zm sl 0=.c (.str s)/\Zm sl 3=.c (.int .i64 i)/\(s.all Vs=(s.drop i).all Vs)) (s.length) (by omega) ⟨rfl,by simp,by simp,by simp⟩ ?_
 rintro i sl h hi ⟨rfl,h0,h3,hq⟩
 rcases Zl i (s.length) with hlt | hge
 ·have hw:IntKind.i64.wrap ((i:Int)+1)=(i:Int)+1:=ZA (by omega) (by omega)
  have hx:s[i]?=some s[i]:=Zb hlt
  have hd:=Zs hlt
  rw[hd,List.all_cons]at hq;simp[h0,h3,hlt,hx,hw,Zn,Mq];repeat' first
   | (refine Y0 (.inr rfl) rfl rfl ?_;simp[nm, *])
   | ((first|refine Z8 false ?_ ?_ | refine Z9 false ?_ ?_ | refine ZT false ?_ ?_)<;>intro ht<;>simp[ht,h0,h3,hx,hw,Zn,Mq])
   | (refine Zw rfl (by simp[Mem.same,Ze,Zj]) ?_;simp[h0,h3,hx,hw,Zn,Mq])
   | exact Zu rfl rfl rfl
   | (refine⟨Zu rfl rfl rfl,?_⟩;first|rfl | (simp[*];done))
   | (simp[*];done)
 ·obtain rfl:i=(s.length):=by omega
  simp at hq;cases s with
  | nil=>
   simp[h0,h3];exact Y0 (.inr rfl) rfl rfl (by simp[nm])
  | cons c r=>
   have hq':(c::r).all Vs=true:=by simpa using hq
   simp[h0,h3,Zt];repeat' first
    | (refine Y0 (.inr rfl) rfl rfl ?_;rw[Bool.eq_iff_iff];simp only[nm,hq',yQ];simp;omega)
    | ((first|refine Z8 false ?_ ?_ | refine Z9 false ?_ ?_ | refine ZT false ?_ ?_)<;>intro ht<;>simp[ht,h0,h3,Zt])
    | (refine Zw rfl (by simp[Mem.same,Ze,Zj]) ?_;simp[h0,h3,Zt])
    | exact Zu rfl rfl rfl
    | (refine⟨Zu rfl rfl rfl,?_⟩;first|rfl | (simp[*];done))
theorem ZgO(s:By)(hs:s.length < 9223372036854775808):Zi (Zo p) h 212 [.c (.str s)]=some (.c (.bool (nm s)),h):=by
 refine ZB Has.h212 ?_;cases s with
 | nil=>
  refine⟨0,Zk rfl ?_⟩;show W _ _ Dw _ _ _ _;simp[Dw];exact Y0 (.inr rfl) rfl rfl (by simp[nm])
 | cons c r=>
  simp at hs;refine⟨r.length+2,Zk rfl ?_⟩;show W _ _ Dw _ _ _ _;simp[Dw,Zt];repeat' first
   | (refine Y0 (.inr rfl) rfl rfl ?_;rw[Bool.eq_iff_iff];simp[nm,yQ];omega)
   | ((first|refine Z8 false ?_ ?_ | refine Z9 false ?_ ?_ | refine ZT false ?_ ?_)<;>intro ht<;>simp[ht,Zt])
   | (refine Zw rfl (by simp[Mem.same,Ze,Zj]) ?_;simp[Zt])
   | exact Zu rfl rfl rfl
   | (refine⟨Zu rfl rfl rfl,?_⟩;first|rfl | (simp[*];done))
  all_goals
   refine ZU (λ i sl h=>h=[]/\Zm sl 0=.c (.str (c::r))/\Zm sl 3=.c (.int .i64 i)/\((c::r).all Vs=((c::r).drop i).all Vs)) (r.length+1) (by omega) ⟨rfl,by simp,by simp,by simp⟩ ?_
   rintro i sl h hi ⟨rfl,h0,h3,hq⟩
   rcases Zl i (r.length+1) with hlt | hge
   ·have hw:IntKind.i64.wrap ((i:Int)+1)=(i:Int)+1:=ZA (by omega) (by omega)
    have hx:(c::r)[i]?=some (c::r)[i]:=Zb hlt
    have hd:=Zs (l:=c::r) hlt
    rw[hd,List.all_cons]at hq;have hlt':(i:Int) < (r.length:Int)+1:=by omega
    generalize (c::r)[i]=y at hx hq;simp[h0,h3,hlt',hx,hw,Zn,Mp];repeat' first
     | (refine Y0 (.inr rfl) rfl rfl ?_;simp only[nm,hq, *,Bool.false_and])
     | ((first|refine Z8 false ?_ ?_ | refine Z9 false ?_ ?_ | refine ZT false ?_ ?_)<;>intro ht<;>simp[ht,h0,h3,hx,hw,Zn,Mp])
     | (refine Zw rfl (by simp[Mem.same,Ze,Zj]) ?_;simp[h0,h3,hx,hw,Zn,Mp])
     | exact Zu rfl rfl rfl
     | (refine⟨Zu rfl rfl rfl,?_⟩;first|rfl | (simp[*];done))
     | (simp[*];done)
   ·obtain rfl:i=(r.length+1):=by omega
    have hq':(c::r).all Vs=true:=by simpa using hq
    simp[h0,h3];refine Y0 (.inr rfl) rfl rfl ?_;rw[Bool.eq_iff_iff];simp only[nm,hq',yQ];simp;omega
end
section
variable {p:Prg} [Has p] {h:Mem}
def Hs(s:By):CV:=.agg [.str s,.str [120]]
theorem Zba(f:Bool)(s:By)(hs:s.length < 9223372036854775808):Zi (Zo p) h 196 [.c (.sl f [Hs s])]=some (.c (.int .i64 (if nm s then 0 else 5)),h):=by
 refine ZB Has.h196 ?_;refine⟨2,Zk rfl ?_⟩;show W _ _ Nh _ _ _ _;simp[Nh];refine ZU (λ i sl h=>Cm [0,8,9,10] [] sl h/\Zm sl 0=.c (.sl f [Hs s])/\Zm sl 8=.c (.sl f [Hs s])/\Zm sl 9=.c (.int .i64 1)/\Zm sl 10=.c (.int .i64 i)/\(i=1->nm s=true)) (1) (by omega) ⟨Xh,by simp,by simp,by simp,by simp,by simp⟩ ?_
 rintro i sl h hi ⟨hcm,h0,h8,h9,h10,hq⟩
 simp only[Cm]at hcm;rw[hcm];rcases Zl i (1) with hlt | hge
 ·obtain rfl:i=0:=by omega
  have hn:=λ h=>ZgO (p:=p) (h:=h) s hs
  simp[h0,h8,h9,h10,hn,Zn,Hs];repeat' first
   | (refine ZQ (.inr rfl) rfl rfl ?_;simp[*])
   | ((first|refine Z8 false ?_ ?_ | refine Z9 false ?_ ?_ | refine ZT false ?_ ?_)<;>intro ht<;>simp[ht,h0,h8,h9,h10,hn,Zn,Hs])
   | (refine Zw rfl (by simp[Mem.same,Ze,Zj]) ?_;simp[h0,h8,h9,h10,hn,Zn,Hs])
   | exact Zu rfl rfl rfl
   | (refine⟨Zu rfl rfl rfl,?_⟩;first|rfl | (simp[*];done))
   | (simp[*];done)
 ·obtain rfl:i=(1):=by omega
  simp[h0,h8,h9,h10];exact ZQ (.inr rfl) rfl rfl (by simp[hq rfl])
theorem Mr(s:By)(hs:s.length < 9223372036854775808):Zi (Zo p) h 170 [.c (.str s)]=some (.c (.bool (nm s)),h):=by
 refine ZB Has.h170 ?_;have hn:=λ f h=>Zba (p:=p) (h:=h) f s hs
 simp only[Hs]at hn;refine⟨1,Zk rfl ?_⟩;show W _ _ Nv _ _ _ _;simp[Nv,ZH,hn];cases hm:nm s<;>exact Y0 (.inr rfl) rfl rfl (by simp[hm])
def Hh(p:Option By)(s:By):Bool:=match p with | none=>false | some q=>!Op.bytesLess q s
theorem qC{g:By->Bool}{p:Option By}{s:By}{r:List By}:wY g p (s::r)=if g s then(if Hh p s then 9 else wY g (some s) r) else 5:=by cases p<;>simp[wY,Hh]
def Wa(l:List By)(i:Nat):Option By:=if i=0 then none else l[i - 1]?
theorem Jl{l:List By}{i:Nat}(h:i < l.length):Wa l (i+1)=some l[i]:=by simp[Wa,h]
theorem Ms(g:By->Bool)(f b:Bool)(l:List By)(hg:∀ s,g s=(nm s&&(!b||Yj s)))(hl:l.length < 9223372036854775808)(hs:∀ s∈l,s.length < 9223372036854775808):Zi (Zo p) h 136 [.c (.sl f (l.map CV.str)),.c (.bool b)]=some (.c (.int .i64 (Vk g l)),h):=by
 refine Ym Has.h136 ?_;refine⟨l.length+1,Zk rfl ?_⟩;show W _ _ NM _ _ _ _;simp[NM];repeat' first
  | (refine ZQ (.inr rfl) rfl rfl ?_;simp[Vk];omega)
  | ((first|refine Z8 false ?_ ?_ | refine Z9 false ?_ ?_ | refine ZT false ?_ ?_)<;>intro ht<;>simp[ht])
  | (refine Zw rfl (by simp[Mem.same,Ze,Zj]) ?_;simp)
  | exact Zu rfl rfl rfl
  | (refine⟨Zu rfl rfl rfl,?_⟩;first|rfl | (simp[*];done))
 have hx0:¬ 16 < l.length:=by omega
 have hdef:Vk g l=wY g none l:=by simp[Vk,hx0]
 refine ZU (λ i sl h=>h=[]/\Zm sl 0=.c (.sl f (l.map CV.str))/\Zm sl 1=.c (.bool b)/\Zm sl 10=.c (.sl f (l.map CV.str))/\Zm sl 11=.c (.int .i64 l.length)/\Zm sl 12=.c (.int .i64 i)/\(wY g none l=wY g (Wa l i) (l.drop i))) (l.length) (by omega) ⟨rfl,by simp,by simp,by simp,by simp,by simp,by simp[Wa]⟩ ?_
 rintro i sl h hi ⟨rfl,h0,h1,h10,h11,h12,hq⟩
 rcases Zl i (l.length) with hlt | hge
 ·have hw:IntKind.i64.wrap ((i:Int)+1)=(i:Int)+1:=ZA (by omega) (by omega)
  have hd:=Zs hlt
  have hn:=λ h=>Mr (p:=p) (h:=h) l[i] (hs _ (Zh _))
  have hpn:=Jl hlt
  rw[hd,qC,<- hpn]at hq;by_cases hi0:i=0
  ·have hi1:¬ 0 < i:=by omega
   have hp1:Wa l i=none:=by simp[Wa,hi0]
   rw[hp1]at hq;simp only[Hh]at hq;simp[h0,h1,h10,h11,h12,hn,Zn,hlt,hw];clear hi0;repeat' first
    | (refine ZQ (.inr rfl) rfl rfl ?_;rw[hdef,hq];simp[hg,Yj, *])
    | ((first|refine Z8 true ?_ ?_ | refine Z9 true ?_ ?_ | refine ZT true ?_ ?_)<;>intro ht<;>simp[ht,h0,h1,h10,h11,h12,hn,Zn,hw,hi1])
    | (refine Zw rfl (by simp[Mem.same,Ze,Zj]) ?_;simp[h0,h1,h10,h11,h12,hn,Zn,hw,hi1])
    | exact Zu rfl rfl rfl
    | (refine⟨Zu rfl rfl rfl,?_⟩;first|rfl | (simp[*];done))
    | (rw[hq];simp[hg,Yj, *];done)
  ·have hw1:=UV hi0 (by omega)
   have hi1:0 < i:=by omega
   have hi2:i - 1 < l.length:=by omega
   have hgt:l[i - 1]?=some l[i - 1]:=Zb hi2
   have hp1:Wa l i=some l[i - 1]:=by simp[Wa,hi0,hgt]
   rw[hp1]at hq;simp only[Hh]at hq;simp[h0,h1,h10,h11,h12,hn,Zn,hlt,hw];clear hi0;repeat' first
    | (refine ZQ (.inr rfl) rfl rfl ?_;rw[hdef,hq];simp[hg,Yj, *])
    | ((first|refine Z8 true ?_ ?_ | refine Z9 true ?_ ?_ | refine ZT true ?_ ?_)<;>intro ht<;>simp[ht,h0,h1,h10,h11,h12,hn,Zn,hw,hw1,hi1,hgt,X6,hi2])
    | (refine Zw rfl (by simp[Mem.same,Ze,Zj]) ?_;simp[h0,h1,h10,h11,h12,hn,Zn,hw,hw1,hi1,hgt,X6,hi2])
    | exact Zu rfl rfl rfl
    | (refine⟨Zu rfl rfl rfl,?_⟩;first|rfl | (simp[*];done))
    | (rw[hq];simp[hg,Yj, *];done)
 ·obtain rfl:i=(l.length):=by omega
  simp[h0,h1,h10,h11,h12];exact ZQ (.inr rfl) rfl rfl (by rw[hdef,hq];simp[wY])
end
section
class HasRx(p:Prg):Prop where
 c197:∀ (s:By) (h:Mem),ZX s.length->Zi (Zo p) h 197 [.c (.str s)]=some (.c (.int .i64 (rx s)),h)
 c209:∀ (s:By) (h:Mem),ZX s.length->Zi (Zo p) h 209 [.c (.str s)]=some (.c (.int .i64 (rx s)),h)
variable {p:Prg} [Has p] [HasRx p] {h:Mem}
theorem Zbb(f:Bool)(l:List By)(hl:ZX l.length)(hs:∀ s∈l,ZX s.length):Zi (Zo p) h 189 [.c (.sl f (l.map CV.str))]=some (.c (.int .i64 (Vk nm l)),h):=by
 simp only[ZX]at hl hs;refine ZB Has.h189 ?_;refine⟨l.length+1,Zk rfl ?_⟩;show W _ _ No _ _ _ _;simp[No];repeat' first
  | (refine ZQ (.inr rfl) rfl rfl ?_;simp[Vk];omega)
  | ((first|refine Z8 false ?_ ?_ | refine Z9 false ?_ ?_ | refine ZT false ?_ ?_)<;>intro ht<;>simp[ht])
  | (refine Zw rfl (by simp[Mem.same,Ze,Zj]) ?_;simp)
  | exact Zu rfl rfl rfl
  | (refine⟨Zu rfl rfl rfl,?_⟩;first|rfl | (simp[*];done))
 have hx0:¬ 16 < l.length:=by omega
 have hdef:Vk nm l=wY nm none l:=by simp[Vk,hx0]
 refine ZU (λ i sl h=>h=[]/\Zm sl 0=.c (.sl f (l.map CV.str))/\Zm sl 3=.c (.int .i64 i)/\(wY nm none l=wY nm (Wa l i) (l.drop i))) (l.length) (by omega) ⟨rfl,by simp,by simp,by simp[Wa]⟩ ?_
 rintro i sl h hi ⟨rfl,h0,h3,hq⟩
 rcases Zl i (l.length) with hlt | hge
 ·have hw:IntKind.i64.wrap ((i:Int)+1)=(i:Int)+1:=ZA (by omega) (by omega)
  have hd:=Zs hlt
  have hn:=λ h=>FD (p:=p) (h:=h) l[i] (by have:=hs _ (Zh hlt);omega)
  have hgl:l[i]?=some l[i]:=Zb hlt
  have hpn:=Jl hlt
  rw[hd,qC,<- hpn]at hq;by_cases hi0:i=0
  ·have hi1:¬ 0 < i:=by omega
   have hp1:Wa l i=none:=by simp[Wa,hi0]
   rw[hp1]at hq;simp only[Hh]at hq;clear hi0;simp[h0,h3,hn,Zn,hlt,hw];repeat' first
    | (refine ZQ (.inr rfl) rfl rfl ?_;rw[hdef,hq];simp[*])
    | ((first|refine Z8 true ?_ ?_ | refine Z9 true ?_ ?_ | refine ZT true ?_ ?_)<;>intro ht<;>simp[ht,h0,h3,hn,Zn,hw,hi1])
    | (refine Zw rfl (by simp[Mem.same,Ze,Zj]) ?_;simp[h0,h3,hn,Zn,hw,hi1])
    | exact Zu rfl rfl rfl
    | (refine⟨Zu rfl rfl rfl,?_⟩;first|rfl | (simp[*];done))
    | (rw[hq];simp[*];done)
  ·have hw1:=UV hi0 (by omega)
   have hi1:0 < i:=by omega
   have hi2:i - 1 < l.length:=by omega
   have hgt:l[i - 1]?=some l[i - 1]:=Zb hi2
   have hp1:Wa l i=some l[i - 1]:=by simp[Wa,hi0,hgt]
   rw[hp1]at hq;simp only[Hh]at hq;clear hi0;simp[h0,h3,hn,Zn,hlt,hw];repeat' first
    | (refine ZQ (.inr rfl) rfl rfl ?_;rw[hdef,hq];simp[*])
    | ((first|refine Z8 true ?_ ?_ | refine Z9 true ?_ ?_ | refine ZT true ?_ ?_)<;>intro ht<;>simp[ht,h0,h3,hn,Zn,hw,hw1,hi1,hgt,hgl,X6,hi2])
    | (refine Zw rfl (by simp[Mem.same,Ze,Zj]) ?_;simp[h0,h3,hn,Zn,hw,hw1,hi1,hgt,hgl,X6,hi2])
    | exact Zu rfl rfl rfl
    | (refine⟨Zu rfl rfl rfl,?_⟩;first|rfl | (simp[*];done))
    | (rw[hq];simp[*];done)
 ·obtain rfl:i=(l.length):=by omega
  simp[h0,h3];exact ZQ (.inr rfl) rfl rfl (by rw[hdef,hq];simp[wY])
theorem Zhi(m:Mt)(hm:m.ok):Zi (Zo p) h 169 [.c m.cv]=some (.c (.int .i64 (vJ m)),h):=by
 obtain⟨k,n,v⟩:=m;refine ZB Has.h169 ?_;have hn:=λ f h=>Zba (p:=p) (h:=h) f n (by have:=hm.1;simp[ZX]at this;omega)
 simp only[Hs]at hn;have hr:=λ h=>HasRx.c197 (p:=p) v h hm.2
 cases hnm:nm n
 all_goals
  simp only[hnm]at hn;refine⟨1,Zk rfl ?_⟩;show W _ _ Nw _ _ _ _;simp[Nw,Mt.cv,cI];repeat' first
   | (refine ZQ (.inr rfl) rfl rfl ?_;((try simp[vJ, *])<;>first|done | omega | (simp_all;done)|(simp_all;omega)))
   | ((first|refine Z8 false ?_ ?_ | refine Z9 false ?_ ?_ | refine ZT false ?_ ?_)<;>intro ht<;>simp[ht,ZH,hn,hr])
   | (refine Zw rfl (by simp[Mem.same,Ze,Zj]) ?_;simp[ZH,hn,hr])
   | exact Zu rfl rfl rfl
   | (refine⟨Zu rfl rfl rfl,?_⟩;first|rfl | (simp[*];done))
theorem Zhb(m:Mt)(hm:m.ok):Zi (Zo p) h 188 [.c m.cv]=some (.c (.int .i64 (vJ m)),h):=by
 obtain⟨k,n,v⟩:=m;refine ZB Has.h188 ?_;have hn:=λ h=>FD (p:=p) (h:=h) n (by have:=hm.1;simp[ZX]at this;omega)
 have hr:=λ h=>HasRx.c209 (p:=p) v h hm.2
 refine⟨1,Zk rfl ?_⟩;show W _ _ Np _ _ _ _;simp[Np,Mt.cv,cI];repeat' first
  | (refine ZQ (.inr rfl) rfl rfl ?_;((try simp[vJ, *])<;>first|done | omega | (simp_all;done)|(simp_all;omega)))
  | ((first|refine Z8 false ?_ ?_ | refine Z9 false ?_ ?_ | refine ZT false ?_ ?_)<;>intro ht<;>simp[ht,ZH,hn,hr])
  | (refine Zw rfl (by simp[Mem.same,Ze,Zj]) ?_;simp[ZH,hn,hr])
  | exact Zu rfl rfl rfl
  | (refine⟨Zu rfl rfl rfl,?_⟩;first|rfl | (simp[*];done))
theorem Mu(f:Bool)(l:List Mt)(hl:ZX l.length)(hs:∀ m∈l,m.ok):Zi (Zo p) h 134 [.c (.sl f (l.map Mt.cv))]=some (.c (.int .i64 (QY l)),h):=by
 simp only[ZX]at hl;refine ZB Has.h134 ?_;refine⟨l.length+1,Zk rfl ?_⟩;show W _ _ NO _ _ _ _;simp[NO];repeat' first
  | (refine ZQ (.inr rfl) rfl rfl ?_;((try simp[QY, *])<;>first|done | omega | (simp_all;done)|(simp_all;omega)))
  | ((first|refine Z8 false ?_ ?_ | refine Z9 false ?_ ?_ | refine ZT false ?_ ?_)<;>intro ht<;>simp[ht])
  | (refine Zw rfl (by simp[Mem.same,Ze,Zj]) ?_;simp)
  | exact Zu rfl rfl rfl
  | (refine⟨Zu rfl rfl rfl,?_⟩;first|rfl | (simp[*];done))
 have hx0:¬ 16 < l.length:=by omega
 have hdef:QY l=YJ vJ l:=by simp[QY,hx0]
 refine ZU (λ i sl h=>Cm [9,10,11] [] sl h/\Zm sl 9=.c (.sl f (l.map Mt.cv))/\Zm sl 10=.c (.int .i64 l.length)/\Zm sl 11=.c (.int .i64 i)/\(YJ vJ l=YJ vJ (l.drop i))) (l.length) (by omega) ⟨Xh,by simp,by simp,by simp,by simp⟩ ?_
 rintro i sl h hi ⟨hcm,h9,h10,h11,hq⟩
 simp only[Cm]at hcm;rw[hcm];rcases Zl i (l.length) with hlt | hge
 ·have hw:IntKind.i64.wrap ((i:Int)+1)=(i:Int)+1:=ZA (by omega) (by omega)
  have hd:=Zs hlt
  have hn:=λ h=>Zhi (p:=p) (h:=h) l[i] (hs _ (Zh hlt))
  rw[hd,Xk]at hq;simp only[Mt.cv,cI]at hn;simp[h9,h10,h11,hn,Zn,hlt,hw,Mt.cv,cI];repeat' first
   | (refine ZQ (.inr rfl) rfl rfl ?_;rw[hdef,hq];(by_cases hz:vJ l[i]=0<;>simp_all))
   | ((first|refine Z8 false ?_ ?_ | refine Z9 false ?_ ?_ | refine ZT false ?_ ?_)<;>intro ht<;>simp[ht,h9,h10,h11,hn,Zn,hw])
   | (refine Zw rfl (by simp[Mem.same,Ze,Zj]) ?_;simp[h9,h10,h11,hn,Zn,hw])
   | exact Zu rfl rfl rfl
   | (refine⟨Zu rfl rfl rfl,?_⟩;first|rfl | (simp[*];done))
   | (refine⟨Zu rfl rfl rfl,?_⟩;rw[hq];simp[*];done)
 ·obtain rfl:i=(l.length):=by omega
  simp[h9,h10,h11];exact ZQ (.inr rfl) rfl rfl (by rw[hdef,hq];simp[YJ])
theorem Zbh(f:Bool)(l:List Mt)(hl:ZX l.length)(hs:∀ m∈l,m.ok):Zi (Zo p) h 156 [.c (.sl f (l.map Mt.cv))]=some (.c (.int .i64 (QY l)),h):=by
 simp only[ZX]at hl;refine ZB Has.h156 ?_;refine⟨l.length+1,Zk rfl ?_⟩;show W _ _ NF _ _ _ _;simp[NF];repeat' first
  | (refine ZQ (.inr rfl) rfl rfl ?_;((try simp[QY, *])<;>first|done | omega | (simp_all;done)|(simp_all;omega)))
  | ((first|refine Z8 false ?_ ?_ | refine Z9 false ?_ ?_ | refine ZT false ?_ ?_)<;>intro ht<;>simp[ht])
  | (refine Zw rfl (by simp[Mem.same,Ze,Zj]) ?_;simp)
  | exact Zu rfl rfl rfl
  | (refine⟨Zu rfl rfl rfl,?_⟩;first|rfl | (simp[*];done))
 have hx0:¬ 16 < l.length:=by omega
 have hdef:QY l=YJ vJ l:=by simp[QY,hx0]
 refine ZU (λ i sl h=>h=[]/\Zm sl 0=.c (.sl f (l.map Mt.cv))/\Zm sl 3=.c (.int .i64 i)/\(YJ vJ l=YJ vJ (l.drop i))) (l.length) (by omega) ⟨rfl,by simp,by simp,by simp⟩ ?_
 rintro i sl h hi ⟨rfl,h0,h3,hq⟩
 rcases Zl i (l.length) with hlt | hge
 ·have hw:IntKind.i64.wrap ((i:Int)+1)=(i:Int)+1:=ZA (by omega) (by omega)
  have hd:=Zs hlt
  have hn:=λ h=>Zhb (p:=p) (h:=h) l[i] (hs _ (Zh hlt))
  rw[hd,Xk]at hq;simp only[Mt.cv,cI]at hn;simp[h0,h3,hn,Zn,hlt,hw,Mt.cv,cI];repeat' first
   | (refine ZQ (.inr rfl) rfl rfl ?_;rw[hdef,hq];(by_cases hz:vJ l[i]=0<;>simp_all))
   | ((first|refine Z8 false ?_ ?_ | refine Z9 false ?_ ?_ | refine ZT false ?_ ?_)<;>intro ht<;>simp[ht,h0,h3,hn,Zn,hw])
   | (refine Zw rfl (by simp[Mem.same,Ze,Zj]) ?_;simp[h0,h3,hn,Zn,hw])
   | exact Zu rfl rfl rfl
   | (refine⟨Zu rfl rfl rfl,?_⟩;first|rfl | (simp[*];done))
   | (rw[hq];simp[*];done)
 ·obtain rfl:i=(l.length):=by omega
  simp[h0,h3];exact ZQ (.inr rfl) rfl rfl (by rw[hdef,hq];simp[YJ])
theorem Zhh(s:Sg)(hs:s.ok):Zi (Zo p) h 171 [.c s.cv]=some (.c (.int .i64 (Jx s)),h):=by
 obtain⟨k,t,ms,ns⟩:=s;obtain⟨h1,h2,h3,h4,h5⟩:=hs;refine ZB Has.h171 ?_;have hr:=λ h=>HasRx.c197 (p:=p) t h h1
 have hm:=λ f h=>Mu (p:=p) (h:=h) f ms h2 h3
 have hn:=λ f h=>Ms (p:=p) (h:=h) nm f false ns (by simp) (by simp only[ZX]at h4;omega) (λ s hs=>by have:=h5 s hs;simp only[ZX]at this;omega)
 clear h1 h2 h3 h4 h5;rcases t with _ | ⟨t0,tr⟩<;>rcases ms with _ | ⟨m0,mr⟩<;>rcases ns with _ | ⟨n0,nr⟩
 all_goals
  simp only[List.map_nil,List.map_cons]at hm hn;refine⟨1,Zk rfl ?_⟩;show W _ _ Nu _ _ _ _;simp[Nu,Sg.cv,cI];repeat' first
   | (refine ZQ (.inr rfl) rfl rfl ?_;((try simp[Jx, *])<;>first|done | omega | (simp_all;done)|(simp_all;omega)))
   | ((first|refine Z8 false ?_ ?_ | refine Z9 false ?_ ?_ | refine ZT false ?_ ?_)<;>intro ht<;>simp[ht,hr,hm,hn])
   | (refine Zw rfl (by simp[Mem.same,Ze,Zj]) ?_;simp[hr,hm,hn])
   | exact Zu rfl rfl rfl
   | (refine⟨Zu rfl rfl rfl,?_⟩;first|rfl | (simp[*];done))
theorem Zha(s:Sg)(hs:s.ok):Zi (Zo p) h 190 [.c s.cv]=some (.c (.int .i64 (Jx s)),h):=by
 obtain⟨k,t,ms,ns⟩:=s;obtain⟨h1,h2,h3,h4,h5⟩:=hs;refine ZB Has.h190 ?_;have hr:=λ h=>HasRx.c209 (p:=p) t h h1
 have hm:=λ f h=>Zbh (p:=p) (h:=h) f ms h2 h3
 have hn:=λ f h=>Zbb (p:=p) (h:=h) f ns h4 h5
 have e1:QY []=0:=rfl
 have e2:Vk nm []=0:=rfl
 clear h1 h2 h3 h4 h5;rcases t with _ | ⟨t0,tr⟩<;>rcases ms with _ | ⟨m0,mr⟩<;>rcases ns with _ | ⟨n0,nr⟩
 all_goals
  simp only[List.map_nil,List.map_cons]at hm hn;refine⟨1,Zk rfl ?_⟩;show W _ _ Nn _ _ _ _;simp[Nn,Sg.cv,cI];repeat' first
   | (refine ZQ (.inr rfl) rfl rfl ?_;((try simp[Jx, *])<;>first|done | omega | (simp_all;done)|(simp_all;omega)))
   | ((first|refine Z8 false ?_ ?_ | refine Z9 false ?_ ?_ | refine ZT false ?_ ?_)<;>intro ht<;>simp[ht,hr,hm,hn,e1,e2])
   | (refine Zw rfl (by simp[Mem.same,Ze,Zj]) ?_;simp[hr,hm,hn,e1,e2])
   | exact Zu rfl rfl rfl
   | (refine⟨Zu rfl rfl rfl,?_⟩;first|rfl | (simp[*];done))
end
section
variable {p:Prg} [Has p] [HasRx p] {h:Mem}
theorem Zbm(f:Bool)(l:List Sg)(hl:ZX l.length)(hs:∀ m∈l,m.ok):Zi (Zo p) h 137 [.c (.sl f (l.map Sg.cv))]=some (.c (.int .i64 (UR l)),h):=by
 simp only[ZX]at hl;refine ZB Has.h137 ?_;refine⟨l.length+1,Zk rfl ?_⟩;show W _ _ NL _ _ _ _;simp[NL];repeat' first
  | (refine ZQ (.inr rfl) rfl rfl ?_;((try simp[UR, *])<;>first|done | omega | (simp_all;done)|(simp_all;omega)))
  | ((first|refine Z8 false ?_ ?_ | refine Z9 false ?_ ?_ | refine ZT false ?_ ?_)<;>intro ht<;>simp[ht])
  | (refine Zw rfl (by simp[Mem.same,Ze,Zj]) ?_;simp)
  | exact Zu rfl rfl rfl
  | (refine⟨Zu rfl rfl rfl,?_⟩;first|rfl | (simp[*];done))
 have hx0:¬ 100 < l.length:=by omega
 have hdef:UR l=YJ Jx l:=by simp[UR,hx0]
 refine ZU (λ i sl h=>Cm [9,10,11] [] sl h/\Zm sl 9=.c (.sl f (l.map Sg.cv))/\Zm sl 10=.c (.int .i64 l.length)/\Zm sl 11=.c (.int .i64 i)/\(YJ Jx l=YJ Jx (l.drop i))) (l.length) (by omega) ⟨Xh,by simp,by simp,by simp,by simp⟩ ?_
 rintro i sl h hi ⟨hcm,h9,h10,h11,hq⟩
 simp only[Cm]at hcm;rw[hcm];rcases Zl i (l.length) with hlt | hge
 ·have hw:IntKind.i64.wrap ((i:Int)+1)=(i:Int)+1:=ZA (by omega) (by omega)
  have hd:=Zs hlt
  have hn:=λ h=>Zhh (p:=p) (h:=h) l[i] (hs _ (Zh hlt))
  rw[hd,Xk]at hq;simp only[Sg.cv,cI]at hn;simp[h9,h10,h11,hn,Zn,hlt,hw,Sg.cv,cI];repeat' first
   | (refine ZQ (.inr rfl) rfl rfl ?_;rw[hdef,hq];(by_cases hz:Jx l[i]=0<;>simp_all))
   | ((first|refine Z8 false ?_ ?_ | refine Z9 false ?_ ?_ | refine ZT false ?_ ?_)<;>intro ht<;>simp[ht,h9,h10,h11,hn,Zn,hw])
   | (refine Zw rfl (by simp[Mem.same,Ze,Zj]) ?_;simp[h9,h10,h11,hn,Zn,hw])
   | exact Zu rfl rfl rfl
   | (refine⟨Zu rfl rfl rfl,?_⟩;first|rfl | (simp[*];done))
   | (refine⟨Zu rfl rfl rfl,?_⟩;rw[hq];simp[*];done)
 ·obtain rfl:i=(l.length):=by omega
  simp[h9,h10,h11];exact ZQ (.inr rfl) rfl rfl (by rw[hdef,hq];simp[YJ])
theorem Zhn(f:Bool)(l:List Sg)(hl:ZX l.length)(hs:∀ m∈l,m.ok):Zi (Zo p) h 159 [.c (.sl f (l.map Sg.cv))]=some (.c (.int .i64 (UR l)),h):=by
 simp only[ZX]at hl;refine ZB Has.h159 ?_;refine⟨l.length+1,Zk rfl ?_⟩;show W _ _ ND _ _ _ _;simp[ND];repeat' first
  | (refine ZQ (.inr rfl) rfl rfl ?_;((try simp[UR, *])<;>first|done | omega | (simp_all;done)|(simp_all;omega)))
  | ((first|refine Z8 false ?_ ?_ | refine Z9 false ?_ ?_ | refine ZT false ?_ ?_)<;>intro ht<;>simp[ht])
  | (refine Zw rfl (by simp[Mem.same,Ze,Zj]) ?_;simp)
  | exact Zu rfl rfl rfl
  | (refine⟨Zu rfl rfl rfl,?_⟩;first|rfl | (simp[*];done))
 have hx0:¬ 100 < l.length:=by omega
 have hdef:UR l=YJ Jx l:=by simp[UR,hx0]
 refine ZU (λ i sl h=>h=[]/\Zm sl 0=.c (.sl f (l.map Sg.cv))/\Zm sl 3=.c (.int .i64 i)/\(YJ Jx l=YJ Jx (l.drop i))) (l.length) (by omega) ⟨rfl,by simp,by simp,by simp⟩ ?_
 rintro i sl h hi ⟨rfl,h0,h3,hq⟩
 rcases Zl i (l.length) with hlt | hge
 ·have hw:IntKind.i64.wrap ((i:Int)+1)=(i:Int)+1:=ZA (by omega) (by omega)
  have hd:=Zs hlt
  have hn:=λ h=>Zha (p:=p) (h:=h) l[i] (hs _ (Zh hlt))
  rw[hd,Xk]at hq;simp only[Sg.cv,cI]at hn;simp[h0,h3,hn,Zn,hlt,hw,Sg.cv,cI];repeat' first
   | (refine ZQ (.inr rfl) rfl rfl ?_;rw[hdef,hq];(by_cases hz:Jx l[i]=0<;>simp_all))
   | ((first|refine Z8 false ?_ ?_ | refine Z9 false ?_ ?_ | refine ZT false ?_ ?_)<;>intro ht<;>simp[ht,h0,h3,hn,Zn,hw])
   | (refine Zw rfl (by simp[Mem.same,Ze,Zj]) ?_;simp[h0,h3,hn,Zn,hw])
   | exact Zu rfl rfl rfl
   | (refine⟨Zu rfl rfl rfl,?_⟩;first|rfl | (simp[*];done))
   | (rw[hq];simp[*];done)
 ·obtain rfl:i=(l.length):=by omega
  simp[h0,h3];exact ZQ (.inr rfl) rfl rfl (by rw[hdef,hq];simp[YJ])
theorem Zho(k f ms ra of nu de na wi mt st pk pc pa te ar)(hl:ZX na.length)(hs:∀ s∈na,ZX s.length):Zi (Zo p) h 158 [.c (.agg (Ex.mk k f ms ra of nu de na wi mt st (.mk pk pc pa) te ar).cells)]=some (.c (.int .i64 (De k na)),h):=by
 have hn:=λ f h=>Zbb (p:=p) (h:=h) f na hl hs
 simp only[ZX]at hl;refine ZB Has.h158 ?_;by_cases hk:k=4
 ·subst hk;have hG:De 4 na=Vk Yj na:=rfl
  rw[hG];by_cases hx:(16:Int) < na.length
  ·have hx1:Vk nm na=4:=by simp only[Vk];rw[if_pos (by omega)]
   have hx2:Vk Yj na=4:=by simp only[Vk];rw[if_pos (by omega)]
   simp only[hx1]at hn;refine⟨1,Zk rfl ?_⟩;show W _ _ ub _ _ _ _;simp[ub,Ex.cells,Pt.cells,cI,hx,hn];exact ZQ (.inr rfl) rfl rfl hx2.symm
  ·have hdef:Vk Yj na=wY Yj none na:=by simp only[Vk];rw[if_neg (by omega)]
   obtain⟨kk,hkk⟩:∃ kk:Int,kk=4:=⟨_,rfl⟩;refine⟨na.length+1,Zk rfl ?_⟩;show W _ _ ub _ _ _ _;simp[ub,Ex.cells,Pt.cells,cI,hx];rw[<- hkk];refine ZU (λ i sl h=>h=[Ob.cells 33 [X.c (.int .i64 kk),X.c (.int .i64 f),X.c (.sl false (ms.map Mt.cv)),X.c (.int .i64 ra),X.c (.int .i64 of),X.c (.int .i64 nu),X.c (.int .i64 de),X.c (.sl false (na.map CV.str)),X.c (.bool wi),X.c (.int .i64 mt),X.c (.sl false (st.map Sg.cv)),X.c (.int .i64 pk),X.c (.sl false (pc.map Cd.cv)),X.c (.sl false (Pt.cvs pa)),X.c (.str te),X.c (.sl false (Ex.cvs ar))]]/\Zm sl 1=.ptr 0 0/\Zm sl 3=.c (.int .i64 i)/\(wY Yj none na=wY Yj (Wa na i) (na.drop i))) (na.length) (by omega) ⟨rfl,by simp,by simp,by simp[Wa]⟩ ?_
   rintro i sl h hi ⟨rfl,h1,h3,hq⟩
   rcases Zl i (na.length) with hlt | hge
   ·have hw:IntKind.i64.wrap ((i:Int)+1)=(i:Int)+1:=ZA (by omega) (by omega)
    have hd:=Zs hlt
    have hgl:na[i]?=some na[i]:=Zb hlt
    have hpn:=Jl hlt
    rw[hd,qC,<- hpn]at hq;by_cases hi0:i=0
    ·have hi1:¬ 0 < i:=by omega
     have hp1:Wa na i=none:=by simp[Wa,hi0]
     rw[hp1]at hq;simp only[Hh]at hq;clear hi0;simp[h1,h3,Zn,hlt,hw];repeat' first
      | (refine ZQ (.inr rfl) rfl rfl ?_;rw[hdef,hq];simp[Yj, *])
      | ((first|refine Z8 true ?_ ?_ | refine Z9 true ?_ ?_ | refine ZT true ?_ ?_)<;>intro ht<;>simp[ht,h1,h3,Zn,hw,hi1,hgl])
      | (refine Zw rfl (by simp[Mem.same,Ze,Zj]) ?_;simp[h1,h3,Zn,hw,hi1,hgl])
      | exact Zu rfl rfl rfl
      | (refine⟨Zu rfl rfl rfl,?_⟩;first|rfl | (simp[*];done))
      | (rw[hq];simp[Yj, *];done)
    ·have hw1:=UV hi0 (by omega)
     have hi1:0 < i:=by omega
     have hi2:i - 1 < na.length:=by omega
     have hgt:na[i - 1]?=some na[i - 1]:=Zb hi2
     have hp1:Wa na i=some na[i - 1]:=by simp[Wa,hi0,hgt]
     rw[hp1]at hq;simp only[Hh]at hq;clear hi0;simp[h1,h3,Zn,hlt,hw];repeat' first
      | (refine ZQ (.inr rfl) rfl rfl ?_;rw[hdef,hq];simp[Yj, *])
      | ((first|refine Z8 true ?_ ?_ | refine Z9 true ?_ ?_ | refine ZT true ?_ ?_)<;>intro ht<;>simp[ht,h1,h3,Zn,hw,hw1,hi1,hgt,hgl,X6,hi2])
      | (refine Zw rfl (by simp[Mem.same,Ze,Zj]) ?_;simp[h1,h3,Zn,hw,hw1,hi1,hgt,hgl,X6,hi2])
      | exact Zu rfl rfl rfl
      | (refine⟨Zu rfl rfl rfl,?_⟩;first|rfl | (simp[*];done))
      | (rw[hq];simp[Yj, *];done)
   ·obtain rfl:i=(na.length):=by omega
    simp[h1,h3];exact ZQ (.inr rfl) rfl rfl (by rw[hdef,hq];simp[wY])
 ·have hk':(k != 4)=true:=by simpa using hk
  have hG:De k na=Vk nm na:=by simp[De,hk]
  rw[hG];refine⟨1,Zk rfl ?_⟩;show W _ _ ub _ _ _ _;simp[ub,Ex.cells,Pt.cells,cI,hk',hn];exact ZQ (.inr rfl) rfl rfl rfl
theorem Zbv(s:By):Zi (Zo p) h 113 [.c (.str s)]=some (.c (.bool (K9 s)),h):=by
 refine ZB Has.h113 ?_;refine⟨1,Zk rfl ?_⟩;show W _ _ N6 _ _ _ _;simp[N6];repeat' first
  | (refine Y0 (.inr rfl) rfl rfl ?_;((try simp[K9, *])<;>first|done | omega | (simp_all;done)|(simp_all;omega)))
  | ((first|refine Z8 true ?_ ?_ | refine Z9 true ?_ ?_ | refine ZT true ?_ ?_)<;>intro ht<;>simp[ht])
  | (refine Zw rfl (by simp[Mem.same,Ze,Zj]) ?_;simp)
  | exact Zu rfl rfl rfl
  | (refine⟨Zu rfl rfl rfl,?_⟩;first|rfl | (simp[*];done))
theorem Zbd(s:By):Zi (Zo p) h 166 [.c (.str s)]=some (.c (.bool (K9 s)),h):=by
 refine ZB Has.h166 ?_;refine⟨1,Zk rfl ?_⟩;show W _ _ Nz _ _ _ _;simp[Nz];repeat' first
  | (refine Y0 (.inr rfl) rfl rfl ?_;((try simp[K9, *])<;>first|done | omega | (simp_all;done)|(simp_all;omega)))
  | ((first|refine Z8 true ?_ ?_ | refine Z9 true ?_ ?_ | refine ZT true ?_ ?_)<;>intro ht<;>simp[ht])
  | (refine Zw rfl (by simp[Mem.same,Ze,Zj]) ?_;simp)
  | exact Zu rfl rfl rfl
  | (refine⟨Zu rfl rfl rfl,?_⟩;first|rfl | (simp[*];done))
theorem vW(n k:Nat)(hk:k<=n):Xu n none (some (.c (.int .i64 (k:Int))))=some (0,k):=by simp[Xu,X2,YA,UK,hk]
theorem jv(n k:Nat)(hk:k<=n):Xu n (some (.c (.int .i64 (k:Int)))) none=some (k,n):=by simp[Xu,X2,YA,UK,hk]
theorem ZgF(s:By):Zi (Zo p) h 232 [.c (.str s),.c (.str [97,116,116,114,46])]=some (.c (.bool (Xf s)),h):=by
 refine Ym Has.h232 ?_;by_cases h5:5<=s.length
 ·have hb:Xu s.length none (some (.c (.int .i64 5)))=some (0,5):=vW s.length 5 h5
  have h5':(5:Int)<=s.length:=by omega
  refine⟨1,Zk rfl ?_⟩;show W _ _ Du _ _ _ _;simp[Du,h5',hb];exact Y0 (.inr rfl) rfl rfl (by simp[Xf,h5])
 ·have h5':¬ (5:Int)<=s.length:=by omega
  refine⟨1,Zk rfl ?_⟩;show W _ _ Du _ _ _ _;simp[Du,h5'];exact Y0 (.inr rfl) rfl rfl (by simp[Xf,h5])
theorem KV{s:By}(hc:Xf s=true):5<=s.length:=by
 simp only[Xf,Bool.and_eq_true,decide_eq_true_iff]at hc;exact hc.1
theorem ZgG(s:By):Zi (Zo p) h 226 [.c (.str s),.c (.str [97,116,116,114,46])]=some (.c (.tup [.str (if Xf s then s.drop 5 else s),.bool (Xf s)]),h):=by
 refine Ym Has.h226 ?_;have hn:=λ h=>ZgF (p:=p) (h:=h) s
 cases hc:Xf s
 ·simp only[hc]at hn;refine⟨1,Zk rfl ?_⟩;show W _ _ Dv _ _ _ _;simp[Dv,hn];exact Xv (.inr rfl) rfl rfl rfl rfl rfl
 ·simp only[hc]at hn;have hb:Xu s.length (some (.c (.int .i64 5))) none=some (5,s.length):=jv s.length 5 (KV hc)
  refine⟨1,Zk rfl ?_⟩;show W _ _ Dv _ _ _ _;simp[Dv,hn,hb];exact Xv (.inr rfl) rfl rfl rfl rfl rfl
theorem ZgM(s:By):Zi (Zo p) h 214 [.c (.str s),.c (.str [97,116,116,114,46])]=some (.c (.tup [.str (if Xf s then s.drop 5 else s),.bool (Xf s)]),h):=by
 refine Ym Has.h214 ?_;have hn:=λ h=>ZgG (p:=p) (h:=h) s
 refine⟨1,Zk rfl ?_⟩;show W _ _ Na _ _ _ _;simp[Na,hn];exact Xv (.inr rfl) rfl rfl rfl rfl rfl
theorem jy{s:By}(h6:s.length < 6):Qr s=false:=by
 simp only[Qr];cases hc:Xf s with
 | false=>rfl
 | true=>
  have:=KV hc
  have e:s.drop 5=[]:=List.drop_eq_nil_iff.2 (by omega)
  rw[e];rfl
theorem ZgH(s:By)(hs:ZX s.length):∃ t,∀ h,Zi (Zo p) h 223 [.c (.str s)]=some (.c (.tup [.str t,.bool (Qr s)]),h):=by
 simp only[ZX]at hs;by_cases h6:s.length < 6
 ·have hf:=jy h6
  have h6':(s.length:Int) < 6:=by omega
  refine⟨[],λ h=>ZB Has.h223 ?_⟩
  rw[hf];refine⟨1,Zk rfl ?_⟩;show W _ _ v9 _ _ _ _;simp[v9,h6'];exact Xv (.inr rfl) rfl rfl rfl rfl rfl
 ·have h6':¬ (s.length:Int) < 6:=by omega
  have hb:Xu s.length none (some (.c (.int .i64 5)))=some (0,5):=vW s.length 5 (by omega)
  have hb2:Xu s.length (some (.c (.int .i64 5))) none=some (5,s.length):=jv s.length 5 (by omega)
  have hn:=λ h=>FD (p:=p) (h:=h) (s.drop 5) (by simp;omega)
  cases hc:(s.take 5==[97,116,116,114,46])
  ·have hf:Qr s=false:=by simp only[Qr,Xf,hc,Bool.and_false,Bool.false_and]
   refine⟨[],λ h=>ZB Has.h223 ?_⟩
   rw[hf];refine⟨1,Zk rfl ?_⟩;show W _ _ v9 _ _ _ _;simp[v9,h6',hb,hc];exact Xv (.inr rfl) rfl rfl rfl rfl rfl
  ·have hf:Qr s=nm (s.drop 5):=by simp only[Qr,Xf,hc];simp;intro _;omega
   refine⟨s.drop 5,λ h=>ZB Has.h223 ?_⟩
   rw[hf];refine⟨1,Zk rfl ?_⟩;show W _ _ v9 _ _ _ _;simp[v9,h6',hb,hc];refine Zw rfl rfl ?_;have hn2:=YZ hn
   simp[hb2,hn,hn2,X.ids.idsL,X.ids];exact Xv (.inr rfl) rfl rfl rfl rfl rfl
theorem ZgV(c:Cd)(hc:c.ok):Zi (Zo p) h 198 [.c c.cv]=some (.c (.int .i64 (WG c)),h):=by
 obtain⟨f,op,t,n⟩:=c;obtain⟨h1,h2⟩:=hc;refine ZB Has.h198 ?_;have hr:=λ h=>HasRx.c197 (p:=p) t h h2
 have ha:=λ h=>ZgM (p:=p) (h:=h) f
 have hm:=λ h=>Zbv (p:=p) (h:=h) f
 have hn:=λ h=>Mr (p:=p) (h:=h) (f.drop 5) (by simp only[ZX]at h1;simp;omega)
 have hsp:Yj f=(f==[110,97,109,101]||f==[115,101,114,118,105,99,101]):=rfl
 have hat:Qr f=(Xf f&&nm (f.drop 5)):=rfl
 clear h1 h2;cases hb1:K9 f<;>cases hb2:Xf f
 all_goals
  simp only[hb1,hb2]at ha hm hat;refine⟨1,Zk rfl ?_⟩;show W _ _ Ng _ _ _ _;simp[Ng,Cd.cv,cI,hr,ha,hm];repeat' first
   | (refine ZQ (.inr rfl) rfl rfl ?_;((try simp[WG, *])<;>first|done | omega | (simp_all;done)|(simp_all;omega)))
   | ((first|refine Z8 true ?_ ?_ | refine Z9 true ?_ ?_ | refine ZT true ?_ ?_)<;>intro ht<;>simp[ht,hr,ha,hm,hn])
   | (refine Zw rfl (by simp[Mem.same,Ze,Zj]) ?_;simp[hr,ha,hm,hn])
   | exact Zu rfl rfl rfl
   | (refine⟨Zu rfl rfl rfl,?_⟩;first|rfl | (simp[*];done))
end
section
variable {p:Prg} [Has p] [HasRx p] {h:Mem}
theorem ZgP(c:Cd)(hc:c.ok):Zi (Zo p) h 210 [.c c.cv]=some (.c (.int .i64 (WG c)),h):=by
 obtain⟨f,op,t,n⟩:=c;obtain⟨h1,h2⟩:=hc;refine ZB Has.h210 ?_;have hr:=λ h=>HasRx.c209 (p:=p) t h h2
 obtain⟨u,ha⟩:=ZgH (p:=p) f h1;have hm:=λ h=>Zbd (p:=p) (h:=h) f
 have hsp:Yj f=(f==[110,97,109,101]||f==[115,101,114,118,105,99,101]):=rfl
 clear h1 h2;cases hb1:K9 f<;>cases hb2:Qr f
 all_goals
  simp only[hb1,hb2]at ha hm;refine⟨1,Zk rfl ?_⟩;show W _ _ Nc _ _ _ _;simp[Nc,Cd.cv,cI,hr,ha,hm];repeat' first
   | (refine ZQ (.inr rfl) rfl rfl ?_;((try simp[WG, *])<;>first|done | omega | (simp_all;done)|(simp_all;omega)))
   | ((first|refine Z8 true ?_ ?_ | refine Z9 true ?_ ?_ | refine ZT true ?_ ?_)<;>intro ht<;>simp[ht,hr,ha,hm])
   | (refine Zw rfl (by simp[Mem.same,Ze,Zj]) ?_;simp[hr,ha,hm])
   | exact Zu rfl rfl rfl
   | (refine⟨Zu rfl rfl rfl,?_⟩;first|rfl | (simp[*];done))
theorem Pt.shape:∀ q:Pt,∃ k c a,q=.mk k c a
 | .mk k c a=>⟨k,c,a,rfl⟩
theorem Zbp(q:Pt):q.ok->∀ (n:Int),0<=n->n<=100->∀ h,Zi (Zo p) h 131 [.c q.cv,.c (.int .i64 n)]=some (.c (.int .i64 (min (n+q.sz) 101)),h):=by
 induction q using Pt.ind
 rename_i k c a ih;intro hok n hn0 hn1 h;simp only[Pt.ok,ZX]at hok;refine Ym Has.h131 ?_;have hw0:IntKind.i64.wrap (n+1)=n+1:=ZA (by omega) (by omega)
 refine⟨a.length+1,Zk rfl ?_⟩;show W _ _ NR _ _ _ _;simp[NR,Pt.cv_mk,hw0,Zn];refine ZU (λ i sl h=>Cm [1,10,11,12] [Ob.cells 30 [X.c (.int .i64 k),X.c (.sl false (c.map Cd.cv)),X.c (.sl false (a.map Pt.cv))]] sl h/\Zm sl 10=.c (.sl false (a.map Pt.cv))/\Zm sl 11=.c (.int .i64 a.length)/\Zm sl 12=.c (.int .i64 i)/\(∃ m:Int,Zm sl 1=.c (.int .i64 m)/\0<=m/\m<=101/\min (n+(1+Pt.szs a:Nat)) 101=min (m+(Pt.szs (a.drop i):Nat)) 101)) (a.length) (by omega) ⟨Xh,by simp,by simp,by simp,by exact⟨n+1,by simp,by omega,by omega,by simp;omega⟩⟩ ?_
 rintro i sl h hi ⟨hcm,h10,h11,h12,hq⟩
 simp only[Cm]at hcm;rw[hcm];rcases Zl i (a.length) with hlt | hge
 ·have hw:IntKind.i64.wrap ((i:Int)+1)=(i:Int)+1:=ZA (by omega) (by omega)
  obtain⟨m,h1,hm0,hm1,hq⟩:=hq;have hd:=Zs hlt
  rw[hd,Pt.szs]at hq;have hn:=λ hm=>ih a[i] (Zh hlt) (Pt.oks_mem hok.2.2.2 _ (Zh hlt)) m hm0 hm
  obtain⟨k2,c2,a2,hai⟩:∃ k2 c2 a2,a[i]=Pt.mk k2 c2 a2:=Pt.shape _;rw[hai]at hn hq;simp only[Pt.cv_mk]at hn;by_cases hm:m<=100
  ·have hn:=hn hm
   have hm':¬ 100 < m:=by omega
   simp[h10,h11,h12,h1,hn,Zn,hlt,hw,hai,Pt.cv_mk,hm'];refine⟨Zu rfl rfl rfl,by omega,by omega,by omega⟩
  ·have hm':100 < m:=by omega
   have hm2:¬ 101 < m:=by omega
   simp[h10,h11,h12,h1,hn,Zn,hlt,hw,hai,Pt.cv_mk,hm',evalOp.go,hm2];exact ZQ (.inr rfl) rfl rfl (by simp only[Pt.sz];omega)
 ·obtain rfl:i=(a.length):=by omega
  obtain⟨m,h1,hm0,hm1,hq⟩:=hq;have hm2:¬ 101 < m:=by omega
  simp[h10,h11,h12,h1,evalOp.go,hm2];exact ZQ (.inr rfl) rfl rfl (by simp[Pt.szs]at hq;simp only[Pt.sz];omega)
theorem c47(q:Pt):q.ok->∀ (n:Int),0<=n->n<=100->∀ h,Zi (Zo p) h 47 [.c q.cv,.c (.int .i64 n)]=some (.c (.int .i64 (min (n+q.sz) 101)),h):=by
 induction q using Pt.ind
 rename_i k c a ih;intro hok n hn0 hn1 h;simp only[Pt.ok,ZX]at hok;refine Ym Has.h47 ?_;have hw0:IntKind.i64.wrap (n+1)=n+1:=ZA (by omega) (by omega)
 refine⟨a.length+1,Zk rfl ?_⟩;show W _ _ b47 _ _ _ _;simp[b47,Pt.cv_mk,hw0,Zn];refine ZU (λ i sl h=>h=[Ob.cells 30 [X.c (.int .i64 k),X.c (.sl false (c.map Cd.cv)),X.c (.sl false (a.map Pt.cv))]]/\Zm sl 2=.ptr 0 0/\Zm sl 5=.c (.int .i64 i)/\(∃ m:Int,Zm sl 1=.c (.int .i64 m)/\0<=m/\m<=101/\min (n+(1+Pt.szs a:Nat)) 101=min (m+(Pt.szs (a.drop i):Nat)) 101)) (a.length) (by omega) ⟨rfl,by simp,by simp,by exact⟨n+1,by simp,by omega,by omega,by simp;omega⟩⟩ ?_
 rintro i sl h hi ⟨rfl,h2,h5,hq⟩
 rcases Zl i (a.length) with hlt | hge
 ·have hw:IntKind.i64.wrap ((i:Int)+1)=(i:Int)+1:=ZA (by omega) (by omega)
  obtain⟨m,h1,hm0,hm1,hq⟩:=hq;have hd:=Zs hlt
  rw[hd,Pt.szs]at hq;have hn:=λ hm=>ih a[i] (Zh hlt) (Pt.oks_mem hok.2.2.2 _ (Zh hlt)) m hm0 hm
  obtain⟨k2,c2,a2,hai⟩:∃ k2 c2 a2,a[i]=Pt.mk k2 c2 a2:=Pt.shape _;rw[hai]at hn hq;simp only[Pt.cv_mk]at hn;by_cases hm:m<=100
  ·have hn:=hn hm
   simp[h2,h5,h1,hn,Zn,hlt,hw,hai,Pt.cv_mk,hm];exact⟨by omega,by omega,by omega⟩
  ·simp[h2,h5,h1,hn,Zn,hlt,hw,hai,Pt.cv_mk,hm];exact ZQ (.inr rfl) rfl rfl (by simp only[Pt.sz];omega)
 ·obtain rfl:i=(a.length):=by omega
  obtain⟨m,h1,hm0,hm1,hq⟩:=hq;simp[h2,h5,h1];exact ZQ (.inr rfl) rfl rfl (by simp[Pt.szs]at hq;simp only[Pt.sz];omega)
theorem Pt.deps_cons(q:Pt)(r:List Pt):Pt.deps (q::r)=max q.dep (Pt.deps r):=by rw[Pt.deps]
theorem Zhg(q:Pt):q.ok->q.dep<=1000->∀ h,Zi (Zo p) h 172 [.c q.cv]=some (.c (.int .i64 (q.dep:Nat)),h):=by
 induction q using Pt.ind
 rename_i k c a ih;intro hok hdp h;simp only[Pt.ok,ZX]at hok;simp only[Pt.dep]at hdp;refine ZB Has.h172 ?_;refine⟨a.length+1,Zk rfl ?_⟩;show W _ _ Nt _ _ _ _;simp[Nt,Pt.cv_mk];refine ZU (λ i sl h=>Cm [3,7,8,9] [Ob.cells 30 [X.c (.int .i64 k),X.c (.sl false (c.map Cd.cv)),X.c (.sl false (a.map Pt.cv))]] sl h/\Zm sl 7=.c (.sl false (a.map Pt.cv))/\Zm sl 8=.c (.int .i64 a.length)/\Zm sl 9=.c (.int .i64 i)/\(∃ m:Nat,Zm sl 3=.c (.int .i64 (m:Int))/\Pt.deps a=max m (Pt.deps (a.drop i)))) (a.length) (by omega) ⟨Xh,by simp,by simp,by simp,by exact⟨0,by simp,by simp⟩⟩ ?_
 rintro i sl h hi ⟨hcm,h7,h8,h9,hq⟩
 simp only[Cm]at hcm;rw[hcm];rcases Zl i (a.length) with hlt | hge
 ·have hw:IntKind.i64.wrap ((i:Int)+1)=(i:Int)+1:=ZA (by omega) (by omega)
  obtain⟨m,h1,hq⟩:=hq;have hd:=Zs hlt
  rw[hd,Pt.deps_cons]at hq;have hdm:=Pt.dep_mem (Zh hlt)
  have hn:=ih a[i] (Zh hlt) (Pt.oks_mem hok.2.2.2 _ (Zh hlt)) (by omega)
  obtain⟨k2,c2,a2,hai⟩:∃ k2 c2 a2,a[i]=Pt.mk k2 c2 a2:=Pt.shape _;generalize hde:a[i].dep=de at hn hq;rw[hai]at hn;simp only[Pt.cv_mk]at hn;by_cases hm:m < de
  ·have hm':(m:Int) < (de:Int):=by omega
   simp[h7,h8,h9,h1,hn,Zn,hlt,hw,hai,Pt.cv_mk,hm,evalOp.go];exact⟨Zu rfl rfl rfl,de,by rfl,by omega⟩
  ·simp[h7,h8,h9,h1,hn,Zn,hlt,hw,hai,Pt.cv_mk,hm,evalOp.go];exact⟨Zu rfl rfl rfl,m,by rfl,by omega⟩
 ·obtain rfl:i=(a.length):=by omega
  obtain⟨m,h1,hq⟩:=hq;simp[Pt.deps]at hq;have hw1:IntKind.i64.wrap ((m:Int)+1)=(m:Int)+1:=ZA (by omega) (by omega)
  simp[h7,h8,h9,h1,Zn,hw1];exact ZQ (.inr rfl) rfl rfl (by simp only[Pt.dep];omega)
theorem ZgZ(q:Pt):q.ok->q.dep<=1000->∀ h,Zi (Zo p) h 191 [.c q.cv]=some (.c (.int .i64 (q.dep:Nat)),h):=by
 induction q using Pt.ind
 rename_i k c a ih;intro hok hdp h;simp only[Pt.ok,ZX]at hok;simp only[Pt.dep]at hdp;refine ZB Has.h191 ?_;refine⟨a.length+1,Zk rfl ?_⟩;show W _ _ Nm _ _ _ _;simp[Nm,Pt.cv_mk];refine ZU (λ i sl h=>h=[Ob.cells 30 [X.c (.int .i64 k),X.c (.sl false (c.map Cd.cv)),X.c (.sl false (a.map Pt.cv))]]/\Zm sl 1=.ptr 0 0/\Zm sl 4=.c (.int .i64 i)/\(∃ m:Nat,Zm sl 3=.c (.int .i64 (m:Int))/\Pt.deps a=max m (Pt.deps (a.drop i)))) (a.length) (by omega) ⟨rfl,by simp,by simp,by exact⟨0,by simp,by simp⟩⟩ ?_
 rintro i sl h hi ⟨rfl,h1,h4,hq⟩
 rcases Zl i (a.length) with hlt | hge
 ·have hw:IntKind.i64.wrap ((i:Int)+1)=(i:Int)+1:=ZA (by omega) (by omega)
  obtain⟨m,h3,hq⟩:=hq;have hd:=Zs hlt
  rw[hd,Pt.deps_cons]at hq;have hdm:=Pt.dep_mem (Zh hlt)
  have hn:=ih a[i] (Zh hlt) (Pt.oks_mem hok.2.2.2 _ (Zh hlt)) (by omega)
  obtain⟨k2,c2,a2,hai⟩:∃ k2 c2 a2,a[i]=Pt.mk k2 c2 a2:=Pt.shape _;generalize hde:a[i].dep=de at hn hq;rw[hai]at hn;simp only[Pt.cv_mk]at hn;by_cases hm:m < de
  ·simp[h1,h4,h3,hn,Zn,hlt,hw,hai,Pt.cv_mk,hm,evalOp.go];exact⟨de,by rfl,by omega⟩
  ·simp[h1,h4,h3,hn,Zn,hlt,hw,hai,Pt.cv_mk,hm,evalOp.go];exact⟨m,by rfl,by omega⟩
 ·obtain rfl:i=(a.length):=by omega
  obtain⟨m,h3,hq⟩:=hq;simp[Pt.deps]at hq;have hw1:IntKind.i64.wrap ((m:Int)+1)=(m:Int)+1:=ZA (by omega) (by omega)
  simp[h1,h4,h3,Zn,hw1];exact ZQ (.inr rfl) rfl rfl (by simp only[Pt.dep];omega)
end
section
variable {p:Prg} [Has p] [HasRx p] {h:Mem}
theorem Cd.shape(c:Cd):c.cv=.agg [.str c.field,.int .i64 c.op,.str c.text,.int .i64 c.num]:=rfl
theorem Zhf(q:Pt):q.ok->∀ h,Zi (Zo p) h 173 [.c q.cv]=some (.c (.int .i64 q.ck),h):=by
 induction q using Pt.ind
 rename_i k c a ih;intro hok h;simp only[Pt.ok,ZX]at hok;refine ZB Has.h173 ?_;refine⟨a.length+c.length+2,Zk rfl ?_⟩;show W _ _ Ns _ _ _ _;simp[Ns,Pt.cv_mk];repeat' first
  | (refine ZQ (.inr rfl) rfl rfl ?_;(simp only[Pt.ck];rcases c with _ | ⟨c0,cr⟩<;>simp[G8]at *<;>first|omega | (simp_all;done)|(simp_all;omega)))
  | ((first|refine Z8 true ?_ ?_ | refine Z9 true ?_ ?_ | refine ZT true ?_ ?_)<;>intro ht<;>simp[ht])
  | (refine Zw rfl (by simp[Mem.same,Ze,Zj]) ?_;simp)
  | exact Zu rfl rfl rfl
  | (refine⟨Zu rfl rfl rfl,?_⟩;first|rfl | (simp[*];done))
 all_goals
  have hck:(Pt.mk k c a).ck=(if YJ WG c=0 then YJ Pt.ck a else YJ WG c):=by(simp only[Pt.ck,Pt.cks_ferr];clear ih hok;rcases c with _ | ⟨c0,cr⟩<;>simp[G8]at *<;>first|omega | (simp_all;done)|(simp_all;omega))
  refine ZU (λ i sl h=>Cm [1,48,49,50] [Ob.cells 30 [X.c (.int .i64 k),X.c (.sl false (c.map Cd.cv)),X.c (.sl false (a.map Pt.cv))]] sl h/\Zm sl 1=.ptr 0 0/\Zm sl 48=.c (.sl false (c.map Cd.cv))/\Zm sl 49=.c (.int .i64 c.length)/\Zm sl 50=.c (.int .i64 i)/\(YJ WG c=YJ WG (c.drop i))) (c.length) (by omega) ⟨Xh,by simp,by simp,by simp,by simp,by simp⟩ ?_
  rintro i sl h hi ⟨hcm,h1,h48,h49,h50,hq⟩
  simp only[Cm]at hcm;rw[hcm];rcases Zl i (c.length) with hlt | hge
  ·have hw:IntKind.i64.wrap ((i:Int)+1)=(i:Int)+1:=ZA (by omega) (by omega)
   have hd:=Zs hlt
   have hn:=λ h=>ZgV (p:=p) (h:=h) c[i] (hok.2.1 _ (Zh hlt))
   rw[hd,Xk]at hq;rw[Cd.shape]at hn;simp[h1,h48,h49,h50,hn,Zn,hlt,hw,Cd.shape];repeat' first
    | (refine ZQ (.inr rfl) rfl rfl ?_;rw[hck,hq];(by_cases hz:WG c[i]=0<;>simp_all))
    | ((first|refine Z8 true ?_ ?_ | refine Z9 true ?_ ?_ | refine ZT true ?_ ?_)<;>intro ht<;>simp[ht,h1,h48,h49,h50,hn,Zn,hw])
    | (refine Zw rfl (by simp[Mem.same,Ze,Zj]) ?_;simp[h1,h48,h49,h50,hn,Zn,hw])
    | exact Zu rfl rfl rfl
    | (refine⟨Zu rfl rfl rfl,?_⟩;first|rfl | (simp[*];done))
    | (refine⟨Zu rfl rfl rfl,?_⟩;rw[hq];simp_all;done)
  ·obtain rfl:i=(c.length):=by omega
   have hq0:YJ WG c=0:=by simpa [YJ] using hq
   rw[hq0]at hck;simp only[if_true]at hck;simp[h1,h48,h49,h50];refine ZU (λ i sl h=>Cm [61,62,63] [Ob.cells 30 [X.c (.int .i64 k),X.c (.sl false (c.map Cd.cv)),X.c (.sl false (a.map Pt.cv))]] sl h/\Zm sl 61=.c (.sl false (a.map Pt.cv))/\Zm sl 62=.c (.int .i64 a.length)/\Zm sl 63=.c (.int .i64 i)/\(YJ Pt.ck a=YJ Pt.ck (a.drop i))) (a.length) (by omega) ⟨Xh,by simp,by simp,by simp,by simp⟩ ?_
   rintro i sl h hi ⟨hcm,h61,h62,h63,hq⟩
   simp only[Cm]at hcm;rw[hcm];rcases Zl i (a.length) with hlt | hge
   ·have hw:IntKind.i64.wrap ((i:Int)+1)=(i:Int)+1:=ZA (by omega) (by omega)
    have hd:=Zs hlt
    have hn:=ih a[i] (Zh hlt) (Pt.oks_mem hok.2.2.2 _ (Zh hlt))
    obtain⟨k2,c2,a2,hai⟩:∃ k2 c2 a2,a[i]=Pt.mk k2 c2 a2:=Pt.shape _;rw[hd,Xk]at hq;generalize hde:a[i].ck=de at hn hq;rw[hai]at hn;simp only[Pt.cv_mk]at hn;simp[h61,h62,h63,hn,Zn,hlt,hw,hai,Pt.cv_mk];repeat' first
     | (refine ZQ (.inr rfl) rfl rfl ?_;rw[hck,hq];(by_cases hz:de=0<;>simp_all))
     | ((first|refine Z8 true ?_ ?_ | refine Z9 true ?_ ?_ | refine ZT true ?_ ?_)<;>intro ht<;>simp[ht,h61,h62,h63,hn,Zn,hw])
     | (refine Zw rfl (by simp[Mem.same,Ze,Zj]) ?_;simp[h61,h62,h63,hn,Zn,hw])
     | exact Zu rfl rfl rfl
     | (refine⟨Zu rfl rfl rfl,?_⟩;first|rfl | (simp[*];done))
     | (refine⟨Zu rfl rfl rfl,?_⟩;rw[hq];simp_all;done)
   ·obtain rfl:i=(a.length):=by omega
    simp[h61,h62,h63];exact ZQ (.inr rfl) rfl rfl (by rw[hck,hq];simp[YJ])
theorem ZgY(q:Pt):q.ok->∀ h,Zi (Zo p) h 192 [.c q.cv]=some (.c (.int .i64 q.ck),h):=by
 induction q using Pt.ind
 rename_i k c a ih;intro hok h;simp only[Pt.ok,ZX]at hok;refine ZB Has.h192 ?_;refine⟨a.length+c.length+2,Zk rfl ?_⟩;show W _ _ Nl _ _ _ _;simp[Nl,Pt.cv_mk];repeat' first
  | (refine ZQ (.inr rfl) rfl rfl ?_;(simp only[Pt.ck];rcases c with _ | ⟨c0,cr⟩<;>simp[G8]at *<;>first|omega | (simp_all;done)|(simp_all;omega)))
  | ((first|refine Z8 true ?_ ?_ | refine Z9 true ?_ ?_ | refine ZT true ?_ ?_)<;>intro ht<;>simp[ht])
  | (refine Zw rfl (by simp[Mem.same,Ze,Zj]) ?_;simp)
  | exact Zu rfl rfl rfl
  | (refine⟨Zu rfl rfl rfl,?_⟩;first|rfl | (simp[*];done))
 all_goals
  have hck:(Pt.mk k c a).ck=(if YJ WG c=0 then YJ Pt.ck a else YJ WG c):=by(simp only[Pt.ck,Pt.cks_ferr];clear ih hok;rcases c with _ | ⟨c0,cr⟩<;>simp[G8]at *<;>first|omega | (simp_all;done)|(simp_all;omega))
  refine ZU (λ i sl h=>h=[Ob.cells 30 [X.c (.int .i64 k),X.c (.sl false (c.map Cd.cv)),X.c (.sl false (a.map Pt.cv))]]/\Zm sl 1=.ptr 0 0/\Zm sl 4=.c (.int .i64 i)/\(YJ WG c=YJ WG (c.drop i))) (c.length) (by omega) ⟨rfl,by simp,by simp,by simp⟩ ?_
  rintro i sl h hi ⟨rfl,h1,h4,hq⟩
  rcases Zl i (c.length) with hlt | hge
  ·have hw:IntKind.i64.wrap ((i:Int)+1)=(i:Int)+1:=ZA (by omega) (by omega)
   have hd:=Zs hlt
   have hn:=λ h=>ZgP (p:=p) (h:=h) c[i] (hok.2.1 _ (Zh hlt))
   rw[hd,Xk]at hq;rw[Cd.shape]at hn;simp[h1,h4,hn,Zn,hlt,hw,Cd.shape];repeat' first
    | (refine ZQ (.inr rfl) rfl rfl ?_;rw[hck,hq];(by_cases hz:WG c[i]=0<;>simp_all))
    | ((first|refine Z8 true ?_ ?_ | refine Z9 true ?_ ?_ | refine ZT true ?_ ?_)<;>intro ht<;>simp[ht,h1,h4,hn,Zn,hw])
    | (refine Zw rfl (by simp[Mem.same,Ze,Zj]) ?_;simp[h1,h4,hn,Zn,hw])
    | exact Zu rfl rfl rfl
    | (refine⟨Zu rfl rfl rfl,?_⟩;first|rfl | (simp[*];done))
    | (rw[hq];simp_all;done)
  ·obtain rfl:i=(c.length):=by omega
   have hq0:YJ WG c=0:=by simpa [YJ] using hq
   rw[hq0]at hck;simp only[if_true]at hck;simp[h1,h4];refine ZU (λ i sl h=>h=[Ob.cells 30 [X.c (.int .i64 k),X.c (.sl false (c.map Cd.cv)),X.c (.sl false (a.map Pt.cv))]]/\Zm sl 1=.ptr 0 0/\Zm sl 6=.c (.int .i64 i)/\(YJ Pt.ck a=YJ Pt.ck (a.drop i))) (a.length) (by omega) ⟨rfl,by simp,by simp,by simp⟩ ?_
   rintro i sl h hi ⟨rfl,h1,h6,hq⟩
   rcases Zl i (a.length) with hlt | hge
   ·have hw:IntKind.i64.wrap ((i:Int)+1)=(i:Int)+1:=ZA (by omega) (by omega)
    have hd:=Zs hlt
    have hn:=ih a[i] (Zh hlt) (Pt.oks_mem hok.2.2.2 _ (Zh hlt))
    obtain⟨k2,c2,a2,hai⟩:∃ k2 c2 a2,a[i]=Pt.mk k2 c2 a2:=Pt.shape _;rw[hd,Xk]at hq;generalize hde:a[i].ck=de at hn hq;rw[hai]at hn;simp only[Pt.cv_mk]at hn;simp[h1,h6,hn,Zn,hlt,hw,hai,Pt.cv_mk];repeat' first
     | (refine ZQ (.inr rfl) rfl rfl ?_;rw[hck,hq];(by_cases hz:de=0<;>simp_all))
     | ((first|refine Z8 true ?_ ?_ | refine Z9 true ?_ ?_ | refine ZT true ?_ ?_)<;>intro ht<;>simp[ht,h1,h6,hn,Zn,hw])
     | (refine Zw rfl (by simp[Mem.same,Ze,Zj]) ?_;simp[h1,h6,hn,Zn,hw])
     | exact Zu rfl rfl rfl
     | (refine⟨Zu rfl rfl rfl,?_⟩;first|rfl | (simp[*];done))
     | (rw[hq];simp_all;done)
   ·obtain rfl:i=(a.length):=by omega
    simp[h1,h6];exact ZQ (.inr rfl) rfl rfl (by rw[hck,hq];simp[YJ])
theorem Zbl(q:Pt)(hq:q.ok):Zi (Zo p) h 138 [.c q.cv]=some (.c (.int .i64 q.chk),h):=by
 refine ZB Has.h138 ?_;have h1:=Zbp (p:=p) q hq 0 (by omega) (by omega)
 have h2:=λ hd=>Zhg (p:=p) q hq hd
 have h3:=Zhf (p:=p) q hq
 have hds:=Pt.dep_sz q
 by_cases hs:100 < q.sz
 ·have e1:min (0+(q.sz:Int)) 101=101:=by omega
  rw[e1]at h1;obtain⟨k,c,a,rfl⟩:=Pt.shape q;simp only[Pt.cv_mk]at h1;refine⟨1,Zk rfl ?_⟩;show W _ _ DF _ _ _ _;simp[DF,Pt.cv_mk,h1];exact ZQ (.inr rfl) rfl rfl (by simp[Pt.chk,hs])
 ·have e1:min (0+(q.sz:Int)) 101=q.sz:=by omega
  have e2:¬ (100:Int) < q.sz:=by omega
  have h2:=h2 (by omega)
  rw[e1]at h1;obtain⟨k,c,a,hqq⟩:=Pt.shape q;generalize hz:q.sz=z at *
  generalize hy:q.dep=y at *
  have hc:q.chk=if 12 < y then 30 else q.ck:=by simp[Pt.chk,hz,hy,hs]
  generalize q.ck=w at *
  rw[hqq]at h1 h2 h3;simp only[Pt.cv_mk]at h1 h2 h3;refine⟨1,Zk rfl ?_⟩;show W _ _ DF _ _ _ _;simp[DF,hqq,Pt.cv_mk,h1,h2,h3,e2];rw[<- hqq];repeat' first
   | (refine ZQ (.inr rfl) rfl rfl ?_;rw[hc];((try simp[WG, *])<;>first|done | omega | (simp_all;done)|(simp_all;omega)))
   | ((first|refine Z8 false ?_ ?_ | refine Z9 false ?_ ?_ | refine ZT false ?_ ?_)<;>intro ht<;>simp[ht,h1,h2,h3])
   | (refine Zw rfl (by simp[Mem.same,Ze,Zj]) ?_;simp[h1,h2,h3])
   | exact Zu rfl rfl rfl
   | (refine⟨Zu rfl rfl rfl,?_⟩;first|rfl | (simp[*];done))
theorem Zhm(q:Pt)(hq:q.ok):Zi (Zo p) h 160 [.c q.cv]=some (.c (.int .i64 q.chk),h):=by
 refine ZB Has.h160 ?_;have h1:=c47 (p:=p) q hq 0 (by omega) (by omega)
 have h2:=λ hd=>ZgZ (p:=p) q hq hd
 have h3:=ZgY (p:=p) q hq
 have hds:=Pt.dep_sz q
 by_cases hs:100 < q.sz
 ·have e1:min (0+(q.sz:Int)) 101=101:=by omega
  rw[e1]at h1;obtain⟨k,c,a,rfl⟩:=Pt.shape q;simp only[Pt.cv_mk]at h1;refine⟨1,Zk rfl ?_⟩;show W _ _ DC _ _ _ _;simp[DC,Pt.cv_mk,h1];exact ZQ (.inr rfl) rfl rfl (by simp[Pt.chk,hs])
 ·have e1:min (0+(q.sz:Int)) 101=q.sz:=by omega
  have e2:¬ (100:Int) < q.sz:=by omega
  have h2:=h2 (by omega)
  rw[e1]at h1;obtain⟨k,c,a,hqq⟩:=Pt.shape q;generalize hz:q.sz=z at *
  generalize hy:q.dep=y at *
  have hc:q.chk=if 12 < y then 30 else q.ck:=by simp[Pt.chk,hz,hy,hs]
  generalize q.ck=w at *
  rw[hqq]at h1 h2 h3;simp only[Pt.cv_mk]at h1 h2 h3;refine⟨1,Zk rfl ?_⟩;show W _ _ DC _ _ _ _;simp[DC,hqq,Pt.cv_mk,h1,h2,h3,e2];rw[<- hqq];repeat' first
   | (refine ZQ (.inr rfl) rfl rfl ?_;rw[hc];((try simp[WG, *])<;>first|done | omega | (simp_all;done)|(simp_all;omega)))
   | ((first|refine Z8 false ?_ ?_ | refine Z9 false ?_ ?_ | refine ZT false ?_ ?_)<;>intro ht<;>simp[ht,h1,h2,h3])
   | (refine Zw rfl (by simp[Mem.same,Ze,Zj]) ?_;simp[h1,h2,h3])
   | exact Zu rfl rfl rfl
   | (refine⟨Zu rfl rfl rfl,?_⟩;first|rfl | (simp[*];done))
end
def yU(n d:Int):Int:=if d < 1\/1152921504606846976 < d\/n < -1152921504606846976\/1152921504606846976 < n\/Nat.gcd n.natAbs d.natAbs ≠ 1 then 1 else 0
def wX(k f n d:Int):Int:=if yU n d ≠ 0 then 1 else if k=1 then 0 else if k=6/\f=7 then(if d ≠ 1\/n < 1\/1000 < n then 2 else 0) else if n < 0\/d < n then 2 else 0
def vb(c:UInt8):Bool:=decide (c.toNat=95)||(decide (97<=c.toNat)&&decide (c.toNat<=122))
def vw(s:By):Bool:=s.all vb&&decide (0 < s.length)&&decide (s.length<=60)
def Db(k:Int)(s:By):Int:=if k=5 then(if 60 < s.length then 4 else 0) else if k=13 then(if vw s then 0 else 5) else if nm s then 0 else 5
def nf(k:Int):Int:=if k=2 then 11 else if k=3 then 3 else if k=6 then 9 else if k=7 then 10 else 0
def QX(k:Int):Bool:=k==2||k==3||k==5||k==8||k==10||k==11||k==12
def QJ(k:Int):Bool:=k==3||k==8||k==12
def Q7(k:Int):Bool:=k==4||k==9
def QI(k:Int):Bool:=QX k||Q7 k
def JE(k f:Int):Bool:=k==1||(k==2&&(f==10||f==11))||(k==6&&(f==6||f==7||f==9))
def Kh(k:Int):Bool:=k==3||k==5||k==6||k==7
def JV(k:Int):Bool:=Kh k||k==4
def JW(k:Int):Bool:=k==7
def QW(k f:Int):Bool:=(k==3&&f==3)||k==5||(k==6&&f==8)||k==13
def nA(k:Int):Int:=if k=6\/k=12 then 1 else if k=7 then 2 else 0
def Vi(pk:Int)(pc:List Cd)(pa:List Pt):Bool:=pk != 0||!pc.isEmpty||!pa.isEmpty
section
variable {p:Prg} [Has p] [HasRx p] {h:Mem}
theorem Zhr(n:Int)(h0:-1152921504606846976<=n)(h1:n<=1152921504606846976):Zi (Zo p) h 153 [.c (.int .i64 n)]=some (.c (.int .u64 (n.natAbs:Nat)),h):=by
 refine ZB Has.h153 ?_;have hw1:n < 0->IntKind.u64.wrap (-IntKind.u64.wrap n)=n.natAbs:=λ hn=>by simp[IntKind.wrap,IntKind.bits,IntKind.signed];omega
 have hw2:¬ n < 0->IntKind.u64.wrap n=n.natAbs:=λ hn=>by simp[IntKind.wrap,IntKind.bits,IntKind.signed];omega
 by_cases hn:n < 0
 ·refine⟨1,Zk rfl ?_⟩;show W _ _ DD _ _ _ _;simp[DD,hn,Zn];exact ZQ (.inr rfl) rfl rfl (hw1 hn)
 ·refine⟨1,Zk rfl ?_⟩;show W _ _ DD _ _ _ _;simp[DD,hn,Zn];exact ZQ (.inr rfl) rfl rfl (hw2 hn)
theorem Zbe(n:Int)(h0:-1152921504606846976<=n)(h1:n<=1152921504606846976):Zi (Zo p) h 164 [.c (.int .i64 n)]=some (.c (.int .i64 (n.natAbs:Nat)),h):=by
 refine ZB Has.h164 ?_;by_cases hn:n < 0
 ·have hw1:IntKind.i64.wrap (-n)=n.natAbs:=by rw[ZA (by omega) (by omega)];omega
  refine⟨1,Zk rfl ?_⟩;show W _ _ Dz _ _ _ _;simp[Dz,hn,Zn];exact ZQ (.inr rfl) rfl rfl hw1
 ·refine⟨1,Zk rfl ?_⟩;show W _ _ Dz _ _ _ _;simp[Dz,hn,Zn];exact ZQ (.inr rfl) rfl rfl (by omega)
theorem GA(x y:Nat):(x:Int).tmod (y:Int)=((x % y:Nat):Int):=by
 rw[Int.tmod_eq_emod_of_nonneg (by omega)];rfl
theorem zZ(x y:Nat):Nat.gcd y (x % y)=Nat.gcd x y:=by
 rw[Nat.gcd_comm y,<- Nat.gcd_rec,Nat.gcd_comm]
theorem Zhs(a b:Nat):Zi (Zo p) h 152 [.c (.int .u64 (a:Int)),.c (.int .u64 (b:Int))]=some (.c (.int .u64 (Nat.gcd a b:Nat)),h):=by
 refine Ym Has.h152 ?_;refine⟨b+1,Zk rfl ?_⟩;show W _ _ NK _ _ _ _;simp[NK];refine ZU (λ i sl h=>h=[]/\∃ x y:Nat,Zm sl 0=.c (.int .u64 x)/\Zm sl 1=.c (.int .u64 y)/\Nat.gcd x y=Nat.gcd a b/\y+i<=b) b (by omega) ⟨rfl,a,b,by simp,by simp,rfl,by omega⟩ ?_
 rintro i sl h hi ⟨rfl,x,y,h0,h1,hg,hy⟩
 by_cases hz:y=0
 ·subst hz;simp[h0,h1];exact ZQ (.inr rfl) rfl rfl (by simpa using congrArg (λ n:Nat=>(n:Int)) hg)
 ·have hz':(y:Int) ≠ 0:=by omega
  have hz2:((y:Int) != 0)=true:=by simpa using hz
  simp[h0,h1,hz2];refine Zw rfl rfl ?_;simp[Gq hz',GA];have:=Nat.mod_lt x (Z1 hz)
  exact⟨by omega,y,by rfl,x % y,by rfl,by rw[zZ,hg],by omega⟩
theorem ZgW(a b:Nat):Zi (Zo p) h 195 [.c (.int .i64 (a:Int)),.c (.int .i64 (b:Int))]=some (.c (.int .i64 (Nat.gcd a b:Nat)),h):=by
 refine Ym Has.h195 ?_;refine⟨b+1,Zk rfl ?_⟩;show W _ _ Ni _ _ _ _;simp[Ni];refine ZU (λ i sl h=>h=[]/\∃ x y:Nat,Zm sl 0=.c (.int .i64 x)/\Zm sl 1=.c (.int .i64 y)/\Nat.gcd x y=Nat.gcd a b/\y+i<=b) b (by omega) ⟨rfl,a,b,by simp,by simp,rfl,by omega⟩ ?_
 rintro i sl h hi ⟨rfl,x,y,h0,h1,hg,hy⟩
 by_cases hz:y=0
 ·subst hz;simp[h0,h1];exact ZQ (.inr rfl) rfl rfl (by simpa using congrArg (λ n:Nat=>(n:Int)) hg)
 ·have hz':(y:Int) ≠ 0:=by omega
  have hz2:0 < y:=by omega
  simp[h0,h1,hz2];refine Zw rfl rfl ?_;simp[Gq hz',GA];have:=Nat.mod_lt x (Z1 hz)
  exact⟨by omega,y,by rfl,x % y,by rfl,by rw[zZ,hg],by omega⟩
theorem Zbw(n d:Int):Zi (Zo p) h 106 [.c (.agg [.int .i64 n,.int .i64 d])]=some (.c (.int .i64 (yU n d)),h):=by
 refine ZB Has.h106 ?_;refine⟨1,Zk rfl ?_⟩;show W _ _ Oc _ _ _ _;simp[Oc];repeat' first
  | (refine ZQ (.inr rfl) rfl rfl ?_;((try simp[yU, *])<;>first|done | omega | (simp_all;done)|(simp_all;omega)))
  | ((first|refine Z8 false ?_ ?_ | refine Z9 false ?_ ?_ | refine ZT false ?_ ?_)<;>intro ht<;>simp[ht])
  | (refine Zw rfl (by simp[Mem.same,Ze,Zj]) ?_;simp)
  | exact Zu rfl rfl rfl
  | (refine⟨Zu rfl rfl rfl,?_⟩;first|rfl | (simp[*];done))
 all_goals
  have hn1:=λ h=>Zhr (p:=p) (h:=h) n (by omega) (by omega)
  have hu:IntKind.u64.wrap d=(d.natAbs:Nat):=by simp[IntKind.wrap,IntKind.bits,IntKind.signed];omega
  have hn2:=λ h=>Zhs (p:=p) (h:=h) n.natAbs d.natAbs
  have hk1:=YZ hn1
  have hk2:=VR hn2
  simp[hn1,hn2,hk1,hk2,hu,Zn,X.ids.idsL,X.ids];repeat' first
   | (refine ZQ (.inr rfl) rfl rfl ?_;((try simp[yU, *])<;>first|done | omega | (simp_all;done)|(simp_all;omega)))
   | ((first|refine Z8 false ?_ ?_ | refine Z9 false ?_ ?_ | refine ZT false ?_ ?_)<;>intro ht<;>simp[ht])
   | (refine Zw rfl (by simp[Mem.same,Ze,Zj]) ?_;simp)
   | exact Zu rfl rfl rfl
   | (refine⟨Zu rfl rfl rfl,?_⟩;first|rfl | (simp[*];done))
theorem Zbg(n d:Int):Zi (Zo p) h 162 [.c (.agg [.int .i64 n,.int .i64 d])]=some (.c (.int .i64 (yU n d)),h):=by
 refine ZB Has.h162 ?_;by_cases hall:d < 1\/1152921504606846976 < d\/n < -1152921504606846976\/1152921504606846976 < n
 ·have hR:yU n d=1:=by simp only[yU];rw[if_pos (by omega)]
  rw[hR];refine⟨1,Zk rfl ?_⟩;show W _ _ DB _ _ _ _;simp[DB];refine Zw rfl (Yg _ _) ?_;simp;repeat' first
   | (refine ZQ (.inr rfl) rfl rfl ?_;((try simp[yU, *])<;>first|done | omega | (simp_all;done)|(simp_all;omega)))
   | ((first|refine Z8 false ?_ ?_ | refine Z9 false ?_ ?_ | refine ZT false ?_ ?_)<;>intro ht<;>simp[ht])
   | (refine Zw rfl (by simp[Mem.same,Ze,Zj]) ?_;simp)
   | exact Zu rfl rfl rfl
   | (refine⟨Zu rfl rfl rfl,?_⟩;first|rfl | (simp[*];done))
   | ((exfalso;omega);done)
 ·have hn1:=λ h=>Zbe (p:=p) (h:=h) n (by omega) (by omega)
  have hu:d=(d.natAbs:Nat):=by omega
  have hn2:=λ h=>ZgW (p:=p) (h:=h) n.natAbs d.natAbs
  rw[<- hu]at hn2;clear hu;have hk1:=YZ hn1
  have hk2:=VR hn2
  have e1:¬ d < 1:=by omega
  have e2:¬ 1152921504606846976 < d:=by omega
  have e3:¬ n < -1152921504606846976:=by omega
  have e4:¬ 1152921504606846976 < n:=by omega
  refine⟨1,Zk rfl ?_⟩;show W _ _ DB _ _ _ _;simp[DB];refine Zw rfl (Yg _ _) ?_;simp[hn1,hn2,hk1,hk2,e1,e2,e3,e4,Zn,X.ids.idsL,X.ids];repeat' first
   | (refine ZQ (.inr rfl) rfl rfl ?_;((try simp[yU, *])<;>first|done | omega | (simp_all;done)|(simp_all;omega)))
   | ((first|refine Z8 false ?_ ?_ | refine Z9 false ?_ ?_ | refine ZT false ?_ ?_)<;>intro ht<;>simp[ht])
   | (refine Zw rfl (by simp[Mem.same,Ze,Zj]) ?_;simp)
   | exact Zu rfl rfl rfl
   | (refine⟨Zu rfl rfl rfl,?_⟩;first|rfl | (simp[*];done))
theorem Zbn(k f ms ra of nu de na wi mt st pk pc pa te ar):Zi (Zo p) h 135 [.c (Ex.mk k f ms ra of nu de na wi mt st (.mk pk pc pa) te ar).cv]=some (.c (.int .i64 (wX k f nu de)),h):=by
 refine ZB Has.h135 ?_;have hr:=λ h=>Zbw (p:=p) (h:=h) nu de
 cases hR:(yU nu de==0)
 all_goals
  refine⟨1,Zk rfl ?_⟩;show W _ _ NN _ _ _ _;simp[NN,Ex.cv_mk,hr,hR];repeat' first
   | (refine ZQ (.inr rfl) rfl rfl ?_;((try simp[wX, *])<;>first|done | omega | (simp_all;done)|(simp_all;omega)))
   | ((first|refine Z8 false ?_ ?_ | refine Z9 false ?_ ?_ | refine ZT false ?_ ?_)<;>intro ht<;>simp[ht,hr,hR])
   | (refine Zw rfl (by simp[Mem.same,Ze,Zj]) ?_;simp[hr,hR])
   | exact Zu rfl rfl rfl
   | (refine⟨Zu rfl rfl rfl,?_⟩;first|rfl | (simp[*];done))
theorem Zhp(k f ms ra of nu de na wi mt st pk pc pa te ar):Zi (Zo p) h 157 [.c (Ex.mk k f ms ra of nu de na wi mt st (.mk pk pc pa) te ar).cv]=some (.c (.int .i64 (wX k f nu de)),h):=by
 refine ZB Has.h157 ?_;have hr:=λ h=>Zbg (p:=p) (h:=h) nu de
 cases hR:(yU nu de==0)
 all_goals
  refine⟨1,Zk rfl ?_⟩;show W _ _ NE _ _ _ _;simp[NE,Ex.cv_mk,hr,hR];repeat' first
   | (refine ZQ (.inr rfl) rfl rfl ?_;((try simp[wX, *])<;>first|done | omega | (simp_all;done)|(simp_all;omega)))
   | ((first|refine Z8 false ?_ ?_ | refine Z9 false ?_ ?_ | refine ZT false ?_ ?_)<;>intro ht<;>simp[ht,hr,hR])
   | (refine Zw rfl (by simp[Mem.same,Ze,Zj]) ?_;simp[hr,hR])
   | exact Zu rfl rfl rfl
   | (refine⟨Zu rfl rfl rfl,?_⟩;first|rfl | (simp[*];done))
theorem ZgX(s:By)(hs:s.length < 9223372036854775808):Zi (Zo p) h 193 [.c (.str s)]=some (.c (.bool (vw s)),h):=by
 refine ZB Has.h193 ?_;refine⟨s.length+1,Zk rfl ?_⟩;show W _ _ Nk _ _ _ _;simp[Nk];refine ZU (λ i sl h=>h=[]/\Zm sl 0=.c (.str s)/\Zm sl 3=.c (.int .i64 i)/\(s.all vb=(s.drop i).all vb)) (s.length) (by omega) ⟨rfl,by simp,by simp,by simp⟩ ?_
 rintro i sl h hi ⟨rfl,h0,h3,hq⟩
 rcases Zl i (s.length) with hlt | hge
 ·have hw:IntKind.i64.wrap ((i:Int)+1)=(i:Int)+1:=ZA (by omega) (by omega)
  have hx:s[i]?=some s[i]:=Zb hlt
  have hd:=Zs hlt
  rw[hd,List.all_cons]at hq;have hbv:vb s[i]=(decide ((s[i].toNat:Int)=95)||(decide ((97:Int)<=s[i].toNat)&&decide ((s[i].toNat:Int)<=122))):=by rw[Bool.eq_iff_iff];simp[vb];omega
  clear hd;simp[h0,h3,hlt,hx,hw,Zn,Zt];repeat' first
   | (refine Y0 (.inr rfl) rfl rfl ?_;(simp only[vw];rw[hq,hbv];clear hq hbv;((try simp[hw, *])<;>first|done | omega | (simp_all;done)|(simp_all;omega))))
   | ((first|refine Z8 false ?_ ?_ | refine Z9 false ?_ ?_ | refine ZT false ?_ ?_)<;>intro ht<;>simp[ht,h0,h3,hx,hw,Zn,Zt])
   | (refine Zw rfl (by simp[Mem.same,Ze,Zj]) ?_;simp[h0,h3,hx,hw,Zn,Zt])
   | exact Zu rfl rfl rfl
   | (refine⟨Zu rfl rfl rfl,?_⟩;first|rfl | (simp[*];done))
   | ((rw[hq,hbv];clear hq hbv;((try simp[hw, *])<;>first|done | omega | (simp_all;done)|(simp_all;omega)));done)
 ·obtain rfl:i=(s.length):=by omega
  have hq':s.all vb=true:=by simpa using hq
  simp[h0,h3];repeat' first
   | (refine Y0 (.inr rfl) rfl rfl ?_;rw[Bool.eq_iff_iff];simp[vw,hq'];omega)
   | ((first|refine Z8 false ?_ ?_ | refine Z9 false ?_ ?_ | refine ZT false ?_ ?_)<;>intro ht<;>simp[ht,h0,h3])
   | (refine Zw rfl (by simp[Mem.same,Ze,Zj]) ?_;simp[h0,h3])
   | exact Zu rfl rfl rfl
   | (refine⟨Zu rfl rfl rfl,?_⟩;first|rfl | (simp[*];done))
theorem Zbk(k f ms ra of nu de na wi mt st pk pc pa te ar)(hte:te.length < 4611686018427387904):Zi (Zo p) h 139 [.c (Ex.mk k f ms ra of nu de na wi mt st (.mk pk pc pa) te ar).cv]=some (.c (.int .i64 (Db k te)),h):=by
 refine ZB Has.h139 ?_;have hn:=λ h=>Mr (p:=p) (h:=h) te (by omega)
 by_cases hk5:k=5
 ·subst hk5;refine⟨1,Zk rfl ?_⟩;show W _ _ uc _ _ _ _;simp[uc,Ex.cv_mk];repeat' first
   | (refine ZQ (.inr rfl) rfl rfl ?_;((try simp[Db, *])<;>first|done | omega | (simp_all;done)|(simp_all;omega)))
   | ((first|refine Z8 false ?_ ?_ | refine Z9 false ?_ ?_ | refine ZT false ?_ ?_)<;>intro ht<;>simp[ht])
   | (refine Zw rfl (by simp[Mem.same,Ze,Zj]) ?_;simp)
   | exact Zu rfl rfl rfl
   | (refine⟨Zu rfl rfl rfl,?_⟩;first|rfl | (simp[*];done))
 by_cases hk13:k=13
 ·subst hk13;refine⟨te.length+1,Zk rfl ?_⟩;show W _ _ uc _ _ _ _;simp[uc,Ex.cv_mk];repeat' first
   | (refine ZQ (.inr rfl) rfl rfl ?_;((try simp[Db,vw, *])<;>first|done | omega | (simp_all;done)|(simp_all;omega)))
   | ((first|refine Z8 false ?_ ?_ | refine Z9 false ?_ ?_ | refine ZT false ?_ ?_)<;>intro ht<;>simp[ht])
   | (refine Zw rfl (by simp[Mem.same,Ze,Zj]) ?_;simp)
   | exact Zu rfl rfl rfl
   | (refine⟨Zu rfl rfl rfl,?_⟩;first|rfl | (simp[*];done))
  have hlb:te.length<=4294967296:=by omega
  have hT:Db 13 te=if te.all vb then 0 else 5:=by
   have h1:0 < te.length:=by omega
   have h2:te.length<=60:=by omega
   simp[Db,vw,h1,h2]
  simp[hlb];refine ZU (λ i sl h=>h=_/\Zm sl 31=.c (.sl false (te.map Zt))/\Zm sl 32=.c (.int .i64 te.length)/\Zm sl 33=.c (.int .i64 i)/\(te.all vb=(te.drop i).all vb)) (te.length) (by omega) ⟨rfl,by simp,by simp,by simp,by simp⟩ ?_
  rintro i sl h hi ⟨rfl,h31,h32,h33,hq⟩
  rcases Zl i (te.length) with hlt | hge
  ·have hw:IntKind.i64.wrap ((i:Int)+1)=(i:Int)+1:=ZA (by omega) (by omega)
   have hd:=Zs hlt
   rw[hd,List.all_cons]at hq;clear hd;have hbv:vb te[i]=(decide ((te[i].toNat:Int)=95)||(decide ((97:Int)<=te[i].toNat)&&decide ((te[i].toNat:Int)<=122))):=by rw[Bool.eq_iff_iff];simp[vb];omega
   simp[h31,h32,h33,hlt,hw,Zn,Zt];repeat' first
    | (refine ZQ (.inr rfl) rfl rfl ?_;(rw[hT,hq,hbv];clear hq hbv hT;((try simp[hw, *])<;>first|done | omega | (simp_all;done)|(simp_all;omega))))
    | ((first|refine Z8 false ?_ ?_ | refine Z9 false ?_ ?_ | refine ZT false ?_ ?_)<;>intro ht<;>simp[ht,h31,h32,h33,hw,Zn,Zt])
    | (refine Zw rfl (by simp[Mem.same,Ze,Zj]) ?_;simp[h31,h32,h33,hw,Zn,Zt])
    | exact Zu rfl rfl rfl
    | (refine⟨Zu rfl rfl rfl,?_⟩;first|rfl | (simp[*];done))
    | ((rw[hq,hbv];clear hq hbv hT;((try simp[hw, *])<;>first|done | omega | (simp_all;done)|(simp_all;omega)));done)
  ·obtain rfl:i=(te.length):=by omega
   have hq':te.all vb=true:=by simpa using hq
   simp[h31,h32,h33];exact ZQ (.inr rfl) rfl rfl (by rw[hT,hq'];rfl)
 ·have e5:(k==5)=false:=by simpa using hk5
  have e13:(k==13)=false:=by simpa using hk13
  have hT:Db k te=if nm te then 0 else 5:=by simp[Db,hk5,hk13]
  rw[hT];refine⟨1,Zk rfl ?_⟩;show W _ _ uc _ _ _ _;simp[uc,Ex.cv_mk,e5,e13,hn];repeat' first
   | (refine ZQ (.inr rfl) rfl rfl ?_;((try simp[e5, *])<;>first|done | omega | (simp_all;done)|(simp_all;omega)))
   | ((first|refine Z8 false ?_ ?_ | refine Z9 false ?_ ?_ | refine ZT false ?_ ?_)<;>intro ht<;>simp[ht,hn])
   | (refine Zw rfl (by simp[Mem.same,Ze,Zj]) ?_;simp[hn])
   | exact Zu rfl rfl rfl
   | (refine⟨Zu rfl rfl rfl,?_⟩;first|rfl | (simp[*];done))
theorem Zhl(k f ms ra of nu de na wi mt st pk pc pa te ar)(hte:te.length < 4611686018427387904)(hk:k=3\/k=5\/k=6\/k=13):Zi (Zo p) h 161 [.c (Ex.mk k f ms ra of nu de na wi mt st (.mk pk pc pa) te ar).cv]=some (.c (.int .i64 (Db k te)),h):=by
 refine ZB Has.h161 ?_;have hn:=λ h=>FD (p:=p) (h:=h) te (by omega)
 have hv:=λ h=>ZgX (p:=p) (h:=h) te (by omega)
 rcases hk with rfl | rfl | rfl | rfl
 all_goals
  refine⟨1,Zk rfl ?_⟩;show W _ _ NB _ _ _ _;simp[NB,Ex.cv_mk,hn,hv];repeat' first
   | (refine ZQ (.inr rfl) rfl rfl ?_;((try simp[Db, *])<;>first|done | omega | (simp_all;done)|(simp_all;omega)))
   | ((first|refine Z8 false ?_ ?_ | refine Z9 false ?_ ?_ | refine ZT false ?_ ?_)<;>intro ht<;>simp[ht,hn,hv])
   | (refine Zw rfl (by simp[Mem.same,Ze,Zj]) ?_;simp[hn,hv])
   | exact Zu rfl rfl rfl
   | (refine⟨Zu rfl rfl rfl,?_⟩;first|rfl | (simp[*];done))
end
end Go.Proofs.YtmckcikeefggdaaGreatDoor
namespace Go.Pi
section
variable {e:Env} {N:Nat} {s:Zf} {h:Mem} {k:List Fk} {Q:Pi.Exit->Zf->Mem->Prop}
theorem Jm{w:POper}:∀ {l:List POper} {s:Zf} {h:Mem} {rs:List Rec} {s':Zf} {h':Mem} {rs2:List Rec} {σ2:St},Yq e l s h=some (rs,⟨s',h'⟩)->(∀ r∈rs,Rec.eff e r=false)->Yq e [w] s' h=some (rs2,σ2)->Yq e (l++[w]) s h=some (rs++rs2,σ2)
 | [],s,h,rs,s',h',rs2,σ2,hp,_,h2=>by simp[Yq]at hp;obtain⟨rfl,rfl,rfl⟩:=hp;exact h2
 | o::r,s,h,rs,s',h',rs2,σ2,hp,hn,h2=>by
  simp only[Yq]at hp;split at hp
  ·rename_i hw;split at hp
   ·rename_i v h4 hv;split at hp
    ·rename_i rs' σ' hp';cases hp;have h1:=hn _ Zv
     have hk:Nat.beq (o.op.kind e (ZK o.tmps s)) 2=false:=by simpa [Rec.eff] using h1
     rw[hk]at hp';simp only[cond_false]at hp';have:=Jm hp' (λ q hq=>hn q (Zq _ hq)) h2
     simp only[List.cons_append,Yq,hw,hv,hk,cond_false,this]
    ·cases hp
   ·cases hp
  ·rename_i hw;split at hp
   ·rename_i rs' σ' hp';cases hp;have:=Jm hp' (λ q hq=>hn q (Zq _ hq)) h2
    simp only[List.cons_append,Yq,hw,this]
   ·cases hp
  ·cases hp
theorem wR{r:Rec}(hr:r.eff e=true):∀ {rs:List Rec} {i:Nat},(∀ q∈rs,Rec.eff e q=false)->YW e i (rs++[r])=[i+rs.length]
 | [],i,_=>by simp[YW,hr]
 | q::rs,i,hn=>by
  have:=wR hr (rs:=rs) (i:=i+1) λ x hx=>hn x (Zq _ hx)
  simp only[List.cons_append,YW,hn q Zv,cond_false,this,List.length_cons]
  congr 1;omega
theorem Uh:∀ {l:List POper} {s:Zf} {h:Mem} {rs:List Rec} {σ:St},Yq e l s h=some (rs,σ)->rs.length=l.length
 | [],s,h,rs,σ,hp=>by simp[Yq]at hp;rw[hp.1];rfl
 | o::r,s,h,rs,σ,hp=>by
  simp only[Yq]at hp;split at hp
  ·split at hp
   ·split at hp
    ·rename_i hp';cases hp;simp[Uh hp']
    ·cases hp
   ·cases hp
  ·split at hp
   ·rename_i hp';cases hp;simp[Uh hp']
   ·cases hp
  ·cases hp
theorem KL{anc:List (List Nat)}{n:Nat}{es:List Nat}{hm:Mem}:∀ {rs:List Rec} {i:Nat},(∀ j,j < i+rs.length->j ≠ n->mem j (Yv anc n)=true)->(∀ j r,rs[j]?=some r->i+j=n->(r.run&&Nat.beq (r.o.op.kind e r.s) 1)=false)->YF e anc es [n] hm i rs=true
 | [],i,_,_=>rfl
 | r::rs,i,ha,hk=>by
  have h1:=KL (anc:=anc) (es:=es) (hm:=hm) (rs:=rs) (i:=i+1) (λ j hj hjn=>ha j (by simp at hj ⊢;omega) hjn) (λ j r' hr hj=>hk (j+1) r' (by simpa using hr) (by omega))
  simp only[YF,h1,Bool.and_true];by_cases hin:i=n
  ·have:=hk 0 r (by simp) (by omega)
   cases hr:r.run with
   | false=>simp
   | true=>rw[hr]at this;simp only[Bool.true_and]at this ⊢;rw[this];simp
  ·have h2:=ha i (by simp) hin
   have:YB anc es [n] i=false:=by simp only[YB,List.all_cons,List.all_nil,h2,Bool.not_true,Bool.false_and,Bool.and_false]
   rw[this];simp
def Wl(e:Env)(N:Nat)(w:POper)(s:Zf)(h:Mem)(k:List Fk)(Q:Pi.Exit->Zf->Mem->Prop):Prop:=∃ v h2,evalOp e (ZK w.tmps s) h w.op=some (v,h2)/\w.guard=none/\w.op.kind e (ZK w.tmps s)=2/\hasF h2=false/\Mem.same h2 h2=true/\Re e N k Q .normal (Yo s w.dst v) h2
theorem gf{l:List POper}{w:POper}{anc:List (List Nat)}(hl:l.getLast?=some w)(ha:(List.range l.dropLast.length).all (λ i=>mem i (Yv anc l.dropLast.length))=true)(hb:mem l.dropLast.length (Yv anc l.dropLast.length)=false)
  (hw:Wp e N l.dropLast s h [] (λ _ s' h'=>Wl e N w s' h' k Q)):W e N (.dops l anc) s h k Q:=by
 have hll:l=l.dropLast++[w]:=by
  cases l with
  | nil=>simp at hl
  | cons a r=>
   rw[List.getLast?_eq_some_getLast (by simp)]at hl
   have:=List.dropLast_concat_getLast (l:=a::r) (by simp)
   simp only[Option.some.injEq]at hl;rw[hl]at this;exact this.symm
 obtain⟨rs,s',h',hp,hn,v,h2,hv,hg,hk,hf,hm,hre⟩:=hw;obtain⟨hh,hrun⟩:=UB hp hn;simp only at hh;subst hh;generalize hs1:ZK w.tmps s'=s1 at hv hk;have hpw:Yq e [w] s' h'=some ([⟨s1,w,true,v⟩],⟨Yo s' w.dst v,h2⟩):=by
  have hb2:Nat.beq 2 2=true:=rfl
  simp only[Yq,hs1,wanted,hg,hv,hk,hb2,cond_true]
 have hps:=Jm hp hn hpw
 rw[<- hll]at hps;have hlen:=Uh hp
 have hreff:Rec.eff e ⟨s1,w,true,v⟩=true:=by simp only[Rec.eff,hk];rfl
 have hes:=wR (i:=0) hreff hn
 simp only[Nat.zero_add]at hes;have hanc:∀ j,j < rs.length->mem j (Yv anc rs.length)=true:=by
  intro j hj;rw[hlen]at hj ⊢;exact(Zz.1 ha) j (List.mem_range.2 hj)
 rw[<- hlen]at hb;have hr0:YF e anc [rs.length] [] h' 0 (rs++[⟨s1,w,true,v⟩])=true:=by
  have gen:∀ (es done:List Nat) (q:List Rec) (i:Nat),(∀ r∈q,r.run=true->∃ u,evalOp e r.s h' r.o.op=some (r.v,u))->YF e anc es done h' i q=true:=by
   intro es done q
   induction q with
   | nil=>intro i _;rfl
   | cons r q ih=>
    intro i hq;simp only[YF,ih (i+1) (λ x hx=>hq x (Zq _ hx)),Bool.and_true]
    cases hr:r.run with
    | false=>simp
    | true=>
     obtain⟨u,hu⟩:=hq r Zv hr;simp only[hu,X.same_refl,Bool.or_true]
  refine gen _ _ _ _ λ r hr hrr=>?_
  rcases List.mem_append.1 hr with hr | hr
  ·exact hrun r hr hrr
  ·have hr:=ZF.1 hr;subst hr;exact⟨h2,hv⟩
 have hr1:YF e anc [rs.length] [rs.length] h2 0 (rs++[⟨s1,w,true,v⟩])=true:=by
  refine KL (λ j hj hjn=>hanc j (by simp at hj;omega)) (λ j r hr hj=>?_)
  simp only[Nat.zero_add]at hj;subst hj;rw[Zp (Nat.le_refl _),Nat.sub_self]at hr;simp only[List.getElem?_cons_zero,Option.some.injEq]at hr;subst hr;simp only[hk];rfl
 have hmn:∀ n:Nat,mem n [n]=true:=λ n=>by simp[mem]
 have hmc:YB anc [rs.length] [] rs.length=true:=by simp[YB,hb]
 have hex:Yz e anc (rs++[⟨s1,w,true,v⟩]) [rs.length] h2 (l.length+1) [] h'=true:=by
  have hl1:l.length=rs.length+1:=by rw[hll,List.length_append,hlen];rfl
  rw[hl1];simp only[Yz,hr0,Bool.true_and,List.all_cons,List.all_nil,Bool.and_true,mem,cond_false,Bool.false_or,hmc,Bool.not_true];have hget:(rs++[(⟨s1,w,true,v⟩:Rec)])[rs.length]?=some ⟨s1,w,true,v⟩:=by simp
  rw[hget];simp only[hv,X.same_refl,Bool.true_and];simp only[hr1,Nat.beq_refl,Bool.true_or,cond_true,hm,Bool.and_true,Bool.true_and,mem]
 refine zd (s':=Yo s' w.dst v) (h':=h2) ?_ hre;have hes':YW e 0 (rs++[⟨s1,w,true,v⟩])=[rs.length]:=hes
 simp only[QU,hps,hes',hex,cond_true,Qg,hf,cond_false]
@[simp] theorem Zam(n:Nat):X.ids.idsL n []=some []:=by cases n<;>rfl
@[simp] theorem Iy(n:Nat)(v:CV)(r:List X):X.ids.idsL (n+1) (.c v::r)=X.ids.idsL (n+1) r:=by
 simp only[X.ids.idsL,X.ids];cases X.ids.idsL (n+1) r<;>rfl
@[simp] theorem QG(v:CV)(r:List X):X.ids.idsL 6 (.c v::r)=X.ids.idsL 6 r:=Iy 5 v r
theorem Yc{t:Bool}{d:Option Nat}{op:POp}{l:List POper}(v:X)(hv:t=true->evalOp e s h op=some (v,h))(hw:Wo e N l (Yo s d (bif t then v else .c (.tup []))) h k Q):Wg e N (some t) d op l s h k Q:=by
 cases t with
 | true=>simp only[zb,hv rfl,gd];exact hw
 | false=>exact hw
theorem Jb{r:Option (X × Mem)}{d:Option Nat}{l:List POper}(v:X)(hv:r=some (v,h))(hw:Wo e N l (Yo s d v) h k Q):Wn e N r d l s k Q:=by
 rw[hv];exact hw
end
end Go.Pi
namespace Go.Proofs.YtmckcikeefggdaaGreatDoor
open Go.Pi Go.Pi.S
section
variable {p:Prg} [Has p] [HasRx p] {h:Mem}
theorem Zbq(k f ms ra of nu de na wi mt st pk pc pa te ar):Zi (Zo p) h 130 [.c (Ex.mk k f ms ra of nu de na wi mt st (.mk pk pc pa) te ar).cv]=some (.c (.bool (Vi pk pc pa)),h):=by
 refine ZB Has.h130 ?_;rcases pc with _ | ⟨c0,cr⟩<;>rcases pa with _ | ⟨a0,ar'⟩
 all_goals
  refine⟨1,Zk rfl ?_⟩;show W _ _ NS _ _ _ _;simp[NS,Ex.cv_mk];repeat' first
   | (refine Y0 (.inr rfl) rfl rfl ?_;((try simp[Vi, *])<;>first|done | omega | (simp_all;done)|(simp_all;omega)))
   | ((first|refine Z8 false ?_ ?_ | refine Z9 false ?_ ?_ | refine ZT false ?_ ?_)<;>intro ht<;>simp[ht])
   | (refine Zw rfl (by simp[Mem.same,Ze,Zj]) ?_;simp)
   | exact Zu rfl rfl rfl
   | (refine⟨Zu rfl rfl rfl,?_⟩;first|rfl | (simp[*];done))
def GT(f:Int)(ms:List Mt)(ra of nu de:Int)(na:List By)(wi:Bool)(mt:Int)(st:List Sg)(hp:Bool)(te:By):List Bool:=[f != 0,mt != 0,!(nu==0&&de==0),!te.isEmpty,!ms.isEmpty,hp,!st.isEmpty,ra != 0||of != 0,!na.isEmpty,wi]
theorem UH{α:Type}(l:List α):decide (0 < l.length)=!l.isEmpty:=by cases l<;>simp
theorem Zbo(k f ms ra of nu de na wi mt st pk pc pa te ar):Zi (Zo p) h 132 [.c (Ex.mk k f ms ra of nu de na wi mt st (.mk pk pc pa) te ar).cv]=some (.c (.agg ((GT f ms ra of nu de na wi mt st (Vi pk pc pa) te).map CV.bool)),h):=by
 refine ZB Has.h132 ?_;have hn:=λ h=>Zbq (p:=p) (h:=h) k f ms ra of nu de na wi mt st pk pc pa te ar
 simp only[Ex.cv_mk]at hn;have hk:=YZ hn
 generalize Vi pk pc pa=hp at *
 refine⟨1,Zk rfl ?_⟩;show W _ _ NQ _ _ _ _;simp[NQ,Ex.cv_mk];refine gf rfl rfl rfl ?_;simp[hn,hk,ZH,XM,YG,We,Ye];repeat' first
  | ((first|refine Z8 false ?_ ?_ | refine Z9 false ?_ ?_ | refine ZT false ?_ ?_)<;>intro ht<;>simp[ht,hn,hk,ZH,XM,YG,We])
  | (refine Zw rfl (by simp[Mem.same,Ze,Zj]) ?_;simp[hn,hk,ZH,XM,YG,We])
  | exact Zu rfl rfl rfl
  | (refine⟨Zu rfl rfl rfl,?_⟩;first|rfl | (simp[*];done))
 all_goals
  refine⟨_,_,by simp;exact⟨rfl,rfl⟩,rfl,rfl,rfl,by simp[Mem.same,Ze],?_⟩
  simp;refine⟨.inr rfl,?_⟩;simp[Fh,ZD,Pi.results,ZL,ZM,oneOf,GT,UH]
 all_goals simp_all
def Wj(a0 a1 a2 a3 a4 a5 a6 a7 a8 a9 b0 b1 b2 b3 b4 b5 b6 b7 b8 b9:Bool):Mem:=[.cells 103 [.c (.bool a0),.c (.bool a1),.c (.bool a2),.c (.bool a3),.c (.bool a4),.c (.bool a5),.c (.bool a6),.c (.bool a7),.c (.bool a8),.c (.bool a9)],.cells 103 [.c (.bool b0),.c (.bool b1),.c (.bool b2),.c (.bool b3),.c (.bool b4),.c (.bool b5),.c (.bool b6),.c (.bool b7),.c (.bool b8),.c (.bool b9)],.cells 103 [.c (.bool false),.c (.bool false),.c (.bool false),.c (.bool false),.c (.bool false),.c (.bool false),.c (.bool false),.c (.bool false),.c (.bool false),.c (.bool false)]]
theorem Zht(a0 a1 a2 a3 a4 a5 a6 a7 a8 a9 b0 b1 b2 b3 b4 b5 b6 b7 b8 b9:Bool):Zi (Zo p) h 133 [.c (.agg [.bool a0,.bool a1,.bool a2,.bool a3,.bool a4,.bool a5,.bool a6,.bool a7,.bool a8,.bool a9]),.c (.agg [.bool b0,.bool b1,.bool b2,.bool b3,.bool b4,.bool b5,.bool b6,.bool b7,.bool b8,.bool b9])]=some (.c (.agg [.bool (a0&&!b0),.bool (a1&&!b1),.bool (a2&&!b2),.bool (a3&&!b3),.bool (a4&&!b4),.bool (a5&&!b5),.bool (a6&&!b6),.bool (a7&&!b7),.bool (a8&&!b8),.bool (a9&&!b9)]),h):=by
 refine Ym Has.h133 ?_;refine⟨1,Zk rfl ?_⟩;show W _ _ NP _ _ _ _;simp[NP];refine Yc (.ptr 1 0) (λ ht=>by simp) ?_;simp
 refine Yc (.c (.bool b0)) (λ ht=>by simp[ht]) ?_;simp
 refine Yc (.c (.bool (!b0))) (λ ht=>by simp[ht]) ?_;simp
 refine Jb (h:=Wj a0 a1 a2 a3 a4 a5 a6 a7 a8 a9 b0 b1 b2 b3 b4 b5 b6 b7 b8 b9) (.c (.bool (a0&&!b0))) (by cases a0<;>simp[Wj]) ?_;simp[Wj]
 refine Yc (.ptr 1 1) (λ ht=>by simp) ?_;simp
 refine Yc (.c (.bool b1)) (λ ht=>by simp[ht]) ?_;simp
 refine Yc (.c (.bool (!b1))) (λ ht=>by simp[ht]) ?_;simp
 refine Jb (h:=Wj a0 a1 a2 a3 a4 a5 a6 a7 a8 a9 b0 b1 b2 b3 b4 b5 b6 b7 b8 b9) (.c (.bool (a1&&!b1))) (by cases a1<;>simp[Wj]) ?_;simp[Wj]
 refine Yc (.ptr 1 2) (λ ht=>by simp) ?_;simp
 refine Yc (.c (.bool b2)) (λ ht=>by simp[ht]) ?_;simp
 refine Yc (.c (.bool (!b2))) (λ ht=>by simp[ht]) ?_;simp
 refine Jb (h:=Wj a0 a1 a2 a3 a4 a5 a6 a7 a8 a9 b0 b1 b2 b3 b4 b5 b6 b7 b8 b9) (.c (.bool (a2&&!b2))) (by cases a2<;>simp[Wj]) ?_;simp[Wj]
 refine Yc (.ptr 1 3) (λ ht=>by simp) ?_;simp
 refine Yc (.c (.bool b3)) (λ ht=>by simp[ht]) ?_;simp
 refine Yc (.c (.bool (!b3))) (λ ht=>by simp[ht]) ?_;simp
 refine Jb (h:=Wj a0 a1 a2 a3 a4 a5 a6 a7 a8 a9 b0 b1 b2 b3 b4 b5 b6 b7 b8 b9) (.c (.bool (a3&&!b3))) (by cases a3<;>simp[Wj]) ?_;simp[Wj]
 refine Yc (.ptr 1 4) (λ ht=>by simp) ?_;simp
 refine Yc (.c (.bool b4)) (λ ht=>by simp[ht]) ?_;simp
 refine Yc (.c (.bool (!b4))) (λ ht=>by simp[ht]) ?_;simp
 refine Jb (h:=Wj a0 a1 a2 a3 a4 a5 a6 a7 a8 a9 b0 b1 b2 b3 b4 b5 b6 b7 b8 b9) (.c (.bool (a4&&!b4))) (by cases a4<;>simp[Wj]) ?_;simp[Wj]
 refine Yc (.ptr 1 5) (λ ht=>by simp) ?_;simp
 refine Yc (.c (.bool b5)) (λ ht=>by simp[ht]) ?_;simp
 refine Yc (.c (.bool (!b5))) (λ ht=>by simp[ht]) ?_;simp
 refine Jb (h:=Wj a0 a1 a2 a3 a4 a5 a6 a7 a8 a9 b0 b1 b2 b3 b4 b5 b6 b7 b8 b9) (.c (.bool (a5&&!b5))) (by cases a5<;>simp[Wj]) ?_;simp[Wj]
 refine Yc (.ptr 1 6) (λ ht=>by simp) ?_;simp
 refine Yc (.c (.bool b6)) (λ ht=>by simp[ht]) ?_;simp
 refine Yc (.c (.bool (!b6))) (λ ht=>by simp[ht]) ?_;simp
 refine Jb (h:=Wj a0 a1 a2 a3 a4 a5 a6 a7 a8 a9 b0 b1 b2 b3 b4 b5 b6 b7 b8 b9) (.c (.bool (a6&&!b6))) (by cases a6<;>simp[Wj]) ?_;simp[Wj]
 refine Yc (.ptr 1 7) (λ ht=>by simp) ?_;simp
 refine Yc (.c (.bool b7)) (λ ht=>by simp[ht]) ?_;simp
 refine Yc (.c (.bool (!b7))) (λ ht=>by simp[ht]) ?_;simp
 refine Jb (h:=Wj a0 a1 a2 a3 a4 a5 a6 a7 a8 a9 b0 b1 b2 b3 b4 b5 b6 b7 b8 b9) (.c (.bool (a7&&!b7))) (by cases a7<;>simp[Wj]) ?_;simp[Wj]
 refine Yc (.ptr 1 8) (λ ht=>by simp) ?_;simp
 refine Yc (.c (.bool b8)) (λ ht=>by simp[ht]) ?_;simp
 refine Yc (.c (.bool (!b8))) (λ ht=>by simp[ht]) ?_;simp
 refine Jb (h:=Wj a0 a1 a2 a3 a4 a5 a6 a7 a8 a9 b0 b1 b2 b3 b4 b5 b6 b7 b8 b9) (.c (.bool (a8&&!b8))) (by cases a8<;>simp[Wj]) ?_;simp[Wj]
 refine Yc (.ptr 1 9) (λ ht=>by simp) ?_;simp
 refine Yc (.c (.bool b9)) (λ ht=>by simp[ht]) ?_;simp
 refine Yc (.c (.bool (!b9))) (λ ht=>by simp[ht]) ?_;simp
 refine Jb (h:=Wj a0 a1 a2 a3 a4 a5 a6 a7 a8 a9 b0 b1 b2 b3 b4 b5 b6 b7 b8 b9) (.c (.bool (a9&&!b9))) (by cases a9<;>simp[Wj]) ?_;simp[Wj,ZH]
 refine⟨.inr rfl,?_⟩;simp[Fg,ZD,Pi.results,ZL,ZM,oneOf]
end
def yI(k f:Int):List Bool:=[decide (0 < nf k),JW k,JE k f,QW k f,QX k,Q7 k,QJ k,QI k,JV k,Kh k]
def uQ(k f:Int)(ms:List Mt)(ra of nu de:Int)(na:List By)(wi:Bool)(mt:Int)(st:List Sg)(hp:Bool)(te:By)(n:Nat):Bool:=
 (List.zipWith (λ a b=>a&&!b) (GT f ms ra of nu de na wi mt st hp te) (yI k f)).any id||!((n:Int)==nA k)
def QO:Ex->Int
 | .mk k f ms ra of nu de na wi mt st (.mk pk pc pa) te ar=>
  if k < 1\/13 < k then 8
  else if 0 < nf k/\(f < 1\/nf k < f) then 8
  else if uQ k f ms ra of nu de na wi mt st (Vi pk pc pa) te ar.length then 1
  else if QX k=true/\QY ms ≠ 0 then QY ms
  else if QI k=true/\(ra < 1\/1099511627776 < ra\/of < 0\/1099511627776 < of) then 2
  else if JE k f=true/\wX k f nu de ≠ 0 then wX k f nu de
  else if De k na ≠ 0 then De k na
  else if mt < 0\/2 < mt then 8
  else if UR st ≠ 0 then UR st
  else if Q7 k=true/\(Pt.mk pk pc pa).chk ≠ 0 then(Pt.mk pk pc pa).chk
  else if QW k f then Db k te else 0
mutual
def Ex.ok:Ex->Prop
 | .mk _ _ ms _ _ _ _ na _ _ st pa te ar=>ZX ms.length/\(∀ m∈ms,m.ok)/\ZX na.length/\(∀ s∈na,ZX s.length)/\ZX st.length/\(∀ s∈st,s.ok)/\pa.ok/\ZX te.length/\ZX ar.length/\Ex.oks ar
def Ex.oks:List Ex->Prop
 | []=>True
 | e::r=>e.ok/\Ex.oks r
end
theorem Ex.oks_mem:∀ {l:List Ex},Ex.oks l->∀ q∈l,q.ok
 | p::r,h,q,hq=>by
  simp only[Ex.oks]at h;rcases List.mem_cons.1 hq with rfl | hq
  ·exact h.1
  ·exact Ex.oks_mem h.2 q hq
def Cp:CV:=.agg [(.str [110,117,109,98,101,114]),(.bool false),(.bool false),(.bool true),(.bool false),(.bool false),(.bool false),(.bool false),(.bool false),(.bool false),(.bool false),(.sl false []),(.int .i64 0),(.int .i64 1)]
def Cn:CV:=.agg [(.str [119,105,110,100,111,119]),(.bool true),(.bool false),(.bool false),(.bool false),(.bool true),(.bool false),(.bool false),(.bool true),(.bool false),(.bool false),(.sl false [(.str [108,97,115,116]),(.str [99,111,117,110,116]),(.str [115,117,109]),(.str [109,105,110]),(.str [109,97,120]),(.str [97,118,103]),(.str [100,101,108,116,97]),(.str [105,110,99,114,101,97,115,101]),(.str [114,97,116,101]),(.str [113,117,97,110,116,105,108,101]),(.str [104,105,115,116,113,117,97,110,116,105,108,101])]),(.int .i64 0),(.int .i64 2)]
def Ck:CV:=.agg [(.str [108,111,103,99,111,117,110,116]),(.bool true),(.bool false),(.bool false),(.bool false),(.bool true),(.bool false),(.bool true),(.bool true),(.bool true),(.bool true),(.sl false [(.str [108,105,110,101,115]),(.str [98,121,116,101,115]),(.str [117,110,119,114,97,112])]),(.int .i64 0),(.int .i64 2)]
def Cj:CV:=.agg [(.str [116,114,97,99,101,99,111,117,110,116]),(.bool false),(.bool false),(.bool false),(.bool false),(.bool false),(.bool true),(.bool false),(.bool true),(.bool true),(.bool false),(.sl false []),(.int .i64 0),(.int .i64 2)]
def Ci:CV:=.agg [(.str [102,108,97,109,101,119,101,105,103,104,116]),(.bool false),(.bool false),(.bool false),(.bool true),(.bool true),(.bool false),(.bool false),(.bool true),(.bool true),(.bool true),(.sl false []),(.int .i64 0),(.int .i64 2)]
def Ch:CV:=.agg [(.str [97,103,103,114,101,103,97,116,101]),(.bool true),(.bool false),(.bool false),(.bool false),(.bool false),(.bool false),(.bool false),(.bool false),(.bool true),(.bool true),(.sl false [(.str [115,117,109]),(.str [99,111,117,110,116]),(.str [109,105,110]),(.str [109,97,120]),(.str [97,118,103]),(.str [113,117,97,110,116,105,108,101]),(.str [116,111,112]),(.str [100,105,115,116,105,110,99,116]),(.str [115,107,101,116,99,104])]),(.int .i64 1),(.int .i64 2)]
def Cg:CV:=.agg [(.str [98,105,110,97,114,121]),(.bool true),(.bool true),(.bool false),(.bool false),(.bool false),(.bool false),(.bool false),(.bool false),(.bool true),(.bool true),(.sl false [(.str [43]),(.str [45]),(.str [42]),(.str [47]),(.str [61,61]),(.str [33,61]),(.str [60]),(.str [60,61]),(.str [62]),(.str [62,61])]),(.int .i64 2),(.int .i64 0)]
def Cf:CV:=.agg [(.str [108,111,103,115]),(.bool false),(.bool false),(.bool false),(.bool false),(.bool true),(.bool false),(.bool true),(.bool true),(.bool false),(.bool false),(.sl false []),(.int .i64 0),(.int .i64 3)]
def Ce:CV:=.agg [(.str [116,114,97,99,101,115]),(.bool false),(.bool false),(.bool false),(.bool false),(.bool false),(.bool true),(.bool false),(.bool true),(.bool false),(.bool false),(.sl false []),(.int .i64 0),(.int .i64 4)]
def qk:CV:=.agg [(.str [102,108,97,109,101]),(.bool false),(.bool false),(.bool false),(.bool false),(.bool true),(.bool false),(.bool false),(.bool true),(.bool false),(.bool false),(.sl false []),(.int .i64 0),(.int .i64 5)]
def qj:CV:=.agg [(.str [101,120,101,109,112,108,97,114,116,114,97,99,101,115]),(.bool false),(.bool false),(.bool false),(.bool false),(.bool true),(.bool false),(.bool false),(.bool true),(.bool false),(.bool false),(.sl false []),(.int .i64 0),(.int .i64 4)]
def qi:CV:=.agg [(.str [108,111,103,115,111,102]),(.bool false),(.bool false),(.bool false),(.bool false),(.bool true),(.bool false),(.bool true),(.bool true),(.bool false),(.bool false),(.sl false []),(.int .i64 1),(.int .i64 3)]
def qh:CV:=.agg [(.str [118,105,101,119]),(.bool false),(.bool false),(.bool false),(.bool true),(.bool false),(.bool false),(.bool false),(.bool false),(.bool false),(.bool false),(.sl false []),(.int .i64 0),(.int .i64 0)]
def KT:CV:=.imap [.int .i64 1,.int .i64 2,.int .i64 3,.int .i64 4,.int .i64 5,.int .i64 6,.int .i64 7,.int .i64 8,.int .i64 9,.int .i64 10,.int .i64 11,.int .i64 12,.int .i64 13] [Cp,Cn,Ck,Cj,Ci,Ch,Cg,Cf,Ce,qk,qj,qi,qh]
section
variable {p:Prg} [Has p] [HasRx p] {h:Mem}
def OL(k:Int):CV:=if k=1 then Cp else if k=2 then Cn else if k=3 then Ck else if k=4 then Cj else if k=5 then Ci else if k=6 then Ch else if k=7 then Cg else if k=8 then Cf else if k=9 then Ce else if k=10 then qk else if k=11 then qj else if k=12 then qi else qh
theorem WX{k:Int}(h0:1<=k)(h1:k<=13):k=1\/k=2\/k=3\/k=4\/k=5\/k=6\/k=7\/k=8\/k=9\/k=10\/k=11\/k=12\/k=13:=by omega
theorem c55(k f ms ra of nu de na wi mt st pk pc pa te ar)(h0:1<=k)(h1:k<=13):Zi (Zo p) h 55 [.c (OL k),.c (Ex.mk k f ms ra of nu de na wi mt st (.mk pk pc pa) te ar).cv]=some (.c (.agg ((yI k f).map CV.bool)),h):=by
 refine Ym Has.h55 ?_;rcases WX h0 h1 with rfl | rfl | rfl | rfl | rfl | rfl | rfl | rfl | rfl | rfl | rfl | rfl | rfl
 all_goals
  refine⟨1,Zk rfl ?_⟩;show W _ _ b55 _ _ _ _;simp[b55,Ex.cv_mk,OL,Cp,Cn,Ck,Cj,Ci,Ch,Cg,Cf,Ce,qk,qj,qi,qh];repeat' first
   | ((first|refine Z8 false ?_ ?_ | refine Z9 false ?_ ?_ | refine ZT false ?_ ?_)<;>intro ht<;>simp[ht])
   | (refine Zw rfl (by simp[Mem.same,Ze,Zj]) ?_;simp)
   | exact Zu rfl rfl rfl
   | (refine⟨Zu rfl rfl rfl,?_⟩;first|rfl | (simp[*];done))
  all_goals
   refine⟨.inr rfl,?_⟩;simp[f55,ZD,Pi.results,ZL,ZM,oneOf,yI,nf,JW,JE,QW,QX,Q7,QJ,QI,JV,Kh]
 all_goals simp_all
theorem CD{k:Int}(hk:k < 1\/13 < k):findKey (.int .i64 k) [.int .i64 1,.int .i64 2,.int .i64 3,.int .i64 4,.int .i64 5,.int .i64 6,.int .i64 7,.int .i64 8,.int .i64 9,.int .i64 10,.int .i64 11,.int .i64 12,.int .i64 13] 0=some none:=by
 have h:∀ i:Int,1<=i->i<=13->(k==i)=false:=λ i h0 h1=>by simp;omega
 simp[findKey,We,Ye,h]
theorem FB(k f ms ra of nu de na wi mt st pk pc pa te ar)(hk:k < 1\/13 < k):Zi (Zo p) h 84 [.c (Ex.mk k f ms ra of nu de na wi mt st (.mk pk pc pa) te ar).cv,.c KT]=some (.c (.int .i64 8),h):=by
 refine Ym Has.h84 ?_;have hf:=CD hk
 refine⟨1,Zk rfl ?_⟩;show W _ _ MF _ _ _ _;simp[MF,Ex.cv_mk,KT,hf,YG];exact ZQ (.inr rfl) rfl rfl rfl
@[simp] theorem D2:(CV.wk0 ∘ CV.bool)=CV.bool:=rfl
theorem ten{α:Type}{L:List α}(h:L.length=10):∃ a0 a1 a2 a3 a4 a5 a6 a7 a8 a9,L=[a0,a1,a2,a3,a4,a5,a6,a7,a8,a9]:=by
 match L,h with
 | [a0,a1,a2,a3,a4,a5,a6,a7,a8,a9],_=>exact⟨_,_,_,_,_,_,_,_,_,_,rfl⟩
theorem HD(L G:List Bool)(hL:L.length=10)(hG:G.length=10):Zi (Zo p) h 133 [.c (.agg (L.map CV.bool)),.c (.agg (G.map CV.bool))]=some (.c (.agg ((List.zipWith (λ a b=>a&&!b) L G).map CV.bool)),h):=by
 obtain⟨a0,a1,a2,a3,a4,a5,a6,a7,a8,a9,rfl⟩:=ten hL;obtain⟨b0,b1,b2,b3,b4,b5,b6,b7,b8,b9,rfl⟩:=ten hG;exact Zht (h:=h) a0 a1 a2 a3 a4 a5 a6 a7 a8 a9 b0 b1 b2 b3 b4 b5 b6 b7 b8 b9
theorem uU(R:List Bool)(hR:R.length=10):XM (R.map CV.bool) [.bool false,.bool false,.bool false,.bool false,.bool false,.bool false,.bool false,.bool false,.bool false,.bool false] [(2,0),(2,1),(2,2),(2,3),(2,4),(2,5),(2,6),(2,7),(2,8),(2,9)]=some (!R.any id):=by
 obtain⟨a0,a1,a2,a3,a4,a5,a6,a7,a8,a9,rfl⟩:=ten hR;simp[XM,YG,We]
end
end Go.Proofs.YtmckcikeefggdaaGreatDoor
