/- Part 12 of the proof. -/
import Derived.Test.YtmckcikeefggdaaGreatDoorPK
set_option linter.unusedVariables false
set_option linter.unusedSimpArgs false
set_option linter.unusedSectionVars false
set_option maxRecDepth 100000
set_option maxHeartbeats 16000000
namespace Go.Proofs.YtmckcikeefggdaaGreatDoor
open Go.Pi Go.Pi.S
theorem ex{f:Nat}{fu:Func}{fn:PFn}(h1:Tryz.prog.funcs[f]?=some fu)(h:(fu.body,fu.name == "runtime.NumGoroutine",tr Tryz.prog fu.ntmps (Ky fu),Q1 Tryz.prog fu.results.toList,Nat.ble fn.np fu.ntmps)=(some (Ky fu),false,some fn.body.erase,some fn.res,true)):FnOk Tryz.prog f fn:=by
 simp only[Prod.mk.injEq]at h;exact⟨⟨fu,Ky fu,h1,h.1,h.2.1,h.2.2.1,h.2.2.2.1,Zg h.2.2.2.2⟩⟩
theorem ok5:FnOk Tryz.prog 5 f5:=.free Tryz.func5 (by kernel_rfl) (by kernel_rfl)
theorem ZeV:FnOk Tryz.prog 14 f14:=.free Tryz.func14 (by kernel_rfl) (by kernel_rfl)
theorem ZeH:FnOk Tryz.prog 28 f28:=.free Tryz.func28 (by kernel_rfl) (by kernel_rfl)
theorem ZeG:FnOk Tryz.prog 29 f29:=.free Tryz.func29 (by kernel_rfl) (by kernel_rfl)
theorem ZeF:FnOk Tryz.prog 30 f30:=.free Tryz.func30 (by kernel_rfl) (by kernel_rfl)
theorem Zen:FnOk Tryz.prog 48 f48:=.free Tryz.func48 (by kernel_rfl) (by kernel_rfl)
theorem Zem:FnOk Tryz.prog 49 f49:=.free Tryz.func49 (by kernel_rfl) (by kernel_rfl)
theorem Zel:FnOk Tryz.prog 50 f50:=.free Tryz.func50 (by kernel_rfl) (by kernel_rfl)
theorem Zek:FnOk Tryz.prog 51 f51:=.free Tryz.func51 (by kernel_rfl) (by kernel_rfl)
theorem Zej:FnOk Tryz.prog 52 f52:=.free Tryz.func52 (by kernel_rfl) (by kernel_rfl)
theorem Zei:FnOk Tryz.prog 53 f53:=.free Tryz.func53 (by kernel_rfl) (by kernel_rfl)
theorem Zeh:FnOk Tryz.prog 54 f54:=.free Tryz.func54 (by kernel_rfl) (by kernel_rfl)
theorem Zef:FnOk Tryz.prog 56 f56:=.free Tryz.func56 (by kernel_rfl) (by kernel_rfl)
theorem Zee:FnOk Tryz.prog 57 f57:=.free Tryz.func57 (by kernel_rfl) (by kernel_rfl)
theorem Zed:FnOk Tryz.prog 58 f58:=.free Tryz.func58 (by kernel_rfl) (by kernel_rfl)
theorem Zec:FnOk Tryz.prog 59 f59:=.free Tryz.func59 (by kernel_rfl) (by kernel_rfl)
theorem Zeb:FnOk Tryz.prog 60 f60:=.free Tryz.func60 (by kernel_rfl) (by kernel_rfl)
theorem Zea:FnOk Tryz.prog 61 f61:=.free Tryz.func61 (by kernel_rfl) (by kernel_rfl)
theorem ZdZ:FnOk Tryz.prog 62 f62:=.free Tryz.func62 (by kernel_rfl) (by kernel_rfl)
theorem ZdY:FnOk Tryz.prog 63 f63:=.free Tryz.func63 (by kernel_rfl) (by kernel_rfl)
theorem ZdB:FnOk Tryz.prog 86 f86:=.free Tryz.func86 (by kernel_rfl) (by kernel_rfl)
theorem ZdA:FnOk Tryz.prog 87 f87:=.free Tryz.func87 (by kernel_rfl) (by kernel_rfl)
theorem Zdz:FnOk Tryz.prog 88 f88:=.free Tryz.func88 (by kernel_rfl) (by kernel_rfl)
theorem Zdy:FnOk Tryz.prog 89 f89:=.free Tryz.func89 (by kernel_rfl) (by kernel_rfl)
theorem Zdx:FnOk Tryz.prog 90 f90:=.free Tryz.func90 (by kernel_rfl) (by kernel_rfl)
theorem Zdw:FnOk Tryz.prog 91 f91:=.free Tryz.func91 (by kernel_rfl) (by kernel_rfl)
theorem Zdv:FnOk Tryz.prog 92 f92:=.free Tryz.func92 (by kernel_rfl) (by kernel_rfl)
theorem Zdu:FnOk Tryz.prog 93 f93:=.free Tryz.func93 (by kernel_rfl) (by kernel_rfl)
theorem Zdt:FnOk Tryz.prog 94 f94:=.free Tryz.func94 (by kernel_rfl) (by kernel_rfl)
theorem Zds:FnOk Tryz.prog 95 f95:=.free Tryz.func95 (by kernel_rfl) (by kernel_rfl)
theorem Zdr:FnOk Tryz.prog 96 f96:=.free Tryz.func96 (by kernel_rfl) (by kernel_rfl)
theorem Zdq:FnOk Tryz.prog 97 f97:=.free Tryz.func97 (by kernel_rfl) (by kernel_rfl)
theorem Zdp:FnOk Tryz.prog 98 f98:=.free Tryz.func98 (by kernel_rfl) (by kernel_rfl)
theorem Zdo:FnOk Tryz.prog 99 f99:=.free Tryz.func99 (by kernel_rfl) (by kernel_rfl)
theorem Zae:FnOk Tryz.prog 100 f100:=.free Tryz.func100 (by kernel_rfl) (by kernel_rfl)
theorem Zad:FnOk Tryz.prog 101 f101:=.free Tryz.func101 (by kernel_rfl) (by kernel_rfl)
theorem Zac:FnOk Tryz.prog 102 f102:=.free Tryz.func102 (by kernel_rfl) (by kernel_rfl)
theorem Zab:FnOk Tryz.prog 104 f104:=.free Tryz.func104 (by kernel_rfl) (by kernel_rfl)
theorem S6:FnOk Tryz.prog 109 f109:=.free Tryz.func109 (by kernel_rfl) (by kernel_rfl)
theorem S4:FnOk Tryz.prog 111 f111:=.free Tryz.func111 (by kernel_rfl) (by kernel_rfl)
theorem S0:FnOk Tryz.prog 115 f115:=.free Tryz.func115 (by kernel_rfl) (by kernel_rfl)
theorem Ss:FnOk Tryz.prog 141 f141:=.free Tryz.func141 (by kernel_rfl) (by kernel_rfl)
theorem Sr:FnOk Tryz.prog 142 f142:=.free Tryz.func142 (by kernel_rfl) (by kernel_rfl)
theorem Sq:FnOk Tryz.prog 143 f143:=.free Tryz.func143 (by kernel_rfl) (by kernel_rfl)
theorem Sp:FnOk Tryz.prog 144 f144:=.free Tryz.func144 (by kernel_rfl) (by kernel_rfl)
theorem So:FnOk Tryz.prog 145 f145:=.free Tryz.func145 (by kernel_rfl) (by kernel_rfl)
theorem Sn:FnOk Tryz.prog 146 f146:=.free Tryz.func146 (by kernel_rfl) (by kernel_rfl)
theorem Sm:FnOk Tryz.prog 147 f147:=.free Tryz.func147 (by kernel_rfl) (by kernel_rfl)
theorem Sl:FnOk Tryz.prog 148 f148:=.free Tryz.func148 (by kernel_rfl) (by kernel_rfl)
theorem Sk:FnOk Tryz.prog 150 f150:=.free Tryz.func150 (by kernel_rfl) (by kernel_rfl)
theorem Sj:FnOk Tryz.prog 151 f151:=.free Tryz.func151 (by kernel_rfl) (by kernel_rfl)
theorem RS:FnOk Tryz.prog 177 f177:=.free Tryz.func177 (by kernel_rfl) (by kernel_rfl)
theorem RQ:FnOk Tryz.prog 178 f178:=.free Tryz.func178 (by kernel_rfl) (by kernel_rfl)
theorem RP:FnOk Tryz.prog 179 f179:=.free Tryz.func179 (by kernel_rfl) (by kernel_rfl)
theorem RO:FnOk Tryz.prog 185 f185:=.free Tryz.func185 (by kernel_rfl) (by kernel_rfl)
theorem RM:FnOk Tryz.prog 186 f186:=.free Tryz.func186 (by kernel_rfl) (by kernel_rfl)
theorem Rx:FnOk Tryz.prog 200 f200:=.free Tryz.func200 (by kernel_rfl) (by kernel_rfl)
theorem Rw:FnOk Tryz.prog 201 f201:=.free Tryz.func201 (by kernel_rfl) (by kernel_rfl)
theorem Rs:FnOk Tryz.prog 208 f208:=.free Tryz.func208 (by kernel_rfl) (by kernel_rfl)
theorem Rh:FnOk Tryz.prog 220 f220:=.free Tryz.func220 (by kernel_rfl) (by kernel_rfl)
theorem Rg:FnOk Tryz.prog 221 f221:=.free Tryz.func221 (by kernel_rfl) (by kernel_rfl)
theorem P0:FnOk Tryz.prog 227 f227:=.free Tryz.func227 (by kernel_rfl) (by kernel_rfl)
theorem PZ:FnOk Tryz.prog 228 f228:=.free Tryz.func228 (by kernel_rfl) (by kernel_rfl)
theorem ok3:FnOk Tryz.prog 3 f3:=ex Tryz.func3 (by kernel_rfl)
theorem ok4:FnOk Tryz.prog 4 f4:=ex Tryz.func4 (by kernel_rfl)
theorem ok6:FnOk Tryz.prog 6 f6:=ex Tryz.func6 (by kernel_rfl)
theorem ok7:FnOk Tryz.prog 7 f7:=ex Tryz.func7 (by kernel_rfl)
theorem ok8:FnOk Tryz.prog 8 f8:=ex Tryz.func8 (by kernel_rfl)
theorem ok9:FnOk Tryz.prog 9 f9:=ex Tryz.func9 (by kernel_rfl)
theorem ZeZ:FnOk Tryz.prog 10 f10:=ex Tryz.func10 (by kernel_rfl)
theorem ZeY:FnOk Tryz.prog 11 f11:=ex Tryz.func11 (by kernel_rfl)
theorem ZeX:FnOk Tryz.prog 12 f12:=ex Tryz.func12 (by kernel_rfl)
theorem ZeW:FnOk Tryz.prog 13 f13:=ex Tryz.func13 (by kernel_rfl)
theorem ZeU:FnOk Tryz.prog 15 f15:=ex Tryz.func15 (by kernel_rfl)
theorem ZeT:FnOk Tryz.prog 16 f16:=ex Tryz.func16 (by kernel_rfl)
theorem ZeS:FnOk Tryz.prog 17 f17:=ex Tryz.func17 (by kernel_rfl)
theorem ZeR:FnOk Tryz.prog 18 f18:=ex Tryz.func18 (by kernel_rfl)
theorem ZeQ:FnOk Tryz.prog 19 Fc:=ex Tryz.func19 (by kernel_rfl)
theorem ZeP:FnOk Tryz.prog 20 f20:=ex Tryz.func20 (by kernel_rfl)
theorem ZeO:FnOk Tryz.prog 21 f21:=ex Tryz.func21 (by kernel_rfl)
theorem ZeN:FnOk Tryz.prog 22 ON:=ex Tryz.func22 (by kernel_rfl)
theorem ZeM:FnOk Tryz.prog 23 f23:=ex Tryz.func23 (by kernel_rfl)
theorem ZeL:FnOk Tryz.prog 24 f24:=ex Tryz.func24 (by kernel_rfl)
theorem ZeK:FnOk Tryz.prog 25 f25:=ex Tryz.func25 (by kernel_rfl)
theorem ZeJ:FnOk Tryz.prog 26 f26:=ex Tryz.func26 (by kernel_rfl)
theorem ZeI:FnOk Tryz.prog 27 f27:=ex Tryz.func27 (by kernel_rfl)
theorem ZeE:FnOk Tryz.prog 31 f31:=ex Tryz.func31 (by kernel_rfl)
theorem ZeD:FnOk Tryz.prog 32 f32:=ex Tryz.func32 (by kernel_rfl)
theorem ZeC:FnOk Tryz.prog 33 f33:=ex Tryz.func33 (by kernel_rfl)
theorem ZeB:FnOk Tryz.prog 34 f34:=ex Tryz.func34 (by kernel_rfl)
theorem ZeA:FnOk Tryz.prog 35 IA:=ex Tryz.func35 (by kernel_rfl)
theorem Zez:FnOk Tryz.prog 36 f36:=ex Tryz.func36 (by kernel_rfl)
theorem Zey:FnOk Tryz.prog 37 f37:=ex Tryz.func37 (by kernel_rfl)
theorem Zex:FnOk Tryz.prog 38 f38:=ex Tryz.func38 (by kernel_rfl)
theorem Zew:FnOk Tryz.prog 39 f39:=ex Tryz.func39 (by kernel_rfl)
theorem Zev:FnOk Tryz.prog 40 f40:=ex Tryz.func40 (by kernel_rfl)
theorem Zeu:FnOk Tryz.prog 41 f41:=ex Tryz.func41 (by kernel_rfl)
theorem Zet:FnOk Tryz.prog 42 CI:=ex Tryz.func42 (by kernel_rfl)
theorem Zes:FnOk Tryz.prog 43 D6:=ex Tryz.func43 (by kernel_rfl)
theorem Zer:FnOk Tryz.prog 44 f44:=ex Tryz.func44 (by kernel_rfl)
theorem Zeq:FnOk Tryz.prog 45 f45:=ex Tryz.func45 (by kernel_rfl)
theorem Zep:FnOk Tryz.prog 46 f46:=ex Tryz.func46 (by kernel_rfl)
theorem Zeo:FnOk Tryz.prog 47 f47:=ex Tryz.func47 (by kernel_rfl)
theorem Zeg:FnOk Tryz.prog 55 f55:=ex Tryz.func55 (by kernel_rfl)
theorem ZdX:FnOk Tryz.prog 64 f64:=ex Tryz.func64 (by kernel_rfl)
theorem ZdW:FnOk Tryz.prog 65 f65:=ex Tryz.func65 (by kernel_rfl)
theorem ZdV:FnOk Tryz.prog 66 f66:=ex Tryz.func66 (by kernel_rfl)
theorem ZdU:FnOk Tryz.prog 67 f67:=ex Tryz.func67 (by kernel_rfl)
theorem ZdT:FnOk Tryz.prog 68 f68:=ex Tryz.func68 (by kernel_rfl)
theorem ZdS:FnOk Tryz.prog 69 f69:=ex Tryz.func69 (by kernel_rfl)
theorem ZdR:FnOk Tryz.prog 70 f70:=ex Tryz.func70 (by kernel_rfl)
theorem ZdQ:FnOk Tryz.prog 71 f71:=ex Tryz.func71 (by kernel_rfl)
theorem ZdP:FnOk Tryz.prog 72 f72:=ex Tryz.func72 (by kernel_rfl)
theorem ZdO:FnOk Tryz.prog 73 f73:=ex Tryz.func73 (by kernel_rfl)
theorem ZdN:FnOk Tryz.prog 74 f74:=ex Tryz.func74 (by kernel_rfl)
theorem ZdM:FnOk Tryz.prog 75 f75:=ex Tryz.func75 (by kernel_rfl)
theorem ZdL:FnOk Tryz.prog 76 f76:=ex Tryz.func76 (by kernel_rfl)
theorem ZdK:FnOk Tryz.prog 77 f77:=ex Tryz.func77 (by kernel_rfl)
theorem ZdJ:FnOk Tryz.prog 78 f78:=ex Tryz.func78 (by kernel_rfl)
theorem ZdI:FnOk Tryz.prog 79 f79:=ex Tryz.func79 (by kernel_rfl)
theorem ZdH:FnOk Tryz.prog 80 f80:=ex Tryz.func80 (by kernel_rfl)
theorem ZdG:FnOk Tryz.prog 81 f81:=ex Tryz.func81 (by kernel_rfl)
theorem ZdF:FnOk Tryz.prog 82 f82:=ex Tryz.func82 (by kernel_rfl)
theorem ZdE:FnOk Tryz.prog 83 f83:=ex Tryz.func83 (by kernel_rfl)
theorem ZdD:FnOk Tryz.prog 84 f84:=ex Tryz.func84 (by kernel_rfl)
theorem ZdC:FnOk Tryz.prog 85 f85:=ex Tryz.func85 (by kernel_rfl)
theorem Zaa:FnOk Tryz.prog 105 CN:=ex Tryz.func105 (by kernel_rfl)
theorem S9:FnOk Tryz.prog 106 Me:=ex Tryz.func106 (by kernel_rfl)
theorem S8:FnOk Tryz.prog 107 Md:=ex Tryz.func107 (by kernel_rfl)
theorem S7:FnOk Tryz.prog 108 Mc:=ex Tryz.func108 (by kernel_rfl)
theorem S5:FnOk Tryz.prog 110 Mb:=ex Tryz.func110 (by kernel_rfl)
theorem S3:FnOk Tryz.prog 112 Ma:=ex Tryz.func112 (by kernel_rfl)
theorem S2:FnOk Tryz.prog 113 L9:=ex Tryz.func113 (by kernel_rfl)
theorem S1:FnOk Tryz.prog 114 L8:=ex Tryz.func114 (by kernel_rfl)
theorem SZ:FnOk Tryz.prog 116 L7:=ex Tryz.func116 (by kernel_rfl)
theorem SY:FnOk Tryz.prog 117 L6:=ex Tryz.func117 (by kernel_rfl)
theorem SW:FnOk Tryz.prog 118 vC:=ex Tryz.func118 (by kernel_rfl)
theorem SV:FnOk Tryz.prog 119 Fl:=ex Tryz.func119 (by kernel_rfl)
theorem SU:FnOk Tryz.prog 120 z9:=ex Tryz.func120 (by kernel_rfl)
theorem ST:FnOk Tryz.prog 121 L5:=ex Tryz.func121 (by kernel_rfl)
theorem SR:FnOk Tryz.prog 122 Fj:=ex Tryz.func122 (by kernel_rfl)
theorem SQ:FnOk Tryz.prog 123 L4:=ex Tryz.func123 (by kernel_rfl)
theorem SP:FnOk Tryz.prog 124 L1:=ex Tryz.func124 (by kernel_rfl)
theorem SN:FnOk Tryz.prog 125 Fi:=ex Tryz.func125 (by kernel_rfl)
theorem SL:FnOk Tryz.prog 126 L0:=ex Tryz.func126 (by kernel_rfl)
theorem SK:FnOk Tryz.prog 127 LZ:=ex Tryz.func127 (by kernel_rfl)
theorem SH:FnOk Tryz.prog 128 LY:=ex Tryz.func128 (by kernel_rfl)
theorem SG:FnOk Tryz.prog 129 LX:=ex Tryz.func129 (by kernel_rfl)
theorem SF:FnOk Tryz.prog 130 LW:=ex Tryz.func130 (by kernel_rfl)
theorem SE:FnOk Tryz.prog 131 LV:=ex Tryz.func131 (by kernel_rfl)
theorem SD:FnOk Tryz.prog 132 Fh:=ex Tryz.func132 (by kernel_rfl)
theorem SC:FnOk Tryz.prog 133 Fg:=ex Tryz.func133 (by kernel_rfl)
theorem SA:FnOk Tryz.prog 134 LU:=ex Tryz.func134 (by kernel_rfl)
theorem Sz:FnOk Tryz.prog 135 LR:=ex Tryz.func135 (by kernel_rfl)
theorem Sy:FnOk Tryz.prog 136 LQ:=ex Tryz.func136 (by kernel_rfl)
theorem Sx:FnOk Tryz.prog 137 LP:=ex Tryz.func137 (by kernel_rfl)
theorem Sw:FnOk Tryz.prog 138 LO:=ex Tryz.func138 (by kernel_rfl)
theorem Sv:FnOk Tryz.prog 139 LN:=ex Tryz.func139 (by kernel_rfl)
theorem Su:FnOk Tryz.prog 140 LL:=ex Tryz.func140 (by kernel_rfl)
theorem Si:FnOk Tryz.prog 152 LK:=ex Tryz.func152 (by kernel_rfl)
theorem Sh:FnOk Tryz.prog 153 LJ:=ex Tryz.func153 (by kernel_rfl)
theorem Sf:FnOk Tryz.prog 154 LI:=ex Tryz.func154 (by kernel_rfl)
theorem Se:FnOk Tryz.prog 155 LH:=ex Tryz.func155 (by kernel_rfl)
theorem Sd:FnOk Tryz.prog 156 LG:=ex Tryz.func156 (by kernel_rfl)
theorem Sc:FnOk Tryz.prog 157 LF:=ex Tryz.func157 (by kernel_rfl)
theorem Sa:FnOk Tryz.prog 158 LE:=ex Tryz.func158 (by kernel_rfl)
theorem R9:FnOk Tryz.prog 159 LD:=ex Tryz.func159 (by kernel_rfl)
theorem R8:FnOk Tryz.prog 160 LB:=ex Tryz.func160 (by kernel_rfl)
theorem R7:FnOk Tryz.prog 161 LA:=ex Tryz.func161 (by kernel_rfl)
theorem R6:FnOk Tryz.prog 162 Lz:=ex Tryz.func162 (by kernel_rfl)
theorem R5:FnOk Tryz.prog 163 Ly:=ex Tryz.func163 (by kernel_rfl)
theorem R4:FnOk Tryz.prog 164 Lx:=ex Tryz.func164 (by kernel_rfl)
theorem R3:FnOk Tryz.prog 165 Ff:=ex Tryz.func165 (by kernel_rfl)
theorem R2:FnOk Tryz.prog 166 Lw:=ex Tryz.func166 (by kernel_rfl)
theorem R1:FnOk Tryz.prog 167 Fe:=ex Tryz.func167 (by kernel_rfl)
theorem R0:FnOk Tryz.prog 168 Fd:=ex Tryz.func168 (by kernel_rfl)
theorem RZ:FnOk Tryz.prog 169 Lv:=ex Tryz.func169 (by kernel_rfl)
theorem RY:FnOk Tryz.prog 170 Lu:=ex Tryz.func170 (by kernel_rfl)
theorem RX:FnOk Tryz.prog 171 Lt:=ex Tryz.func171 (by kernel_rfl)
theorem RW:FnOk Tryz.prog 172 Ls:=ex Tryz.func172 (by kernel_rfl)
theorem RV:FnOk Tryz.prog 173 Lr:=ex Tryz.func173 (by kernel_rfl)
theorem RT:FnOk Tryz.prog 175 Lq:=ex Tryz.func175 (by kernel_rfl)
theorem RL:FnOk Tryz.prog 187 Lp:=ex Tryz.func187 (by kernel_rfl)
theorem RK:FnOk Tryz.prog 188 Lo:=ex Tryz.func188 (by kernel_rfl)
theorem RJ:FnOk Tryz.prog 189 Ln:=ex Tryz.func189 (by kernel_rfl)
theorem RH:FnOk Tryz.prog 190 Lm:=ex Tryz.func190 (by kernel_rfl)
theorem RG:FnOk Tryz.prog 191 Ll:=ex Tryz.func191 (by kernel_rfl)
theorem RF:FnOk Tryz.prog 192 Lk:=ex Tryz.func192 (by kernel_rfl)
theorem RE:FnOk Tryz.prog 193 Lj:=ex Tryz.func193 (by kernel_rfl)
theorem RD:FnOk Tryz.prog 194 Li:=ex Tryz.func194 (by kernel_rfl)
theorem RC:FnOk Tryz.prog 195 Lh:=ex Tryz.func195 (by kernel_rfl)
theorem RB:FnOk Tryz.prog 196 Lg:=ex Tryz.func196 (by kernel_rfl)
theorem RA:FnOk Tryz.prog 197 Lf:=ex Tryz.func197 (by kernel_rfl)
theorem Rz:FnOk Tryz.prog 198 Le:=ex Tryz.func198 (by kernel_rfl)
theorem Rv:FnOk Tryz.prog 205 Ld:=ex Tryz.func205 (by kernel_rfl)
theorem Ru:FnOk Tryz.prog 206 Lc:=ex Tryz.func206 (by kernel_rfl)
theorem Rt:FnOk Tryz.prog 207 An:=ex Tryz.func207 (by kernel_rfl)
theorem Rr:FnOk Tryz.prog 209 Lb:=ex Tryz.func209 (by kernel_rfl)
theorem Rq:FnOk Tryz.prog 210 La:=ex Tryz.func210 (by kernel_rfl)
theorem Rp:FnOk Tryz.prog 211 I9:=ex Tryz.func211 (by kernel_rfl)
theorem Ro:FnOk Tryz.prog 212 I8:=ex Tryz.func212 (by kernel_rfl)
theorem Rm:FnOk Tryz.prog 213 I7:=ex Tryz.func213 (by kernel_rfl)
theorem Rl:FnOk Tryz.prog 214 I6:=ex Tryz.func214 (by kernel_rfl)
theorem Rk:FnOk Tryz.prog 217 I5:=ex Tryz.func217 (by kernel_rfl)
theorem Rj:FnOk Tryz.prog 218 IZ:=ex Tryz.func218 (by kernel_rfl)
theorem Ri:FnOk Tryz.prog 219 IY:=ex Tryz.func219 (by kernel_rfl)
theorem Rf:FnOk Tryz.prog 222 IX:=ex Tryz.func222 (by kernel_rfl)
theorem Rc:FnOk Tryz.prog 223 IW:=ex Tryz.func223 (by kernel_rfl)
theorem Rb:FnOk Tryz.prog 224 IV:=ex Tryz.func224 (by kernel_rfl)
theorem Ra:FnOk Tryz.prog 225 Fb:=ex Tryz.func225 (by kernel_rfl)
theorem P9:FnOk Tryz.prog 226 IU:=ex Tryz.func226 (by kernel_rfl)
theorem PY:FnOk Tryz.prog 229 IT:=ex Tryz.func229 (by kernel_rfl)
theorem PX:FnOk Tryz.prog 230 vB:=ex Tryz.func230 (by kernel_rfl)
theorem PV:FnOk Tryz.prog 231 CM:=ex Tryz.func231 (by kernel_rfl)
theorem PU:FnOk Tryz.prog 232 IS:=ex Tryz.func232 (by kernel_rfl)
theorem PT:FnOk Tryz.prog 233 Fa:=ex Tryz.func233 (by kernel_rfl)
theorem PR:FnOk Tryz.prog 234 IR:=ex Tryz.func234 (by kernel_rfl)
theorem PP:FnOk Tryz.prog 235 IQ:=ex Tryz.func235 (by kernel_rfl)
theorem PO:FnOk Tryz.prog 236 Am:=ex Tryz.func236 (by kernel_rfl)
theorem PN:FnOk Tryz.prog 237 IP:=ex Tryz.func237 (by kernel_rfl)
theorem PL:FnOk Tryz.prog 238 IN:=ex Tryz.func238 (by kernel_rfl)
theorem PJ:FnOk Tryz.prog 239 IM:=ex Tryz.func239 (by kernel_rfl)
theorem PI:FnOk Tryz.prog 240 IL:=ex Tryz.func240 (by kernel_rfl)
theorem PH:FnOk Tryz.prog 241 E9:=ex Tryz.func241 (by kernel_rfl)
theorem PG:FnOk Tryz.prog 242 IK:=ex Tryz.func242 (by kernel_rfl)
theorem PF:FnOk Tryz.prog 243 IJ:=ex Tryz.func243 (by kernel_rfl)
theorem PE:FnOk Tryz.prog 244 II:=ex Tryz.func244 (by kernel_rfl)
theorem PD:FnOk Tryz.prog 245 E8:=ex Tryz.func245 (by kernel_rfl)
theorem PB:FnOk Tryz.prog 246 Al:=ex Tryz.func246 (by kernel_rfl)
theorem PA:FnOk Tryz.prog 247 IH:=ex Tryz.func247 (by kernel_rfl)
theorem Pz:FnOk Tryz.prog 248 CK:=ex Tryz.func248 (by kernel_rfl)
theorem Py:FnOk Tryz.prog 249 IG:=ex Tryz.func249 (by kernel_rfl)
theorem Px:FnOk Tryz.prog 250 E7:=ex Tryz.func250 (by kernel_rfl)
theorem Pw:FnOk Tryz.prog 251 IF:=ex Tryz.func251 (by kernel_rfl)
theorem Pv:FnOk Tryz.prog 252 IE:=ex Tryz.func252 (by kernel_rfl)
theorem Pu:FnOk Tryz.prog 253 CJ:=ex Tryz.func253 (by kernel_rfl)
theorem Ps:FnOk Tryz.prog 254 ID:=ex Tryz.func254 (by kernel_rfl)
theorem Pr:FnOk Tryz.prog 255 IC:=ex Tryz.func255 (by kernel_rfl)
theorem Pq:FnOk Tryz.prog 256 IB:=ex Tryz.func256 (by kernel_rfl)
theorem RU:JC Tryz.prog WF 174 ux:=gH Tryz.func174 (by kernel_rfl) (by kernel_rfl) (by kernel_rfl) (by kernel_rfl)
theorem Ry:JC Tryz.prog WF 199 uw:=gI Tryz.func199 (by kernel_rfl) (by kernel_rfl) (by kernel_rfl) (by kernel_rfl)
theorem Zdm:RowOk Tryz.prog WF 0 tb0:=by
 unfold tb0;exact(⟨ok3,⟨ok4,⟨ok5,⟨ok6,⟨ok7,⟨ok8,⟨ok9,⟨ZeZ,⟨ZeY,⟨ZeX,⟨ZeW,⟨ZeV,⟨ZeU,trivial⟩⟩⟩⟩⟩⟩⟩⟩⟩⟩⟩⟩⟩)
theorem Zdl:RowOk Tryz.prog WF 16 tb1:=by
 unfold tb1;exact(⟨ZeT,⟨ZeS,⟨ZeR,⟨ZeQ,⟨ZeP,⟨ZeO,⟨ZeN,⟨ZeM,⟨ZeL,⟨ZeK,⟨ZeJ,⟨ZeI,⟨ZeH,⟨ZeG,⟨ZeF,⟨ZeE,trivial⟩⟩⟩⟩⟩⟩⟩⟩⟩⟩⟩⟩⟩⟩⟩⟩)
theorem Zdk:RowOk Tryz.prog WF 32 tb2:=by
 unfold tb2;exact(⟨ZeD,⟨ZeC,⟨ZeB,⟨ZeA,⟨Zez,⟨Zey,⟨Zex,⟨Zew,⟨Zev,⟨Zeu,⟨Zet,⟨Zes,⟨Zer,⟨Zeq,⟨Zep,⟨Zeo,trivial⟩⟩⟩⟩⟩⟩⟩⟩⟩⟩⟩⟩⟩⟩⟩⟩)
theorem Zdj:RowOk Tryz.prog WF 48 tb3:=by
 unfold tb3;exact(⟨Zen,⟨Zem,⟨Zel,⟨Zek,⟨Zej,⟨Zei,⟨Zeh,⟨Zeg,⟨Zef,⟨Zee,⟨Zed,⟨Zec,⟨Zeb,⟨Zea,⟨ZdZ,⟨ZdY,trivial⟩⟩⟩⟩⟩⟩⟩⟩⟩⟩⟩⟩⟩⟩⟩⟩)
theorem Zdi:RowOk Tryz.prog WF 64 tb4:=by
 unfold tb4;exact(⟨ZdX,⟨ZdW,⟨ZdV,⟨ZdU,⟨ZdT,⟨ZdS,⟨ZdR,⟨ZdQ,⟨ZdP,⟨ZdO,⟨ZdN,⟨ZdM,⟨ZdL,⟨ZdK,⟨ZdJ,⟨ZdI,trivial⟩⟩⟩⟩⟩⟩⟩⟩⟩⟩⟩⟩⟩⟩⟩⟩)
theorem Zdh:RowOk Tryz.prog WF 80 tb5:=by
 unfold tb5;exact(⟨ZdH,⟨ZdG,⟨ZdF,⟨ZdE,⟨ZdD,⟨ZdC,⟨ZdB,⟨ZdA,⟨Zdz,⟨Zdy,⟨Zdx,⟨Zdw,⟨Zdv,⟨Zdu,⟨Zdt,⟨Zds,trivial⟩⟩⟩⟩⟩⟩⟩⟩⟩⟩⟩⟩⟩⟩⟩⟩)
theorem Zdg:RowOk Tryz.prog WF 96 tb6:=by
 unfold tb6;exact(⟨Zdr,⟨Zdq,⟨Zdp,⟨Zdo,⟨Zae,⟨Zad,⟨Zac,⟨Zab,⟨Zaa,⟨S9,⟨S8,⟨S7,⟨S6,⟨S5,⟨S4,trivial⟩⟩⟩⟩⟩⟩⟩⟩⟩⟩⟩⟩⟩⟩⟩)
theorem Zdf:RowOk Tryz.prog WF 112 tb7:=by
 unfold tb7;exact(⟨S3,⟨S2,⟨S1,⟨S0,⟨SZ,⟨SY,⟨SW,⟨SV,⟨SU,⟨ST,⟨SR,⟨SQ,⟨SP,⟨SN,⟨SL,⟨SK,trivial⟩⟩⟩⟩⟩⟩⟩⟩⟩⟩⟩⟩⟩⟩⟩⟩)
theorem Zde:RowOk Tryz.prog WF 128 tb8:=by
 unfold tb8;exact(⟨SH,⟨SG,⟨SF,⟨SE,⟨SD,⟨SC,⟨SA,⟨Sz,⟨Sy,⟨Sx,⟨Sw,⟨Sv,⟨Su,⟨Ss,⟨Sr,⟨Sq,trivial⟩⟩⟩⟩⟩⟩⟩⟩⟩⟩⟩⟩⟩⟩⟩⟩)
theorem Zdd:RowOk Tryz.prog WF 144 tb9:=by
 unfold tb9;exact(⟨Sp,⟨So,⟨Sn,⟨Sm,⟨Sl,⟨Sk,⟨Sj,⟨Si,⟨Sh,⟨Sf,⟨Se,⟨Sd,⟨Sc,⟨Sa,⟨R9,trivial⟩⟩⟩⟩⟩⟩⟩⟩⟩⟩⟩⟩⟩⟩⟩)
theorem Pj:RowOk Tryz.prog WF 160 H9:=by
 unfold H9;exact(⟨R8,⟨R7,⟨R6,⟨R5,⟨R4,⟨R3,⟨R2,⟨R1,⟨R0,⟨RZ,⟨RY,⟨RX,⟨RW,⟨RV,⟨RU,⟨RT,trivial⟩⟩⟩⟩⟩⟩⟩⟩⟩⟩⟩⟩⟩⟩⟩⟩)
theorem Ph:RowOk Tryz.prog WF 176 H8:=by
 unfold H8;exact(⟨RS,⟨RQ,⟨RP,⟨RO,⟨RM,⟨RL,⟨RK,⟨RJ,⟨RH,⟨RG,trivial⟩⟩⟩⟩⟩⟩⟩⟩⟩⟩)
theorem Pg:RowOk Tryz.prog WF 192 H7:=by
 unfold H7;exact(⟨RF,⟨RE,⟨RD,⟨RC,⟨RB,⟨RA,⟨Rz,⟨Ry,⟨Rx,⟨Rw,⟨Rv,⟨Ru,⟨Rt,trivial⟩⟩⟩⟩⟩⟩⟩⟩⟩⟩⟩⟩⟩)
theorem Pf:RowOk Tryz.prog WF 208 H6:=by
 unfold H6;exact(⟨Rs,⟨Rr,⟨Rq,⟨Rp,⟨Ro,⟨Rm,⟨Rl,⟨Rk,⟨Rj,⟨Ri,⟨Rh,⟨Rg,⟨Rf,⟨Rc,trivial⟩⟩⟩⟩⟩⟩⟩⟩⟩⟩⟩⟩⟩⟩)
theorem Pe:RowOk Tryz.prog WF 224 H5:=by
 unfold H5;exact(⟨Rb,⟨Ra,⟨P9,⟨P0,⟨PZ,⟨PY,⟨PX,⟨PV,⟨PU,⟨PT,⟨PR,⟨PP,⟨PO,⟨PN,⟨PL,⟨PJ,trivial⟩⟩⟩⟩⟩⟩⟩⟩⟩⟩⟩⟩⟩⟩⟩⟩)
theorem Pd:RowOk Tryz.prog WF 240 H4:=by
 unfold H4;exact(⟨PI,⟨PH,⟨PG,⟨PF,⟨PE,⟨PD,⟨PB,⟨PA,⟨Pz,⟨Py,⟨Px,⟨Pw,⟨Pv,⟨Pu,⟨Ps,⟨Pr,trivial⟩⟩⟩⟩⟩⟩⟩⟩⟩⟩⟩⟩⟩⟩⟩⟩)
theorem Pc:RowOk Tryz.prog WF 256 H3:=by
 unfold H3;exact(⟨Pq,trivial⟩)
theorem Pb:RowOk Tryz.prog WF 272 H2:=by
 unfold H2;exact(trivial)
theorem Pa:RowOk Tryz.prog WF 288 H1:=by
 unfold H1;exact(trivial)
theorem O7:RowsOk Tryz.prog WF 0 zt:=by
 unfold zt;exact⟨Zdm,⟨Zdl,⟨Zdk,⟨Zdj,⟨Zdi,⟨Zdh,⟨Zdg,⟨Zdf,⟨Zde,⟨Zdd,⟨Pj,⟨Ph,⟨Pg,⟨Pf,⟨Pe,⟨Pd,⟨Pc,⟨Pb,⟨Pa,trivial⟩⟩⟩⟩⟩⟩⟩⟩⟩⟩⟩⟩⟩⟩⟩⟩⟩⟩⟩
theorem prgOk:PrgOk Tryz.prog WF:=.of (l:=Cc) rfl O7 rfl (by
 intro q hq;simp only[Cc,List.mem_cons,List.not_mem_nil,or_false]at hq;rcases hq with rfl | rfl<;>kernel_rfl)
theorem Hr:Tryz.prog.follows .mixedOrders=true:=by kernel_rfl
section
open Go Go.Pi Go.ChangeShapes Go.WideShapes Go.ChangeAt Go.RowKit
def Tf(t:TypeId):Bool:=[3,4,9,22,24,25,26,27,28,30,31,33,91,93,95].contains t
theorem Tf3:Up Tryz.prog Tf 3=true:=by kernel_rfl
theorem Tf4:Up Tryz.prog Tf 4=true:=by kernel_rfl
theorem Tf9:Up Tryz.prog Tf 9=true:=by kernel_rfl
theorem ZiA:Up Tryz.prog Tf 22=true:=by kernel_rfl
theorem Ziz:Up Tryz.prog Tf 24=true:=by kernel_rfl
theorem Ziy:Up Tryz.prog Tf 25=true:=by kernel_rfl
theorem Zix:Up Tryz.prog Tf 26=true:=by kernel_rfl
theorem Ziw:Up Tryz.prog Tf 27=true:=by kernel_rfl
theorem Ziv:Up Tryz.prog Tf 28=true:=by kernel_rfl
theorem Ziu:Up Tryz.prog Tf 30=true:=by kernel_rfl
theorem Zit:Up Tryz.prog Tf 31=true:=by kernel_rfl
theorem Zis:Up Tryz.prog Tf 33=true:=by kernel_rfl
theorem Zir:Up Tryz.prog Tf 91=true:=by kernel_rfl
theorem Ziq:Up Tryz.prog Tf 93=true:=by kernel_rfl
theorem Zip:Up Tryz.prog Tf 95=true:=by kernel_rfl
theorem ZbX:∀ t,Tf t=true->Up Tryz.prog Tf t=true:=by
 intro t ht;have:t=3\/t=4\/t=9\/t=22\/t=24\/t=25\/t=26\/t=27\/t=28\/t=30\/t=31\/t=33\/t=91\/t=93\/t=95:=by
  simpa [Tf] using ht
 rcases this with rfl | rfl | rfl | rfl | rfl | rfl | rfl | rfl | rfl | rfl | rfl | rfl | rfl | rfl | rfl
 ·exact Tf3
 ·exact Tf4
 ·exact Tf9
 ·exact ZiA
 ·exact Ziz
 ·exact Ziy
 ·exact Zix
 ·exact Ziw
 ·exact Ziv
 ·exact Ziu
 ·exact Zit
 ·exact Zis
 ·exact Zir
 ·exact Ziq
 ·exact Zip
end
end Go.Proofs.YtmckcikeefggdaaGreatDoor
