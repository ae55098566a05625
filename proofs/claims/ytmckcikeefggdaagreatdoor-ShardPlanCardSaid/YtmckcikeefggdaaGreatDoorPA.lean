/- Part 1 of the proof. -/
import GoSem.Machine.Frame
import GoSem.Op.String
import GoSem.Core.Layout
import Derived.Calls
import Derived.Laws.Sem
import Derived.Laws.World
import Derived.Laws.IdiomCopy
import Derived.Laws.Cells
import Derived.Laws.NewFold
import Derived.ChangeKeysEq
import Derived.Laws.Strings
import Derived.Laws.StructEq
import Derived.Laws.Small
import Derived.WideLaws
import Derived.Laws.Append
import Derived.Laws.BytesString
import Derived.MapKept
import Derived.Lib.ConvBytes
import Derived.Laws.IdiomRangeMap
import Derived.Maps.RangeRun
import Derived.Laws.MakeOwn
import Derived.Lib.UnsafeStr
set_option linter.unusedVariables false
set_option linter.unusedSimpArgs false
set_option linter.unusedSectionVars false
set_option maxRecDepth 100000
set_option maxHeartbeats 16000000
namespace Go.Pi
set_option linter.defProp false
def Za:=@List.getElem?_eq_some_iff
def Zb:=@List.getElem?_eq_getElem
def Zc:=@Option.map_eq_some_iff
def Zd:=@Nat.eq_of_beq_eq_true
def Zg:=@Nat.le_of_ble_eq_true
def Zh:=@List.getElem_mem
def Zl:=@Nat.lt_or_ge
def Zp:=@List.getElem?_append_right
def Zq:=@List.mem_cons_of_mem
def Zr:=@List.getElem?_append_left
def Zs:=@List.drop_eq_getElem_cons
def Zv:=@List.mem_cons_self
def Zx:=@List.getElem?_set_ne
def Zz:=@List.all_eq_true
def ZE:=@Nat.ble_eq_true_of_le
def ZF:=@List.mem_singleton
def ZG:=@List.getElem?_set_self
def ZI:=@List.mem_of_getElem?
def ZZ:=@Bool.or_eq_false_iff
def Z0:=@Decidable.byContradiction
def Z1:=@Nat.pos_of_ne_zero
def Yb:=@Option.bind_eq_some_iff
def Yk:=@Nat.add_sub_cancel_left
def XD:=@of_decide_eq_true
inductive CV where
 | bool (b:Bool)
 | int (k:IntKind) (n:Int)
 | str (s:List UInt8)
 | nilptr
 | nilfunc
 | nilmap
 | nilif
 | rptr (cs:List CV)
 | func (f:Nat) (caps:List CV)
 | imap (ks vs:List CV)
 | iface (t:Nat) (v:CV)
 | agg (cs:List CV)
 | tup (vs:List CV)
 | sl (full:Bool) (es:List CV)
inductive X where
 | undef
 | c (v:CV)
 | ptr (id off:Nat)
 | own (es:List CV) (id ver:Nat)
 | ms (id off len s:Nat)
 | map (id:Nat)
 | func (f:Nat) (caps:List X)
 | iter (id:Nat)
 | sdata (es:List CV) (id ver:Nat)
 | aptr
 | pend (es:List CV) (id ver:Nat)
 | pptr (k id ver:Nat)
 | agg (cs:List X)
 | tup (vs:List X)
inductive Ob where
 | dead
 | cells (t:Nat) (cs:List X)
 | tip (ver s t:Nat)
 | tipF (ver s t:Nat) (w:CV)
 | map (ks vs:List CV)
 | siter (s:List UInt8) (Xw:Nat)
 | miter (ks vs:List CV) (Xw:Nat)
abbrev Zf:=List (Nat × X)
abbrev Mem:=List Ob
structure St where
 s:Zf
 h:Mem
def Zm:Zf->Nat->X
 | [],_=>.undef
 | (j,v)::r,i=>bif Nat.beq j i then v else Zm r i
def ZK(live:List Nat)(s:Zf):Zf:=live.map λ i=>(i,Zm s i)
inductive Rand where
 | t (i:Nat)
 | k (v:CV)
 | g (n:Nat)
inductive BK where | add | sub | mul | quo | rem | and | or | xor | andNot | shl | shr | eql | neq | lss | leq | gtr | geq
inductive POp where
 | mov (x:Rand)
 | pick (c a b:Rand)
 | alloc (t:Nat) (zs:List CV)
 | box (t:Nat) (x:Rand)
 | build (zs:List CV) (ps:List (Nat × Nat × Rand))
 | buildSl (ag:Bool) (s n:Nat) (z:CV) (ps:List (Nat × Rand))
 | load (ag:Bool) (n:Nat) (a:Rand)
 | store (n:Nat) (a v:Rand)
 | nilCheck (x:Rand)
 | bin (k:BK) (x y:Rand)
 | eqb (neg:Bool) (x y:Rand)
 | eqp (neg:Bool) (x y:Rand)
 | eqf (neg:Bool) (x y:Rand)
 | eqi (neg:Bool) (x y:Rand)
 | eqa (neg:Bool) (offs:List (Nat × Nat)) (x y:Rand)
 | neg (x:Rand)
 | not (x:Rand)
 | compl (x:Rand)
 | toInt (k:IntKind) (x:Rand)
 | idc (x:Rand)
 | bytesStr (x:Rand)
 | strBytes (x:Rand)
 | uptr (x:Rand)
 | uback (u:Nat) (x:Rand)
 | iface (t:Nat) (x:Rand)
 | mkFn (f:Nat) (caps:List Rand)
 | mkMap
 | mapSet (kc:Nat) (m k v:Rand)
 | lookup (kc:Nat) (z:CV) (ok:Bool) (m k:Rand)
 | mkSl (ag:Bool) (e s bytes:Nat) (z:CV) (l c:Rand)
 | slStr (x:Rand) (lo hi:Option Rand)
 | slSl (s:Nat) (x:Rand) (lo hi mx:Option Rand)
 | slArr (n s:Nat) (x:Rand) (lo hi:Option Rand)
 | fldA (off:Nat) (x:Rand)
 | fld (ag:Bool) (off n:Nat) (x:Rand)
 | idxSl (s:Nat) (x i:Rand)
 | idxArr (n s:Nat) (x i:Rand)
 | idxStr (x i:Rand)
 | idxAgg (ag:Bool) (n s:Nat) (x i:Rand)
 | ext (x:Rand) (i:Nat)
 | lenStr (x:Rand)
 | lenSl (x:Rand)
 | lenMap (x:Rand)
 | lenK (n:Nat)
 | app (ag:Bool) (t s bytes:Nat) (a b:Rand)
 | appP (ag:Bool) (t s bytes:Nat) (a b:Rand)
 | idxP (s:Nat) (x i:Rand)
 | storeP (n sl a:Nat) (v:Rand)
 | storeF (n sl a:Nat) (v:Rand)
 | copy (s:Nat) (a b:Rand)
 | minmax (mx:Bool) (xs:List Rand)
 | sdata (x:Rand)
 | ustr (t:Nat) (p n:Rand)
 | rangeS (x:Rand)
 | nextS (x:Rand)
 | rangeM (x:Rand)
 | nextM (x:Rand)
 | entry (x:Rand)
 | assert (t:Nat) (ok:Bool) (z:CV) (x:Rand)
 | call (f:Nat) (args:List Rand)
 | callv (f:Rand) (args:List Rand)
structure POper where
 dst:Option Nat
 op:POp
 guard:Option (Nat × Bool)
inductive PCode where
 | skip
 | ops (l:List POper)
 | dops (l:List POper) (anc:List (List Nat))
 | seq (a b:PCode)
 | cond (c:Rand) (a b:PCode)
 | block (id:Nat) (b:PCode)
 | loop (live:Option (List Nat)) (b:PCode)
 | exit (id:Nat)
 | ret
 | live (l:List Nat) (c:PCode)
 | raw (l:List POper)
 | mloop (live:List Nat) (it nx c en id j:Nat) (rops:List POper) (b:PCode)
inductive PRes where
 | t (i:Nat)
 | cell (i:Nat) (ag:Bool) (n:Nat)
structure PFn where
 np:Nat
 res:List PRes
 body:PCode
 keep:Bool
 frz:Bool
inductive Exit where | normal | exit (id:Nat)|ret
def X.closed:X->Option CV
 | .c v=>some v
 | _=>none
def closedL:List X->Option (List CV)
 | []=>some []
 | .c v::r=>match closedL r with | some l=>some (v::l)|none=>none
 | _::_=>none
def Yr(cs:List X):X:=match closedL cs with | some l=>.c (.agg l)|none=>.agg cs
def Yl(cs:List X):X:=match closedL cs with | some l=>.c (.tup l)|none=>.tup cs
def Z7(ag:Bool)(cs:List X):Option X:=
 bif ag then some (Yr cs) else match cs with | [x]=>some x | _=>none
def CV.cells:CV->List CV
 | .agg cs=>cs
 | v=>[v]
def X.cells:X->Option (List X)
 | .c (.tup _)=>none
 | .c v=>some (v.cells.map .c)
 | .agg cs=>some cs
 | .undef=>none
 | .tup _=>none
 | x=>some [x]
def X.aggCells:X->Option (List X)
 | .c (.agg cs)=>some (cs.map .c)
 | .agg cs=>some cs
 | _=>none
def CV.wk0:CV->CV
 | .sl _ es=>.sl false es
 | v=>v
def CV.wk:CV->CV
 | .sl _ es=>.sl false es
 | .agg cs=>.agg (cs.map CV.wk0)
 | v=>v
def X.wk0:X->X
 | .c v=>.c v.wk0
 | .own es _ _=>.c (.sl false es)
 | x=>x
def X.wk:X->X
 | .c v=>.c v.wk
 | .own es _ _=>.c (.sl false es)
 | .agg cs=>Yr (cs.map X.wk0)
 | x=>x
def X.elem(x:X):Option CV:=match x.wk.closed with | some (.tup _)=>none | r=>r
def Zn(k:IntKind)(n:Int):CV:=.int k (k.wrap n)
def Xe(op:BK)(k:IntKind)(a b:Int):Option CV:=
 match op with
 | .add=>some (Zn k (a+b))
 | .sub=>some (Zn k (a - b))
 | .mul=>some (Zn k (a*b))
 | .quo=>bif b==0 then none else some (Zn k (a.tdiv b))
 | .rem=>bif b==0 then none else some (.int k (a.tmod b))
 | .and=>some (Zn k (BitVec.ofInt k.bits a &&& BitVec.ofInt k.bits b).toNat)
 | .or=>some (Zn k (BitVec.ofInt k.bits a ||| BitVec.ofInt k.bits b).toNat)
 | .xor=>some (Zn k (BitVec.ofInt k.bits a ^^^ BitVec.ofInt k.bits b).toNat)
 | .andNot=>some (Zn k (BitVec.ofInt k.bits a &&& ~~~ BitVec.ofInt k.bits b).toNat)
 | .eql=>some (.bool (a==b))
 | .neq=>some (.bool (a != b))
 | .lss=>some (.bool (decide (a < b)))
 | .leq=>some (.bool (decide (a<=b)))
 | .gtr=>some (.bool (decide (a > b)))
 | .geq=>some (.bool (decide (a>=b)))
 | .shl=>none
 | .shr=>none
def JH(left:Bool)(k:IntKind)(a y:Int):Option CV:=
 bif decide (y < 0) then none else
 bif left then some (Zn k (a*2 ^ (min y.toNat k.bits))) else some (.int k (a.fdiv (2 ^ (min y.toNat k.bits))))
def VH(op:BK)(a b:List UInt8):Option CV:=
 match op with
 | .add=>bif decide (a.length+b.length<=4611686018427387904) then some (.str (a++b)) else none
 | .eql=>some (.bool (a==b))
 | .neq=>some (.bool !(a==b))
 | .lss=>some (.bool (Op.bytesLess a b))
 | .leq=>some (.bool (Op.bytesLess a b||a==b))
 | .gtr=>some (.bool !(Op.bytesLess a b||a==b))
 | .geq=>some (.bool !(Op.bytesLess a b))
 | _=>none
def WO(a b:IntKind):Bool:=decide (a=b)
def binOp(op:BK):X->X->Option CV
 | .c (.int k a),.c (.int k' b)=>
  match op with
  | .shl=>JH true k a b
  | .shr=>JH false k a b
  | _=>bif WO k k' then Xe op k a b else none
 | .c (.str a),.c (.str b)=>VH op a b
 | _,_=>none
def eqP:X->X->Option Bool
 | .c .nilptr,.c .nilptr=>some true
 | .c .nilptr,.ptr _ _=>some false
 | .ptr _ _,.c .nilptr=>some false
 | .c .nilptr,.c (.rptr _)=>some false
 | .c (.rptr _),.c .nilptr=>some false
 | .ptr i o,.ptr j q=>bif Nat.beq i j then some (Nat.beq o q) else none
 | _,_=>none
def eqF:X->X->Option Bool
 | .c .nilfunc,.c .nilfunc=>some true
 | .c .nilfunc,.c (.func _ _)=>some false
 | .c (.func _ _),.c .nilfunc=>some false
 | .c .nilfunc,.func _ _=>some false
 | .func _ _,.c .nilfunc=>some false
 | _,_=>none
def eqI:X->X->Option Bool
 | .c .nilif,.c (.iface _ _)=>some false
 | .c (.iface _ _),.c .nilif=>some false
 | .c .nilif,.c .nilif=>some true
 | _,_=>none
def VT(neg:Bool)(h:Mem):Option Bool->Option (X × Mem)
 | some b=>some (.c (.bool (bif neg then !b else b)),h)
 | none=>none
def We:CV->CV->Option Bool
 | .int k a,.int k' b=>bif WO k k' then some (a==b) else none
 | .str a,.str b=>some (a==b)
 | .bool a,.bool b=>some (a==b)
 | _,_=>none
def YG:Nat->CV->Bool
 | 0,.int _ _=>true
 | 1,.str _=>true
 | 2,.bool _=>true
 | _,_=>false
def XM(xs ys:List CV):List (Nat × Nat)->Option Bool
 | []=>some true
 | (c,i)::r=>
  match xs[i]?,ys[i]? with
  | some x,some y=>bif YG c x&&YG c y then
   match We x y,XM xs ys r with
   | some a,some b=>some (a&&b)
   | _,_=>none
   else none
  | _,_=>none
def findKey(k:CV):List CV->Nat->Option (Option Nat)
 | [],_=>some none
 | x::r,i=>match We k x with
  | some true=>some (some i)
  | some false=>findKey k r (i+1)
  | none=>none
def YA:X->Option Nat
 | .c (.int _ n)=>bif decide (0<=n) then some n.toNat else none
 | _=>none
def X2(d:Nat):Option X->Option Nat
 | none=>some d
 | some x=>YA x
def Xu(len:Nat)(lo hi:Option X):Option (Nat × Nat):=
 match X2 0 lo,X2 len hi with
 | some l,some h=>bif Nat.ble l h&&Nat.ble h len then some (l,h) else none
 | _,_=>none
def setAt(cs:List X)(off:Nat):List X->List X
 | []=>cs
 | v::r=>setAt (cs.set off v) (off+1) r
def ZH(zs:List X):List (Nat × Nat × X)->Option (List X)
 | []=>some zs
 | (off,n,x)::r=>
  match x.cells with
  | some cs=>bif Nat.beq cs.length n&&Nat.ble (off+n) zs.length then ZH (setAt zs off cs) r else none
  | none=>none
def XG(s:Nat):Nat->List CV->List (List CV)
 | 0,_=>[]
 | n+1,l=>l.take s::XG s n (l.drop s)
def elemOf(ag:Bool)(cs:List CV):CV:=bif ag then .agg cs else cs.headD .nilif
def Xo(st:Nat)(es:List CV):List (Nat × X)->Option (List CV)
 | []=>some es
 | (i,x)::r=>
  match x.elem with
  | some v=>bif Nat.ble (i+1) es.length&&Nat.beq v.cells.length st then Xo st (es.set i v) r else none
  | none=>none
def Zt(b:UInt8):CV:=.int .u8 b.toNat
def bytesOf:List CV->Option (List UInt8)
 | []=>some []
 | .int .u8 n::r=>match bytesOf r with | some l=>some (UInt8.ofNat n.toNat::l)|none=>none
 | _::_=>none
def ZN(h:Mem)(id:Nat):Option (List X):=match h[id]? with | some (.cells _ cs)=>some cs | _=>none
def YC(s:Nat):List CV->Bool
 | []=>true
 | v::_=>Nat.beq v.cells.length s
def ZO(h:Mem)(ag:Bool)(s:Nat):X->Option (List CV)
 | .c (.sl _ es)=>bif YC s es then some es else none
 | .own es _ _=>bif YC s es then some es else none
 | .c (.str l)=>bif ag||!(Nat.beq s 1) then none else some (l.map Zt)
 | .ms id off n s'=>
  bif Nat.beq s s'&&(ag||Nat.beq s 1) then
   match ZN h id with
   | some cs=>match closedL ((cs.drop off).take (n*s)) with
    | some l=>bif Nat.beq l.length (n*s) then some ((XG s n l).map (elemOf ag)) else none
    | none=>none
   | none=>none
  else none
 | _=>none
def KK:X->Option Nat
 | .c (.sl _ es)=>some es.length
 | .own es _ _=>some es.length
 | .ms _ _ n _=>some n
 | .pend es _ _=>some (es.length+1)
 | _=>none
def vi(h:Mem):X->Option Nat
 | .c .nilmap=>some 0
 | .c (.imap ks _)=>some ks.length
 | .map id=>match h[id]? with | some (.map ks _)=>some ks.length | _=>none
 | _=>none
def qr(h:Mem):Option Nat->Option (X × Mem)
 | some n=>some (.c (.int .i64 n),h)
 | none=>none
def Qq:Nat:=4294967296
def ZP(h:Mem)(t s bytes:Nat)(a:X)(ys:List CV):Option (X × Mem):=
 match ys with
 | []=>match KK a with | some _=>some (a,h)|none=>none
 | _::_=>
  match a with
  | .c (.sl true es)=>bif YC s es&&Nat.ble (es.length+ys.length) Qq&&Nat.ble bytes 4096 then some (.own (es++ys) h.length 0,h++[.tip 0 s t]) else none
  | .own es id ver=>
   match h[id]? with
   | some (.tip v s' t')=>bif Nat.beq v ver&&Nat.beq s s'&&Nat.beq t t'&&Nat.ble (es.length+ys.length) Qq&&Nat.ble bytes 4096 then some (.own (es++ys) id (ver+1),h.set id (.tip (ver+1) s t)) else none
   | _=>none
  | _=>none
def X.ids:Nat->X->Option (List Nat)
 | 0,_=>none
 | n+1,x=>
  match x with
  | .undef=>some []
  | .aptr=>some []
  | .c _=>some []
  | .ptr id _=>some [id]
  | .own _ id _=>some [id]
  | .ms id _ _ _=>some [id]
  | .map id=>some [id]
  | .iter id=>some [id]
  | .sdata _ id _=>some [id]
  | .pend _ id _=>some [id]
  | .pptr _ id _=>some [id]
  | .func _ caps=>idsL n caps
  | .agg cs=>idsL n cs
  | .tup vs=>idsL n vs
where
 idsL (n:Nat):List X->Option (List Nat)
  | []=>some []
  | x::r=>match X.ids n x,idsL n r with | some a,some b=>some (a++b)|_,_=>none
def Ob.ids:Ob->Option (List Nat)
 | .cells _ cs=>X.ids.idsL 6 cs
 | _=>some []
def ZM(L:Nat):List Nat->Bool
 | []=>true
 | i::r=>Nat.ble (i+1) L&&ZM L r
def X.lt(L:Nat)(x:X):Bool:=match X.ids 6 x with | some l=>ZM L l | none=>false
def Ob.lt(L:Nat)(o:Ob):Bool:=match o.ids with | some l=>ZM L l | none=>false
def Yy(L:Nat):Zf->Bool
 | []=>true
 | (_,x)::r=>x.lt L&&Yy L r
def ZL(L:Nat):Mem->Bool
 | []=>true
 | o::r=>o.lt L&&ZL L r
def gc(L:Nat)(σ:St):St:=
 bif Nat.ble σ.h.length L then σ
 else bif Yy L σ.s&&ZL L (σ.h.take L) then⟨σ.s,σ.h.take L⟩ else σ
def Xp(h:Mem):Nat->List Nat->List Nat->Option (List Nat)
 | _,[],acc=>some acc
 | 0,_::_,_=>none
 | n+1,i::r,acc=>
  bif acc.contains i then Xp h n r acc
  else match h[i]? with
   | some o=>match o.ids with
    | some l=>Xp h n (l++r) (acc++[i])
    | none=>none
   | none=>none
def X.ren(ρ:Nat->Option Nat):Nat->X->Option X
 | 0,_=>none
 | n+1,x=>
  match x with
  | .undef=>some .undef
  | .aptr=>some .aptr
  | .c v=>some (.c v)
  | .ptr id off=>match ρ id with | some j=>some (.ptr j off)|none=>none
  | .own es id ver=>match ρ id with | some j=>some (.own es j ver)|none=>none
  | .ms id off l s=>match ρ id with | some j=>some (.ms j off l s)|none=>none
  | .map id=>match ρ id with | some j=>some (.map j)|none=>none
  | .iter id=>match ρ id with | some j=>some (.iter j)|none=>none
  | .sdata es id ver=>match ρ id with | some j=>some (.sdata es j ver)|none=>none
  | .pend es id ver=>match ρ id with | some j=>some (.pend es j ver)|none=>none
  | .pptr k id ver=>match ρ id with | some j=>some (.pptr k j ver)|none=>none
  | .func f caps=>match renL ρ n caps with | some l=>some (.func f l)|none=>none
  | .agg cs=>match renL ρ n cs with | some l=>some (.agg l)|none=>none
  | .tup vs=>match renL ρ n vs with | some l=>some (.tup l)|none=>none
where
 renL (ρ:Nat->Option Nat) (n:Nat):List X->Option (List X)
  | []=>some []
  | x::r=>match X.ren ρ n x,renL ρ n r with | some a,some b=>some (a::b)|_,_=>none
def Ob.ren(ρ:Nat->Option Nat):Ob->Option Ob
 | .cells t cs=>match X.ren.renL ρ 6 cs with | some l=>some (.cells t l)|none=>none
 | o=>some o
def Mem.ren(ρ:Nat->Option Nat):Mem->Option Mem
 | []=>some []
 | o::r=>match o.ren ρ,Mem.ren ρ r with | some a,some b=>some (a::b)|_,_=>none
def Xw(i:Nat):List Nat->Option Nat
 | []=>none
 | j::r=>bif Nat.beq j i then some 0 else match Xw i r with | some k=>some (k+1)|none=>none
def YM(h:Mem):List Nat->Option Mem
 | []=>some []
 | i::r=>match h[i]?,YM h r with | some o,some l=>some (o::l)|_,_=>none
def YS(h:Mem):List Nat->Mem->Mem
 | i::r,o::os=>YS (h.set i o) r os
 | _,_=>h
def frz(h:Mem)(m:Nat):Nat->X->Option CV
 | 0,_=>none
 | n+1,x=>
  match x with
  | .c v=>some v.wk
  | .own es _ _=>some (.sl false es)
  | .ptr id off=>
   bif Nat.ble m id then
    match ZN h id with
    | some cs=>match frzL h m n (cs.drop off) with | some l=>some (.rptr l)|none=>none
    | none=>none
   else none
  | .ms id off len s=>
   bif Nat.ble m id then
    match ZN h id with
    | some cs=>match frzL h m n ((cs.drop off).take (len*s)) with
     | some l=>bif Nat.beq l.length (len*s) then some (.sl false ((XG s len l).map (elemOf (bif Nat.beq s 1 then false else true)))) else none
     | none=>none
    | none=>none
   else none
  | .map id=>bif Nat.ble m id then match h[id]? with | some (.map ks vs)=>some (.imap ks vs)|_=>none else none
  | .func f caps=>match frzL h m n caps with | some l=>some (.func f l)|none=>none
  | .agg cs=>match frzL h m n cs with | some l=>some (.agg l)|none=>none
  | .tup vs=>match frzL h m n vs with | some l=>some (.tup l)|none=>none
  | _=>none
where
 frzL (h:Mem) (m:Nat) (n:Nat):List X->Option (List CV)
  | []=>some []
  | x::r=>match frz h m n x,frzL h m n r with | some a,some b=>some (a::b)|_,_=>none
structure Env where
 call:Nat->List X->Mem->Option (X × Mem)
 glob:Nat->Option (List CV)
 lies:Nat->Nat->Nat->Nat->Bool
def ZJ(e:Env)(s:Zf):Rand->X
 | .t i=>Zm s i
 | .k v=>.c v
 | .g n=>match e.glob n with | some cs=>.c (.rptr cs)|none=>.undef
def Xr(e:Env)(s:Zf):List Rand->List X
 | []=>[]
 | r::l=>ZJ e s r::Xr e s l
def yy(h:Mem):Option CV->Option (X × Mem)
 | some v=>some (.c v,h)
 | none=>none
def V1(h:Mem):Option X->Option (X × Mem)
 | some v=>some (v,h)
 | none=>none
def Zi(e:Env)(h:Mem)(f:Nat)(args:List X):Option (X × Mem):=
 match X.ids.idsL 6 args with
 | none=>none
 | some []=>
  match e.call f args [] with
  | some (r,[])=>some (r,h)
  | some (r,nw)=>
   match r.ren (λ k=>some (h.length+k)) 6,Mem.ren (λ k=>some (h.length+k)) nw with
   | some r',some l=>some (r',h++l)
   | _,_=>none
  | none=>none
 | some is=>
  match Xp h 1000 is [] with
  | none=>none
  | some ids=>
   match X.ren.renL (λ i=>Xw i ids) 6 args,YM h ids with
   | some args',some sub=>
    match Mem.ren (λ i=>Xw i ids) sub with
    | some sub'=>
     match e.call f args' sub' with
     | some (r,h')=>
      let m:=ids.length
      let back:=λ k=>bif Nat.ble m k then some (h.length+(k - m)) else ids[k]?
      match r.ren back 6,Mem.ren back h' with
      | some r',some h''=>some (r',YS h ids (h''.take m)++h''.drop m)
      | _,_=>none
     | none=>none
    | none=>none
   | _,_=>none
def evalOp(e:Env)(s:Zf)(h:Mem):POp->Option (X × Mem)
 | .mov x=>some (ZJ e s x,h)
 | .pick c a b=>match ZJ e s c with
  | .c (.bool true)=>some (ZJ e s a,h)
  | .c (.bool false)=>some (ZJ e s b,h)
  | _=>none
 | .alloc t zs=>some (.ptr h.length 0,h++[.cells t (zs.map .c)])
 | .box t x=>match (ZJ e s x).cells with
  | some cs=>some (.ptr h.length 0,h++[.cells t cs])
  | none=>none
 | .build zs ps=>match ZH (zs.map .c) (ps.map fun (o,n,r)=>(o,n,ZJ e s r)) with
  | some cs=>some (Yr cs,h)
  | none=>none
 | .buildSl _ st n z ps=>match Xo st (List.replicate n z) (ps.map fun (i,r)=>(i,ZJ e s r)) with
  | some es=>some (.c (.sl true es),h)
  | none=>none
 | .load ag n a=>match ZJ e s a with
  | .ptr id off=>match ZN h id with
   | some cs=>bif Nat.ble (off+n) cs.length then V1 h (Z7 ag ((cs.drop off).take n)) else none
   | none=>none
  | .c (.rptr cs)=>bif Nat.ble n cs.length then V1 h (Z7 ag ((cs.take n).map .c)) else none
  | _=>none
 | .store n a v=>match ZJ e s a,(ZJ e s v).cells with
  | .ptr id off,some vs=>match h[id]? with
   | some (.cells t cs)=>bif Nat.beq vs.length n&&Nat.ble (off+n) cs.length then some (.c (.tup []),h.set id (.cells t (setAt cs off vs))) else none
   | _=>none
  | _,_=>none
 | .nilCheck x=>match ZJ e s x with
  | .ptr id off=>some (.ptr id off,h)
  | .c (.rptr cs)=>some (.c (.rptr cs),h)
  | .c (.func f l)=>some (.c (.func f l),h)
  | .func f l=>some (.func f l,h)
  | _=>none
 | .bin k x y=>yy h (binOp k (ZJ e s x) (ZJ e s y))
 | .eqb ng x y=>match ZJ e s x,ZJ e s y with
  | .c (.bool a),.c (.bool b)=>VT ng h (some (a==b))
  | _,_=>none
 | .eqp ng x y=>VT ng h (eqP (ZJ e s x) (ZJ e s y))
 | .eqf ng x y=>VT ng h (eqF (ZJ e s x) (ZJ e s y))
 | .eqi ng x y=>VT ng h (eqI (ZJ e s x) (ZJ e s y))
 | .eqa ng offs x y=>match ZJ e s x,ZJ e s y with
  | .c (.agg xs),.c (.agg ys)=>VT ng h (XM xs ys offs)
  | _,_=>none
 | .neg x=>match ZJ e s x with
  | .c (.int k n)=>some (.c (Zn k (0 - n)),h)
  | _=>none
 | .not x=>match ZJ e s x with
  | .c (.bool b)=>some (.c (.bool !b),h)
  | _=>none
 | .compl x=>match ZJ e s x with
  | .c (.int k n)=>yy h (Xe .xor k (bif k.signed then -1 else k.max) n)
  | _=>none
 | .toInt k x=>match ZJ e s x with
  | .c (.int _ n)=>some (.c (Zn k n),h)
  | _=>none
 | .idc x=>match ZJ e s x with
  | .c (.str l)=>some (.c (.str l),h)
  | _=>none
 | .bytesStr x=>match ZO h false 1 (ZJ e s x) with
  | some l=>match bytesOf l with
   | some bs=>some (.c (.str bs),h)
   | none=>none
  | none=>none
 | .strBytes x=>match ZJ e s x with
  | .c (.str l)=>bif Nat.ble l.length Qq then some (.c (.sl false (l.map Zt)),h) else none
  | _=>none
 | .uptr x=>match ZJ e s x with
  | .ptr id off=>match ZN h id with
   | some cs=>bif Nat.ble (off+1) cs.length then some (.ptr id off,h) else none
   | none=>none
  | .c .nilptr=>some (.c .nilptr,h)
  | _=>none
 | .uback u x=>match ZJ e s x with
  | .ptr id off=>match h[id]? with
   | some (.cells t cs)=>bif Nat.ble (off+1) cs.length&&e.lies t cs.length off u then some (.ptr id off,h) else none
   | _=>none
  | .c .nilptr=>some (.c .nilptr,h)
  | _=>none
 | .iface t x=>match (ZJ e s x).wk.closed with
  | some v=>some (.c (.iface t v),h)
  | none=>none
 | .mkFn f caps=>match closedL (Xr e s caps) with
  | some l=>some (.c (.func f l),h)
  | none=>some (.func f (Xr e s caps),h)
 | .mkMap=>some (.map h.length,h++[.map [] []])
 | .mapSet kc m k v=>match ZJ e s m,ZJ e s k,(ZJ e s v).elem with
  | .map id,.c kv,some vv=>bif !(YG kc kv) then none else match h[id]? with
   | some (.map ks vs)=>match findKey kv ks 0 with
    | some (some i)=>some (.c (.tup []),h.set id (.map ks (vs.set i vv)))
    | some none=>some (.c (.tup []),h.set id (.map (ks++[kv]) (vs++[vv])))
    | none=>none
   | _=>none
  | _,_,_=>none
 | .lookup kc z ok m k=>
  let look (ks vs:List CV):Option (X × Mem):=
   match ZJ e s k with
   | .c kv=>bif !(YG kc kv) then none else match findKey kv ks 0 with
    | some (some i)=>match vs[i]? with
     | some v=>some (bif ok then .c (.tup [v,.bool true]) else .c v,h)
     | none=>none
    | some none=>some (bif ok then .c (.tup [z,.bool false]) else .c z,h)
    | none=>none
   | _=>none
  match ZJ e s m with
  | .c .nilmap=>look [] []
  | .c (.imap ks vs)=>look ks vs
  | .map id=>match h[id]? with
   | some (.map ks vs)=>look ks vs
   | _=>none
  | _=>none
 | .mkSl _ t s' bytes z l c=>match YA (ZJ e s l),YA (ZJ e s c) with
  | some ln,some cp=>
   bif Nat.ble ln cp&&Nat.ble cp Qq&&Nat.ble bytes 4096 then
    match ln,cp with
    | 0,0=>some (.c (.sl true []),h)
    | 0,_+1=>some (.own [] h.length 0,h++[.tip 0 s' t])
    | ln+1,cp=>bif Nat.beq (ln+1) cp then some (.ms h.length 0 (ln+1) s',h++[.cells t ((List.replicate (ln+1) (z.cells.map X.c)).flatten)]) else none
   else none
  | _,_=>none
 | .slStr x lo hi=>match ZJ e s x with
  | .c (.str l)=>match Xu l.length (lo.map (ZJ e s)) (hi.map (ZJ e s)) with
   | some (a,b)=>some (.c (.str ((l.take b).drop a)),h)
   | none=>none
  | _=>none
 | .slSl s' x lo hi mx=>
  match ZJ e s x with
  | .c (.sl full es)=>bif !(YC s' es) then none else match Xu es.length (lo.map (ZJ e s)) (hi.map (ZJ e s)) with
   | some (a,b)=>match mx with
    | none=>some (.c (.sl (full&&Nat.beq b es.length) ((es.take b).drop a)),h)
    | some m=>match YA (ZJ e s m) with
     | some m'=>bif Nat.beq m' b then some (.c (.sl true ((es.take b).drop a)),h) else none
     | none=>none
   | none=>none
  | .own es id ver=>bif !(YC s' es) then none else match Xu es.length (lo.map (ZJ e s)) (hi.map (ZJ e s)) with
   | some (a,b)=>match mx with
    | none=>bif Nat.beq b es.length&&Nat.ble (a+1) b then some (.own (es.drop a) id ver,h) else some (.c (.sl false ((es.take b).drop a)),h)
    | some m=>match YA (ZJ e s m) with
     | some m'=>bif Nat.beq m' b then some (.c (.sl true ((es.take b).drop a)),h) else none
     | none=>none
   | none=>none
  | .ms id off n s''=>match Xu n (lo.map (ZJ e s)) (hi.map (ZJ e s)),mx with
   | some (a,b),none=>bif Nat.beq s' s'' then(bif Nat.beq a n then some (.c (.sl false []),h) else some (.ms id (off+a*s') (b - a) s',h)) else none
   | _,_=>none
  | _=>none
 | .slArr n s' x lo hi=>match ZJ e s x,Xu n (lo.map (ZJ e s)) (hi.map (ZJ e s)) with
  | .ptr id off,some (a,b)=>bif Nat.beq a n then some (.c (.sl false []),h) else some (.ms id (off+a*s') (b - a) s',h)
  | _,_=>none
 | .fldA off x=>match ZJ e s x with
  | .ptr id o=>some (.ptr id (o+off),h)
  | .c (.rptr cs)=>some (.c (.rptr (cs.drop off)),h)
  | _=>none
 | .fld ag off n x=>match (ZJ e s x).aggCells with
  | some cs=>bif Nat.ble (off+n) cs.length then V1 h (Z7 ag ((cs.drop off).take n)) else none
  | none=>none
 | .idxSl s' x i=>match YA (ZJ e s i) with
  | some k=>
   match ZJ e s x with
   | .c (.sl _ es)=>match es[k]? with | some v=>bif Nat.beq v.cells.length s' then some (.c (.rptr v.cells),h) else none | none=>none
   | .own es _ _=>match es[k]? with | some v=>bif Nat.beq v.cells.length s' then some (.c (.rptr v.cells),h) else none | none=>none
   | .ms id off n s''=>bif Nat.ble (k+1) n&&Nat.beq s' s'' then some (.ptr id (off+k*s'),h) else none
   | _=>none
  | none=>none
 | .idxArr n s' x i=>match YA (ZJ e s i) with
  | some k=>
   bif Nat.ble (k+1) n then
    match ZJ e s x with
    | .ptr id off=>some (.ptr id (off+k*s'),h)
    | .c (.rptr cs)=>some (.c (.rptr (cs.drop (k*s'))),h)
    | _=>none
   else none
  | none=>none
 | .idxStr x i=>match ZJ e s x,YA (ZJ e s i) with
  | .c (.str l),some k=>match l[k]? with | some b=>some (.c (Zt b),h)|none=>none
  | _,_=>none
 | .idxAgg ag n s' x i=>match (ZJ e s x).aggCells,YA (ZJ e s i) with
  | some cs,some k=>bif Nat.ble (k+1) n&&Nat.ble (k*s'+s') cs.length then V1 h (Z7 ag ((cs.drop (k*s')).take s')) else none
  | _,_=>none
 | .ext x i=>match ZJ e s x with
  | .c (.tup vs)=>match vs[i]? with | some v=>some (.c v,h)|none=>none
  | .tup vs=>match vs[i]? with | some v=>some (v,h)|none=>none
  | _=>none
 | .lenStr x=>match ZJ e s x with
  | .c (.str l)=>qr h (some l.length)
  | _=>none
 | .lenSl x=>qr h (KK (ZJ e s x))
 | .lenMap x=>qr h (vi h (ZJ e s x))
 | .lenK n=>some (.c (.int .i64 n),h)
 | .app ag t s' bytes a b=>match ZO h ag s' (ZJ e s b) with
  | some ys=>ZP h t s' bytes (ZJ e s a) ys
  | none=>none
 | .appP ag t s' bytes a b=>match ZO h ag s' (ZJ e s b) with
  | some [_]=>match ZJ e s a with
   | .c (.sl true es)=>bif YC s' es&&Nat.ble (es.length+1) Qq&&Nat.ble bytes 4096 then some (.pend es h.length 0,h++[.tip 0 s' t]) else none
   | .own es id ver=>match h[id]? with
    | some (.tip v s'' t')=>bif Nat.beq v ver&&Nat.beq s' s''&&Nat.beq t t'&&Nat.ble (es.length+1) Qq&&Nat.ble bytes 4096 then some (.pend es id (ver+1),h.set id (.tip (ver+1) s' t)) else none
    | _=>none
   | _=>none
  | _=>none
 | .idxP s' x i=>match ZJ e s x,YA (ZJ e s i) with
  | .pend es id ver,some k=>match h[id]? with
   | some (.tip v s'' _)=>bif Nat.beq k es.length&&Nat.beq v ver&&Nat.beq s' s'' then some (.pptr k id ver,h) else none
   | _=>none
  | _,_=>none
 | .storeP n x a v=>match Zm s x,Zm s a,(ZJ e s v).elem with
  | .pend es id ver,.pptr k id' ver',some w=>match h[id]? with
   | some (.tip v s' t')=>bif Nat.beq v ver&&Nat.beq id id'&&Nat.beq ver ver'&&Nat.beq k es.length&&Nat.beq w.cells.length s'&&Nat.beq n s' then some (.own (es++[w]) id (ver+1),h.set id (.tip (ver+1) s' t')) else none
   | _=>none
  | _,_,_=>none
 | .storeF n x a v=>match Zm s x,Zm s a,(ZJ e s v).elem with
  | .pend es id ver,.pptr k id' ver',some w=>match h[id]? with
   | some (.tip v s' t')=>bif Nat.beq v ver&&Nat.beq id id'&&Nat.beq ver ver'&&Nat.beq k es.length&&Nat.beq w.cells.length s'&&Nat.beq n s' then some (.c (.tup []),h.set id (.tipF (ver+1) s' t' w)) else none
   | _=>none
  | _,_,_=>none
 | .copy s' a b=>match ZJ e s a with
  | .ms id off n s''=>
   bif Nat.beq s' s'' then
   match ZO h (bif Nat.beq s' 1 then false else true) s' (ZJ e s b),h[id]? with
   | some ys,some (.cells t cs)=>
    let k:=min ys.length n
    some (.c (.int .i64 k),h.set id (.cells t (setAt cs off (((ys.take k).map CV.cells).flatten.map X.c))))
   | _,_=>none
   else none
  | _=>none
 | .minmax mx xs=>match Xr e s xs with
  | .c (.int k a)::r=>
   let rec go (a:Int):List X->Option Int
    | []=>some a
    | .c (.int _ b)::r=>go (bif mx then(bif decide (a < b) then b else a) else(bif decide (b < a) then b else a)) r
    | _::_=>none
   match go a r with | some n=>some (.c (.int k n),h)|none=>none
  | _=>none
 | .sdata x=>match ZJ e s x with
  | .own es id ver=>match es with | []=>none | _::_=>some (.sdata es id ver,h)
  | _=>none
 | .ustr t p n=>match ZJ e s p,YA (ZJ e s n) with
  | .sdata es id ver,some k=>match h[id]? with
   | some (.tip v s' t')=>bif Nat.beq v ver&&Nat.beq t t'&&Nat.beq s' 1&&Nat.ble k es.length&&Nat.ble k Qq then match bytesOf (es.take k) with | some l=>some (.c (.str l),h)|none=>none else none
   | _=>none
  | _,_=>none
 | .rangeS x=>match ZJ e s x with
  | .c (.str l)=>some (.iter h.length,h++[.siter l 0])
  | _=>none
 | .nextS _=>none
 | .rangeM x=>match ZJ e s x with
  | .c (.imap ks vs)=>some (.iter h.length,h++[.miter ks vs 0])
  | _=>none
 | .nextM _=>none
 | .entry _=>none
 | .assert t ok z x=>match ZJ e s x with
  | .c .nilif=>bif ok then some (.c (.tup [z,.bool false]),h) else none
  | .c (.iface u v)=>bif Nat.beq u t then some (bif ok then .c (.tup [v,.bool true]) else .c v,h)
   else bif ok then some (.c (.tup [z,.bool false]),h) else none
  | _=>none
 | .call f args=>Zi e h f ((Xr e s args).map X.wk)
 | .callv f args=>match ZJ e s f with
  | .c (.func n caps)=>Zi e h n ((Xr e s args).map X.wk++caps.map X.c)
  | .func n caps=>Zi e h n ((Xr e s args).map X.wk++caps)
  | _=>none
def Yo(s:Zf)(d:Option Nat)(v:X):Zf:=match d with | some i=>(i,v)::s | none=>s
def wanted(s:Zf):Option (Nat × Bool)->Option Bool
 | none=>some true
 | some (i,b)=>match Zm s i with
  | .c (.bool a)=>some (a==b)
  | .c (.tup [])=>some false
  | _=>none
def YN(e:Env):List POper->St->Option St
 | [],σ=>some σ
 | o::r,σ=>
  match wanted σ.s o.guard with
  | some true=>match evalOp e σ.s σ.h o.op with
   | some (v,h)=>YN e r ⟨Yo σ.s o.dst v,h⟩
   | none=>none
  | some false=>YN e r ⟨Yo σ.s o.dst (.c (.tup [])),σ.h⟩
  | none=>none
def XZ(e:Env)(s:Zf)(h:Mem):POp->Option (X × Mem)
 | .call f args=>Zi e h f (Xr e s args)
 | op=>evalOp e s h op
def YE(e:Env):List POper->St->Option St
 | [],σ=>some σ
 | o::r,σ=>
  match wanted σ.s o.guard with
  | some true=>match XZ e σ.s σ.h o.op with
   | some (v,h)=>YE e r ⟨Yo σ.s o.dst v,h⟩
   | none=>none
  | some false=>YE e r ⟨Yo σ.s o.dst (.c (.tup [])),σ.h⟩
  | none=>none
mutual
def CV.same:CV->CV->Bool
 | .bool a,.bool b=>a==b
 | .int k a,.int k' b=>WO k k'&&a==b
 | .str a,.str b=>a==b
 | .nilptr,.nilptr=>true
 | .nilfunc,.nilfunc=>true
 | .nilmap,.nilmap=>true
 | .nilif,.nilif=>true
 | .rptr a,.rptr b=>CV.sameL a b
 | .func f a,.func g b=>Nat.beq f g&&CV.sameL a b
 | .imap a b,.imap c d=>CV.sameL a c&&CV.sameL b d
 | .iface t v,.iface u x=>Nat.beq t u&&CV.same v x
 | .agg a,.agg b=>CV.sameL a b
 | .tup a,.tup b=>CV.sameL a b
 | .sl f a,.sl g b=>f==g&&CV.sameL a b
 | _,_=>false
def CV.sameL:List CV->List CV->Bool
 | [],[]=>true
 | a::r,b::q=>CV.same a b&&CV.sameL r q
 | _,_=>false
end
mutual
def X.same:X->X->Bool
 | .undef,.undef=>true
 | .aptr,.aptr=>true
 | .c a,.c b=>CV.same a b
 | .ptr i o,.ptr j q=>Nat.beq i j&&Nat.beq o q
 | .own a i v,.own b j u=>CV.sameL a b&&(Nat.beq i j&&Nat.beq v u)
 | .ms i o l s,.ms j q m t=>Nat.beq i j&&(Nat.beq o q&&(Nat.beq l m&&Nat.beq s t))
 | .map i,.map j=>Nat.beq i j
 | .iter i,.iter j=>Nat.beq i j
 | .sdata a i v,.sdata b j u=>CV.sameL a b&&(Nat.beq i j&&Nat.beq v u)
 | .pend a i v,.pend b j u=>CV.sameL a b&&(Nat.beq i j&&Nat.beq v u)
 | .pptr k i v,.pptr l j u=>Nat.beq k l&&(Nat.beq i j&&Nat.beq v u)
 | .func f a,.func g b=>Nat.beq f g&&X.sameL a b
 | .agg a,.agg b=>X.sameL a b
 | .tup a,.tup b=>X.sameL a b
 | _,_=>false
def X.sameL:List X->List X->Bool
 | [],[]=>true
 | a::r,b::q=>X.same a b&&X.sameL r q
 | _,_=>false
end
def POp.kind(e:Env)(s:Zf):POp->Nat
 | .alloc _ _=>2
 | .box _ _=>2
 | .mkMap=>2
 | .store _ _ _=>2
 | .mapSet _ _ _ _=>2
 | .mkSl _ _ _ _ _ _ _=>2
 | .app _ _ _ _ _ _=>2
 | .appP _ _ _ _ _ _=>2
 | .storeP _ _ _ _=>2
 | .storeF _ _ _ _=>2
 | .copy _ _ _=>2
 | .rangeS _=>2
 | .rangeM _=>2
 | .nextM _=>2
 | .nextS _=>2
 | .entry _=>2
 | .load _ _ a=>match ZJ e s a with | .c _=>0 | _=>1
 | .bytesStr _=>1
 | .uptr _=>1
 | .uback _ _=>1
 | .lookup _ _ _ _ _=>1
 | .lenMap _=>1
 | .ustr _ _ _=>1
 | .idxP _ _ _=>1
 | .call f args=>match X.ids.idsL 6 ((Xr e s args).map X.wk) with
  | some []=>match e.call f ((Xr e s args).map X.wk) [] with | some (_,[])=>0 | _=>2
  | _=>2
 | .callv _ _=>2
 | _=>0
def Ob.same:Ob->Ob->Bool
 | .dead,.dead=>true
 | .cells t a,.cells u b=>Nat.beq t u&&X.sameL a b
 | .tip v s t,.tip u r q=>Nat.beq v u&&(Nat.beq s r&&Nat.beq t q)
 | .tipF v s t w,.tipF u r q x=>Nat.beq v u&&(Nat.beq s r&&(Nat.beq t q&&CV.same w x))
 | .map a b,.map c d=>CV.sameL a c&&CV.sameL b d
 | _,_=>false
def Mem.same:Mem->Mem->Bool
 | [],[]=>true
 | a::r,b::q=>Ob.same a b&&Mem.same r q
 | _,_=>false
def vz(h:Mem):X->X
 | .pend es id ver=>match h[id]? with
  | some (.tipF v _ _ w)=>bif Nat.beq v (ver+1) then .own (es++[w]) id v else .pend es id ver
  | _=>.pend es id ver
 | x=>x
def Zaq(h:Mem):Ob->Ob
 | .cells t cs=>.cells t (cs.map (vz h))
 | .tipF v s t _=>.tip v s t
 | o=>o
def hasF:Mem->Bool
 | []=>false
 | .tipF _ _ _ _::_=>true
 | _::r=>hasF r
def Qg(σ:St):St:=bif hasF σ.h then⟨σ.s.map fun (i,x)=>(i,vz σ.h x),σ.h.map (Zaq σ.h)⟩ else σ
def Rand.tmps:Rand->List Nat
 | .t i=>[i]
 | _=>[]
def KM:Option Rand->List Nat
 | some r=>r.tmps
 | none=>[]
def KS:List Rand->List Nat
 | []=>[]
 | r::l=>r.tmps++KS l
def POp.tmps:POp->List Nat
 | .mov x=>x.tmps
 | .pick c a b=>c.tmps++(a.tmps++b.tmps)
 | .alloc _ _=>[]
 | .box _ x=>x.tmps
 | .build _ ps=>KS (ps.map fun (_,_,r)=>r)
 | .buildSl _ _ _ _ ps=>KS (ps.map fun (_,r)=>r)
 | .load _ _ a=>a.tmps
 | .store _ a v=>a.tmps++v.tmps
 | .nilCheck x=>x.tmps
 | .bin _ x y=>x.tmps++y.tmps
 | .eqb _ x y=>x.tmps++y.tmps
 | .eqp _ x y=>x.tmps++y.tmps
 | .eqf _ x y=>x.tmps++y.tmps
 | .eqi _ x y=>x.tmps++y.tmps
 | .eqa _ _ x y=>x.tmps++y.tmps
 | .neg x=>x.tmps
 | .not x=>x.tmps
 | .compl x=>x.tmps
 | .toInt _ x=>x.tmps
 | .idc x=>x.tmps
 | .bytesStr x=>x.tmps
 | .strBytes x=>x.tmps
 | .uptr x=>x.tmps
 | .uback _ x=>x.tmps
 | .iface _ x=>x.tmps
 | .mkFn _ caps=>KS caps
 | .mkMap=>[]
 | .mapSet _ m k v=>m.tmps++(k.tmps++v.tmps)
 | .lookup _ _ _ m k=>m.tmps++k.tmps
 | .mkSl _ _ _ _ _ l c=>l.tmps++c.tmps
 | .slStr x lo hi=>x.tmps++(KM lo++KM hi)
 | .slSl _ x lo hi mx=>x.tmps++(KM lo++(KM hi++KM mx))
 | .slArr _ _ x lo hi=>x.tmps++(KM lo++KM hi)
 | .fldA _ x=>x.tmps
 | .fld _ _ _ x=>x.tmps
 | .idxSl _ x i=>x.tmps++i.tmps
 | .idxArr _ _ x i=>x.tmps++i.tmps
 | .idxStr x i=>x.tmps++i.tmps
 | .idxAgg _ _ _ x i=>x.tmps++i.tmps
 | .ext x _=>x.tmps
 | .lenStr x=>x.tmps
 | .lenSl x=>x.tmps
 | .lenMap x=>x.tmps
 | .lenK _=>[]
 | .app _ _ _ _ a b=>a.tmps++b.tmps
 | .appP _ _ _ _ a b=>a.tmps++b.tmps
 | .idxP _ x i=>x.tmps++i.tmps
 | .storeP _ x a v=>x::a::v.tmps
 | .storeF _ x a v=>x::a::v.tmps
 | .copy _ a b=>a.tmps++b.tmps
 | .minmax _ xs=>KS xs
 | .sdata x=>x.tmps
 | .ustr _ p n=>p.tmps++n.tmps
 | .rangeS x=>x.tmps
 | .nextS x=>x.tmps
 | .rangeM x=>x.tmps
 | .nextM x=>x.tmps
 | .entry x=>x.tmps
 | .assert _ _ _ x=>x.tmps
 | .call _ args=>KS args
 | .callv f args=>f.tmps++KS args
def POper.tmps(o:POper):List Nat:=(match o.guard with | some (d,_)=>[d]|none=>[])++o.op.tmps
structure Rec where
 s:Zf
 o:POper
 run:Bool
 v:X
def Yq(e:Env):List POper->Zf->Mem->Option (List Rec × St)
 | [],s,h=>some ([],⟨s,h⟩)
 | o::r,s,h=>
  let s1:=ZK o.tmps s
  match wanted s1 o.guard with
  | some true=>match evalOp e s1 h o.op with
   | some (v,h')=>match Yq e r (Yo s o.dst v) (bif Nat.beq (o.op.kind e s1) 2 then h' else h) with
    | some (rs,σ)=>some (⟨s1,o,true,v⟩::rs,σ)
    | none=>none
   | none=>none
  | some false=>match Yq e r (Yo s o.dst (.c (.tup []))) h with
   | some (rs,σ)=>some (⟨s1,o,false,.c (.tup [])⟩::rs,σ)
   | none=>none
  | none=>none
def mem(i:Nat):List Nat->Bool
 | []=>false
 | j::r=>Nat.beq i j||mem i r
def Yv:List (List Nat)->Nat->List Nat
 | [],_=>[]
 | l::_,0=>l
 | _::r,i+1=>Yv r i
def Rec.eff(e:Env)(r:Rec):Bool:=r.run&&Nat.beq (r.o.op.kind e r.s) 2
def YW(e:Env):Nat->List Rec->List Nat
 | _,[]=>[]
 | i,r::rs=>bif r.eff e then i::YW e (i+1) rs else YW e (i+1) rs
def YB(anc:List (List Nat))(es done:List Nat)(i:Nat):Bool:=
 es.all (λ j=>!(mem j (Yv anc i))||mem j done)&&done.all (λ j=>!(mem i (Yv anc j)))
def YF(e:Env)(anc:List (List Nat))(es done:List Nat)(h:Mem):Nat->List Rec->Bool
 | _,[]=>true
 | i,r::rs=>(!(r.run&&(Nat.beq (r.o.op.kind e r.s) 1&&YB anc es done i)) ||
   (match evalOp e r.s h r.o.op with | some (u,_)=>X.same u r.v | none=>false))&&YF e anc es done h (i+1) rs
def Yz(e:Env)(anc:List (List Nat))(recs:List Rec)(es:List Nat)(fin:Mem):Nat->List Nat->Mem->Bool
 | 0,_,_=>false
 | n+1,done,h=>YF e anc es done h 0 recs &&
  (bif es.all (λ j=>mem j done) then Mem.same h fin else
   es.all λ i=>mem i done||!(YB anc es done i) ||
    (match recs[i]? with
     | some r=>match evalOp e r.s h r.o.op with
      | some (u,h')=>X.same u r.v&&Yz e anc recs es fin n (i::done) h'
      | none=>false
     | none=>false))
def QU(e:Env)(l:List POper)(anc:List (List Nat))(σ:St):Option St:=
 match Yq e l σ.s σ.h with
 | some (rs,σ')=>bif Yz e anc rs (YW e 0 rs) σ'.h (l.length+1) [] σ.h then some (Qg σ') else none
 | none=>none
def W3(step:St->Option (Exit × St))(cl:St->St):Nat->St->Option (Exit × St)
 | 0,_=>none
 | n+1,σ=>match step (cl σ) with
  | some (.normal,σ')=>W3 step cl n σ'
  | r=>r
def clean(live:Option (List Nat))(L:Nat)(σ:St):St:=
 match live with
 | none=>σ
 | some l=>gc L ⟨ZK l σ.s,σ.h⟩
def X9:Zf->Zf->Bool
 | [],[]=>true
 | (i,a)::r,(j,b)::q=>Nat.beq i j&&(X.same a b&&X9 r q)
 | _,_=>false
def St.same(a b:St):Bool:=X9 a.s b.s&&Mem.same a.h b.h
def X8:Nat->List Nat->List Nat
 | _,[]=>[]
 | i,j::r=>bif Nat.beq i j then r else j::X8 i r
def XU(step:Nat->St->Option St)(σ:St)(i:Nat):Bool:=match step i σ with | some σ'=>St.same σ' σ | none=>false
def Vg(step:Nat->St->Option St)(fin:St):Nat->List Nat->List Nat->St->Bool
 | 0,_,_,_=>false
 | n+1,must,may,σ=>
  may.all (XU step σ) &&
  match must.filter (λ i=>!(XU step σ i)) with
  | []=>St.same σ fin
  | a::act=>(a::act).all λ i=>match step i σ with
   | some σ'=>Vg step fin n (X8 i (a::act)) (must.filter (XU step σ)++may) σ'
   | none=>false
def UG(it q:Nat)(σ:St):Option St:=match Zm σ.s it with | .iter q'=>bif Nat.beq q' q then some σ else none | _=>none
def Vf(e:Env)(live:List Nat)(L it q nx c en j:Nat)(rops:List POper)(ex:St->Option (Exit × St))(ks vs:List CV)(i:Nat)(σ:St):Option St:=
 match ks[i]?,vs[i]? with
 | some k,some v=>match YN e rops ⟨(en,.c (.tup [k,v]))::(c,.c (.bool true))::(nx,.c (.tup [.bool true,k,v]))::σ.s,σ.h⟩ with
  | some σ1=>match ex σ1 with
   | some (.normal,σ2)=>UG it q (clean (some live) L σ2)
   | some (.exit k,σ2)=>bif Nat.beq k j then UG it q (clean (some live) L σ2) else none
   | _=>none
  | none=>none
 | _,_=>none
def KN(step:Nat->St->Option St):List Nat->St->Option St
 | [],σ=>some σ
 | i::r,σ=>match step i σ with | some σ'=>KN step r σ' | none=>none
def vf(e:Env)(live:List Nat)(it nx c en id j:Nat)(rops:List POper)(ex:St->Option (Exit × St))(σ:St):Option (Exit × St):=
 bif Nat.beq it c||Nat.beq it nx then none else
 match Zm σ.s it with
 | .iter q=>match σ.h[q]? with
  | some (.miter ks vs 0)=>
   match UG it q (clean (some live) σ.h.length ⟨σ.s,σ.h.set q .dead⟩) with
   | some σ0=>match KN (Vf e live σ.h.length it q nx c en j rops ex ks vs) (List.range ks.length) σ0 with
    | some fin=>bif Vg (Vf e live σ.h.length it q nx c en j rops ex ks vs) fin (ks.length+1) (List.range ks.length) [] σ0 then some (.exit id,⟨(c,.c (.bool false))::(nx,.c (.tup [.bool false]))::fin.s,fin.h⟩) else none
    | none=>none
   | none=>none
  | _=>none
 | _=>none
def Yn(e:Env)(N:Nat):PCode->St->Option (Exit × St)
 | .skip,σ=>some (.normal,σ)
 | .ops l,σ=>match YN e l σ with | some σ'=>some (.normal,σ')|none=>none
 | .dops l anc,σ=>match QU e l anc σ with | some σ'=>some (.normal,σ')|none=>none
 | .seq a b,σ=>match Yn e N a σ with
  | some (.normal,σ')=>Yn e N b σ'
  | r=>r
 | .cond c a b,σ=>match ZJ e σ.s c with
  | .c (.bool true)=>Yn e N a σ
  | .c (.bool false)=>Yn e N b σ
  | _=>none
 | .block id b,σ=>match Yn e N b σ with
  | some (.exit i,σ')=>bif Nat.beq i id then some (.normal,σ') else some (.exit i,σ')
  | r=>r
 | .loop live b,σ=>W3 (Yn e N b) (clean live σ.h.length) N σ
 | .exit id,σ=>some (.exit id,σ)
 | .ret,σ=>some (.ret,σ)
 | .live l c,σ=>Yn e N c ⟨ZK l σ.s,σ.h⟩
 | .raw l,σ=>match YE e l σ with | some σ'=>some (.normal,σ')|none=>none
 | .mloop live it nx c en id j rops b,σ=>vf e live it nx c en id j rops (Yn e N b) σ
def results(σ:St):List PRes->Option (List X)
 | []=>some []
 | .t i::r=>match results σ r with | some l=>some (Zm σ.s i::l)|none=>none
 | .cell i ag n::r=>
  match Zm σ.s i with
  | .ptr id off=>match ZN σ.h id with
   | some cs=>bif Nat.ble (off+n) cs.length then match Z7 ag ((cs.drop off).take n),results σ r with
    | some x,some l=>some (x::l)
    | _,_=>none else none
   | none=>none
  | _=>none
def oneOf:List X->X
 | [x]=>x
 | l=>Yl l
def Xb:Nat->List X->Zf
 | _,[]=>[]
 | i,x::r=>(i,x)::Xb (i+1) r
def ZD(fn:PFn)(m:Nat)(σ:St):Option (X × Mem):=
 match results σ fn.res with
 | none=>none
 | some rs=>
  let rs:=bif fn.keep then rs else rs.map X.wk
  bif ZL m (σ.h.take m) then
   bif (X.ids.idsL 6 rs).elim false (ZM m) then some (oneOf rs,σ.h.take m)
   else bif fn.frz then match frz.frzL σ.h m 50 rs with
    | some l=>some (oneOf (l.map X.c),σ.h.take m)
    | none=>some (oneOf rs,σ.h)
   else some (oneOf rs,σ.h)
  else some (oneOf rs,σ.h)
inductive Fun where
 | body (fn:PFn)
 | prim (g:List X->Mem->Option (X × Mem))
structure Prg where
 fn:Nat->Option Fun
 glob:Nat->Option (List CV)
 lies:Nat->Nat->Nat->Nat->Bool
structure Tip where
 b:Nat
 e:Nat
 lim:Nat
 s:Nat
structure Gh where
 prot:Nat->Nat->Option Value
 pmap:Nat->Option (List MapEntry)
 loc:Nat->Option Nat
 tip:Nat->Nat->Option Tip
structure Gh.le(G G':Gh):Prop where
 prot:∀ b o v,G.prot b o=some v->G'.prot b o=some v
 pmap:∀ b es,G.pmap b=some es->G'.pmap b=some es
 loc:∀ i b,G.loc i=some b->G'.loc i=some b
 tip:∀ i v t,G.tip i v=some t->G'.tip i v=some t
theorem Gh.le.self(G:Gh):G.le G:=⟨λ _ _ _ h=>h,λ _ _ h=>h,λ _ _ h=>h,λ _ _ _ h=>h⟩
inductive RdC(G:Gh):Value->CV->Prop
 | bool (b:Bool):RdC G (.bool b) (.bool b)
 | int (k:IntKind) (n:Int):RdC G (.int k n) (.int k n)
 | str (s:List UInt8):RdC G (.string ⟨s.toArray⟩) (.str s)
 | nilptr:RdC G (.pointer none) .nilptr
 | nilfunc:RdC G .nilFunc .nilfunc
 | nilmap:RdC G (.map none) .nilmap
 | nilif:RdC G .nilIface .nilif
 | rptr (b o:Nat) (cs:List CV) (x:Nat->Value) (h:∀ (i:Nat) c,cs[i]?=some c->G.prot b (o+i)=some (x i))
   (h':∀ (i:Nat) c,cs[i]?=some c->RdC G (x i) c):RdC G (.pointer (some ⟨b,o,none⟩)) (.rptr cs)
 | func (f:Nat) (vs:List Value) (caps:List CV) (hl:vs.length=caps.length)
   (h:∀ (i:Nat) v c,vs[i]?=some v->caps[i]?=some c->RdC G v c):RdC G (.func (.func f) #[] vs.toArray) (.func f caps)
 | imap (b:Nat) (es:List MapEntry) (ks vs:List CV) (hp:G.pmap b=some es) (hk:es.length=ks.length) (hv:es.length=vs.length)
   (h:∀ (i:Nat) e k,es[i]?=some e->ks[i]?=some k->RdC G e.key k)
   (h':∀ (i:Nat) e v,es[i]?=some e->vs[i]?=some v->RdC G e.val v):RdC G (.map (some b)) (.imap ks vs)
 | iface (t:Nat) (v:Value) (c:CV) (h:RdC G v c):RdC G (.iface t v) (.iface t c)
 | agg (vs:List Value) (cs:List CV) (hl:vs.length=cs.length) (h:∀ (i:Nat) v c,vs[i]?=some v->cs[i]?=some c->RdC G v c)
   (h1:∀ v∈vs,v.oneCell'=true):RdC G (.agg vs.toArray) (.agg cs)
 | tup (vs:List Value) (cs:List CV) (hl:vs.length=cs.length) (h:∀ (i:Nat) v c,vs[i]?=some v->cs[i]?=some c->RdC G v c) :
   RdC G (.tuple vs.toArray) (.tup cs)
 | slnil (a:Option Addr) (full:Bool):RdC G (.slice a 0 0) (.sl full [])
 | sl (b o cap s:Nat) (full:Bool) (es:List CV) (x:Nat->Nat->Value) (hs:∀ (i:Nat) c,es[i]?=some c->c.cells.length=s)
   (h:∀ (i:Nat) c (j:Nat) d,es[i]?=some c->c.cells[j]?=some d->G.prot b (o+i*s+j)=some (x i j))
   (h':∀ (i:Nat) c (j:Nat) d,es[i]?=some c->c.cells[j]?=some d->RdC G (x i j) d)
   (hf:full=true->cap=es.length) (hc:es.length<=cap):RdC G (.slice (some ⟨b,o,none⟩) es.length cap) (.sl full es)
theorem RdC.mono{G G':Gh}(hG:G.le G'){v:Value}{c:CV}(h:RdC G v c):RdC G' v c:=by
 induction h with
 | bool b=>exact .bool b
 | int k n=>exact .int k n
 | str s=>exact .str s
 | nilptr=>exact .nilptr
 | nilfunc=>exact .nilfunc
 | nilmap=>exact .nilmap
 | nilif=>exact .nilif
 | rptr b o cs x h h' ih=>exact .rptr b o cs x (λ i c hc=>hG.prot _ _ _ (h i c hc)) ih
 | func f vs caps hl h ih=>exact .func f vs caps hl ih
 | imap b es ks vs hp hk hv h h' ih ih'=>exact .imap b es ks vs (hG.pmap _ _ hp) hk hv ih ih'
 | iface t v c h ih=>exact .iface t v c ih
 | agg vs cs hl h h1 ih=>exact .agg vs cs hl ih h1
 | tup vs cs hl h ih=>exact .tup vs cs hl ih
 | slnil a full=>exact .slnil a full
 | sl b o cap s full es x hs h h' hf hc ih=>exact .sl b o cap s full es x hs (λ i c j d a e=>hG.prot _ _ _ (h i c j d a e)) ih hf hc
def Elems(G:Gh)(b o s:Nat)(es:List CV):Prop:=
 (∀ (i:Nat) c,es[i]?=some c->c.cells.length=s)/\
 ∀ (i:Nat) c (j:Nat) d,es[i]?=some c->c.cells[j]?=some d->∃ v,G.prot b (o+i*s+j)=some v/\RdC G v d
theorem Elems.mono{G G':Gh}(hG:G.le G'){b o s:Nat}{es:List CV}(h:Elems G b o s es):Elems G' b o s es:=
 ⟨h.1,λ i c j d a e=>let ⟨v,p,r⟩:=h.2 i c j d a e;⟨v,hG.prot _ _ _ p,r.mono hG⟩⟩
theorem Elems.x{G:Gh}{b o s:Nat}{es:List CV}(h:Elems G b o s es):∃ x:Nat->Nat->Value,
  (∀ (i:Nat) c (j:Nat) d,es[i]?=some c->c.cells[j]?=some d->G.prot b (o+i*s+j)=some (x i j))/\
  (∀ (i:Nat) c (j:Nat) d,es[i]?=some c->c.cells[j]?=some d->RdC G (x i j) d):=by
 refine⟨λ i j=>(G.prot b (o+i*s+j)).getD .nilIface,λ i c j d a e=>?_,λ i c j d a e=>?_⟩
 ·obtain⟨v,p,r⟩:=h.2 i c j d a e;simp[p]
 ·obtain⟨v,p,r⟩:=h.2 i c j d a e;simpa [p] using r
theorem Xn{G:Gh}{b o cap s:Nat}{full:Bool}{es:List CV}(h:Elems G b o s es)(hf:full=true->cap=es.length)(hc:es.length<=cap) :
  RdC G (.slice (some ⟨b,o,none⟩) es.length cap) (.sl full es):=by
 obtain⟨x,h1,h2⟩:=h.x;exact .sl b o cap s full es x h.1 h1 h2 hf hc
theorem RdC.sl_inv{G:Gh}{v:Value}{full:Bool}{es:List CV}(h:RdC G v (.sl full es)) :
  ((∃ a,v=.slice a 0 0)/\es=[])\/∃ b o cap s,v=.slice (some ⟨b,o,none⟩) es.length cap/\Elems G b o s es/\(full=true->cap=es.length)/\es.length<=cap:=by
 cases h with
 | slnil a=>exact .inl ⟨⟨a,rfl⟩,rfl⟩
 | sl b o cap s _ _ x hs h h' hf hc=>exact .inr ⟨b,o,cap,s,rfl,⟨hs,λ i c j d a e=>⟨x i j,h i c j d a e,h' i c j d a e⟩⟩,hf,hc⟩
inductive RdX(G:Gh):Value->X->Prop
 | undef (v:Value):RdX G v .undef
 | c (v:Value) (cv:CV) (h:RdC G v cv):RdX G v (.c cv)
 | ptr (id off b:Nat) (h:G.loc id=some b):RdX G (.pointer (some ⟨b,off,none⟩)) (.ptr id off)
 | own (es:List CV) (id ver o cap:Nat) (t:Tip) (ht:G.tip id ver=some t) (he:o+es.length*t.s=t.e) (hl:o+cap*t.s<=t.lim)
   (hc:es.length<=cap) (h:Elems G t.b o t.s es):RdX G (.slice (some ⟨t.b,o,none⟩) es.length cap) (.own es id ver)
 | ms (id off len s b cap:Nat) (h:G.loc id=some b) (hc:len<=cap):RdX G (.slice (some ⟨b,off,none⟩) len cap) (.ms id off len s)
 | map (id b:Nat) (h:G.loc id=some b):RdX G (.map (some b)) (.map id)
 | iter (id b:Nat) (h:G.loc id=some b):RdX G (.pointer (some ⟨b,0,none⟩)) (.iter id)
 | aptr (p:Option Addr):RdX G (.pointer p) .aptr
 | sdata (es:List CV) (id ver o:Nat) (t:Tip) (ht:G.tip id ver=some t) (he:o+es.length*t.s=t.e)
   (h:Elems G t.b o t.s es):RdX G (.pointer (some ⟨t.b,o,none⟩)) (.sdata es id ver)
 | pend (es:List CV) (id ver o cap:Nat) (t:Tip) (ht:G.tip id ver=some t) (he:o+es.length*t.s=t.e) (hl:o+cap*t.s<=t.lim)
   (hc:es.length+1<=cap) (h:Elems G t.b o t.s es):RdX G (.slice (some ⟨t.b,o,none⟩) (es.length+1) cap) (.pend es id ver)
 | pptr (k id ver:Nat) (t:Tip) (ht:G.tip id ver=some t):RdX G (.pointer (some ⟨t.b,t.e,none⟩)) (.pptr k id ver)
 | func (f:Nat) (vs:List Value) (caps:List X) (hl:vs.length=caps.length)
   (h:∀ (i:Nat) v c,vs[i]?=some v->caps[i]?=some c->RdX G v c):RdX G (.func (.func f) #[] vs.toArray) (.func f caps)
 | agg (vs:List Value) (cs:List X) (hl:vs.length=cs.length) (h:∀ (i:Nat) v c,vs[i]?=some v->cs[i]?=some c->RdX G v c)
   (h1:∀ v∈vs,v.oneCell'=true):RdX G (.agg vs.toArray) (.agg cs)
 | tup (vs:List Value) (cs:List X) (hl:vs.length=cs.length) (h:∀ (i:Nat) v c,vs[i]?=some v->cs[i]?=some c->RdX G v c) :
   RdX G (.tuple vs.toArray) (.tup cs)
theorem RdX.mono{G G':Gh}(hG:G.le G'){v:Value}{x:X}(h:RdX G v x):RdX G' v x:=by
 induction h with
 | undef v=>exact .undef v
 | c v cv h=>exact .c v cv (h.mono hG)
 | ptr id off b h=>exact .ptr id off b (hG.loc _ _ h)
 | own es id ver o cap t ht he hl hc h=>exact .own es id ver o cap t (hG.tip _ _ _ ht) he hl hc (h.mono hG)
 | ms id off len s b cap h hc=>exact .ms id off len s b cap (hG.loc _ _ h) hc
 | map id b h=>exact .map id b (hG.loc _ _ h)
 | iter id b h=>exact .iter id b (hG.loc _ _ h)
 | aptr p=>exact .aptr p
 | sdata es id ver o t ht he h=>exact .sdata es id ver o t (hG.tip _ _ _ ht) he (h.mono hG)
 | pend es id ver o cap t ht he hl hc h=>exact .pend es id ver o cap t (hG.tip _ _ _ ht) he hl hc (h.mono hG)
 | pptr k id ver t ht=>exact .pptr k id ver t (hG.tip _ _ _ ht)
 | func f vs caps hl h ih=>exact .func f vs caps hl ih
 | agg vs cs hl h h1 ih=>exact .agg vs cs hl ih h1
 | tup vs cs hl h ih=>exact .tup vs cs hl ih
def froz(fr:Nat × Nat)(e:Nat):Prop:=fr.1=fr.2\/fr.2<=e
def free(fr:Nat × Nat)(lo hi:Nat):Prop:=∀ o,lo<=o->o < hi->¬ (fr.1<=o/\o < fr.2)
def Jc(es:List MapEntry)(clk:Nat):Prop:=clk=es.length/\(∀ x∈es,x.born < clk)/\(es.map (·.born)).Nodup
def blk(G:Gh)(id:Nat):Ob->Option Nat
 | .dead=>none
 | .tip ver _ _=>(G.tip id ver).map (·.b)
 | .tipF ver _ _ _=>(G.tip id ver).map (·.b)
 | .cells _ _=>G.loc id
 | .map _ _=>G.loc id
 | .siter _ _=>G.loc id
 | .miter _ _ _=>G.loc id
def TipRel(G:Gh)(w:World)(id ver s el:Nat):Prop:=
 ∃ t vs fr,G.tip id ver=some t/\t.s=s/\0 < s/\w.heap[t.b]?=some (.cells vs el fr)/\vs.size=t.lim/\t.e<=t.lim/\
   froz fr t.e/\(∀ o,t.e<=o->G.prot t.b o=none)/\G.pmap t.b=none/\(∀ u,ver < u->G.tip id u=none)
def FillRel(G:Gh)(id ver s:Nat)(wv:CV):Prop:=
 ∃ t t0,G.tip id ver=some t/\G.tip id (ver - 1)=some t0/\t0.b=t.b/\t0.e+s=t.e/\t0.lim=t.lim/\t0.s=s/\t.s=s/\Elems G t.b t0.e s [wv]
def ObRel(G:Gh)(w:World)(id:Nat):Ob->Prop
 | .dead=>True
 | .cells t cs=>∃ b vs fr,G.loc id=some b/\w.heap[b]?=some (.cells vs t fr)/\vs.size=cs.length/\
   (∀ (i:Nat) c,cs[i]?=some c->∃ v,vs[i]?=some v/\v.oneCell'=true/\RdX G v c)/\free fr 0 vs.size/\(∀ o,G.prot b o=none)/\G.pmap b=none
 | .tip ver s el=>TipRel G w id ver s el
 | .tipF ver s el wv=>TipRel G w id ver s el/\FillRel G id ver s wv
 | .map ks vs=>∃ b es clk,G.loc id=some b/\w.heap[b]?=some (.map es clk)/\es.size=ks.length/\es.size=vs.length/\
   (∀ (i:Nat) e k,es[i]?=some e->ks[i]?=some k->RdC G e.key k)/\(∀ (i:Nat) e v,es[i]?=some e->vs[i]?=some v->RdC G e.val v)/\
   (∀ o,G.prot b o=none)/\G.pmap b=none/\Jc es.toList clk
 | .siter s Xw=>∃ b,G.loc id=some b/\w.heap[b]?=some (.stringIter ⟨s.toArray⟩ Xw)/\(∀ o,G.prot b o=none)/\G.pmap b=none
 | .miter ks vs Xw=>Xw=0/\∃ b m es,G.loc id=some b/\w.heap[b]?=some (.mapIter (some m) es.length #[] es.length)/\G.pmap m=some es/\es.length=ks.length/\es.length=vs.length/\
   (∀ (i:Nat) e k,es[i]?=some e->ks[i]?=some k->RdC G e.key k)/\(∀ (i:Nat) e v,es[i]?=some e->vs[i]?=some v->RdC G e.val v)/\
   (∀ o,G.prot b o=none)/\G.pmap b=none
structure Inv(G:Gh)(h:Mem)(w:World):Prop where
 prot:∀ b o v,G.prot b o=some v->w.cell? ⟨b,o,none⟩=some v/\v.oneCell'=true
 pmap:∀ b es,G.pmap b=some es->∃ clk,w.heap[b]?=some (.map es.toArray clk)/\Jc es clk
 ob:∀ id o,h[id]?=some o->ObRel G w id o
 inj:∀ i j oi oj bi bj,h[i]?=some oi->h[j]?=some oj->blk G i oi=some bi->blk G j oj=some bj->bi=bj->i=j
 new:∀ id,h.length<=id->G.loc id=none/\∀ ver,G.tip id ver=none
def WD(G:Gh)(h:Mem)(b:Nat):Prop:=∃ id o,h[id]?=some o/\blk G id o=some b
structure Fr(own:Nat->Prop)(w w':World):Prop where
 size:w.heap.size<=w'.heap.size
 same:∀ b,b < w.heap.size->¬ own b->w'.heap[b]?=w.heap[b]?
 os:w'.os=w.os
 tape:w'.tape=w.tape
 output:w'.output=w.output
theorem Fr.self(own:Nat->Prop)(w:World):Fr own w w:=⟨Nat.le_refl _,λ _ _ _=>Eq.refl _,Eq.refl _,Eq.refl _,Eq.refl _⟩
structure Step(G:Gh)(h:Mem)(w:World)(G':Gh)(h':Mem)(w':World):Prop where
 inv:Inv G' h' w'
 len:h.length<=h'.length
 fr:Fr (WD G h) w w'
 prot:∀ b o v,G.prot b o=some v->G'.prot b o=some v
 pmap:∀ b es,G.pmap b=some es->G'.pmap b=some es
 loc:∀ i b,i < h.length->G.loc i=some b->G'.loc i=some b
 tip:∀ i v t,i < h.length->G.tip i v=some t->G'.tip i v=some t
 newp:∀ b o v,G'.prot b o=some v->G.prot b o=some v\/WD G h b\/w.heap.size<=b
 newm:∀ b es,G'.pmap b=some es->G.pmap b=some es\/WD G h b\/w.heap.size<=b
 newb:∀ b,WD G' h' b->WD G h b\/w.heap.size<=b
theorem Y5{G:Gh}{h:Mem}{w:World}(hi:Inv G h w):Step G h w G h w:=
 ⟨hi,Nat.le_refl _,Fr.self _ _,λ _ _ _ x=>x,λ _ _ x=>x,λ _ _ _ x=>x,λ _ _ _ _ x=>x,λ _ _ _ x=>.inl x,λ _ _ x=>.inl x,λ _ x=>.inl x⟩
theorem Step.trans{G1 G2 G3:Gh}{h1 h2 h3:Mem}{w1 w2 w3:World}(s:Step G1 h1 w1 G2 h2 w2)(k:Step G2 h2 w2 G3 h3 w3):Step G1 h1 w1 G3 h3 w3 where
 inv:=k.inv
 len:=Nat.le_trans s.len k.len
 fr:={
  size:=Nat.le_trans s.fr.size k.fr.size
  same:=λ b hb ho=>by
   rw[k.fr.same b (Nat.lt_of_lt_of_le hb s.fr.size) (λ x=>by
    rcases s.newb b x with y | y
    ·exact ho y
    ·omega)]
   exact s.fr.same b hb ho
  os:=k.fr.os.trans s.fr.os
  tape:=k.fr.tape.trans s.fr.tape
  output:=k.fr.output.trans s.fr.output }
 prot:=λ b o v x=>k.prot b o v (s.prot b o v x)
 pmap:=λ b es x=>k.pmap b es (s.pmap b es x)
 loc:=λ i b hi x=>k.loc i b (Nat.lt_of_lt_of_le hi s.len) (s.loc i b hi x)
 tip:=λ i v t hi x=>k.tip i v t (Nat.lt_of_lt_of_le hi s.len) (s.tip i v t hi x)
 newp:=λ b o v x=>by
  rcases k.newp b o v x with y | y | y
  ·exact s.newp b o v y
  ·exact .inr (s.newb b y)
  ·exact .inr (.inr (Nat.le_trans s.fr.size y))
 newm:=λ b es x=>by
  rcases k.newm b es x with y | y | y
  ·exact s.newm b es y
  ·exact .inr (s.newb b y)
  ·exact .inr (.inr (Nat.le_trans s.fr.size y))
 newb:=λ b x=>by
  rcases k.newb b x with y | y
  ·exact s.newb b y
  ·exact .inr (Nat.le_trans s.fr.size y)
theorem Step.le{G G':Gh}{h h':Mem}{w w':World}(s:Step G h w G' h' w')(hn:∀ id,h.length<=id->G.loc id=none/\∀ ver,G.tip id ver=none):G.le G':=by
 refine⟨s.prot,s.pmap,λ i b x=>?_,λ i v t x=>?_⟩
 ·by_cases hi:i < h.length
  ·exact s.loc i b hi x
  ·rw[(hn i (by omega)).1]at x;cases x
 ·by_cases hi:i < h.length
  ·exact s.tip i v t hi x
  ·rw[(hn i (by omega)).2 v]at x;cases x
theorem froz.free{fr:Nat × Nat}{e:Nat}(h:froz fr e)(hi:Nat):Pi.free fr e hi:=by
 intro o h1 h2 h3;rcases h with h | h<;>omega
theorem froz.mono{fr:Nat × Nat}{e e':Nat}(h:froz fr e)(hle:e<=e'):froz fr e':=by
 rcases h with h | h
 ·exact .inl h
 ·exact .inr (by omega)
theorem XX{w:World}{b o:Nat}:w.cell? ⟨b,o,none⟩=match w.heap[b]? with | some (.cells c _ _)=>c[o]? | _=>none:=by
 unfold World.cell?;cases hb:w.heap[b]? with
 | none=>simp
 | some q=>cases q<;>simp
theorem jn{w:World}{b o:Nat}{v:Value}(h:w.cell? ⟨b,o,none⟩=some v):b < w.heap.size:=by
 rw[XX]at h;by_cases hb:b < w.heap.size
 ·exact hb
 ·rw[Array.getElem?_eq_none (by omega)]at h;cases h
theorem XF{w:World}{b:Nat}{o:Obj}(h:w.heap[b]?=some o):b < w.heap.size:=by
 by_cases hb:b < w.heap.size
 ·exact hb
 ·rw[Array.getElem?_eq_none (by omega)]at h;cases h
theorem Inv.prot_lt{G:Gh}{h:Mem}{w:World}(hi:Inv G h w){b o:Nat}{v:Value}(x:G.prot b o=some v):b < w.heap.size:=jn (hi.prot b o v x).1
theorem Inv.pmap_lt{G:Gh}{h:Mem}{w:World}(hi:Inv G h w){b:Nat}{es:List MapEntry}(x:G.pmap b=some es):b < w.heap.size:=
 let ⟨_,y⟩:=hi.pmap b es x;XF y.1
theorem Inv.blk_lt{G:Gh}{h:Mem}{w:World}(hi:Inv G h w){id b:Nat}{o:Ob}(ho:h[id]?=some o)(hb:blk G id o=some b):b < w.heap.size:=by
 have:=hi.ob id o ho
 cases o with
 | dead=>simp[blk]at hb
 | cells t cs=>obtain⟨b',vs,fr,h1,h2,_⟩:=this;simp only[blk,h1,Option.some.injEq]at hb;subst hb;exact XF h2
 | tip ver s el=>obtain⟨t,vs,fr,h1,_,_,h2,_⟩:=this;simp only[blk,h1,Option.map_some,Option.some.injEq]at hb;subst hb;exact XF h2
 | tipF ver s el wv=>obtain⟨⟨t,vs,fr,h1,_,_,h2,_⟩,_⟩:=this;simp only[blk,h1,Option.map_some,Option.some.injEq]at hb;subst hb;exact XF h2
 | map ks vs=>obtain⟨b',es,clk,h1,h2,_⟩:=this;simp only[blk,h1,Option.some.injEq]at hb;subst hb;exact XF h2
 | siter s Xw=>obtain⟨b',h1,h2,_⟩:=this;simp only[blk,h1,Option.some.injEq]at hb;subst hb;exact XF h2
 | miter _ _ _=>obtain⟨_,b',m,es,h1,h2,_⟩:=this;simp only[blk,h1,Option.some.injEq]at hb;subst hb;exact XF h2
theorem TipRel.keep{G G':Gh}{w w':World}{id ver s el:Nat}(h:TipRel G w id ver s el)(hG:G.le G')(hw:∀ t,G.tip id ver=some t->w'.heap[t.b]?=w.heap[t.b]?)
  (hp:∀ t,G.tip id ver=some t->(∀ q,G.prot t.b q=none->G'.prot t.b q=none)/\G'.pmap t.b=G.pmap t.b) (ht:∀ u,G.tip id u=none->G'.tip id u=none):TipRel G' w' id ver s el:=by
 obtain⟨t,vs,fr,h1,h2,h3,h4,h5,h6,h7,h8,h9,h10⟩:=h;obtain⟨p1,p2⟩:=hp t h1;refine⟨t,vs,fr,hG.tip _ _ _ h1,h2,h3,?_,h5,h6,h7,λ q hq=>p1 q (h8 q hq),by rw[p2,h9],λ u hu=>ht u (h10 u hu)⟩
 rw[hw t h1];exact h4
theorem FillRel.mono{G G':Gh}{id ver s:Nat}{wv:CV}(h:FillRel G id ver s wv)(hG:G.le G'):FillRel G' id ver s wv:=by
 obtain⟨t,t0,h1,h2,h3,h4,h5,h6,h7,h8⟩:=h;exact⟨t,t0,hG.tip _ _ _ h1,hG.tip _ _ _ h2,h3,h4,h5,h6,h7,h8.mono hG⟩
theorem ObRel.keep{G G':Gh}{w w':World}{id:Nat}{o:Ob}(h:ObRel G w id o)(hG:G.le G')
  (hw:∀ b,blk G id o=some b->w'.heap[b]?=w.heap[b]?)
  (hp:∀ b,blk G id o=some b->(∀ q,G.prot b q=none->G'.prot b q=none)/\G'.pmap b=G.pmap b) (ht:∀ u,G.tip id u=none->G'.tip id u=none):ObRel G' w' id o:=by
 cases o with
 | dead=>trivial
 | cells t cs=>
  obtain⟨b,vs,fr,h1,h2,h3,h4,h5,h6,h7⟩:=h;obtain⟨p1,p2⟩:=hp b (by simp[blk,h1])
  refine⟨b,vs,fr,hG.loc _ _ h1,?_,h3,λ i c hc=>?_,h5,λ q=>p1 q (h6 q),by rw[p2,h7]⟩
  ·rw[hw b (by simp[blk,h1])];exact h2
  ·obtain⟨v,a1,a2,a3⟩:=h4 i c hc;exact⟨v,a1,a2,a3.mono hG⟩
 | tip ver s el=>exact TipRel.keep h hG (λ t ht=>hw t.b (by simp[blk,ht])) (λ t ht=>hp t.b (by simp[blk,ht])) ht
 | tipF ver s el wv=>exact⟨TipRel.keep h.1 hG (λ t ht=>hw t.b (by simp[blk,ht])) (λ t ht=>hp t.b (by simp[blk,ht])) ht,h.2.mono hG⟩
 | map ks vs=>
  obtain⟨b,es,clk,h1,h2,h3,h4,h5,h6,h7,h8⟩:=h;obtain⟨p1,p2⟩:=hp b (by simp[blk,h1])
  refine⟨b,es,clk,hG.loc _ _ h1,?_,h3,h4,λ i e k a c=>(h5 i e k a c).mono hG,λ i e k a c=>(h6 i e k a c).mono hG,λ q=>p1 q (h7 q),by rw[p2,h8.1],h8.2⟩
  rw[hw b (by simp[blk,h1])];exact h2
 | siter s Xw=>
  obtain⟨b,h1,h2,h3,h4⟩:=h;obtain⟨p1,p2⟩:=hp b (by simp[blk,h1])
  refine⟨b,hG.loc _ _ h1,?_,λ q=>p1 q (h3 q),by rw[p2,h4]⟩
  rw[hw b (by simp[blk,h1])];exact h2
 | miter ks vs Xw=>
  obtain⟨h0,b,m,es,h1,h2,h3,h4,h5,h6,h7,h8,h9⟩:=h;obtain⟨p1,p2⟩:=hp b (by simp[blk,h1])
  refine⟨h0,b,m,es,hG.loc _ _ h1,?_,hG.pmap _ _ h3,h4,h5,λ i e k a c=>(h6 i e k a c).mono hG,λ i e k a c=>(h7 i e k a c).mono hG,λ q=>p1 q (h8 q),by rw[p2,h9]⟩
  rw[hw b (by simp[blk,h1])];exact h2
theorem ObRel.blk_some{G:Gh}{w:World}{id:Nat}{o:Ob}(h:ObRel G w id o)(hd:o ≠ .dead):∃ b,blk G id o=some b:=by
 cases o with
 | dead=>exact absurd rfl hd
 | cells t cs=>obtain⟨b,vs,fr,h1,_⟩:=h;exact⟨b,h1⟩
 | tip ver s el=>obtain⟨t,vs,fr,h1,_⟩:=h;exact⟨t.b,by simp[blk,h1]⟩
 | tipF ver s el wv=>obtain⟨⟨t,vs,fr,h1,_⟩,_⟩:=h;exact⟨t.b,by simp[blk,h1]⟩
 | map ks vs=>obtain⟨b,es,clk,h1,_⟩:=h;exact⟨b,h1⟩
 | siter s Xw=>obtain⟨b,h1,_⟩:=h;exact⟨b,h1⟩
 | miter _ _ _=>obtain⟨_,b,_,_,h1,_⟩:=h;exact⟨b,h1⟩
theorem MD{G G':Gh}(hG:G.le G'){id b:Nat}{o:Ob}(h:blk G id o=some b):blk G' id o=some b:=by
 cases o with
 | dead=>simp[blk]at h
 | cells t cs=>exact hG.loc _ _ h
 | tip ver s el=>
  simp only[blk,Zc]at h ⊢;obtain⟨t,h1,h2⟩:=h;exact⟨t,hG.tip _ _ _ h1,h2⟩
 | tipF ver s el wv=>
  simp only[blk,Zc]at h ⊢;obtain⟨t,h1,h2⟩:=h;exact⟨t,hG.tip _ _ _ h1,h2⟩
 | map ks vs=>exact hG.loc _ _ h
 | siter s Xw=>exact hG.loc _ _ h
 | miter _ _ _=>exact hG.loc _ _ h
theorem vX{G G':Gh}{w:World}(hG:G.le G'){id:Nat}{o:Ob}(hr:ObRel G w id o):blk G' id o=blk G id o:=by
 by_cases hd:o=.dead
 ·subst hd;rfl
 ·obtain⟨b,hb⟩:=hr.blk_some hd;rw[hb,MD hG hb]
theorem W7{G G':Gh}{h h':Mem}{w w':World}(hi:Inv G h w)(id:Nat)(o':Ob)(hle:G.le G')
  (hh:∀ j,j ≠ id->h'[j]?=h[j]?) (hid:h'[id]?=some o') (hlen:h.length<=h'.length)
  (hsz:w.heap.size<=w'.heap.size) (hos:w'.os=w.os) (htape:w'.tape=w.tape) (hout:w'.output=w.output)
  (hsame:∀ b,b < w.heap.size->¬ (∃ o,h[id]?=some o/\blk G id o=some b)->w'.heap[b]?=w.heap[b]?)
  (hprot:∀ b o v,G'.prot b o=some v->w'.cell? ⟨b,o,none⟩=some v/\v.oneCell'=true)
  (hpm:∀ b es,G'.pmap b=some es->∃ clk,w'.heap[b]?=some (.map es.toArray clk)/\Jc es clk)
  (hnewp:∀ b o v,G'.prot b o=some v->G.prot b o=some v\/(∃ o,h[id]?=some o/\blk G id o=some b)\/w.heap.size<=b)
  (hnewm:∀ b es,G'.pmap b=some es->G.pmap b=some es\/(∃ o,h[id]?=some o/\blk G id o=some b)\/w.heap.size<=b)
  (hob:ObRel G' w' id o')
  (hblk:∀ b,blk G' id o'=some b->(∃ o,h[id]?=some o/\blk G id o=some b)\/w.heap.size<=b)
  (hnew:∀ j,h'.length<=j->G'.loc j=none/\∀ ver,G'.tip j ver=none) (htip:∀ j,j ≠ id->∀ u,G.tip j u=none->G'.tip j u=none):Step G h w G' h' w':=by
 have hown:∀ b,(∃ o,h[id]?=some o/\blk G id o=some b)->WD G h b:=λ b ⟨o,a,c⟩=>⟨id,o,a,c⟩
 have hother:∀ j o b,j ≠ id->h[j]?=some o->blk G j o=some b->¬ (∃ o,h[id]?=some o/\blk G id o=some b):=by
  intro j o b hj ho hb ⟨q,hq,hqb⟩;exact hj (hi.inj j id o q b b ho hq hb hqb rfl)
 have hnp:∀ b o v,G'.prot b o=some v->G.prot b o=some v\/WD G h b\/w.heap.size<=b:=λ b o v x=>by
  rcases hnewp b o v x with y | y | y
  ·exact .inl y
  ·exact .inr (.inl (hown b y))
  ·exact .inr (.inr y)
 have hnm:∀ b es,G'.pmap b=some es->G.pmap b=some es\/WD G h b\/w.heap.size<=b:=λ b es x=>by
  rcases hnewm b es x with y | y | y
  ·exact .inl y
  ·exact .inr (.inl (hown b y))
  ·exact .inr (.inr y)
 refine⟨⟨hprot,hpm,?_,?_,hnew⟩,hlen,⟨hsz,λ b hb ho=>hsame b hb (λ x=>ho (hown b x)),hos,htape,hout⟩,
  hle.prot,hle.pmap,λ i b _=>hle.loc i b,λ i v t _=>hle.tip i v t,hnp,hnm,?_⟩
 ·intro j o ho;by_cases hj:j=id
  ·subst hj;rw[hid]at ho;cases ho;exact hob
  ·rw[hh j hj]at ho;refine(hi.ob j o ho).keep hle (λ b hb=>hsame b (hi.blk_lt ho hb) (hother j o b hj ho hb)) (λ b hb=>⟨λ q hq=>?_,?_⟩) ?_
   ·cases hc:G'.prot b q with
    | none=>rfl
    | some v=>
     rcases hnewp b q v hc with y | y | y
     ·rw[hq]at y;cases y
     ·exact absurd y (hother j o b hj ho hb)
     ·have:=hi.blk_lt ho hb;omega
   ·cases hc:G.pmap b with
    | some es=>exact hle.pmap b es hc
    | none=>
     cases hc':G'.pmap b with
     | none=>rfl
     | some es=>
      rcases hnewm b es hc' with y | y | y
      ·rw[hc]at y;cases y
      ·exact absurd y (hother j o b hj ho hb)
      ·have:=hi.blk_lt ho hb;omega
   ·exact htip j hj
 ·have aux:∀ i j oi oj bi bj,h'[i]?=some oi->h'[j]?=some oj->blk G' i oi=some bi->blk G' j oj=some bj->bi=bj->j ≠ id->i=j:=by
   intro i j oi oj bi bj ho ho' hb hb' e hj;rw[hh j hj]at ho';rw[vX hle (hi.ob j oj ho')]at hb';by_cases hi':i=id
   ·subst hi';rw[hid]at ho;cases ho;rcases hblk bi hb with y | y
    ·exact absurd (e ▸ y) (hother j oj bj hj ho' hb')
    ·have:=hi.blk_lt ho' hb';omega
   ·rw[hh i hi']at ho;rw[vX hle (hi.ob i oi ho)]at hb;exact hi.inj i j oi oj bi bj ho ho' hb hb' e
  intro i j oi oj bi bj ho ho' hb hb' e;by_cases hj:j=id
  ·by_cases hi':i=id
   ·rw[hi',hj]
   ·exact(aux j i oj oi bj bi ho' ho hb' hb e.symm hi').symm
  ·exact aux i j oi oj bi bj ho ho' hb hb' e hj
 ·rintro b ⟨j,o,ho,hb⟩
  by_cases hj:j=id
  ·subst hj;rw[hid]at ho;cases ho;exact(hblk b hb).imp_left (hown b)
  ·rw[hh j hj]at ho;rw[vX hle (hi.ob j o ho)]at hb;exact .inl ⟨j,o,ho,hb⟩
def Gh.at_(G:Gh)(id b:Nat):Gh:={ G with loc:=λ j=>if j=id then some b else G.loc j }
theorem Qu{G:Gh}{id b:Nat}(h:G.loc id=none):G.le (G.at_ id b):=by
 refine⟨λ _ _ _ x=>x,λ _ _ x=>x,λ i c x=>?_,λ _ _ _ x=>x⟩
 simp only[Gh.at_]
 split
 ·rename_i e;subst e;rw[h]at x;cases x
 ·exact x
theorem Wf(G:Gh)(id b:Nat):(G.at_ id b).loc id=some b:=by simp[Gh.at_]
theorem YD(w:World)(o:Obj){b:Nat}(h:b < w.heap.size):(w.alloc o).heap[b]?=w.heap[b]?:=by
 show(w.heap.push o)[b]?=_;rw[Array.getElem?_push,if_neg (by omega)]
theorem YH(w:World)(o:Obj):(w.alloc o).heap[w.heap.size]?=some o:=by
 show(w.heap.push o)[w.heap.size]?=some o;simp
theorem WR(w:World)(o:Obj):(w.alloc o).heap.size=w.heap.size+1:=by
 show(w.heap.push o).size=_;simp
theorem qL{w:World}{o:Obj}{b q:Nat}{v:Value}(h:w.cell? ⟨b,q,none⟩=some v):(w.alloc o).cell? ⟨b,q,none⟩=some v:=by
 have hb:=jn h
 rw[XX]at h ⊢;rw[YD w o hb];exact h
theorem Step.push{G:Gh}{h:Mem}{w:World}(hi:Inv G h w)(o:Ob)(ob:Obj)
  (hob:ObRel (G.at_ h.length w.heap.size) (w.alloc ob) h.length o) (hb:blk (G.at_ h.length w.heap.size) h.length o=some w.heap.size) :
  Step G h w (G.at_ h.length w.heap.size) (h++[o]) (w.alloc ob):=by
 have hn:=hi.new h.length (Nat.le_refl _)
 have nob:∀ b,¬ (∃ o,h[h.length]?=some o/\blk G h.length o=some b):=by rintro b ⟨o,ho,_⟩;simp at ho
 refine W7 hi h.length o (Qu hn.1) (λ j hj=>?_) (by simp) (by simp) (by rw[WR];omega) rfl rfl rfl (λ b hb _=>YD w ob hb)
  (λ b q v x=>⟨qL (hi.prot b q v x).1,(hi.prot b q v x).2⟩) (λ b es x=>?_) (λ b q v x=>.inl x) (λ b es x=>.inl x) hob (λ b x=>.inr ?_) (λ j hj=>?_) (λ j _ u x=>x)
 ·rcases Zl j h.length with hl | hl
  ·rw[Zr hl]
  ·rw[Zp hl,List.getElem?_eq_none hl,List.getElem?_eq_none (by simp;omega)]
 ·obtain⟨clk,y⟩:=hi.pmap b es x;exact⟨clk,by rw[YD w ob (XF y.1)];exact y.1,y.2⟩
 ·rw[hb]at x;cases x;exact Nat.le_refl _
 ·simp at hj;have:=hi.new j (by omega)
  refine⟨?_,this.2⟩;simp only[Gh.at_];rw[if_neg (by omega)];exact this.1
def RdL(G:Gh)(vs:List Value)(cs:List X):Prop:=vs.length=cs.length/\∀ (i:Nat) v c,vs[i]?=some v->cs[i]?=some c->RdX G v c
def RdCL(G:Gh)(vs:List Value)(cs:List CV):Prop:=vs.length=cs.length/\∀ (i:Nat) v c,vs[i]?=some v->cs[i]?=some c->RdC G v c
def Ones(vs:List Value):Prop:=∀ v∈vs,v.oneCell'=true
theorem RdCL.mono{G G':Gh}(hG:G.le G'){vs:List Value}{cs:List CV}(h:RdCL G vs cs):RdCL G' vs cs:=⟨h.1,λ i v c a b=>(h.2 i v c a b).mono hG⟩
theorem RdCL.toX{G:Gh}{vs:List Value}{cs:List CV}(h:RdCL G vs cs):RdL G vs (cs.map X.c):=by
 refine⟨by simp[h.1],λ i v c a b=>?_⟩
 rw[List.getElem?_map,Zc]at b;obtain⟨d,hd,rfl⟩:=b;exact .c v d (h.2 i v d a hd)
theorem RdL.nil(G:Gh):RdL G [] []:=⟨rfl,λ i v c a=>by simp at a⟩
theorem RdL.cons{G:Gh}{v:Value}{x:X}{vs:List Value}{xs:List X}(h:RdX G v x)(k:RdL G vs xs):RdL G (v::vs) (x::xs):=by
 refine⟨by simp[k.1],λ i u c a b=>?_⟩
 cases i with
 | zero=>simp at a b;subst a b;exact h
 | succ i=>exact k.2 i u c (by simpa using a) (by simpa using b)
theorem RdL.inv_cons{G:Gh}{vs:List Value}{x:X}{xs:List X}(h:RdL G vs (x::xs)):∃ v us,vs=v::us/\RdX G v x/\RdL G us xs:=by
 obtain⟨hl,h⟩:=h;cases vs with
 | nil=>simp at hl
 | cons v us=>exact⟨v,us,rfl,h 0 v x rfl rfl,by simpa using hl,λ i u c a b=>h (i+1) u c (by simpa using a) (by simpa using b)⟩
theorem RdL.inv_nil{G:Gh}{vs:List Value}(h:RdL G vs []):vs=[]:=List.eq_nil_of_length_eq_zero h.1
theorem RdCL.nil(G:Gh):RdCL G [] []:=⟨rfl,λ i v c a=>by simp at a⟩
theorem RdCL.cons{G:Gh}{v:Value}{x:CV}{vs:List Value}{xs:List CV}(h:RdC G v x)(k:RdCL G vs xs):RdCL G (v::vs) (x::xs):=by
 refine⟨by simp[k.1],λ i u c a b=>?_⟩
 cases i with
 | zero=>simp at a b;subst a b;exact h
 | succ i=>exact k.2 i u c (by simpa using a) (by simpa using b)
theorem RdCL.inv_cons{G:Gh}{vs:List Value}{x:CV}{xs:List CV}(h:RdCL G vs (x::xs)):∃ v us,vs=v::us/\RdC G v x/\RdCL G us xs:=by
 obtain⟨hl,h⟩:=h;cases vs with
 | nil=>simp at hl
 | cons v us=>exact⟨v,us,rfl,h 0 v x rfl rfl,by simpa using hl,λ i u c a b=>h (i+1) u c (by simpa using a) (by simpa using b)⟩
theorem RdCL.inv_nil{G:Gh}{vs:List Value}(h:RdCL G vs []):vs=[]:=List.eq_nil_of_length_eq_zero h.1
theorem RdL.take{G:Gh}{vs:List Value}{xs:List X}(h:RdL G vs xs)(n:Nat):RdL G (vs.take n) (xs.take n):=by
 refine⟨by simp[h.1],λ i v c a b=>?_⟩
 rw[List.getElem?_take]at a b;split at a
 ·rename_i hl;rw[if_pos hl]at b;exact h.2 i v c a b
 ·cases a
theorem RdL.drop{G:Gh}{vs:List Value}{xs:List X}(h:RdL G vs xs)(n:Nat):RdL G (vs.drop n) (xs.drop n):=by
 refine⟨by simp[h.1],λ i v c a b=>?_⟩
 rw[List.getElem?_drop]at a b;exact h.2 _ v c a b
theorem Ones.take{vs:List Value}(h:Ones vs)(n:Nat):Ones (vs.take n):=λ v hv=>h v (List.mem_of_mem_take hv)
theorem Ones.drop{vs:List Value}(h:Ones vs)(n:Nat):Ones (vs.drop n):=λ v hv=>h v (List.mem_of_mem_drop hv)
theorem Vj{cs:List X}{l:List CV}(h:closedL cs=some l):cs=l.map X.c:=by
 induction cs generalizing l with
 | nil=>simp[closedL]at h;subst h;rfl
 | cons x r ih=>
  cases x<;>simp only[closedL]at h<;>try cases h
  split at h
  ·rename_i l' hl';cases h;simp[ih hl']
  ·cases h
theorem RdL.closed{G:Gh}{vs:List Value}{cs:List CV}(h:RdL G vs (cs.map X.c)):RdCL G vs cs:=by
 refine⟨by simpa using h.1,λ i v c a b=>?_⟩
 have:=h.2 i v (.c c) a (by simp[b])
 cases this;assumption
theorem VB{G:Gh}{vs:List Value}{cs:List X}(h:RdL G vs cs)(h1:Ones vs):RdX G (.agg vs.toArray) (Yr cs):=by
 unfold Yr
 split
 ·rename_i l hl;have:=Vj hl
  subst this;exact .c _ _ (.agg vs l h.closed.1 h.closed.2 h1)
 ·exact .agg vs cs h.1 h.2 h1
theorem qR{G:Gh}{vs:List Value}{cs:List X}(h:RdL G vs cs):RdX G (.tuple vs.toArray) (Yl cs):=by
 unfold Yl
 split
 ·rename_i l hl;have:=Vj hl
  subst this;exact .c _ _ (.tup vs l h.closed.1 h.closed.2)
 ·exact .tup vs cs h.1 h.2
theorem RdC.one{G:Gh}{v:Value}{c:CV}(h:RdC G v c)(h1:v.oneCell'=true):c.cells=[c]:=by
 cases h<;>first|rfl | (simp[Value.oneCell']at h1)
theorem RdC.cells{G:Gh}{v:Value}{c:CV}(h:RdC G v c)(ht:∀ vs,v ≠ .tuple vs):RdCL G v.cells.toList c.cells/\Ones v.cells.toList:=by
 cases h
 case agg vs cs hl h h1=>simpa [Value.cells,CV.cells,RdCL,Ones] using ⟨⟨hl,h⟩,h1⟩
 case tup vs cs hl h=>exact absurd rfl (ht _)
 all_goals
  refine⟨?_,λ v hv=>?_⟩
  ·refine RdCL.cons ?_ (RdCL.nil _);first
    | exact .bool _ | exact .int _ _ | exact .str _ | exact .nilptr | exact .nilfunc | exact .nilmap | exact .nilif | exact .slnil _ _
    | exact .rptr _ _ _ _ ‹_› ‹_› | exact .func _ _ _ ‹_› ‹_› | exact .imap _ _ _ _ ‹_› ‹_› ‹_› ‹_› ‹_› | exact .iface _ _ _ ‹_› | exact .sl _ _ _ _ _ _ _ ‹_› ‹_› ‹_› ‹_› ‹_›
  ·simp[Value.cells]at hv;subst hv;rfl
def CV.flat:CV->Bool
 | .agg _=>false
 | .tup _=>false
 | _=>true
def OO(f:Value->Option CV):List Value->Option (List CV)
 | []=>some []
 | v::r=>match f v,OO f r with | some a,some b=>some (a::b)|_,_=>none
def yS:Nat->Value->Option CV
 | 0,_=>none
 | n+1,v=>
  match v with
  | .bool b=>some (.bool b)
  | .int k i=>some (.int k i)
  | .string s=>some (.str s.data.toList)
  | .pointer none=>some .nilptr
  | .slice none 0 0=>some (.sl true [])
  | .map none=>some .nilmap
  | .nilFunc=>some .nilfunc
  | .nilIface=>some .nilif
  | .agg cs=>match OO (yS n) cs.toList with | some l=>bif l.all CV.flat then some (.agg l) else none | none=>none
  | .tuple cs=>match OO (yS n) cs.toList with | some l=>some (.tup l)|none=>none
  | _=>none
def Yx:Operand->Option Rand
 | .tmp t=>some (.t t)
 | .const v=>match yS 4 v with | some c=>some (.k c)|none=>none
 | .global g=>some (.g g)
 | .func f=>some (.k (.func f []))
def Gy:List Operand->Option (List Rand)
 | []=>some []
 | x::r=>match Yx x,Gy r with | some a,some b=>some (a::b)|_,_=>none
def jL:Option Operand->Option (Option Rand)
 | none=>some none
 | some x=>match Yx x with | some r=>some (some r)|none=>none
def QZ(p:Program)(t:TypeId):Bool:=match p.underlying t with | some (.struct _)=>true | some (.array _ _)=>true | _=>false
def YO(p:Program)(t:TypeId):Option CV:=match p.info? t with
 | some i=>match i.zero with
  | some v=>match yS 4 v with
   | some (.tup _)=>none
   | some z=>if z.cells.length=i.size then some z else none
   | none=>none
  | none=>none
 | none=>none
def yz(p:Program)(t:TypeId):Bool:=match p.underlying t with | some _=>true | none=>false
def OH(p:Program)(t:TypeId):Bool:=match p.info? t with | some _=>true | none=>false
def Zy(p:Program)(t:TypeId):Nat:=match p.info? t with | some i=>i.size | none=>0
def wc:BinOp->BK
 | .add=>.add | .sub=>.sub | .mul=>.mul | .quo=>.quo | .rem=>.rem | .and=>.and | .or=>.or | .xor=>.xor | .andNot=>.andNot
 | .shl=>.shl | .shr=>.shr | .eql=>.eql | .neq=>.neq | .lss=>.lss | .leq=>.leq | .gtr=>.gtr | .geq=>.geq
def JR(p:Program)(t:TypeId):Option Nat:=match p.underlying t with | some (.int _)=>some 0 | some .string=>some 1 | some .bool=>some 2 | _=>none
def Kx(p:Program):List Field->Option (List (Nat × Nat))
 | []=>some []
 | f::r=>if f.name = "_" then none else match JR p f.type,Kx p r with | some c,some l=>some ((c,f.offset)::l)|_,_=>none
def Kw:POp:=.nilCheck (.k .nilptr)
def VF(places:Nat->Option (Nat × Nat)):List (Nat × Operand)->Option (List (Nat × Nat × Rand))
 | []=>some []
 | (i,x)::r=>match places i,Yx x,VF places r with
  | some (o,n),some a,some b=>some ((o,n,a)::b)
  | _,_,_=>none
def Q2:List (Nat × Operand)->Option (List (Nat × Rand))
 | []=>some []
 | (i,x)::r=>match Yx x,Q2 r with
  | some a,some b=>some ((i,a)::b)
  | _,_=>none
def Ix:TypeDesc->Bool
 | .int _=>true
 | _=>false
def Iw:Operand->Bool
 | .const _=>true
 | _=>false
def WI(p:Program)(ty:TypeId)(ats:Array TypeId)(b:Builtin)(xs:List Operand):Option POp:=
 match b with
 | .len=>match xs with
  | [x]=>match Yx x,(ats[0]?).bind p.underlying with
   | some _,some (.array n _)=>some (.lenK n)
   | some x,some .string=>some (.lenStr x)
   | some x,some (.slice _)=>some (.lenSl x)
   | some x,some (.map _ _)=>some (.lenMap x)
   | _,_=>none
  | _=>none
 | .append=>match xs with
  | [a,b]=>match ats.toList,Yx a,Yx b with
   | [t,u],some a,some b=>match p.underlying t,p.underlying u with
    | some (.slice e),some d=>if Zy p e=0\/Ix d=true\/(YO p e).isNone=true then none else some (.app (QZ p e) e (Zy p e) (p.bytesOf e) a b)
    | _,_=>none
   | _,_,_=>none
  | _=>none
 | .min=>(Gy xs).map (.minmax false)
 | .max=>(Gy xs).map (.minmax true)
 | .unsafeSliceData=>match xs with
  | [x]=>match Yx x,p.underlying ty with
   | some x,some (.pointer _)=>some (.sdata x)
   | _,_=>none
  | _=>none
 | .unsafeString=>match xs with
  | [x,n]=>match ats.toList,Yx x,Yx n with
   | [t,_],some x,some n=>match p.underlying t with
    | some (.pointer e)=>if Zy p e=1 then some (.ustr e x n) else none
    | _=>none
   | _,_,_=>none
  | _=>none
 | .panic=>some Kw
 | _=>none
def VE(v:Operand):Option (List Rand)->Option POp
 | some l=>match v with
  | .func f=>some (.call f l)
  | v=>(Yx v).map (.callv · l)
 | none=>none
def Yi(p:Program)(ty:TypeId):Op->Option POp
 | .move x | .assign x=>(Yx x).map .mov
 | .pick c a b=>match Yx c,Yx a,Yx b with | some c,some a,some b=>some (.pick c a b)|_,_,_=>none
 | .alloc t=>(YO p t).map λ z=>.alloc t z.cells
 | .box t x=>(Yx x).map (.box t)
 | .build t ps=>match p.underlying t,YO p t with
  | some (.struct fs),some z=>if fs.toList.all (λ f=>OH p f.type)=false then none else(VF (λ i=>(fs[i]?).map λ f=>(f.offset,Zy p f.type)) ps.toList).map (.build z.cells)
  | some (.array _ e),some z=>if OH p e=false then none else(VF (λ i=>some (i*Zy p e,Zy p e)) ps.toList).map (.build z.cells)
  | _,_=>none
 | .buildSlice t n ps=>match p.underlying t with
  | some (.slice e)=>match YO p e,Q2 ps.toList with
   | some z,some l=>if n*Zy p e<=65536/\Zy p e ≠ 0 then some (.buildSl (QZ p e) (Zy p e) n z.wk l) else none
   | _,_=>none
  | _=>none
 | .load t a=>if Zy p t=0\/yz p t=false then none else(Yx a).map (.load (QZ p t) (Zy p t))
 | .store t a v=>match Yx a,Yx v with | some a,some v=>if yz p t then some (.store (Zy p t) a v) else none | _,_=>none
 | .nilCheck x=>(Yx x).map .nilCheck
 | .binOp k t x' y' _=>match Yx x',Yx y' with
  | some x,some y=>match p.underlying t with
   | some (.int _)|some .string=>some (.bin (wc k) x y)
   | some .bool=>match k with
    | .eql=>some (.eqb false x y)
    | .neq=>some (.eqb true x y)
    | _=>none
   | some (.pointer e)=>if Zy p e=0 then none else match k with
    | .eql=>some (.eqp false x y)
    | .neq=>some (.eqp true x y)
    | _=>none
   | some (.func _ _ _)=>match k with
    | .eql=>some (.eqf false x y)
    | .neq=>some (.eqf true x y)
    | _=>none
   | some (.interface _)=>if Iw x'||Iw y' then match k with
    | .eql=>some (.eqi false x y)
    | .neq=>some (.eqi true x y)
    | _=>none else none
   | some (.struct fs)=>if p.stoodInHeld t=true\/p.eqGuardType p.depth t=true then none else match k,Kx p fs.toList with
    | .eql,some l=>some (.eqa false l x y)
    | .neq,some l=>some (.eqa true l x y)
    | _,_=>none
   | _=>none
  | _,_=>none
 | .unOp k _ x=>match k with
  | .neg=>(Yx x).map .neg
  | .not=>(Yx x).map .not
  | .xor=>(Yx x).map .compl
  | _=>none
 | .convert s d x=>match p.underlying s,p.underlying d,Yx x with
  | some (.int _),some (.int k),some x=>some (.toInt k x)
  | some .string,some .string,some x=>some (.idc x)
  | some .string,some (.slice e),some x=>match p.underlying e with | some (.int .u8)=>some (.strBytes x)|_=>none
  | some (.slice e),some .string,some x=>match p.underlying e with | some (.int .u8)=>some (.bytesStr x)|_=>none
  | some (.pointer t),some .unsafePointer,some x=>if Zy p t=0 then none else some (.uptr x)
  | some .unsafePointer,some (.pointer u),some x=>if Zy p u=0 then none else some (.uback u x)
  | _,_,_=>none
 | .makeInterface t x=>match p.underlying t with
  | some (.interface _)=>none
  | some _=>(Yx x).map (.iface t)
  | none=>none
 | .makeFunc fn first caps=>match fn,first.toList,Gy caps.toList with
  | .func f,[],some l=>some (.mkFn f l)
  | _,_,_=>none
 | .makeMap t r=>match p.underlying t,r with | some (.map _ _),none=>some .mkMap | _,_=>none
 | .insert t m k v | .mapUpdate t m k v=>match p.underlying t,Yx m,Yx k,Yx v with
  | some (.map kt _),some m,some k,some v=>(JR p kt).map λ c=>.mapSet c m k v
  | _,_,_,_=>none
 | .lookup t m k ok=>match p.underlying t,Yx m,Yx k with
  | some (.map kt e),some m,some k=>match JR p kt,YO p e with | some c,some z=>some (.lookup c z.wk ok m k)|_,_=>none
  | _,_,_=>none
 | .makeSlice t l c=>match p.underlying t,Yx l,Yx c with
  | some (.slice e),some l,some c=>match YO p e with
   | some z=>if Zy p e=0 then none else some (.mkSl (QZ p e) e (Zy p e) (p.bytesOf e) z l c)
   | none=>none
  | _,_,_=>none
 | .slice t x lo hi mx=>match p.underlying t,Yx x,jL lo,jL hi,jL mx with
  | some .string,some x,some lo,some hi,some none=>some (.slStr x lo hi)
  | some (.slice e),some x,some lo,some hi,some none=>if Zy p e=0 then none else some (.slSl (Zy p e) x lo hi none)
  | some (.array n e),some x,some lo,some hi,some none=>if Zy p e=0 then none else some (.slArr n (Zy p e) x lo hi)
  | _,_,_,_,_=>none
 | .fieldAddr t x f=>match p.underlying t,Yx x with
  | some (.struct fs),some x=>match fs[f]? with
   | some g=>if Zy p g.type=0\/yz p g.type=false then none else some (.fldA g.offset x)
   | none=>none
  | _,_=>none
 | .field t x f=>match p.underlying t,Yx x with
  | some (.struct fs),some x=>match fs[f]? with
   | some g=>if Zy p g.type=0\/yz p g.type=false then none else some (.fld (QZ p g.type) g.offset (Zy p g.type) x)
   | none=>none
  | _,_=>none
 | .indexAddr t x i=>match p.underlying t,Yx x,Yx i with
  | some (.slice e),some x,some i=>if Zy p e=0 then none else some (.idxSl (Zy p e) x i)
  | some (.array n e),some x,some i=>if Zy p e=0 then none else some (.idxArr n (Zy p e) x i)
  | _,_,_=>none
 | .index t x i=>match p.underlying t,Yx x,Yx i with
  | some .string,some x,some i=>some (.idxStr x i)
  | some (.array n e),some x,some i=>if Zy p e=0\/yz p e=false then none else some (.idxAgg (QZ p e) n (Zy p e) x i)
  | _,_,_=>none
 | .extract x i=>(Yx x).map (.ext · i)
 | .typeAssert x _ a ok=>match p.underlying a with
  | some (.interface _)=>none
  | some _=>match Yx x,YO p a with | some x,some z=>some (.assert a ok z.wk x)|_,_=>none
  | none=>none
 | .range t x=>match p.underlying t,Yx x with | some (.map _ _),some x=>some (.rangeM x)|_,_=>none
 | .next x false=>(Yx x).map .nextM
 | .entry x=>(Yx x).map .entry
 | .panic _=>some Kw
 | .call c=>match c.callee with
  | .builtin b=>WI p ty c.argTypes b c.args.toList
  | .value v=>VE v (Gy c.args.toList)
  | _=>none
 | _=>none
def yR(ops:Array Oper)(t:Nat):Option Oper:=ops.toList.find? λ o=>o.dst==some t
def j9(ops:Array Oper)(t:Nat):Bool:=match yR ops t with
 | some o=>match o.op with
  | .call c=>match c.callee,c.args.toList with
   | .builtin .append,[_,.tmp u]=>match yR ops u with
    | some b=>match b.op with
     | .buildSlice _ 1 ps=>match ps.toList with
      | [(0,.const (.agg _))]=>ops.toList.any λ x=>match x.op with
       | .indexAddr _ (.tmp v) _=>v==t
       | _=>false
      | _=>false
     | _=>false
    | none=>false
   | _,_=>false
  | _=>false
 | none=>false
def UN(p:Program)(dr:Bool)(ops:Array Oper)(o:Oper):Option (Option Nat × POp):=
 match o.op with
 | .call c=>match c.callee,c.args.toList,o.dst with
  | .builtin .append,[a,b],some t=>if j9 ops t then match c.argTypes.toList with
    | [ta,tb]=>match p.underlying ta,p.underlying tb,Yx a,Yx b with
     | some (.slice e),some d,some a,some b=>if Zy p e=0\/Ix d=true\/(YO p e).isNone=true then none else some (o.dst,.appP (QZ p e) e (Zy p e) (p.bytesOf e) a b)
     | _,_,_,_=>none
    | _=>none
   else(Yi p o.type o.op).map (o.dst,·)
  | _,_,_=>(Yi p o.type o.op).map (o.dst,·)
 | .indexAddr t (.tmp v) i=>if j9 ops v then match p.underlying t,Yx i with
   | some (.slice e),some i=>if Zy p e=0 then none else some (o.dst,.idxP (Zy p e) (.t v) i)
   | _,_=>none
  else(Yi p o.type o.op).map (o.dst,·)
 | .store t (.tmp a) v=>match yR ops a with
  | some d=>match d.op with
   | .indexAddr _ (.tmp x) _=>if j9 ops x then match Yx v with
     | some v=>if o.dst=none/\yz p t then some (if dr then(none,.storeF (Zy p t) x a v) else(some x,.storeP (Zy p t) x a v)) else none
     | none=>none
    else(Yi p o.type o.op).map (o.dst,·)
   | _=>(Yi p o.type o.op).map (o.dst,·)
  | none=>(Yi p o.type o.op).map (o.dst,·)
 | _=>(Yi p o.type o.op).map (o.dst,·)
def CT(nt:Nat):Option Nat->Bool
 | none=>true
 | some i=>Nat.ble (i+1) nt
def VZ(p:Program)(nt:Nat)(dr:Bool)(ops:Array Oper)(o:Oper):Option POper:=
 if CT nt o.dst=false then none else
 match UN p dr ops o,o.guard with
 | some (d,q),none=>some ⟨d,q,none⟩
 | some (dd,q),some (j,b)=>if dd=o.dst then match (ops[j]?).bind (·.dst) with
   | some d=>some ⟨dd,q,some (d,b)⟩
   | none=>none
  else none
 | none,_=>none
def VG(p:Program)(nt:Nat)(dr:Bool)(ops:Array Oper):List Oper->Option (List POper)
 | []=>some []
 | o::r=>match VZ p nt dr ops o,VG p nt dr ops r with | some a,some b=>some (a::b)|_,_=>none
def Gz(p:Program)(nt:Nat)(o c:Oper):Option (POper × POper):=
 match o.op,c.op with
 | .buildSlice t n ps,.convert s d (.tmp v)=>
  match o.dst,c.dst,o.guard,c.guard with
  | some i,some j,none,none=>
   match p.underlying t,p.underlying s with
   | some (.slice _),some (.slice e)=>
    match p.underlying e with
    | some (.int .u8)=>
     if s=d/\v=i/\i < nt/\j < nt then
      match Yi p o.type (.buildSlice t n ps) with
      | some pop=>some (⟨some i,pop,none⟩,⟨some j,.mov (.t i),none⟩)
      | none=>none
     else none
    | _=>none
   | _,_=>none
  | _,_,_,_=>none
 | _,_=>none
def Yp(p:Program)(nt:Nat)(ops:Array Oper):List Oper->Option (List POper)
 | []=>some []
 | [o]=>match VZ p nt false ops o with | some a=>some [a]|none=>none
 | o::c::r=>match Gz p nt o c with
  | some (a,b)=>match Yp p nt ops r with | some l=>some (a::b::l)|none=>none
  | none=>match VZ p nt false ops o,Yp p nt ops (c::r) with | some a,some b=>some (a::b)|_,_=>none
def wW:List Nat->List Nat
 | []=>[]
 | a::r=>bif mem a r then wW r else a::wW r
def qK:List Oper->Nat->List (List Nat)->Option (List (List Nat))
 | [],_,acc=>some acc
 | o::r,i,acc=>
  let es:=(o.after.toList.filter λ e=>Region.binds .any e).map (·.on)
  if es.all (λ j=>Nat.ble (j+1) i)=false then none
  else qK r (i+1) (acc++[wW (es++(es.map λ j=>Yv acc j).flatten)])
def V7(x y:POper):Bool:=
 match x.dst with
 | some d=>!(mem d y.tmps)&&!(match y.dst with | some c=>Nat.beq c d | none=>false)
 | none=>true
def apartAll(anc:List (List Nat)):List POper->Nat->Bool
 | [],_=>true
 | x::r,i=>go i x r (i+1)&&apartAll anc r (i+1)
where
 go (i:Nat) (x:POper):List POper->Nat->Bool
  | [],_=>true
  | y::r,j=>(mem i (Yv anc j)||(V7 x y&&V7 y x))&&go i x r (j+1)
def yf(l:List POper)(ops:Array Oper):Option (List (List Nat)):=
 match qK ops.toList 0 [] with
 | some anc=>if apartAll anc l 0 then some anc else none
 | none=>none
def tr(p:Program)(nt:Nat):Code->Option PCode
 | .skip=>some .skip
 | .region _ ops true=>match VG p nt true ops ops.toList with
  | some l=>(yf l ops).map (.dops l)
  | none=>none
 | .region _ ops false=>(Yp p nt ops ops.toList).map .ops
 | .seq a b=>match tr p nt a,tr p nt b with | some a,some b=>some (.seq a b)|_,_=>none
 | .cond c a b=>match Yx c,tr p nt a,tr p nt b with | some c,some a,some b=>some (.cond c a b)|_,_,_=>none
 | .block id b=>(tr p nt b).map (.block id)
 | .loop b=>(tr p nt b).map (.loop none)
 | .exit id=>some (.exit id)
 | .ret=>some .ret
 | .refuse _=>some (.ops [⟨none,Kw,none⟩])
 | _=>none
def Q1(p:Program):List ResultVar->Option (List PRes)
 | []=>some []
 | .tmp t::r=>match Q1 p r with | some l=>some (.t t::l)|none=>none
 | .cell a t::r=>match Q1 p r with | some l=>if yz p t=true/\Zy p t ≠ 0 then some (.cell a (QZ p t) (Zy p t)::l) else none | none=>none
section
structure SlotsRel(G:Gh)(s:Zf)(a:Act)(nt:Nat):Prop where
 size:a.tmps.size=nt
 rd:∀ i,RdX G (a.tmps.getD i undef) (Zm s i)
theorem SlotsRel.mono{G G':Gh}(hG:G.le G'){s:Zf}{a:Act}{nt:Nat}(h:SlotsRel G s a nt):SlotsRel G' s a nt:=
 ⟨h.size,λ i=>(h.rd i).mono hG⟩
theorem XA(i:Nat)(x:X)(s:Zf)(j:Nat):Zm ((i,x)::s) j=if i=j then x else Zm s j:=by
 simp only[Zm];by_cases h:i=j
 ·subst h;simp
 ·rw[if_neg h];have:Nat.beq i j=false:=by
   cases hb:Nat.beq i j with
   | false=>rfl
   | true=>exact absurd (Zd hb) h
  rw[this];rfl
theorem SlotsRel.put{G:Gh}{s:Zf}{a:Act}{nt:Nat}(h:SlotsRel G s a nt){d:Option Nat}(hd:∀ i,d=some i->i < nt){v:Value}{x:X}(hv:RdX G v x) :
  SlotsRel G (Yo s d x) (a.put d v) nt:=by
 cases d with
 | none=>exact h
 | some i=>
  have hi:=hd i rfl
  refine⟨by simp[Act.put,h.size],λ j=>?_⟩
  simp only[Yo,XA,Act.put,Array.getD_eq_getD_getElem?];by_cases e:i=j
  ·subst e;simp[h.size,hi,hv]
  ·rw[if_neg e];have:=h.rd j
   simp only[Array.getD_eq_getD_getElem?]at this
   simpa [Array.getElem?_setIfInBounds_ne e] using this
theorem vq(l:List Nat)(s:Zf)(i:Nat):Zm (ZK l s) i=Zm s i\/Zm (ZK l s) i=.undef:=by
 induction l with
 | nil=>exact .inr rfl
 | cons j r ih=>
  simp only[ZK,List.map_cons,XA];by_cases e:j=i
  ·subst e;rw[if_pos rfl];exact .inl rfl
  ·rw[if_neg e];exact ih
theorem SlotsRel.prune{G:Gh}{s:Zf}{a:Act}{nt:Nat}(h:SlotsRel G s a nt)(l:List Nat):SlotsRel G (ZK l s) a nt:=
 ⟨h.size,λ i=>by rcases vq l s i with e | e<;>rw[e];exact h.rd i;exact .undef _⟩
def GlobOk(e:Env)(G:Gh):Prop:=∀ g cs,e.glob g=some cs->∀ (i:Nat) c,cs[i]?=some c->∃ v,G.prot g i=some v/\RdC G v c
theorem GlobOk.mono{e:Env}{G G':Gh}(hG:G.le G')(h:GlobOk e G):GlobOk e G':=λ g cs hg i c hc=>
 let ⟨v,a,b⟩:=h g cs hg i c hc;⟨v,hG.prot _ _ _ a,b.mono hG⟩
theorem RdC.rptr_of{G:Gh}{b o:Nat}{cs:List CV}(h:∀ (i:Nat) c,cs[i]?=some c->∃ v,G.prot b (o+i)=some v/\RdC G v c) :
  RdC G (.pointer (some ⟨b,o,none⟩)) (.rptr cs):=by
 refine .rptr b o cs (λ i=>(G.prot b (o+i)).getD .nilIface) (λ i c hc=>?_) (λ i c hc=>?_)
 ·obtain⟨v,p,r⟩:=h i c hc;simp[p]
 ·obtain⟨v,p,r⟩:=h i c hc;simpa [p] using r
theorem jJ{G:Gh}{v:Value}{c:CV}(h:RdC G v c)(hf:c.flat=true):v.oneCell'=true:=by
 cases h<;>first|rfl | (simp[CV.flat]at hf)
theorem Gn(G:Gh):∀ (n:Nat) (v:Value) (c:CV),yS n v=some c->RdC G v c
 | 0,_,_,h=>by simp[yS]at h
 | n+1,v,c,h=>by
  have hL:∀ (vs:List Value) (l:List CV),OO (yS n) vs=some l->RdCL G vs l:=by
   intro vs
   induction vs with
   | nil=>intro l h;simp[OO]at h;subst h;exact RdCL.nil G
   | cons v r ih=>
    intro l h;simp only[OO]at h;split at h
    ·rename_i a b ha hb;cases h;exact .cons (Gn G n v a ha) (ih b hb)
    ·cases h
  unfold yS at h;split at h
  ·cases h;exact .bool _
  ·cases h;exact .int _ _
  ·rename_i s;cases h;have:s=⟨s.data.toList.toArray⟩:=by cases s;simp
   rw[this];exact .str _
  ·cases h;exact .nilptr
  ·cases h;exact .slnil none true
  ·cases h;exact .nilmap
  ·cases h;exact .nilfunc
  ·cases h;exact .nilif
  ·rename_i cs;split at h
   ·rename_i l hl;cases hf:l.all CV.flat with
    | false=>simp[hf]at h
    | true=>
     simp[hf]at h;subst h;obtain⟨h1,h2⟩:=hL _ _ hl;have:cs=cs.toList.toArray:=by simp
     rw[this];refine .agg _ _ h1 h2 (λ v hv=>?_)
     obtain⟨i,hi,rfl⟩:=List.mem_iff_getElem.1 hv;have hi':i < l.length:=by omega
     exact jJ (h2 i _ _ (Zb hi) (Zb hi')) (Zz.1 hf _ (Zh hi'))
   ·cases h
  ·rename_i cs;split at h
   ·rename_i l hl;cases h;obtain⟨h1,h2⟩:=hL _ _ hl;have:cs=cs.toList.toArray:=by simp
    rw[this];exact .tup _ _ h1 h2
   ·cases h
  ·cases h
theorem ZC{e:Env}{G:Gh}{s:Zf}{a:Act}{nt:Nat}(hs:SlotsRel G s a nt)(hg:GlobOk e G){x:Operand}{r:Rand}(h:Yx x=some r) :
  RdX G (a.eval x) (ZJ e s r):=by
 cases x with
 | tmp t=>simp[Yx]at h;subst h;exact hs.rd t
 | const v=>
  simp only[Yx]at h;split at h
  ·rename_i c hc;cases h;exact .c _ _ (Gn G 4 v c hc)
  ·cases h
 | global g=>
  simp[Yx]at h;subst h;simp only[ZJ,Act.eval]
  split
  ·rename_i cs hcs;exact .c _ _ (RdC.rptr_of (λ i c hc=>by simpa using hg g cs hcs i c hc))
  ·exact .undef _
 | func f=>simp[Yx]at h;subst h;exact .c _ _ (.func f [] [] rfl (λ i v c hv=>by simp at hv))
theorem Uq{e:Env}{G:Gh}{s:Zf}{a:Act}{nt:Nat}(hs:SlotsRel G s a nt)(hg:GlobOk e G):∀ {xs:List Operand} {rs:List Rand},Gy xs=some rs->
  RdL G (xs.map a.eval) (Xr e s rs)
 | [],rs,h=>by simp[Gy]at h;subst h;exact RdL.nil G
 | x::r,rs,h=>by
  simp only[Gy]at h;split at h
  ·rename_i p q hp hq;cases h;exact .cons (ZC hs hg hp) (Uq hs hg hq)
  ·cases h
theorem RdX.c_inv{G:Gh}{v:Value}{c:CV}(h:RdX G v (.c c)):RdC G v c:=by cases h;assumption
theorem RdX.int_inv{G:Gh}{v:Value}{k:IntKind}{n:Int}(h:RdX G v (.c (.int k n))):v=.int k n:=by cases h.c_inv;rfl
theorem RdX.bool_inv{G:Gh}{v:Value}{b:Bool}(h:RdX G v (.c (.bool b))):v=.bool b:=by cases h.c_inv;rfl
theorem RdX.str_inv{G:Gh}{v:Value}{s:List UInt8}(h:RdX G v (.c (.str s))):v=.string ⟨s.toArray⟩:=by cases h.c_inv;rfl
theorem RdX.tupnil_inv{G:Gh}{v:Value}(h:RdX G v (.c (.tup []))):v=Go.undef:=by
 cases h.c_inv
 case tup vs hl _=>have:=List.eq_nil_of_length_eq_zero hl;subst this;rfl
theorem RdX.nilptr_inv{G:Gh}{v:Value}(h:RdX G v (.c .nilptr)):v=.pointer none:=by cases h.c_inv;rfl
theorem RdX.nilfunc_inv{G:Gh}{v:Value}(h:RdX G v (.c .nilfunc)):v=.nilFunc:=by cases h.c_inv;rfl
theorem RdX.nilif_inv{G:Gh}{v:Value}(h:RdX G v (.c .nilif)):v=.nilIface:=by cases h.c_inv;rfl
theorem RdX.iface_inv{G:Gh}{v:Value}{t:Nat}{c:CV}(h:RdX G v (.c (.iface t c))):∃ u,v=.iface t u/\RdC G u c:=by cases h.c_inv;exact⟨_,rfl,‹_›⟩
theorem RdX.cfunc_inv{G:Gh}{v:Value}{f:Nat}{l:List CV}(h:RdX G v (.c (.func f l))):∃ vs,v=.func (.func f) #[] vs.toArray/\RdCL G vs l:=by
 cases h.c_inv;exact⟨_,rfl,‹_›,‹_›⟩
theorem RdX.func_inv{G:Gh}{v:Value}{f:Nat}{l:List X}(h:RdX G v (.func f l)):∃ vs,v=.func (.func f) #[] vs.toArray/\RdL G vs l:=by
 cases h;exact⟨_,rfl,‹_›,‹_›⟩
theorem RdX.cfunc_inv'{G:Gh}{v:Value}{f:Nat}{l:List CV}(h:RdX G v (.c (.func f l))):∃ vs,v=.func (.func f) #[] vs:=let ⟨_,h,_⟩:=h.cfunc_inv;⟨_,h⟩
theorem RdX.func_inv'{G:Gh}{v:Value}{f:Nat}{l:List X}(h:RdX G v (.func f l)):∃ vs,v=.func (.func f) #[] vs:=let ⟨_,h,_⟩:=h.func_inv;⟨_,h⟩
theorem RdX.ptr_inv{G:Gh}{v:Value}{id off:Nat}(h:RdX G v (.ptr id off)):∃ b,G.loc id=some b/\v=.pointer (some ⟨b,off,none⟩):=by
 cases h;exact⟨_,‹_›,rfl⟩
theorem RdX.rptr_inv{G:Gh}{v:Value}{cs:List CV}(h:RdX G v (.c (.rptr cs))):∃ b o,v=.pointer (some ⟨b,o,none⟩)/\∀ (i:Nat) c,cs[i]?=some c->∃ u,G.prot b (o+i)=some u/\RdC G u c:=by
 cases h.c_inv
 case rptr b o x h h'=>exact⟨b,o,rfl,λ i c hc=>⟨x i,h i c hc,h' i c hc⟩⟩
theorem Y8{G:Gh}{v:Value}{x:X}{n:Nat}(h:RdX G v x)(hn:YA x=some n):∃ k,v=.int k n:=by
 unfold YA at hn;split at hn
 ·rename_i k m;have:=h.int_inv;subst this
  cases hd:decide (0<=m) with
  | false=>simp[hd]at hn
  | true=>
   simp[hd]at hn;subst hn;refine⟨k,?_⟩;rw[Int.toNat_of_nonneg (XD hd)]
 ·cases hn
theorem RdX.cells{G:Gh}{v:Value}{x:X}{cs:List X}(h:RdX G v x)(hc:x.cells=some cs):RdL G v.cells.toList cs/\Ones v.cells.toList:=by
 cases h with
 | undef v=>simp[X.cells]at hc
 | c v cv h=>
  have ht:∀ vs,v ≠ .tuple vs:=by
   rintro vs rfl
   cases h;simp[X.cells]at hc
  have:cs=cv.cells.map X.c:=by
   cases h<;>simp[X.cells]at hc<;>first|exact hc.symm | exact absurd rfl (ht _)
  subst this;obtain⟨a,b⟩:=h.cells ht;exact⟨a.toX,b⟩
 | tup vs cs hl h=>simp[X.cells]at hc
 | agg vs cs' hl h h1=>simp[X.cells]at hc;subst hc;simpa [Value.cells,RdL] using ⟨⟨hl,h⟩,h1⟩
 | ptr=>simp[X.cells]at hc;subst hc;exact⟨.cons (.ptr _ _ _ ‹_›) (.nil _),by intro u hu;simp[Value.cells]at hu;subst hu;rfl⟩
 | own=>simp[X.cells]at hc;subst hc;exact⟨.cons (.own _ _ _ _ _ _ ‹_› ‹_› ‹_› ‹_› ‹_›) (.nil _),by intro u hu;simp[Value.cells]at hu;subst hu;rfl⟩
 | ms=>simp[X.cells]at hc;subst hc;exact⟨.cons (.ms _ _ _ _ _ _ ‹_› ‹_›) (.nil _),by intro u hu;simp[Value.cells]at hu;subst hu;rfl⟩
 | map=>simp[X.cells]at hc;subst hc;exact⟨.cons (.map _ _ ‹_›) (.nil _),by intro u hu;simp[Value.cells]at hu;subst hu;rfl⟩
 | iter=>simp[X.cells]at hc;subst hc;exact⟨.cons (.iter _ _ ‹_›) (.nil _),by intro u hu;simp[Value.cells]at hu;subst hu;rfl⟩
 | sdata=>simp[X.cells]at hc;subst hc;exact⟨.cons (.sdata _ _ _ _ _ ‹_› ‹_› ‹_›) (.nil _),by intro u hu;simp[Value.cells]at hu;subst hu;rfl⟩
 | aptr=>simp[X.cells]at hc;subst hc;exact⟨.cons (.aptr _) (.nil _),by intro u hu;simp[Value.cells]at hu;subst hu;rfl⟩
 | pend=>simp[X.cells]at hc;subst hc;exact⟨.cons (.pend _ _ _ _ _ _ ‹_› ‹_› ‹_› ‹_› ‹_›) (.nil _),by intro u hu;simp[Value.cells]at hu;subst hu;rfl⟩
 | pptr=>simp[X.cells]at hc;subst hc;exact⟨.cons (.pptr _ _ _ _ ‹_›) (.nil _),by intro u hu;simp[Value.cells]at hu;subst hu;rfl⟩
 | func=>simp[X.cells]at hc;subst hc;exact⟨.cons (.func _ _ _ ‹_› ‹_›) (.nil _),by intro u hu;simp[Value.cells]at hu;subst hu;rfl⟩
def OpOk(P:Program)(G:Gh)(h:Mem)(w:World)(q:Sem Next)(x:X)(h':Mem):Prop:=
 ∃ v w' G',(q.run P w=.ok (.value v) w'\/(q.run P w=.ok .skip w'/\v=undef))/\Step G h w G' h' w'/\RdX G' v x
theorem OpOk.same{P:Program}{G:Gh}{h:Mem}{w:World}{q:Sem Next}{x:X}{v:Value}(hi:Inv G h w)(hr:q.run P w=.ok (.value v) w)(hx:RdX G v x):OpOk P G h w q x h:=
 ⟨v,w,G,.inl hr,Y5 hi,hx⟩
section
variable {P:Program} {e:Env} {G:Gh} {h h':Mem} {w:World} {s:Zf} {a:Act} {nt:Nat}
theorem EI(hi:Inv G h w)(hs:SlotsRel G s a nt)(hg:GlobOk e G){c x y:Operand}{rc rx ry:Rand}(hc:Yx c=some rc)(hx:Yx x=some rx)(hy:Yx y=some ry){r:X}
  (hev:(match ZJ e s rc with | .c (.bool true)=>some (ZJ e s rx,h)|.c (.bool false)=>some (ZJ e s ry,h)|_=>none)=some (r,h')) {q:Sem Next}
  (hq:q=(do pure (.value (if <- asBool (a.eval c) then a.eval x else a.eval y)))):OpOk P G h w q r h':=by
 have hcv:=ZC hs hg hc
 split at hev
 ·rename_i hb;rw[hb]at hcv;cases hev;have:=hcv.bool_inv
  exact .same hi (v:=a.eval x) (by rw[hq,this];simp[asBool]) (ZC hs hg hx)
 ·rename_i hb;rw[hb]at hcv;cases hev;have:=hcv.bool_inv
  exact .same hi (v:=a.eval y) (by rw[hq,this];simp[asBool]) (ZC hs hg hy)
 ·cases hev
theorem WZ{t:TypeId}{z:CV}(hz:YO P t=some z):∃ i v,P.info? t=some i/\i.zero=some v/\(∀ G,RdC G v z)/\(∀ vs,v ≠ .tuple vs)/\z.cells.length=i.size/\
  ∀ w,(zeroValue t).run P w=.ok v w:=by
 unfold YO at hz;split at hz
 ·rename_i i hi;split at hz
  ·rename_i v hv;have key:∀ z',yS 4 v=some z'->(∀ l,z' ≠ .tup l)->∀ vs,v ≠ .tuple vs:=by
    rintro z' hz' ht vs rfl
    have:=Gn ⟨λ _ _=>none,λ _=>none,λ _=>none,λ _ _=>none⟩ 4 _ _ hz'
    cases this;exact ht _ rfl
   split at hz
   ·cases hz
   ·rename_i z' hnt hz';by_cases hl:z'.cells.length=i.size
    ·rw[if_pos hl]at hz;cases hz;refine⟨i,v,hi,hv,λ G=>Gn G 4 v z hz',key z hz' (λ l e=>hnt l e),hl,λ w=>?_⟩
     simp[zeroValue,typeInfo,hi,hv]
    ·rw[if_neg hl]at hz;cases hz
   ·cases hz
  ·cases hz
 ·cases hz
theorem Bu(hi:Inv G h w){t:TypeId}{v:Value}{cs:List X}(hc:RdL G v.cells.toList cs)(h1:Ones v.cells.toList){q:Sem Next}
  (hq:q.run P w=.ok (.value (.pointer (some ⟨w.heap.size,0,none⟩))) (w.alloc (.cells v.cells t))):OpOk P G h w q (.ptr h.length 0) (h++[.cells t cs]):=by
 have hn:=hi.new h.length (Nat.le_refl _)
 refine⟨_,_,_,.inl hq,Step.push hi (.cells t cs) (.cells v.cells t) ?_ (by simp[blk,Gh.at_]),.ptr _ _ _ (Wf _ _ _)⟩
 refine⟨w.heap.size,v.cells,(0,0),Wf _ _ _,YH w _,by simpa using hc.1,λ i c hx=>?_,λ o _ _=>by simp,λ o=>?_,?_⟩
 ·have hl:i < v.cells.size:=by
   have:=(Za.1 hx).1
   have:=hc.1;simp at this;omega
  refine⟨v.cells[i],by simp[hl],h1 _ (by simp),?_⟩
  exact(hc.2 i _ c (by simp[hl]) hx).mono (Qu hn.1)
 ·cases hp:G.prot w.heap.size o with
  | none=>simp[Gh.at_,hp]
  | some u=>exact absurd (hi.prot_lt hp) (by omega)
 ·cases hp:G.pmap w.heap.size with
  | none=>simp[Gh.at_,hp]
  | some u=>exact absurd (hi.pmap_lt hp) (by omega)
theorem BN(hi:Inv G h w){t:TypeId}{z:CV}(hz:YO P t=some z){q:Sem Next}(hq:q=(do pure (.value (<- Instr.alloc t true (.tuple #[]))))) :
  OpOk P G h w q (.ptr h.length 0) (h++[.cells t (z.cells.map X.c)]):=by
 obtain⟨i,v,h1,h2,h3,h4,_,h5⟩:=WZ hz;obtain⟨a1,a2⟩:=(h3 G).cells h4;refine Bu hi a1.toX a2 (v:=v) ?_;rw[hq];simp[Instr.alloc,h5,newVar,newRow]
theorem Il(hi:Inv G h w)(hs:SlotsRel G s a nt)(hg:GlobOk e G){t:TypeId}{x:Operand}{r:Rand}(hx:Yx x=some r){cs:List X}(hc:(ZJ e s r).cells=some cs){q:Sem Next}
  (hq:q=(do pure (.value (<- Instr.box t (a.eval x))))):OpOk P G h w q (.ptr h.length 0) (h++[.cells t cs]):=by
 obtain⟨a1,a2⟩:=(ZC hs hg hx).cells hc;refine Bu hi a1 a2 (v:=a.eval x) ?_;rw[hq];simp[Instr.box,newVar,newRow]
end
end
section
section
variable {P:Program} {e:Env} {G:Gh} {h h':Mem} {w:World} {s:Zf} {a:Act} {nt:Nat}
theorem ZR{t:TypeId}{d:TypeDesc}(hd:P.underlying t=some d)(w:World):(underlying t).run P w=.ok d w:=by
 simp[underlying,hd]
theorem Qw{t:TypeId}(ho:yz P t=true)(w:World):(isAgg t).run P w=.ok (QZ P t) w:=by
 unfold yz at ho;split at ho
 ·rename_i d hd;unfold QZ;simp only[isAgg,Sem.run_bind,ZR hd,Result.andThen,hd];cases d<;>simp
 ·cases ho
theorem YU{t:TypeId}(h0:Zy P t ≠ 0)(w:World):(sizeOf t).run P w=.ok (Zy P t) w:=by
 unfold Zy at h0 ⊢
 split
 ·rename_i i hi;simp[sizeOf,typeInfo,hi]
 ·rename_i hi;rw[hi]at h0;exact absurd rfl h0
theorem Xm(b o i:Nat):(⟨b,o,none⟩:Addr).add i=⟨b,o+i,none⟩:=by unfold Addr.add;split<;>simp_all
theorem Kl{t:TypeId}(ho:yz P t=true)(h0:Zy P t ≠ 0){b off:Nat}{vs:List Value}(hl:vs.length=Zy P t)
  (hc:∀ (i:Nat) v,vs[i]?=some v->w.cell? ⟨b,off+i,none⟩=some v) {xs:List X} (hx:RdL G vs xs) (h1:Ones vs) {x:X} (hof:Z7 (QZ P t) xs=some x) :
  ∃ v,(loadVar t ⟨b,off,none⟩).run P w=.ok v w/\RdX G v x:=by
 unfold Z7 at hof;cases ha:QZ P t with
 | true=>
  simp[ha]at hof;subst hof;refine⟨.agg vs.toArray,?_,VB hx h1⟩;have:=run_loadCells_list (P:=P) w ⟨b,off,none⟩ vs (λ j v hv=>by rw[Xm];exact hc j v hv)
  simp[loadVar,Qw ho,ha,YU h0,<- hl,this]
 | false=>
  simp[ha]at hof;split at hof
  ·cases hof;obtain⟨v,us,rfl,hv,hu⟩:=hx.inv_cons;have:=hu.inv_nil;subst this
   refine⟨v,?_,hv⟩;have:=hc 0 v rfl
   simp at this;simp[loadVar,Qw ho,ha,load,Sem.run,this]
  ·cases hof
theorem Xy{id:Nat}{cs:List X}(hm:ZN h id=some cs):∃ t,h[id]?=some (.cells t cs):=by
 unfold ZN at hm;split at hm
 ·cases hm;exact⟨_,‹_›⟩
 ·cases hm
theorem Inv.cellsAt(hi:Inv G h w){id t:Nat}{cs:List X}(hm:h[id]?=some (.cells t cs)){b:Nat}(hb:G.loc id=some b) :
  ∃ (vs:Array Value) (fr:Nat × Nat),w.heap[b]?=some (.cells vs t fr)/\RdL G vs.toList cs/\Ones vs.toList/\free fr 0 vs.size/\(∀ o,G.prot b o=none)/\G.pmap b=none:=by
 obtain⟨b',vs,fr,h1,h2,h3,h4,h5,h6,h7⟩:=hi.ob id _ hm;rw[h1]at hb;cases hb;refine⟨vs,fr,h2,⟨by simpa using h3,λ i v c hv hc=>?_⟩,λ v hv=>?_,h5,h6,h7⟩
 ·obtain⟨u,u1,_,u3⟩:=h4 i c hc;simp at hv;rw[u1]at hv;cases hv;exact u3
 ·obtain⟨i,hi',rfl⟩:=List.mem_iff_getElem.1 hv;simp at hi';obtain⟨u,u1,u2,_⟩:=h4 i cs[i] (by simp[h3 ▸ hi'])
  simp[hi']at u1;rw[<- u1]at u2;simpa using u2
theorem XN{b o:Nat}{vs:Array Value}{t:Nat}{fr:Nat × Nat}(hb:w.heap[b]?=some (.cells vs t fr)):w.cell? ⟨b,o,none⟩=vs[o]?:=by
 rw[XX,hb]
theorem EL(hi:Inv G h w)(hs:SlotsRel G s a nt)(hg:GlobOk e G){t:TypeId}(ho:yz P t=true)(h0:Zy P t ≠ 0){x:Operand}{r:Rand}(hx:Yx x=some r){y:X}
  (hev:evalOp e s h (.load (QZ P t) (Zy P t) r)=some (y,h')) {q:Sem Next} (hq:q=(do pure (.value (<- Instr.loadAt t (a.eval x))))):OpOk P G h w q y h':=by
 have hv:=ZC hs hg hx
 simp only[evalOp]at hev;split at hev
 ·rename_i id off hp;rw[hp]at hv;obtain⟨b,hb,hv⟩:=hv.ptr_inv;split at hev
  ·rename_i cs hm;obtain⟨t',hm⟩:=Xy hm;cases hbl:Nat.ble (off+Zy P t) cs.length with
   | false=>simp[hbl]at hev
   | true=>
    simp only[hbl,cond_true]at hev;have hle:=Zg hbl
    obtain⟨vs,fr,h2,h3,h4,_⟩:=hi.cellsAt hm hb;cases hof:Z7 (QZ P t) ((cs.drop off).take (Zy P t)) with
    | none=>simp[V1,hof]at hev
    | some z=>
     simp[V1,hof]at hev;obtain⟨rfl,rfl⟩:=hev;have hlen:=h3.1
     obtain⟨v,hr,hvx⟩:=Kl (w:=w) ho h0 (b:=b) (off:=off) (vs:=(vs.toList.drop off).take (Zy P t)) (by simp at hlen ⊢;omega) (λ i v hv'=>by
       rw[List.getElem?_take]at hv';split at hv'
       ·rw[List.getElem?_drop]at hv';rw[XN h2];simpa using hv'
       ·cases hv') ((h3.drop off).take _) ((h4.drop off).take _) hof
     exact .same hi (v:=v) (by rw[hq,hv];simp[Instr.loadAt,Instr.sureAddr,hr]) hvx
  ·cases hev
 ·rename_i cs hp;rw[hp]at hv;obtain⟨b,o,hv,hcs⟩:=hv.rptr_inv;cases hbl:Nat.ble (Zy P t) cs.length with
  | false=>simp[hbl]at hev
  | true=>
   simp only[hbl,cond_true]at hev;have hle:=Zg hbl
   cases hof:Z7 (QZ P t) ((cs.take (Zy P t)).map X.c) with
   | none=>simp only[V1,hof]at hev;cases hev
   | some z=>
    simp only[V1,hof]at hev;cases hev
    let vs:List Value:=(List.range (Zy P t)).map λ i=>(G.prot b (o+i)).getD .nilIface
    have hvs:∀ (i:Nat) v,vs[i]?=some v->i < Zy P t/\G.prot b (o+i)=some v/\∀ c,cs[i]?=some c->RdC G v c:=by
     intro i v hv';have hlt:i < Zy P t:=by
      have:=(Za.1 hv').1
      simpa [vs] using this
     obtain⟨u,hu,hr⟩:=hcs i cs[i] (by simp[show i < cs.length by omega])
     simp only[vs,List.getElem?_map,List.getElem?_range hlt,Option.map_some,hu,Option.getD_some,Option.some.injEq]at hv';subst hv';refine⟨hlt,hu,λ c hc=>?_⟩
     rw[Zb (by omega)]at hc;cases hc
     exact hr
    obtain⟨v,hr,hvx⟩:=Kl (G:=G) (w:=w) ho h0 (b:=b) (off:=o) (vs:=vs) (by simp[vs]) (λ i v hv'=>(hi.prot _ _ _ (hvs i v hv').2.1).1)
     (xs:=(cs.take (Zy P t)).map X.c) ⟨by simp[vs];omega,λ i v c hv' hc=>by
      rw[List.getElem?_map,Zc]at hc;obtain⟨d,hd,rfl⟩:=hc;rw[List.getElem?_take]at hd;split at hd
      ·exact .c _ _ ((hvs i v hv').2.2 d hd)
      ·cases hd⟩ (λ v hv'=>by
       obtain⟨i,hi',rfl⟩:=List.mem_iff_getElem.1 hv';exact(hi.prot _ _ _ (hvs i _ (Zb hi')).2.1).2) hof
    exact .same hi (v:=v) (by rw[hq,hv];simp[Instr.loadAt,Instr.sureAddr,hr]) hvx
 ·cases hev
def setArr(vs:Array Value)(o:Nat):List Value->Array Value
 | []=>vs
 | v::r=>setArr (vs.setIfInBounds o v) (o+1) r
theorem U0(us:List Value):∀ (vs:Array Value) (o:Nat),(setArr vs o us).size=vs.size:=by
 induction us with
 | nil=>intros;rfl
 | cons u r ih=>intro vs o;simp[setArr,ih]
theorem JJ(w:World)(b o:Nat)(v:Value)(c:Nat):(w.setCell ⟨b,o,none⟩ v).heap[c]? =
  if c=b then(w.heap[b]?).map (λ | .cells vs t fr=>.cells (vs.setIfInBounds o v) t fr | x=>x) else w.heap[c]?:=by
 unfold World.setCell;simp only[Array.getElem?_modify];by_cases e:b=c
 ·subst e;simp;cases w.heap[b]? with
  | none=>rfl
  | some x=>cases x<;>rfl
 ·rw[if_neg e,if_neg (λ h=>e h.symm)]
theorem WS(b:Nat):∀ (us:List Value) (o:Nat) (w:World) (vs:Array Value) (t:Nat) (fr:Nat × Nat),w.heap[b]?=some (.cells vs t fr)->
  (w.setCells b o us).heap[b]?=some (.cells (setArr vs o us) t fr)/\(∀ c,c ≠ b->(w.setCells b o us).heap[c]?=w.heap[c]?)/\(w.setCells b o us).heap.size=w.heap.size/\
  (w.setCells b o us).os=w.os/\(w.setCells b o us).tape=w.tape/\(w.setCells b o us).output=w.output
 | [],o,w,vs,t,fr,hb=>⟨hb,λ _ _=>rfl,rfl,rfl,rfl,rfl⟩
 | u::r,o,w,vs,t,fr,hb=>by
  have h1:(w.setCell ⟨b,o,none⟩ u).heap[b]?=some (.cells (vs.setIfInBounds o u) t fr):=by
   rw[JJ,if_pos rfl,hb];rfl
  obtain⟨k1,k2,k3,k4,k5,k6⟩:=WS b r (o+1) _ _ t fr h1;refine⟨k1,λ c hc=>?_,?_,k4.trans rfl,k5.trans rfl,k6.trans rfl⟩
  ·rw[World.setCells,k2 c hc,JJ,if_neg hc]
  ·rw[World.setCells,k3];simp
theorem RdL.setAt{G:Gh}:∀ {us:List Value} {xs:List X} {vs:Array Value} {cs:List X} (o:Nat),RdL G us xs->RdL G vs.toList cs->RdL G (setArr vs o us).toList (Pi.setAt cs o xs)
 | us,[],vs,cs,o,hu,h=>by have:=hu.inv_nil;subst this;exact h
 | us,x::xs,vs,cs,o,hu,h=>by
  obtain⟨u,ur,rfl,h1,h2⟩:=hu.inv_cons;refine RdL.setAt (o+1) h2 ⟨by simpa using h.1,λ i v c hv hc=>?_⟩
  rw[List.getElem?_set]at hc;simp only[Array.getElem?_toList,Array.getElem?_setIfInBounds]at hv;by_cases e:o=i
  ·subst e;have hl:=h.1
   simp at hl;simp only[if_true]at hv hc;split at hv
   ·split at hc
    ·cases hv;cases hc;exact h1
    ·cases hc
   ·cases hv
  ·rw[if_neg e]at hv hc;exact h.2 i v c (by simpa using hv) hc
theorem Ones.setArr{us:List Value}:∀ {vs:Array Value} (o:Nat),Ones us->Ones vs.toList->Ones (Pi.setArr vs o us).toList:=by
 induction us with
 | nil=>intro vs o _ h;exact h
 | cons u r ih=>
  intro vs o hu h;refine ih (o+1) (λ v hv=>hu v (by simp[hv])) (λ v hv=>?_)
  obtain⟨i,hi,rfl⟩:=List.mem_iff_getElem.1 hv;simp at hi ⊢;rw[List.getElem_set]
  split
  ·exact hu u (by simp)
  ·exact h _ (by simp)
theorem wH{b o:Nat}{vs:Array Value}{t:Nat}{fr:Nat × Nat}(hb:w.heap[b]?=some (.cells vs t fr))(hf:¬ (fr.1<=o/\o < fr.2)):w.frozen? ⟨b,o,none⟩=false:=by
 unfold World.frozen?;simp only[hb];obtain⟨lo,hi⟩:=fr
 simpa using hf
theorem Step.store(hi:Inv G h w){id t:Nat}{cs:List X}(hm:h[id]?=some (.cells t cs)){b:Nat}(hb:G.loc id=some b){us:List Value}{xs:List X}(hu:RdL G us xs)(h1:Ones us)(o:Nat) :
  Step G h w G (h.set id (.cells t (setAt cs o xs))) (w.setCells b o us):=by
 obtain⟨vs,fr,h2,h3,h4,h5,h6,h7⟩:=hi.cellsAt hm hb;obtain⟨k1,k2,k3,k4,k5,k6⟩:=WS b us o w vs t fr h2;have hid:id < h.length:=(Za.1 hm).1
 have hW:∃ q,h[id]?=some q/\blk G id q=some b:=⟨_,hm,hb⟩
 have hne:∀ c,¬ (∃ q,h[id]?=some q/\blk G id q=some c)->c ≠ b:=λ c hc e=>hc (e ▸ hW)
 refine W7 hi id (.cells t (setAt cs o xs)) (Gh.le.self G) (λ j hj=>by rw[Zx (λ e=>hj e.symm)]) (by simp[hid]) (by simp) (by omega) k4 k5 k6
  (λ c _ hc=>k2 c (hne c hc)) (λ c q v hp=>⟨?_,(hi.prot c q v hp).2⟩) (λ c es hp=>?_) (λ c q v x=>.inl x) (λ c es x=>.inl x) ?_ (λ c hc=>.inl ?_) (λ j hj=>hi.new j (by simpa using hj)) (λ j _ u x=>x)
 ·have:=(hi.prot c q v hp).1
  have hcb:c ≠ b:=by rintro rfl;rw[h6]at hp;cases hp
  rw[XX]at this ⊢;rw[k2 c hcb];exact this
 ·obtain⟨clk,hx⟩:=hi.pmap c es hp;have hcb:c ≠ b:=by rintro rfl;rw[h7]at hp;cases hp
  exact⟨clk,by rw[k2 c hcb];exact hx.1,hx.2⟩
 ·have r1:=RdL.setAt o hu h3
  have r2:=Ones.setArr o h1 h4
  refine⟨b,_,fr,hb,k1,?_,λ i c hc=>?_,?_,h6,h7⟩
  ·have:=r1.1;simpa using this
  ·have hl:i < (setArr vs o us).size:=by
    have:=(Za.1 hc).1
    have:=r1.1;simp at this;omega
   exact⟨(setArr vs o us)[i],by simp[hl],r2 _ (by simp),r1.2 i _ c (by simp[hl]) hc⟩
  ·rw[U0];exact h5
 ·exact⟨_,hm,hc⟩
theorem Bq(hi:Inv G h w)(hs:SlotsRel G s a nt)(hg:GlobOk e G){t:TypeId}(ho:yz P t=true){x v:Operand}{r rv:Rand}(hx:Yx x=some r)(hv:Yx v=some rv){y:X}
  (hev:evalOp e s h (.store (Zy P t) r rv)=some (y,h')) {q:Sem Next} (hq:q=(do Instr.storeAt t (a.eval x) (a.eval v);pure .skip)):OpOk P G h w q y h':=by
 have h1:=ZC hs hg hx
 have h2:=ZC hs hg hv
 simp only[evalOp]at hev;split at hev
 ·rename_i id off us hp hcs;rw[hp]at h1;obtain⟨b,hb,h1⟩:=h1.ptr_inv;obtain⟨r1,r2⟩:=h2.cells hcs;split at hev
  ·rename_i t' cs hm;cases hbl:(Nat.beq us.length (Zy P t)&&Nat.ble (off+Zy P t) cs.length) with
   | false=>simp[hbl]at hev
   | true=>
    simp only[hbl,cond_true,Option.some.injEq,Prod.mk.injEq]at hev;obtain⟨rfl,rfl⟩:=hev;simp only[Bool.and_eq_true]at hbl;have e1:=Zd hbl.1
    have e2:=Zg hbl.2
    obtain⟨vs,fr,k2,k3,k4,k5,k6,k7⟩:=hi.cellsAt hm hb;have hl:=k3.1
    have hlu:=r1.1
    simp at hl hlu;refine⟨undef,_,G,.inr ⟨?_,rfl⟩,Step.store hi hm hb r1 r2 off,.c _ _ (.tup [] [] rfl (λ i v c x=>by simp at x))⟩
    have hst:=run_storeCells_cells (P:=P) b off (a.eval v).cells.toList 0 w (λ j hj=>by
     rw[XN k2];simp at hj;simp;omega) (λ j hj=>wH k2 (k5 _ (by omega) (by simp at hj;omega))) r2
    have hsz:(sizeOf t).run P w=.ok (Zy P t) w:=by
     by_cases h0:Zy P t=0
     ·unfold yz at ho;unfold Zy at h0 ⊢
      split
      ·rename_i i hi;simp[sizeOf,typeInfo,hi]
      ·rename_i hi;simp[Program.underlying,hi]at ho
     ·exact YU h0 w
    rw[hq,h1];simp only[Instr.storeAt,Instr.sureAddr,storeVar,Sem.run_bind,Sem.run_pure,Result.andThen,hsz];rw[if_neg (by simp;omega)]
    simp only[Nat.add_zero]at hst;simp[hst]
  ·cases hev
 ·cases hev
end
end
section
section
variable {P:Program} {e:Env} {G:Gh} {h h':Mem} {w:World} {s:Zf} {a:Act} {nt:Nat}
theorem zG(hi:Inv G h w)(hs:SlotsRel G s a nt)(hg:GlobOk e G){x:Operand}{r:Rand}(hx:Yx x=some r){y:X}
  (hev:evalOp e s h (.nilCheck r)=some (y,h')) (o:Oper) (ho:o.op=.nilCheck x):OpOk P G h w (execOp a.eval o) y h':=by
 have hv:=ZC hs hg hx
 simp only[evalOp]at hev;split at hev
 ·rename_i id off hp;cases hev;rw[hp]at hv;obtain⟨b,hb,h1⟩:=hv.ptr_inv;exact .same hi (v:=a.eval x) (by simp only[execOp,ho,h1];rfl) hv
 ·rename_i cs hp;cases hev;rw[hp]at hv;obtain⟨b,q,h1,_⟩:=hv.rptr_inv;exact .same hi (v:=a.eval x) (by simp only[execOp,ho,h1];rfl) hv
 ·rename_i f l hp;cases hev;rw[hp]at hv;obtain⟨vs,h1⟩:=hv.cfunc_inv'
  exact .same hi (v:=a.eval x) (by simp only[execOp,ho,h1];rfl) hv
 ·rename_i f l hp;cases hev;rw[hp]at hv;obtain⟨vs,h1⟩:=hv.func_inv'
  exact .same hi (v:=a.eval x) (by simp only[execOp,ho,h1];rfl) hv
 ·cases hev
theorem QE{a b:IntKind}(h:WO a b=true):a=b:=by simpa [WO] using h
theorem RdC.wrap(k:IntKind)(n:Int):RdC G (.int k (k.wrap n)) (Zn k n):=.int _ _
theorem zD(k:BinOp)(kd:IntKind)(m n:Int)(t:TypeId){v:CV}(hv:Xe (wc k) kd m n=some v):∃ u,(Go.binOp k t (.int kd m) (.int kd n)).run P w=.ok u w/\RdC G u v:=by
 cases k<;>simp only[wc,Xe]at hv<;>try (cases hv;done)
 case quo=>
  cases hz:(n==0) with
  | true=>simp[hz]at hv
  | false=>
   simp[hz]at hv;subst hv;have:n ≠ 0:=by simpa using hz
   exact⟨_,by simp[Go.binOp,Op.intDiv,this],.wrap _ _⟩
 case rem=>
  cases hz:(n==0) with
  | true=>simp[hz]at hv
  | false=>
   simp[hz]at hv;subst hv;have:n ≠ 0:=by simpa using hz
   exact⟨_,by simp[Go.binOp,Op.intDiv,this],.int _ _⟩
 case add=>cases hv;exact⟨_,by simp[Go.binOp,Op.intArith],.wrap _ _⟩
 case sub=>cases hv;exact⟨_,by simp[Go.binOp,Op.intArith],.wrap _ _⟩
 case mul=>cases hv;exact⟨_,by simp[Go.binOp,Op.intArith],.wrap _ _⟩
 case and=>cases hv;exact⟨_,by simp[Go.binOp,Op.intBits],.wrap _ _⟩
 case or=>cases hv;exact⟨_,by simp[Go.binOp,Op.intBits],.wrap _ _⟩
 case xor=>cases hv;exact⟨_,by simp[Go.binOp,Op.intBits],.wrap _ _⟩
 case andNot=>cases hv;exact⟨_,by simp[Go.binOp,Op.intBits],.wrap _ _⟩
 all_goals (cases hv;exact⟨_,by simp[Go.binOp,Op.intCmp],.bool _⟩)
theorem zC(k:BinOp)(x y:List UInt8)(t:TypeId){v:CV}(hv:VH (wc k) x y=some v):∃ u,(Go.binOp k t (.string ⟨x.toArray⟩) (.string ⟨y.toArray⟩)).run P w=.ok u w/\RdC G u v:=by
 cases k<;>simp only[wc,VH]at hv<;>try (cases hv;done)
 case add=>
  cases hd:decide (x.length+y.length<=4611686018427387904) with
  | false=>simp[hd]at hv
  | true=>
   simp[hd]at hv;subst hv;have hle:=XD hd
   refine⟨.string ⟨(x++y).toArray⟩,?_,.str _⟩;have h1:¬ (((⟨x.toArray⟩:ByteArray).size+(⟨y.toArray⟩:ByteArray).size:Nat):Int) > IntKind.i64.max:=by
    have e1:(⟨x.toArray⟩:ByteArray).size=x.length:=by simp[ByteArray.size]
    have e2:(⟨y.toArray⟩:ByteArray).size=y.length:=by simp[ByteArray.size]
    have e3:IntKind.i64.max=9223372036854775807:=by decide
    rw[e1,e2,e3];omega
   have h2:(⟨x.toArray⟩:ByteArray)++(⟨y.toArray⟩:ByteArray)=⟨(x++y).toArray⟩:=by
    apply ByteArray.ext;simp[ByteArray.data_append]
   show(Op.stringOp .add _ _).run P w=_;unfold Op.stringOp;simp only[if_neg h1,h2];rfl
 all_goals (cases hv;exact⟨_,by simp[Go.binOp,Op.stringOp],.bool _⟩)
theorem YQ{k:BinOp}{t:TypeId}{x y:Operand}{u v:Value}(h1:u ≠ .nilIface\/v ≠ .nilIface)(h2:(∀ l,u ≠ .agg l)\/(∀ l,v ≠ .agg l)):(eqGuard k t x y u v).run P w=.ok () w:=by
 have key:(match u,v with
   | .nilIface,.nilIface=>if ((x matches .const _)||(y matches .const _))=true then(pure ():Sem Unit) else do
     if <- Op.eqGuardIn Op.maxDepth t u v then unsupported (.noEntry "binop/eql: two nil values of an interface type with methods, neither of them the literal nil")
   | .agg _,.agg _=>do
     if !(<- program).eqGuardType (<- program).depth t then return
     if <- Op.eqGuardIn Op.maxDepth t u v then unsupported (.noEntry "binop/eql: two nil values of an interface type with methods, in a part of a struct or an array")
   | _,_=>pure ()).run P w=.ok () w:=by
  split
  ·rcases h1 with h | h<;>exact absurd rfl h
  ·rcases h2 with h | h<;>exact absurd rfl (h _)
  ·rfl
 cases k
 case eql=>exact key
 case neq=>exact key
 all_goals rfl
theorem BJ(hi:Inv G h w)(hs:SlotsRel G s a nt)(hg:GlobOk e G){k:BinOp}{t yt:TypeId}{x y:Operand}{rx ry:Rand}(hx:Yx x=some rx)(hy:Yx y=some ry){z:X}
  (hev:evalOp e s h (.bin (wc k) rx ry)=some (z,h')) (o:Oper) (ho:o.op=.binOp k t x y yt):OpOk P G h w (execOp a.eval o) z h':=by
 have h1:=ZC hs hg hx
 have h2:=ZC hs hg hy
 simp only[evalOp]at hev;cases hb:Pi.binOp (wc k) (ZJ e s rx) (ZJ e s ry) with
 | none=>simp[yy,hb]at hev
 | some v=>
  simp[yy,hb]at hev;obtain⟨rfl,rfl⟩:=hev;have key:∃ u,(eqGuard k t x y (a.eval x) (a.eval y)).run P w=.ok () w/\(Go.binOp k t (a.eval x) (a.eval y)).run P w=.ok u w/\RdC G u v:=by
   unfold Pi.binOp at hb;split at hb
   ·rename_i kd m kd' n e1 e2;rw[e1]at h1;rw[e2]at h2;rw[h1.int_inv,h2.int_inv];have hgd:=YQ (P:=P) (w:=w) (k:=k) (t:=t) (x:=x) (y:=y) (u:=.int kd m) (v:=.int kd' n) (.inl (by simp)) (.inl (by simp))
    by_cases c1:k=.shl
    ·subst c1;simp only[wc,JH]at hb;cases hd:decide (n < 0) with
     | true=>simp[hd]at hb
     | false=>
      have hn:¬ n < 0:=of_decide_eq_false hd
      simp[hd]at hb;subst hb;exact⟨_,hgd,by simp[Go.binOp,Op.shift,hn],.wrap _ _⟩
    ·by_cases c2:k=.shr
     ·subst c2;simp only[wc,JH]at hb;cases hd:decide (n < 0) with
      | true=>simp[hd]at hb
      | false=>
       have hn:¬ n < 0:=of_decide_eq_false hd
       simp[hd]at hb;subst hb;exact⟨_,hgd,by simp[Go.binOp,Op.shift,hn],.int _ _⟩
     ·have hb':(bif WO kd kd' then Xe (wc k) kd m n else none)=some v:=by
       cases k<;>first|exact hb | exact absurd rfl c1 | exact absurd rfl c2
      cases hk:WO kd kd' with
      | false=>simp[hk]at hb'
      | true=>
       have:=QE hk;subst this
       simp only[hk,cond_true]at hb';obtain⟨u,hu,hr⟩:=zD (P:=P) (G:=G) (w:=w) k kd m n t hb';exact⟨u,hgd,hu,hr⟩
   ·rename_i p q e1 e2;rw[e1]at h1;rw[e2]at h2;rw[h1.str_inv,h2.str_inv];have hgd:=YQ (P:=P) (w:=w) (k:=k) (t:=t) (x:=x) (y:=y) (u:=.string ⟨p.toArray⟩) (v:=.string ⟨q.toArray⟩) (.inl (by simp)) (.inl (by simp))
    obtain⟨u,hu,hr⟩:=zC (P:=P) (G:=G) (w:=w) k p q t hb;exact⟨u,hgd,hu,hr⟩
   ·cases hb
  obtain⟨u,g1,g2,g3⟩:=key;exact .same hi (v:=u) (by simp only[execOp,ho,Sem.run_bind,g1,g2,Result.andThen,Sem.run_pure]) (.c _ _ g3)
theorem Vr(hi:Inv G h w){k:BinOp}{t yt:TypeId}{x y:Operand}{b:Bool}{neg:Bool}(hk:k=bif neg then .neq else .eql)
  (hgd:(eqGuard k t x y (a.eval x) (a.eval y)).run P w=.ok () w) (hdis:∀ kk,kk=.eql\/kk=.neq->Go.binOp kk t (a.eval x) (a.eval y)=if kk=.eql then(do pure (.bool (<- Op.equal t (a.eval x) (a.eval y)))) else(do pure (.bool (!(<- Op.equal t (a.eval x) (a.eval y))))))
  (heq:(Op.equal t (a.eval x) (a.eval y)).run P w=.ok b w) (o:Oper) (ho:o.op=.binOp k t x y yt):OpOk P G h w (execOp a.eval o) (.c (.bool (bif neg then !b else b))) h:=by
 cases neg with
 | true=>
  simp at hk;subst hk;refine .same hi (v:=.bool (!b)) ?_ (.c _ _ (.bool _));simp only[execOp,ho,Sem.run_bind,hgd,Result.andThen,hdis .neq (.inr rfl)];simp[heq]
 | false=>
  simp at hk;subst hk;refine .same hi (v:=.bool b) ?_ (.c _ _ (.bool _));simp only[execOp,ho,Sem.run_bind,hgd,Result.andThen,hdis .eql (.inl rfl)];simp[heq]
theorem yN(d:Nat){t el:TypeId}(ht:P.underlying t=some (.pointer el))(q:Option Addr):(Op.equalIn (d+1) t (.pointer none) (.pointer q)).run P w=.ok q.isNone w:=by
 simp only[Op.equalIn,Sem.run_bind,ZR ht,Result.andThen,Sem.run_pure]
theorem uV(d:Nat){t el:TypeId}(ht:P.underlying t=some (.pointer el))(q:Addr):(Op.equalIn (d+1) t (.pointer (some q)) (.pointer none)).run P w=.ok false w:=by
 simp only[Op.equalIn,Sem.run_bind,ZR ht,Result.andThen,Sem.run_pure]
theorem Fq(d:Nat){t el:TypeId}(ht:P.underlying t=some (.pointer el))(h0:Zy P el ≠ 0)(b o q:Nat) :
  (Op.equalIn (d+1) t (.pointer (some ⟨b,o,none⟩)) (.pointer (some ⟨b,q,none⟩))).run P w=.ok (decide (o=q)) w:=by
 simp only[Op.equalIn,Sem.run_bind,ZR ht,Result.andThen,YU h0,ne_eq,h0,not_false_eq_true,if_true,sameAddr,beq_self_eq_true,Sem.run_pure]
 congr 1
 by_cases e:o=q
 ·subst e;simp
 ·simp[e]
theorem BE(hi:Inv G h w)(hs:SlotsRel G s a nt)(hg:GlobOk e G){k:BinOp}{t yt:TypeId}(ht:P.underlying t=some .bool){x y:Operand}{rx ry:Rand}(hx:Yx x=some rx)(hy:Yx y=some ry){z:X}{neg:Bool}
  (hk:k=bif neg then .neq else .eql) (hev:evalOp e s h (.eqb neg rx ry)=some (z,h')) (o:Oper) (ho:o.op=.binOp k t x y yt):OpOk P G h w (execOp a.eval o) z h':=by
 have h1:=ZC hs hg hx
 have h2:=ZC hs hg hy
 simp only[evalOp]at hev;split at hev
 ·rename_i p q e1 e2;rw[e1]at h1;rw[e2]at h2;have v1:=h1.bool_inv
  have v2:=h2.bool_inv
  simp only[VT,Option.some.injEq,Prod.mk.injEq]at hev;obtain⟨rfl,rfl⟩:=hev;refine Vr hi hk (YQ (.inl (by rw[v1];simp)) (.inl (by rw[v1];simp))) (λ kk hkk=>?_) ?_ o ho
  ·rw[v1,v2];rcases hkk with rfl | rfl<;>rfl
  ·rw[v1,v2];exact run_equal_bool w t _ _ ht
 ·cases hev
theorem BB(hi:Inv G h w)(hs:SlotsRel G s a nt)(hg:GlobOk e G){k:BinOp}{t yt el:TypeId}(ht:P.underlying t=some (.pointer el))(h0:Zy P el ≠ 0){x y:Operand}{rx ry:Rand}(hx:Yx x=some rx)(hy:Yx y=some ry){z:X}{neg:Bool}
  (hk:k=bif neg then .neq else .eql) (hev:evalOp e s h (.eqp neg rx ry)=some (z,h')) (o:Oper) (ho:o.op=.binOp k t x y yt):OpOk P G h w (execOp a.eval o) z h':=by
 have h1:=ZC hs hg hx
 have h2:=ZC hs hg hy
 simp only[evalOp,VT]at hev;cases hb:eqP (ZJ e s rx) (ZJ e s ry) with
 | none=>simp[hb]at hev
 | some b=>
  simp only[hb,Option.some.injEq,Prod.mk.injEq]at hev;obtain⟨rfl,rfl⟩:=hev;have key:∃ p q,a.eval x=.pointer p/\a.eval y=.pointer q/\(Op.equal t (.pointer p) (.pointer q)).run P w=.ok b w:=by
   unfold eqP at hb;split at hb
   ·rename_i e1 e2;cases hb;rw[e1]at h1;rw[e2]at h2;exact⟨none,none,h1.nilptr_inv,h2.nilptr_inv,yN 9999 ht none⟩
   ·rename_i e1 e2;cases hb;rw[e1]at h1;rw[e2]at h2;obtain⟨b2,_,v2⟩:=h2.ptr_inv;have v1:=h1.nilptr_inv
    exact⟨_,_,v1,v2,yN 9999 ht _⟩
   ·rename_i e1 e2;cases hb;rw[e1]at h1;rw[e2]at h2;obtain⟨b2,_,v1⟩:=h1.ptr_inv;have v2:=h2.nilptr_inv
    exact⟨_,_,v1,v2,uV 9999 ht _⟩
   ·rename_i e1 e2;cases hb;rw[e1]at h1;rw[e2]at h2;obtain⟨b2,_,v2,_⟩:=h2.rptr_inv;have v1:=h1.nilptr_inv
    exact⟨_,_,v1,v2,yN 9999 ht _⟩
   ·rename_i e1 e2;cases hb;rw[e1]at h1;rw[e2]at h2;obtain⟨b2,_,v1,_⟩:=h1.rptr_inv;have v2:=h2.nilptr_inv
    exact⟨_,_,v1,v2,uV 9999 ht _⟩
   ·rename_i i o1 j q1 e1 e2;rw[e1]at h1;rw[e2]at h2;obtain⟨b1,l1,v1⟩:=h1.ptr_inv;obtain⟨b2,l2,v2⟩:=h2.ptr_inv;cases hij:Nat.beq i j with
    | false=>simp[hij]at hb
    | true=>
     have:=Zd hij;subst this
     rw[l1]at l2;cases l2;simp at hb;refine⟨_,_,v1,v2,?_⟩;refine(Fq 9999 ht h0 b1 o1 q1).trans ?_
     congr 1
     rw[<- hb,Bool.eq_iff_iff,decide_eq_true_iff];constructor
     ·rintro rfl;exact Nat.beq_refl _
     ·exact Zd
   ·cases hb
  obtain⟨p,q,v1,v2,hq⟩:=key;refine Vr hi hk (YQ (.inl (by rw[v1];simp)) (.inl (by rw[v1];simp))) (λ kk hkk=>?_) (by rw[v1,v2];exact hq) o ho
  rw[v1,v2];rcases hkk with rfl | rfl<;>rfl
theorem Ii(hi:Inv G h w)(hs:SlotsRel G s a nt)(hg:GlobOk e G){t:TypeId}{x:Operand}{r:Rand}(hx:Yx x=some r){z:X}
  (hev:evalOp e s h (.neg r)=some (z,h')) (o:Oper) (ho:o.op=.unOp .neg t x):OpOk P G h w (execOp a.eval o) z h':=by
 have hv:=ZC hs hg hx
 simp only[evalOp]at hev;split at hev
 ·rename_i k n hp;rw[hp]at hv;cases hev;exact .same hi (v:=.int k (k.wrap (0 - n))) (by simp only[execOp,ho,hv.int_inv];rfl) (.c _ _ (.int _ _))
 ·cases hev
theorem Ih(hi:Inv G h w)(hs:SlotsRel G s a nt)(hg:GlobOk e G){t:TypeId}{x:Operand}{r:Rand}(hx:Yx x=some r){z:X}
  (hev:evalOp e s h (.not r)=some (z,h')) (o:Oper) (ho:o.op=.unOp .not t x):OpOk P G h w (execOp a.eval o) z h':=by
 have hv:=ZC hs hg hx
 simp only[evalOp]at hev;split at hev
 ·rename_i b hp;rw[hp]at hv;cases hev;exact .same hi (v:=.bool (!b)) (by simp only[execOp,ho,hv.bool_inv];rfl) (.c _ _ (.bool _))
 ·cases hev
theorem BI(hi:Inv G h w)(hs:SlotsRel G s a nt)(hg:GlobOk e G){t:TypeId}{x:Operand}{r:Rand}(hx:Yx x=some r){z:X}
  (hev:evalOp e s h (.compl r)=some (z,h')) (o:Oper) (ho:o.op=.unOp .xor t x):OpOk P G h w (execOp a.eval o) z h':=by
 have hv:=ZC hs hg hx
 simp only[evalOp]at hev;split at hev
 ·rename_i k n hp;rw[hp]at hv;simp only[yy,Xe]at hev;cases hev;refine .same hi (v:=.int k (k.wrap (BitVec.ofInt k.bits (bif k.signed then -1 else k.max) ^^^ BitVec.ofInt k.bits n).toNat)) ?_ (.c _ _ (.int _ _));simp only[execOp,ho,hv.int_inv,Op.unary,Op.intBits];cases k.signed<;>rfl
 ·cases hev
theorem Bp(hi:Inv G h w)(hs:SlotsRel G s a nt)(hg:GlobOk e G){t u:TypeId}{k k':IntKind}(ht:P.underlying t=some (.int k'))(hu:P.underlying u=some (.int k)){x:Operand}{r:Rand}(hx:Yx x=some r){z:X}
  (hev:evalOp e s h (.toInt k r)=some (z,h')) (o:Oper) (ho:o.op=.convert t u x):OpOk P G h w (execOp a.eval o) z h':=by
 have hv:=ZC hs hg hx
 simp only[evalOp]at hev;split at hev
 ·rename_i k'' n hp;rw[hp]at hv;cases hev;refine .same hi (v:=.int k (k.wrap n)) ?_ (.c _ _ (.int _ _));simp only[execOp,ho,hv.int_inv,convert,Sem.run_bind,ZR ht,ZR hu,Result.andThen];rfl
 ·cases hev
theorem Ij(hi:Inv G h w)(hs:SlotsRel G s a nt)(hg:GlobOk e G){t u:TypeId}(ht:P.underlying t=some .string)(hu:P.underlying u=some .string){x:Operand}{r:Rand}(hx:Yx x=some r){z:X}
  (hev:evalOp e s h (.idc r)=some (z,h')) (o:Oper) (ho:o.op=.convert t u x):OpOk P G h w (execOp a.eval o) z h':=by
 have hv:=ZC hs hg hx
 simp only[evalOp]at hev;split at hev
 ·rename_i l hp;rw[hp]at hv;cases hev;refine .same hi (v:=.string ⟨l.toArray⟩) ?_ (.c _ _ (.str _));simp only[execOp,ho,hv.str_inv,convert,Sem.run_bind,ZR ht,ZR hu,Result.andThen];rfl
 ·cases hev
theorem Bv(hi:Inv G h w)(hs:SlotsRel G s a nt)(hg:GlobOk e G){x:Operand}{r:Rand}(hx:Yx x=some r){z:X}
  (hev:evalOp e s h (.mov r)=some (z,h')) (o:Oper) (ho:o.op=.move x\/o.op=.assign x):OpOk P G h w (execOp a.eval o) z h':=by
 have hv:=ZC hs hg hx
 simp only[evalOp]at hev;cases hev;exact .same hi (v:=a.eval x) (by rcases ho with ho | ho<;>(simp only[execOp,ho];rfl)) hv
theorem EO(hi:Inv G h w)(hs:SlotsRel G s a nt)(hg:GlobOk e G){t f:Nat}{fs:Array Field}{g:Field}(ht:P.underlying t=some (.struct fs))(hf:fs[f]?=some g)(h0:Zy P g.type ≠ 0){x:Operand}{r:Rand}(hx:Yx x=some r){z:X}
  (hev:evalOp e s h (.fldA g.offset r)=some (z,h')) (o:Oper) (ho:o.op=.fieldAddr t x f):OpOk P G h w (execOp a.eval o) z h':=by
 have hv:=ZC hs hg hx
 have run:∀ b q,a.eval x=.pointer (some ⟨b,q,none⟩)->(execOp a.eval o).run P w=.ok (.value (.pointer (some ⟨b,q+g.offset,none⟩))) w:=by
  intro b q hq;simp only[execOp,ho,hq,Instr.fieldAt,Sem.run_bind,ZR ht,Result.andThen,hf,Instr.sureAddr,Sem.run_pure,fieldPlace,YU h0];rw[if_neg h0,Xm];rfl
 simp only[evalOp]at hev;split at hev
 ·rename_i id q hp;rw[hp]at hv;cases hev;obtain⟨b,hb,hq⟩:=hv.ptr_inv;exact .same hi (run b q hq) (.ptr _ _ _ hb)
 ·rename_i cs hp;rw[hp]at hv;cases hev;obtain⟨b,q,hq,hcs⟩:=hv.rptr_inv;refine .same hi (run b q hq) (.c _ _ (.rptr_of λ i c hc=>?_))
  rw[List.getElem?_drop]at hc;obtain⟨u,h1,h2⟩:=hcs _ _ hc;exact⟨u,by rw[<- h1];congr 1;omega,h2⟩
 ·cases hev
theorem gP(hi:Inv G h w)(hs:SlotsRel G s a nt)(hg:GlobOk e G){t n el:Nat}(ht:P.underlying t=some (.array n el))(h0:Zy P el ≠ 0){x i:Operand}{r ri:Rand}(hx:Yx x=some r)(hix:Yx i=some ri){z:X}
  (hev:evalOp e s h (.idxArr n (Zy P el) r ri)=some (z,h')) (o:Oper) (ho:o.op=.indexAddr t x i):OpOk P G h w (execOp a.eval o) z h':=by
 have hv:=ZC hs hg hx
 have hj:=ZC hs hg hix
 simp only[evalOp]at hev;split at hev
 ·rename_i k hk;obtain⟨kd,hkv⟩:=Y8 hj hk;cases hlt:Nat.ble (k+1) n with
  | false=>simp[hlt]at hev
  | true=>
   have hlt':=Zg hlt
   simp only[hlt,cond_true]at hev;have run:∀ b q,a.eval x=.pointer (some ⟨b,q,none⟩)->(execOp a.eval o).run P w=.ok (.value (.pointer (some ⟨b,q+k*Zy P el,none⟩))) w:=by
    intro b q hq;simp only[execOp,ho,hq,hkv,Instr.indexAt,asIntOf,Sem.run_bind,Sem.run_pure,ZR ht,Result.andThen,Instr.sureAddr];rw[if_pos ⟨by omega,by omega⟩]
    simp only[Sem.run_bind,YU h0,Result.andThen,Sem.run_pure,Int.toNat_natCast,Xm]
   split at hev
   ·rename_i id q hp;rw[hp]at hv;cases hev;obtain⟨b,hb,hq⟩:=hv.ptr_inv;exact .same hi (run b q hq) (.ptr _ _ _ hb)
   ·rename_i cs hp;rw[hp]at hv;cases hev;obtain⟨b,q,hq,hcs⟩:=hv.rptr_inv;refine .same hi (run b q hq) (.c _ _ (.rptr_of λ i c hc=>?_))
    rw[List.getElem?_drop]at hc;obtain⟨u,h1,h2⟩:=hcs _ _ hc;exact⟨u,by rw[<- h1];congr 1;omega,h2⟩
   ·cases hev
 ·cases hev
end
end
section
section
variable {P:Program} {e:Env} {G:Gh} {h h':Mem} {w:World} {s:Zf} {a:Act} {nt:Nat}
theorem BD(hi:Inv G h w)(hs:SlotsRel G s a nt)(hg:GlobOk e G){k:BinOp}{t yt:TypeId}{ps rs:Array TypeId}{vr:Bool}(ht:P.underlying t=some (.func ps rs vr)){x y:Operand}{rx ry:Rand}(hx:Yx x=some rx)(hy:Yx y=some ry){z:X}{neg:Bool}
  (hk:k=bif neg then .neq else .eql) (hev:evalOp e s h (.eqf neg rx ry)=some (z,h')) (o:Oper) (ho:o.op=.binOp k t x y yt):OpOk P G h w (execOp a.eval o) z h':=by
 have h1:=ZC hs hg hx
 have h2:=ZC hs hg hy
 simp only[evalOp,VT]at hev;cases hb:eqF (ZJ e s rx) (ZJ e s ry) with
 | none=>simp[hb]at hev
 | some b=>
  simp only[hb,Option.some.injEq,Prod.mk.injEq]at hev;obtain⟨rfl,rfl⟩:=hev;have eq1:∀ d,(Op.equalIn (d+1) t .nilFunc .nilFunc).run P w=.ok true w:=λ d=>by simp only[Op.equalIn,Sem.run_bind,ZR ht,Result.andThen,Sem.run_pure]
  have eq2:∀ d f u v,(Op.equalIn (d+1) t .nilFunc (.func f u v)).run P w=.ok false w:=λ d f u v=>by simp only[Op.equalIn,Sem.run_bind,ZR ht,Result.andThen,Sem.run_pure]
  have eq3:∀ d f u v,(Op.equalIn (d+1) t (.func f u v) .nilFunc).run P w=.ok false w:=λ d f u v=>by simp only[Op.equalIn,Sem.run_bind,ZR ht,Result.andThen,Sem.run_pure]
  have key:(Op.equal t (a.eval x) (a.eval y)).run P w=.ok b w/\((a.eval x=.nilFunc\/∃ f u v,a.eval x=.func f u v)/\(a.eval y=.nilFunc\/∃ f u v,a.eval y=.func f u v)):=by
   unfold eqF at hb;split at hb
   ·rename_i e1 e2;cases hb;rw[e1]at h1;rw[e2]at h2;rw[h1.nilfunc_inv,h2.nilfunc_inv];exact⟨eq1 9999,.inl rfl,.inl rfl⟩
   ·rename_i e1 e2;cases hb;rw[e1]at h1;rw[e2]at h2;obtain⟨v,hv⟩:=h2.cfunc_inv'
    rw[h1.nilfunc_inv,hv];exact⟨eq2 9999 _ _ _,.inl rfl,.inr ⟨_,_,_,rfl⟩⟩
   ·rename_i e1 e2;cases hb;rw[e1]at h1;rw[e2]at h2;obtain⟨v,hv⟩:=h1.cfunc_inv'
    rw[h2.nilfunc_inv,hv];exact⟨eq3 9999 _ _ _,.inr ⟨_,_,_,rfl⟩,.inl rfl⟩
   ·rename_i e1 e2;cases hb;rw[e1]at h1;rw[e2]at h2;obtain⟨v,hv⟩:=h2.func_inv'
    rw[h1.nilfunc_inv,hv];exact⟨eq2 9999 _ _ _,.inl rfl,.inr ⟨_,_,_,rfl⟩⟩
   ·rename_i e1 e2;cases hb;rw[e1]at h1;rw[e2]at h2;obtain⟨v,hv⟩:=h1.func_inv'
    rw[h2.nilfunc_inv,hv];exact⟨eq3 9999 _ _ _,.inr ⟨_,_,_,rfl⟩,.inl rfl⟩
   ·cases hb
  obtain⟨hq,c1,c2⟩:=key;refine Vr hi hk (YQ (.inl ?_) (.inl ?_)) (λ kk hkk=>?_) hq o ho
  ·rcases c1 with c | ⟨_,_,_,c⟩<;>rw[c]<;>simp
  ·intro l;rcases c1 with c | ⟨_,_,_,c⟩<;>rw[c]<;>simp
  ·rcases c1 with c | ⟨_,_,_,c⟩<;>rcases c2 with d | ⟨_,_,_,d⟩<;>rw[c,d]<;>rcases hkk with rfl | rfl<;>rfl
theorem K6{k:BinOp}{t:TypeId}{x y:Operand}(h:(Iw x||Iw y)=true):(eqGuard k t x y .nilIface .nilIface).run P w=.ok () w:=by
 cases x<;>cases y<;>simp[Iw]at h<;>cases k<;>simp[eqGuard]
theorem BC(hi:Inv G h w)(hs:SlotsRel G s a nt)(hg:GlobOk e G){k:BinOp}{t yt:TypeId}{ms:Array (String × TypeId)}(ht:P.underlying t=some (.interface ms)){x y:Operand}{rx ry:Rand}(hx:Yx x=some rx)(hy:Yx y=some ry)
  (hkk:(Iw x||Iw y)=true) {z:X} {neg:Bool}
  (hk:k=bif neg then .neq else .eql) (hev:evalOp e s h (.eqi neg rx ry)=some (z,h')) (o:Oper) (ho:o.op=.binOp k t x y yt):OpOk P G h w (execOp a.eval o) z h':=by
 have h1:=ZC hs hg hx
 have h2:=ZC hs hg hy
 simp only[evalOp,VT]at hev;cases hb:eqI (ZJ e s rx) (ZJ e s ry) with
 | none=>simp[hb]at hev
 | some b=>
  simp only[hb,Option.some.injEq,Prod.mk.injEq]at hev;obtain⟨rfl,rfl⟩:=hev;have eq1:∀ d,(Op.equalIn (d+1) t .nilIface .nilIface).run P w=.ok true w:=λ d=>by simp only[Op.equalIn,Sem.run_bind,ZR ht,Result.andThen,Sem.run_pure]
  have eq2:∀ d u v,(Op.equalIn (d+1) t .nilIface (.iface u v)).run P w=.ok false w:=λ d u v=>by simp only[Op.equalIn,Sem.run_bind,ZR ht,Result.andThen,Sem.run_pure]
  have eq3:∀ d u v,(Op.equalIn (d+1) t (.iface u v) .nilIface).run P w=.ok false w:=λ d u v=>by simp only[Op.equalIn,Sem.run_bind,ZR ht,Result.andThen,Sem.run_pure]
  have hgd:∀ u v,u ≠ .nilIface\/v ≠ .nilIface\/(u=.nilIface/\v=.nilIface)->(∀ l,u ≠ .agg l)->(eqGuard k t x y u v).run P w=.ok () w:=by
   intro u v huv hagg;by_cases hn:u=.nilIface/\v=.nilIface
   ·obtain⟨rfl,rfl⟩:=hn;exact K6 hkk
   ·refine YQ ?_ (.inl hagg);by_cases hu:u=.nilIface
    ·exact .inr (λ hv=>hn ⟨hu,hv⟩)
    ·exact .inl hu
  unfold eqI at hb;split at hb
  ·rename_i e1 e2;cases hb;rw[e1]at h1;rw[e2]at h2;obtain⟨v,hv,_⟩:=h2.iface_inv;refine Vr hi hk (hgd _ _ (.inr (.inl (by rw[hv];simp))) (by rw[h1.nilif_inv];simp)) (λ kk hkk=>?_) (by rw[h1.nilif_inv,hv];exact eq2 9999 _ _) o ho
   rw[h1.nilif_inv,hv];rcases hkk with rfl | rfl<;>rfl
  ·rename_i e1 e2;cases hb;rw[e1]at h1;rw[e2]at h2;obtain⟨v,hv,_⟩:=h1.iface_inv;refine Vr hi hk (hgd _ _ (.inl (by rw[hv];simp)) (by rw[hv];simp)) (λ kk hkk=>?_) (by rw[h2.nilif_inv,hv];exact eq3 9999 _ _) o ho
   rw[h2.nilif_inv,hv];rcases hkk with rfl | rfl<;>rfl
  ·rename_i e1 e2;cases hb;rw[e1]at h1;rw[e2]at h2;refine Vr hi hk (hgd _ _ (.inr (.inr ⟨h1.nilif_inv,h2.nilif_inv⟩)) (by rw[h1.nilif_inv];simp)) (λ kk hkk=>?_) (by rw[h1.nilif_inv,h2.nilif_inv];exact eq1 9999) o ho
   rw[h1.nilif_inv,h2.nilif_inv];rcases hkk with rfl | rfl<;>rfl
  ·cases hb
theorem gO(hi:Inv G h w)(hs:SlotsRel G s a nt)(hg:GlobOk e G){t:Nat}(ht:P.underlying t=some .string){x i:Operand}{r ri:Rand}(hx:Yx x=some r)(hix:Yx i=some ri){z:X}
  (hev:evalOp e s h (.idxStr r ri)=some (z,h')) (o:Oper) (ho:o.op=.index t x i):OpOk P G h w (execOp a.eval o) z h':=by
 have hv:=ZC hs hg hx
 have hj:=ZC hs hg hix
 simp only[evalOp]at hev;split at hev
 ·rename_i l k hp hk;rw[hp]at hv;obtain⟨kd,hkv⟩:=Y8 hj hk;split at hev
  ·rename_i b hb;cases hev;have hlt:k < l.length:=(Za.1 hb).1
   have hbe:l[k]=b:=(Za.1 hb).2
   refine .same hi (v:=.int .u8 b.toNat) ?_ (.c _ _ (.int _ _));simp only[execOp,ho,hv.str_inv,hkv,Instr.index,asIntOf,Sem.run_bind,Sem.run_pure,ZR ht,Result.andThen];have:(⟨l.toArray⟩:ByteArray)[(k:Int).toNat]?=some b:=by
    have hk':k < (⟨l.toArray⟩:ByteArray).size:=by simpa [ByteArray.size] using hlt
    rw[Int.toNat_natCast,getElem?_pos (⟨l.toArray⟩:ByteArray) k hk',<- hbe];rfl
   rw[if_pos (by omega),this];rfl
  ·cases hev
 ·cases hev
theorem va(hi:Inv G h w)(hs:SlotsRel G s a nt)(hg:GlobOk e G){i:Nat}{x:Operand}{r:Rand}(hx:Yx x=some r){z:X}
  (hev:evalOp e s h (.ext r i)=some (z,h')) (o:Oper) (ho:o.op=.extract x i):OpOk P G h w (execOp a.eval o) z h':=by
 have hv:=ZC hs hg hx
 simp only[evalOp]at hev;split at hev
 ·rename_i vs hp;rw[hp]at hv;split at hev
  ·rename_i c hc;cases hev;have:∃ us,a.eval x=.tuple us.toArray/\RdCL G us vs:=by
    have hq:=hv.c_inv
    generalize a.eval x=q at hq;cases hq;exact⟨_,rfl,‹_›,‹_›⟩
   obtain⟨us,hu,hl⟩:=this;have hlt:i < us.length:=by have:=(Za.1 hc).1;have:=hl.1;omega
   refine .same hi (v:=us[i]) ?_ (.c _ _ (hl.2 i _ _ (Zb hlt) hc));simp only[execOp,ho,hu,Instr.extract];simp[hlt]
  ·cases hev
 ·rename_i vs hp;rw[hp]at hv;split at hev
  ·rename_i c hc;cases hev;have:∃ us,a.eval x=.tuple us.toArray/\RdL G us vs:=by
    generalize a.eval x=q at hv;cases hv;exact⟨_,rfl,‹_›,‹_›⟩
   obtain⟨us,hu,hl⟩:=this;have hlt:i < us.length:=by have:=(Za.1 hc).1;have:=hl.1;omega
   refine .same hi (v:=us[i]) ?_ (hl.2 i _ _ (Zb hlt) hc);simp only[execOp,ho,hu,Instr.extract];simp[hlt]
  ·cases hev
 ·cases hev
theorem EK(hi:Inv G h w)(hs:SlotsRel G s a nt)(hg:GlobOk e G){f:Nat}{caps:Array Operand}{l:List Rand}(hl:Gy caps.toList=some l){first:Array Operand}(hfst:first.toList=[]){z:X}
  (hev:evalOp e s h (.mkFn f l)=some (z,h')) (o:Oper) (ho:o.op=.makeFunc (.func f) first caps):OpOk P G h w (execOp a.eval o) z h':=by
 have hr:=Uq hs hg hl
 have hf0:first=#[]:=by apply Array.ext';simpa using hfst
 have run:(execOp a.eval o).run P w=.ok (.value (.func (.func f) #[] (caps.toList.map a.eval).toArray)) w:=by
  have hm:Array.map a.eval caps=(caps.toList.map a.eval).toArray:=by apply Array.ext';simp
  simp only[execOp,ho,Instr.makeFunc,hf0,hm];simp
 simp only[evalOp]at hev;split at hev
 ·rename_i cv hc;cases hev;have:=Vj hc
  rw[this]at hr;exact .same hi run (.c _ _ (.func _ _ _ hr.closed.1 hr.closed.2))
 ·cases hev;exact .same hi run (.func _ _ _ hr.1 hr.2)
theorem RdC.wk0{v:Value}{c:CV}(h:RdC G v c):RdC G v c.wk0:=by
 cases h<;>simp only[CV.wk0]
 case slnil=>exact .slnil _ false
 case sl b o cap s full es x hs h h' hf hc=>exact .sl b o cap s false es x hs h h' (by simp) hc
 case agg vs cs hl h h1=>exact .agg vs cs hl h h1
 case tup vs cs hl h=>exact .tup vs cs hl h
 case rptr b o cs x h h'=>exact .rptr b o cs x h h'
 case func f vs caps hl h=>exact .func f vs caps hl h
 case imap b es ks vs hp hk hv h h'=>exact .imap b es ks vs hp hk hv h h'
 case iface t v c h=>exact .iface t v c h
 all_goals constructor
theorem RdC.wk{v:Value}{c:CV}(h:RdC G v c):RdC G v c.wk:=by
 cases h<;>simp only[CV.wk]
 case slnil=>exact .slnil _ false
 case sl b o cap s full es x hs h h' hf hc=>exact .sl b o cap s false es x hs h h' (by simp) hc
 case agg vs cs hl h h1=>
  refine .agg vs _ (by simpa using hl) (λ i v c hv hc=>?_) h1
  rw[List.getElem?_map,Zc]at hc;obtain⟨d,hd,rfl⟩:=hc;exact(h i v d hv hd).wk0
 case tup vs cs hl h=>exact .tup vs cs hl h
 case rptr b o cs x h h'=>exact .rptr b o cs x h h'
 case func f vs caps hl h=>exact .func f vs caps hl h
 case imap b es ks vs hp hk hv h h'=>exact .imap b es ks vs hp hk hv h h'
 case iface t v c h=>exact .iface t v c h
 all_goals constructor
theorem RdX.own_inv{v:Value}{es:List CV}{id ver:Nat}(h:RdX G v (.own es id ver)):∃ o cap t,v=.slice (some ⟨t.b,o,none⟩) es.length cap/\G.tip id ver=some t/\o+es.length*t.s=t.e/\o+cap*t.s<=t.lim/\
  es.length<=cap/\Elems G t.b o t.s es:=by
 cases h;exact⟨_,_,_,rfl,‹_›,‹_›,‹_›,‹_›,‹_›⟩
theorem RdX.wk0{v:Value}{x:X}(h:RdX G v x):RdX G v x.wk0:=by
 unfold X.wk0
 split
 ·exact .c _ _ h.c_inv.wk0
 ·obtain⟨o,cap,t,hv,_,_,_,hc,he⟩:=h.own_inv;rw[hv];exact .c _ _ (Xn he (by simp) hc)
 ·exact h
theorem RdX.wk{v:Value}{x:X}(h:RdX G v x):RdX G v x.wk:=by
 unfold X.wk
 split
 ·exact .c _ _ h.c_inv.wk
 ·obtain⟨o,cap,t,hv,_,_,_,hc,he⟩:=h.own_inv;rw[hv];exact .c _ _ (Xn he (by simp) hc)
 ·rename_i cs;cases h with
  | agg vs _ hl h h1=>
   refine VB ⟨by simpa using hl,λ i v c hv hc=>?_⟩ h1
   rw[List.getElem?_map,Zc]at hc;obtain⟨d,hd,rfl⟩:=hc;exact(h i v d hv hd).wk0
 ·exact h
theorem RdX.closed{v:Value}{x:X}{c:CV}(h:RdX G v x)(hc:x.closed=some c):RdC G v c:=by
 cases x<;>simp[X.closed]at hc
 subst hc;exact h.c_inv
theorem RdX.elem{v:Value}{x:X}{c:CV}(h:RdX G v x)(hc:x.elem=some c):RdC G v c/\∀ vs,c ≠ .tup vs:=by
 unfold X.elem at hc;split at hc
 ·cases hc
 ·rename_i hn;exact⟨h.wk.closed hc,λ vs e=>hn vs (by rw[hc,e])⟩
theorem Bz(hi:Inv G h w)(hs:SlotsRel G s a nt)(hg:GlobOk e G){t:Nat}{d:TypeDesc}(ht:P.underlying t=some d)(hnd:∀ ms,d ≠ .interface ms){x:Operand}{r:Rand}(hx:Yx x=some r){z:X}
  (hev:evalOp e s h (.iface t r)=some (z,h')) (o:Oper) (ho:o.op=.makeInterface t x):OpOk P G h w (execOp a.eval o) z h':=by
 have hv:=ZC hs hg hx
 simp only[evalOp]at hev;split at hev
 ·rename_i c hc;cases hev;refine .same hi (v:=.iface t (a.eval x)) ?_ (.c _ _ (.iface _ _ _ (hv.wk.closed hc)));simp only[execOp,ho,Instr.makeInterface,Sem.run_bind,ZR ht,Result.andThen];cases d<;>first|rfl | exact absurd rfl (hnd _)
 ·cases hev
theorem zA{t:TypeId}(ho:yz P t=true)(h0:Zy P t ≠ 0){vs:List Value}{off:Nat}{xs:List X}(hx:RdL G vs xs)(h1:Ones vs)(hle:off+Zy P t<=xs.length){x:X}
  (hof:Z7 (QZ P t) ((xs.drop off).take (Zy P t))=some x):∃ v,(part t vs.toArray off).run P w=.ok v w/\RdX G v x:=by
 have hl:=hx.1
 unfold Z7 at hof;cases ha:QZ P t with
 | true=>
  simp[ha]at hof;subst hof;refine⟨.agg ((vs.drop off).take (Zy P t)).toArray,?_,VB ((hx.drop off).take _) ((h1.drop off).take _)⟩;simp only[part,Sem.run_bind,Qw ho,ha,Result.andThen,if_true,YU h0,Sem.run_pure]
  congr 2
  apply Array.ext';simp[List.extract_eq_take_drop]
 | false=>
  simp[ha]at hof;split at hof
  ·rename_i y hy;cases hof;have hy':=hy
   have hlen:Zy P t=1:=by
    have:=congrArg List.length hy
    simp at this;omega
   have hlt:off < vs.length:=by omega
   have hxo:xs[off]?=some x:=by
    have:((xs.drop off).take (Zy P t))[0]?=some x:=by rw[hy];rfl
    rw[List.getElem?_take,if_pos (by omega),List.getElem?_drop]at this
    simpa using this
   refine⟨vs[off],?_,hx.2 off _ _ (Zb hlt) hxo⟩;simp only[part,Sem.run_bind,Qw ho,ha,Result.andThen,Bool.false_eq_true,if_false];simp[hlt]
  ·cases hof
theorem RdX.aggCells{v:Value}{x:X}{cs:List X}(h:RdX G v x)(hc:x.aggCells=some cs):∃ vs,v=.agg vs/\RdL G vs.toList cs/\Ones vs.toList:=by
 cases h<;>simp[X.aggCells]at hc
 case c cv h=>
  cases h<;>simp at hc
  case agg vs cs' hl h h1=>subst hc;exact⟨_,rfl,by simpa using RdCL.toX ⟨hl,h⟩,by simpa [Ones] using h1⟩
 case agg vs cs' hl h h1=>subst hc;exact⟨_,rfl,by simpa [RdL] using ⟨hl,h⟩,by simpa [Ones] using h1⟩
theorem Ik(hi:Inv G h w)(hs:SlotsRel G s a nt)(hg:GlobOk e G){t f:Nat}{fs:Array Field}{g:Field}(ht:P.underlying t=some (.struct fs))(hf:fs[f]?=some g)(h0:Zy P g.type ≠ 0)(hok:yz P g.type=true){x:Operand}{r:Rand}(hx:Yx x=some r){z:X}
  (hev:evalOp e s h (.fld (QZ P g.type) g.offset (Zy P g.type) r)=some (z,h')) (o:Oper) (ho:o.op=.field t x f):OpOk P G h w (execOp a.eval o) z h':=by
 simp only[evalOp]at hev;split at hev
 ·rename_i cs hc;obtain⟨vs,hv,r1,r2⟩:=(ZC hs hg hx).aggCells hc;cases hbl:Nat.ble (g.offset+Zy P g.type) cs.length with
  | false=>simp[hbl]at hev
  | true=>
   simp only[hbl,cond_true]at hev;cases hof:Z7 (QZ P g.type) ((cs.drop g.offset).take (Zy P g.type)) with
   | none=>simp[V1,hof]at hev
   | some y=>
    simp[V1,hof]at hev;obtain⟨rfl,rfl⟩:=hev;obtain⟨v,hr,hvx⟩:=zA (w:=w) hok h0 r1 r2 (Zg hbl) hof;refine .same hi (v:=v) ?_ hvx;simp only[execOp,ho,hv,Instr.field,Sem.run_bind,ZR ht,Result.andThen,hf,asAgg,Sem.run_pure];have:(part g.type vs g.offset).run P w=.ok v w:=by simpa using hr
    rw[this]
 ·cases hev
theorem EM(hi:Inv G h w){n:Nat}{z:X}(hev:evalOp e s h (.lenK n)=some (z,h')){q:Sem Next}(hq:q.run P w=.ok (.value (goInt n)) w):OpOk P G h w q z h':=by
 simp only[evalOp]at hev;cases hev;exact .same hi hq (.c _ _ (.int _ _))
theorem Inv.mapAt(hi:Inv G h w){id:Nat}{ks vs:List CV}(hm:h[id]?=some (.map ks vs)){b:Nat}(hb:G.loc id=some b) :
  ∃ (es:Array MapEntry) (clk:Nat),w.heap[b]?=some (.map es clk)/\es.size=ks.length/\es.size=vs.length/\
   (∀ (i:Nat) e k,es[i]?=some e->ks[i]?=some k->RdC G e.key k)/\(∀ (i:Nat) e v,es[i]?=some e->vs[i]?=some v->RdC G e.val v)/\(∀ o,G.prot b o=none)/\G.pmap b=none/\Jc es.toList clk:=by
 obtain⟨b',es,clk,h1,h2,h3,h4,h5,h6,h7,h8⟩:=hi.ob id _ hm;rw[h1]at hb;cases hb;exact⟨es,clk,h2,h3,h4,h5,h6,h7,h8⟩
theorem RdX.map_inv{v:Value}{id:Nat}(h:RdX G v (.map id)):∃ b,G.loc id=some b/\v=.map (some b):=by cases h;exact⟨_,‹_›,rfl⟩
theorem RdX.ms_inv{v:Value}{id off len st:Nat}(h:RdX G v (.ms id off len st)):∃ b cap,G.loc id=some b/\v=.slice (some ⟨b,off,none⟩) len cap/\len<=cap:=by cases h;exact⟨_,_,‹_›,rfl,‹_›⟩
theorem RdX.imap_inv{v:Value}{ks vs:List CV}(h:RdX G v (.c (.imap ks vs))):∃ b es,v=.map (some b)/\G.pmap b=some es/\es.length=ks.length/\es.length=vs.length/\
  (∀ (i:Nat) e k,es[i]?=some e->ks[i]?=some k->RdC G e.key k)/\(∀ (i:Nat) e v,es[i]?=some e->vs[i]?=some v->RdC G e.val v):=by
 cases h.c_inv;exact⟨_,_,rfl,‹_›,‹_›,‹_›,‹_›,‹_›⟩
theorem gM(hi:Inv G h w)(hs:SlotsRel G s a nt)(hg:GlobOk e G){x:Operand}{r:Rand}(hx:Yx x=some r){z:X}(hev:evalOp e s h (.lenStr r)=some (z,h'))
  {argTypes:Array TypeId} {ty t:TypeId} (hat:argTypes[0]?=some t) (hd:P.underlying t=some .string) {q:Sem Next} (hq:q=(do pure (.value (<- Builtin.len_ argTypes ty #[a.eval x])))):OpOk P G h w q z h':=by
 have hv:=ZC hs hg hx
 simp only[evalOp]at hev;split at hev
 ·rename_i l hp;rw[hp]at hv;simp only[qr]at hev;cases hev;refine .same hi (v:=goInt l.length) ?_ (.c _ _ (.int _ _));have:((⟨l.toArray⟩:ByteArray).size:Int)=l.length:=by simp[ByteArray.size]
  rw[hq,hv.str_inv];simp[Builtin.len_,hat,ZR hd,goInt,this]
 ·cases hev
theorem Bx(hi:Inv G h w)(hs:SlotsRel G s a nt)(hg:GlobOk e G){x:Operand}{r:Rand}(hx:Yx x=some r){z:X}(hev:evalOp e s h (.lenSl r)=some (z,h'))
  {argTypes:Array TypeId} {ty t el:TypeId} (hat:argTypes[0]?=some t) (hd:P.underlying t=some (.slice el)) {q:Sem Next} (hq:q=(do pure (.value (<- Builtin.len_ argTypes ty #[a.eval x])))):OpOk P G h w q z h':=by
 have hv:=ZC hs hg hx
 simp only[evalOp]at hev;cases hn:KK (ZJ e s r) with
 | none=>simp[hn,qr]at hev
 | some n=>
  simp only[hn,qr]at hev;cases hev;have key:∃ o c,a.eval x=.slice o n c:=by
   unfold KK at hn;split at hn
   ·rename_i full es hp;cases hn;rw[hp]at hv;rcases hv.c_inv.sl_inv with ⟨⟨a',e1⟩,e2⟩|⟨b,o,cap,st,e1,_⟩
    ·subst e2;exact⟨_,_,e1⟩
    ·exact⟨_,_,e1⟩
   ·rename_i es id ver hp;cases hn;rw[hp]at hv;obtain⟨o,cap,t,e1,_⟩:=hv.own_inv;exact⟨_,_,e1⟩
   ·rename_i id off n' st hp;cases hn;rw[hp]at hv;obtain⟨b,cap,_,e1,_⟩:=hv.ms_inv;exact⟨_,_,e1⟩
   ·rename_i es id ver hp;cases hn;rw[hp]at hv;generalize a.eval x=q at hv;cases hv;exact⟨_,_,rfl⟩
   ·cases hn
  obtain⟨o,c,e1⟩:=key;refine .same hi (v:=goInt n) ?_ (.c _ _ (.int _ _));rw[hq,e1];simp[Builtin.len_,hat,ZR hd,goInt]
theorem gN(hi:Inv G h w)(hs:SlotsRel G s a nt)(hg:GlobOk e G){x:Operand}{r:Rand}(hx:Yx x=some r){z:X}(hev:evalOp e s h (.lenMap r)=some (z,h'))
  {argTypes:Array TypeId} {ty t k el:TypeId} (hat:argTypes[0]?=some t) (hd:P.underlying t=some (.map k el)) {q:Sem Next} (hq:q=(do pure (.value (<- Builtin.len_ argTypes ty #[a.eval x])))):OpOk P G h w q z h':=by
 have hv:=ZC hs hg hx
 simp only[evalOp]at hev;cases hn:vi h (ZJ e s r) with
 | none=>simp[hn,qr]at hev
 | some n=>
  simp only[hn,qr]at hev;cases hev;refine .same hi (v:=goInt n) ?_ (.c _ _ (.int _ _));rw[hq];unfold vi at hn;split at hn
  ·rename_i hp;cases hn;rw[hp]at hv;have e1:a.eval x=.map none:=by
    have hq:=hv.c_inv
    generalize a.eval x=q at hq;cases hq;rfl
   rw[e1];simp[Builtin.len_,hat,ZR hd,goInt]
  ·rename_i ks vs hp;cases hn;rw[hp]at hv;obtain⟨b,es,e1,e2,e3,_⟩:=hv.imap_inv;obtain⟨clk,e4,_⟩:=hi.pmap b es e2;rw[e1];simp[Builtin.len_,hat,ZR hd,goInt,getObj,Sem.run,e4,e3]
  ·rename_i id hp;rw[hp]at hv;obtain⟨b,hb,e1⟩:=hv.map_inv;split at hn
   ·rename_i ks vs hm;cases hn;obtain⟨es,clk,e4,e5,_⟩:=hi.mapAt hm hb;rw[e1];simp[Builtin.len_,hat,ZR hd,goInt,getObj,Sem.run,e4,e5]
   ·cases hn
  ·cases hn
end
end
section
section
variable {P:Program} {e:Env} {G:Gh} {h h':Mem} {w:World} {s:Zf} {a:Act} {nt:Nat}
theorem BA(hi:Inv G h w)(hs:SlotsRel G s a nt)(hg:GlobOk e G){t el:Nat}(ht:P.underlying t=some (.slice el))(h0:Zy P el ≠ 0){x i:Operand}{r ri:Rand}(hx:Yx x=some r)(hix:Yx i=some ri){z:X}
  (hev:evalOp e s h (.idxSl (Zy P el) r ri)=some (z,h')) (o:Oper) (ho:o.op=.indexAddr t x i):OpOk P G h w (execOp a.eval o) z h':=by
 have hv:=ZC hs hg hx
 have hj:=ZC hs hg hix
 simp only[evalOp]at hev;split at hev
 ·rename_i k hk;obtain⟨kd,hkv⟩:=Y8 hj hk;have run:∀ b q n c,a.eval x=.slice (some ⟨b,q,none⟩) n c->k < n->(execOp a.eval o).run P w=.ok (.value (.pointer (some ⟨b,q+k*Zy P el,none⟩))) w:=by
   intro b q n c hq hlt;simp only[execOp,ho,hq,hkv,Instr.indexAt,asIntOf,Sem.run_bind,Sem.run_pure,ZR ht,Result.andThen];rw[if_pos ⟨by omega,by omega⟩]
   simp only[Sem.run_bind,YU h0,Result.andThen,Sem.run_pure,Int.toNat_natCast,Xm]
  have elems:∀ b q st (es:List CV) v,Elems G b q st es->es[k]?=some v->Nat.beq v.cells.length (Zy P el)=true->RdC G (.pointer (some ⟨b,q+k*Zy P el,none⟩)) (.rptr v.cells):=by
   intro b q st es v he hv' hb;have e1:=he.1 k v hv'
   have e2:=Zd hb
   have e3:st=Zy P el:=by omega
   subst e3;refine RdC.rptr_of λ j d hd=>?_
   obtain⟨u,h1,h2⟩:=he.2 k v j d hv' hd;exact⟨u,h1,h2⟩
  split at hev
  ·rename_i full es hp;rw[hp]at hv;split at hev
   ·rename_i v hv';cases hb:Nat.beq v.cells.length (Zy P el) with
    | false=>simp[hb]at hev
    | true=>
     simp only[hb,cond_true]at hev;cases hev;rcases hv.c_inv.sl_inv with ⟨_,e2⟩|⟨b,q,cap,st,e1,he,_⟩
     ·subst e2;simp at hv'
     ·exact .same hi (run b q _ cap e1 (Za.1 hv').1) (.c _ _ (elems b q st es v he hv' hb))
   ·cases hev
  ·rename_i es id ver hp;rw[hp]at hv;split at hev
   ·rename_i v hv';cases hb:Nat.beq v.cells.length (Zy P el) with
    | false=>simp[hb]at hev
    | true=>
     simp only[hb,cond_true]at hev;cases hev;obtain⟨q,cap,t,e1,_,_,_,_,he⟩:=hv.own_inv;exact .same hi (run t.b q _ cap e1 (Za.1 hv').1) (.c _ _ (elems t.b q t.s es v he hv' hb))
   ·cases hev
  ·rename_i id off n st hp;rw[hp]at hv;cases hb:(Nat.ble (k+1) n&&Nat.beq (Zy P el) st) with
   | false=>simp[hb]at hev
   | true=>
    simp only[hb,cond_true]at hev;cases hev;simp only[Bool.and_eq_true]at hb;obtain⟨b,cap,hb',e1,_⟩:=hv.ms_inv;exact .same hi (run b off n cap e1 (Zg hb.1)) (.ptr _ _ _ hb')
  ·cases hev
 ·cases hev
theorem WJ{len cap:Nat}(hcap:len<=cap){lo hi:Option X}{lv hv:Option Value}(hl:∀ x,lo=some x->∃ v,lv=some v/\RdX G v x)(hl0:lo=none->lv=none)
  (hh:∀ x,hi=some x->∃ v,hv=some v/\RdX G v x) (hh0:hi=none->hv=none) {p q:Nat} (hb:Xu len lo hi=some (p,q)) (isSl:Bool) :
  p<=q/\q<=len/\(Instr.sliceBounds isSl len cap lv hv none).run P w=.ok (p,q,cap) w:=by
 unfold Xu at hb;cases hlo:X2 0 lo with
 | none=>simp[hlo]at hb
 | some l=>
  cases hhi:X2 len hi with
  | none=>simp[hlo,hhi]at hb
  | some r=>
   simp only[hlo,hhi]at hb;cases hc:(Nat.ble l r&&Nat.ble r len) with
   | false=>simp[hc]at hb
   | true=>
    simp[hc]at hb;obtain⟨rfl,rfl⟩:=hb;simp only[Bool.and_eq_true]at hc;have c1:=Zg hc.1
    have c2:=Zg hc.2
    refine⟨c1,c2,?_⟩;have e3:∀ code k (n m:Nat),n<=m->(Instr.sliceBound (.int k (n:Int)) m code).run P w=.ok n w:=by
     intro code k n m hn;simp[Instr.sliceBound,asIntOf,hn]
    cases hi with
    | none=>
     simp[X2]at hhi;subst hhi;rw[hh0 rfl];cases lo with
     | none=>simp[X2]at hlo;subst hlo;rw[hl0 rfl];simp[Instr.sliceBounds]
     | some x=>
      obtain⟨v,rfl,hvx⟩:=hl x rfl;obtain⟨k,rfl⟩:=Y8 hvx hlo;simp[Instr.sliceBounds,e3 _ k l len c1]
    | some y=>
     obtain⟨u,rfl,huy⟩:=hh y rfl;obtain⟨k',rfl⟩:=Y8 huy hhi;have e4:=λ code=>e3 code k' r cap (by omega)
     cases lo with
     | none=>simp[X2]at hlo;subst hlo;rw[hl0 rfl];simp[Instr.sliceBounds,e4]
     | some x=>
      obtain⟨v,rfl,hvx⟩:=hl x rfl;obtain⟨k,rfl⟩:=Y8 hvx hlo;simp[Instr.sliceBounds,e4,e3 _ k l r c1]
theorem YY(hs:SlotsRel G s a nt)(hg:GlobOk e G){x:Option Operand}{r:Option Rand}(h:jL x=some r) :
  (∀ y,r.map (ZJ e s)=some y->∃ v,x.map a.eval=some v/\RdX G v y)/\(r.map (ZJ e s)=none->x.map a.eval=none):=by
 cases x with
 | none=>simp[jL]at h;subst h;exact⟨λ y hy=>by simp at hy,λ _=>rfl⟩
 | some x=>
  simp only[jL]at h;split at h
  ·rename_i r' hr;cases h;exact⟨λ y hy=>⟨_,rfl,by simp at hy;subst hy;exact ZC hs hg hr⟩,λ hn=>by simp at hn⟩
  ·cases h
theorem Br(hi:Inv G h w)(hs:SlotsRel G s a nt)(hg:GlobOk e G){t:Nat}(ht:P.underlying t=some .string){x:Operand}{lo hh:Option Operand}{r:Rand}{rlo rhi:Option Rand}(hx:Yx x=some r)(hlo:jL lo=some rlo)(hhi:jL hh=some rhi){z:X}
  (hev:evalOp e s h (.slStr r rlo rhi)=some (z,h')) (o:Oper) (ho:o.op=.slice t x lo hh none):OpOk P G h w (execOp a.eval o) z h':=by
 have hv:=ZC hs hg hx
 simp only[evalOp]at hev;split at hev
 ·rename_i l hp;rw[hp]at hv;split at hev
  ·rename_i p q hb;cases hev;obtain⟨b1,b2,hr⟩:=WJ (P:=P) (G:=G) (w:=w) (Nat.le_refl _) (YY hs hg hlo).1 (YY hs hg hlo).2 (YY hs hg hhi).1 (YY hs hg hhi).2 hb false;refine .same hi (v:=.string ⟨((l.take q).drop p).toArray⟩) ?_ (.c _ _ (.str _));have hsz:(⟨l.toArray⟩:ByteArray).size=l.length:=by simp[ByteArray.size]
   have hext:(⟨l.toArray⟩:ByteArray).extract p q=⟨((l.take q).drop p).toArray⟩:=by
    apply ByteArray.ext;rw[ByteArray.data_extract];apply Array.ext';rw[Array.toList_extract,List.extract_eq_take_drop,List.drop_take]
   simp only[execOp,ho,hv.str_inv,Instr.sliceAt,Instr.slice,Sem.run_bind,ZR ht,Result.andThen,hsz,Option.map_none];simp[hr,hext]
  ·cases hev
 ·cases hev
theorem yn{b o c l st:Nat}:(if c=l then(some ⟨b,o,none⟩:Option Addr) else(some ⟨b,o,none⟩:Option Addr).map (·.add (l*st)))=some ⟨b,if c=l then o else o+l*st,none⟩:=by
 split
 ·rfl
 ·simp[Xm]
theorem Elems.cut{b o st p q:Nat}{es:List CV}(h:Elems G b o st es):Elems G b (o+p*st) st ((es.take q).drop p):=by
 refine⟨λ i c hc=>?_,λ i c j d hc hd=>?_⟩
 ·rw[List.getElem?_drop,List.getElem?_take]at hc;split at hc
  ·exact h.1 _ _ hc
  ·cases hc
 ·rw[List.getElem?_drop,List.getElem?_take]at hc;split at hc
  ·obtain⟨v,h1,h2⟩:=h.2 _ _ _ _ hc hd;exact⟨v,by rw[<- h1];congr 1;rw[Nat.add_mul];omega,h2⟩
  ·cases hc
theorem Elems.nil(b o st:Nat):Elems G b o st []:=⟨λ i c hc=>by simp at hc,λ i c j d hc=>by simp at hc⟩
theorem QH{b o st st':Nat}{es:List CV}(h:Elems G b o st es)(hk:YC st' es=true):es=[]\/st=st':=by
 cases es with
 | nil=>exact .inl rfl
 | cons c r=>
  refine .inr ?_;have e1:=h.1 0 c rfl
  have e2:=Zd (show Nat.beq c.cells.length st'=true from hk)
  omega
theorem Elems.cut'{b o st st' p q c:Nat}{es:List CV}(h:Elems G b o st es)(hk:YC st' es=true)(hc:es.length<=c)(hpq:p<=q)(hq:q<=es.length) :
  Elems G b (if c=p then o else o+p*st') st ((es.take q).drop p):=by
 rcases QH h hk with rfl | rfl
 ·simp;exact Elems.nil _ _ _
 ·by_cases e:c=p
  ·have:(es.take q).drop p=[]:=by
    apply List.eq_nil_of_length_eq_zero;simp;omega
   rw[this];exact Elems.nil _ _ _
  ·rw[if_neg e];exact h.cut
theorem EH(hi:Inv G h w)(hs:SlotsRel G s a nt)(hg:GlobOk e G){t el:Nat}(ht:P.underlying t=some (.slice el))(h0:Zy P el ≠ 0){x:Operand}{lo hh mx:Option Operand}{r:Rand}{rlo rhi rmx:Option Rand}(hx:Yx x=some r)
  (hlo:jL lo=some rlo) (hhi:jL hh=some rhi) (hmx:jL mx=some rmx) {z:X}
  (hev:evalOp e s h (.slSl (Zy P el) r rlo rhi rmx)=some (z,h')) (o:Oper) (ho:o.op=.slice t x lo hh mx) (hmn:rmx=none):OpOk P G h w (execOp a.eval o) z h':=by
 subst hmn;have hmx0:mx=none:=by
  cases mx with
  | none=>rfl
  | some y=>simp[jL]at hmx;split at hmx<;>cases hmx
 subst hmx0;have hv:=ZC hs hg hx
 have run:∀ (b:Option Addr) len cap p q,a.eval x=.slice b len cap->(Instr.sliceBounds true len cap (lo.map a.eval) (hh.map a.eval) none).run P w=.ok (p,q,cap) w->
   (execOp a.eval o).run P w=.ok (.value (.slice (if cap=p then b else b.map (·.add (p*Zy P el))) (q - p) (cap - p))) w:=by
  intro b len cap p q hq hr;simp only[execOp,ho,hq,Instr.sliceAt,Instr.slice,Sem.run_bind,ZR ht,Result.andThen,Option.map_none];simp[hr,YU h0]
 simp only[evalOp]at hev;split at hev
 ·rename_i full es hp;rw[hp]at hv;cases hk:YC (Zy P el) es with
  | false=>simp[hk]at hev
  | true=>
   simp only[hk,Bool.not_true,cond_false]at hev;split at hev
   ·rename_i p q hb;cases hev;rcases hv.c_inv.sl_inv with ⟨⟨a',e1⟩,e2⟩|⟨b,off,cap,st,e1,he,hf,hc⟩
    ·subst e2;obtain⟨b1,b2,hr⟩:=WJ (P:=P) (G:=G) (w:=w) (cap:=0) (Nat.le_refl _) (YY hs hg hlo).1 (YY hs hg hlo).2 (YY hs hg hhi).1 (YY hs hg hhi).2 hb true;simp at b2;subst b2;have:p=0:=by omega
     subst this;refine .same hi (run a' 0 0 0 0 e1 hr) ?_;simp;exact .c _ _ (.slnil _ _)
    ·obtain⟨b1,b2,hr⟩:=WJ (P:=P) (G:=G) (w:=w) hc (YY hs hg hlo).1 (YY hs hg hlo).2 (YY hs hg hhi).1 (YY hs hg hhi).2 hb true;have hl:((es.take q).drop p).length=q - p:=by simp;omega
     have hr2:=run _ _ _ p q e1 hr
     rw[yn,<- hl]at hr2;refine .same hi hr2 (.c _ _ (Xn (he.cut' hk hc b1 b2) (λ hfull=>?_) (by omega)))
     simp only[Bool.and_eq_true]at hfull;have:=hf hfull.1
     have:=Zd hfull.2
     omega
   ·cases hev
 ·rename_i es id ver hp;rw[hp]at hv;cases hk:YC (Zy P el) es with
  | false=>simp[hk]at hev
  | true=>
   simp only[hk,Bool.not_true,cond_false]at hev;split at hev
   ·rename_i p q hb;obtain⟨off,cap,tp,e1,ht1,ht2,ht3,hc,he⟩:=hv.own_inv;obtain⟨b1,b2,hr⟩:=WJ (P:=P) (G:=G) (w:=w) hc (YY hs hg hlo).1 (YY hs hg hlo).2 (YY hs hg hhi).1 (YY hs hg hhi).2 hb true;have hl:((es.take q).drop p).length=q - p:=by simp;omega
    have hr2:=run _ _ _ p q e1 hr
    rw[yn,<- hl]at hr2;cases hbb:(Nat.beq q es.length&&Nat.ble (p+1) q) with
    | false=>
     simp only[hbb,cond_false]at hev;cases hev;exact .same hi hr2 (.c _ _ (Xn (he.cut' hk hc b1 b2) (by simp) (by omega)))
    | true=>
     simp only[hbb,cond_true]at hev;cases hev;simp only[Bool.and_eq_true]at hbb;have c1:=Zd hbb.1
     have c2:=Zg hbb.2
     subst c1;rw[List.take_length]at hr2;have hst:tp.s=Zy P el:=by
      rcases QH he hk with hz | hz
      ·subst hz;simp at c2
      ·exact hz
     rw[if_neg (by omega),<- hst]at hr2
     refine .same hi hr2 (.own (es.drop p) id ver _ _ tp ht1 ?_ ?_ ?_ ?_)
     ·have:es.length=p+(es.drop p).length:=by simp;omega
      rw[this,Nat.add_mul]at ht2;omega
     ·have:cap=p+(cap - p):=by omega
      rw[this,Nat.add_mul]at ht3;omega
     ·simp;omega
     ·have:=he.cut (p:=p) (q:=es.length);rwa [List.take_length]at this
   ·cases hev
 ·rename_i id off n st hp;rw[hp]at hv;split at hev
  ·rename_i p q hb _;cases hst:Nat.beq (Zy P el) st with
   | false=>simp[hst]at hev
   | true=>
    simp only[hst,cond_true]at hev;have:=Zd hst;subst this
    obtain⟨b,cap,hb',e1,hc⟩:=hv.ms_inv;obtain⟨b1,b2,hr⟩:=WJ (P:=P) (G:=G) (w:=w) hc (YY hs hg hlo).1 (YY hs hg hlo).2 (YY hs hg hhi).1 (YY hs hg hhi).2 hb true;have hr2:=run _ _ _ p q e1 hr
    rw[yn]at hr2;cases hpn:Nat.beq p n with
    | true=>
     simp only[hpn,cond_true]at hev;cases hev;have:=Zd hpn;subst this
     have:q - p=0:=by omega
     rw[this]at hr2;exact .same hi hr2 (.c _ _ (Xn (es:=[]) (s:=0) (Elems.nil _ _ _) (by simp) (by simp)))
    | false=>
     simp only[hpn,cond_false]at hev;cases hev;have:p ≠ n:=λ hh=>by rw[hh,Nat.beq_refl]at hpn;cases hpn
     rw[if_neg (by omega)]at hr2
     exact .same hi hr2 (.ms _ _ _ _ _ _ hb' (by omega))
  ·cases hev
 ·cases hev
theorem Bs(hi:Inv G h w)(hs:SlotsRel G s a nt)(hg:GlobOk e G){t el n:Nat}(ht:P.underlying t=some (.array n el))(h0:Zy P el ≠ 0){x:Operand}{lo hh:Option Operand}{r:Rand}{rlo rhi:Option Rand}(hx:Yx x=some r)
  (hlo:jL lo=some rlo) (hhi:jL hh=some rhi) {z:X}
  (hev:evalOp e s h (.slArr n (Zy P el) r rlo rhi)=some (z,h')) (o:Oper) (ho:o.op=.slice t x lo hh none):OpOk P G h w (execOp a.eval o) z h':=by
 have hv:=ZC hs hg hx
 simp only[evalOp]at hev;split at hev
 ·rename_i id off p q hp hb;rw[hp]at hv;obtain⟨b,hb',e1⟩:=hv.ptr_inv;obtain⟨b1,b2,hr⟩:=WJ (P:=P) (G:=G) (w:=w) (Nat.le_refl n) (YY hs hg hlo).1 (YY hs hg hlo).2 (YY hs hg hhi).1 (YY hs hg hhi).2 hb false;have hr2:(execOp a.eval o).run P w=.ok (.value (.slice (some (if n=p then⟨b,off,none⟩ else⟨b,off+p*Zy P el,none⟩)) (q - p) (n - p))) w:=by
   simp only[execOp,ho,e1,Instr.sliceAt,Sem.run_bind,ZR ht,Result.andThen,Option.map_none,Instr.sureAddr,Sem.run_pure];simp[hr,YU h0,Xm]
  cases hpn:Nat.beq p n with
  | true=>
   simp only[hpn,cond_true]at hev;cases hev;have:=Zd hpn;subst this
   have e2:q - p=0:=by omega
   rw[e2,if_pos rfl]at hr2;exact .same hi hr2 (.c _ _ (Xn (es:=[]) (s:=0) (Elems.nil _ _ _) (by simp) (by simp)))
  | false=>
   simp only[hpn,cond_false]at hev;cases hev;have:p ≠ n:=λ hh=>by rw[hh,Nat.beq_refl]at hpn;cases hpn
   rw[if_neg (by omega)]at hr2
   exact .same hi hr2 (.ms _ _ _ _ _ _ hb' (by omega))
 ·cases hev
theorem gQ(hi:Inv G h w)(hs:SlotsRel G s a nt)(hg:GlobOk e G){t n el:Nat}(ht:P.underlying t=some (.array n el))(h0:Zy P el ≠ 0)(hok:yz P el=true){x i:Operand}{r ri:Rand}(hx:Yx x=some r)(hix:Yx i=some ri){z:X}
  (hev:evalOp e s h (.idxAgg (QZ P el) n (Zy P el) r ri)=some (z,h')) (o:Oper) (ho:o.op=.index t x i):OpOk P G h w (execOp a.eval o) z h':=by
 have hv:=ZC hs hg hx
 have hj:=ZC hs hg hix
 simp only[evalOp]at hev;split at hev
 ·rename_i cs k hc hk;obtain⟨kd,hkv⟩:=Y8 hj hk;obtain⟨vs,hv,r1,r2⟩:=hv.aggCells hc;cases hbl:(Nat.ble (k+1) n&&Nat.ble (k*Zy P el+Zy P el) cs.length) with
  | false=>simp[hbl]at hev
  | true=>
   simp only[hbl,cond_true]at hev;simp only[Bool.and_eq_true]at hbl;have c1:=Zg hbl.1
   cases hof:Z7 (QZ P el) ((cs.drop (k*Zy P el)).take (Zy P el)) with
   | none=>simp[V1,hof]at hev
   | some y=>
    simp[V1,hof]at hev;obtain⟨rfl,rfl⟩:=hev;obtain⟨v,hr,hvx⟩:=zA (w:=w) hok h0 r1 r2 (Zg hbl.2) hof;refine .same hi (v:=v) ?_ hvx;have:(part el vs (k*Zy P el)).run P w=.ok v w:=by simpa using hr
    simp only[execOp,ho,hv,hkv,Instr.index,asIntOf,Sem.run_bind,Sem.run_pure,ZR ht,Result.andThen];rw[if_pos ⟨by omega,by omega⟩]
    simp[YU h0,this]
 ·cases hev
end
end
section
theorem Inv.heap_eq{G:Gh}{h:Mem}{w w':World}(hi:Inv G h w)(hw:w'.heap=w.heap):Inv G h w':=by
 have hc:∀ a:Addr,w'.cell? a=w.cell? a:=λ a=>by unfold World.cell?;rw[hw]
 refine⟨λ b o v x=>by rw[hc];exact hi.prot b o v x,λ b es x=>by rw[hw];exact hi.pmap b es x,λ id o ho=>?_,hi.inj,hi.new⟩
 exact(hi.ob id o ho).keep (Gh.le.self G) (λ b _=>by rw[hw]) (λ b _=>⟨λ q x=>x,rfl⟩) (λ u x=>x)
theorem Step.heap_eq{G:Gh}{h:Mem}{w w':World}(hi:Inv G h w)(hw:w'.heap=w.heap)(ho:w'.os=w.os)(ht:w'.tape=w.tape)(hp:w'.output=w.output):Step G h w G h w':=
 ⟨hi.heap_eq hw,Nat.le_refl _,⟨by rw[hw];exact Nat.le_refl _,λ b _ _=>by rw[hw],ho,ht,hp⟩,λ _ _ _ x=>x,λ _ _ x=>x,λ _ _ _ x=>x,λ _ _ _ _ x=>x,λ _ _ _ x=>.inl x,λ _ _ x=>.inl x,λ _ x=>.inl x⟩
def Yw(es:List CV):List CV:=(es.map CV.cells).flatten
def Sized(st:Nat)(es:List CV):Prop:=∀ c∈es,c.cells.length=st
theorem X7(c:CV)(es:List CV):Yw (c::es)=c.cells++Yw es:=rfl
theorem Wv(xs ys:List CV):Yw (xs++ys)=Yw xs++Yw ys:=by simp[Yw]
theorem Yh{st:Nat}:∀ {es:List CV},Sized st es->(Yw es).length=es.length*st
 | [],_=>by simp[Yw]
 | c::r,h=>by
  rw[X7,List.length_append,h c (by simp),Yh (λ d hd=>h d (by simp[hd])),List.length_cons,Nat.add_mul];omega
theorem QL{st:Nat}:∀ {es:List CV},Sized st es->∀ (i j:Nat) c,es[i]?=some c->j < st->(Yw es)[i*st+j]?=c.cells[j]?
 | [],_,i,j,c,hc,_=>by simp at hc
 | d::r,h,0,j,c,hc,hj=>by
  simp at hc;subst hc;rw[X7,Zr (by rw[h d (by simp)];omega)];simp
 | d::r,h,i+1,j,c,hc,hj=>by
  rw[X7,Zp (by rw[h d (by simp),Nat.add_mul];omega),h d (by simp)]
  rw[show(i+1)*st+j - st=i*st+j by rw[Nat.add_mul];omega]
  exact QL (λ e he=>h e (by simp[he])) i j c (by simpa using hc) hj
theorem Elems.sized{G:Gh}{b o st:Nat}{es:List CV}(h:Elems G b o st es):Sized st es:=by
 intro c hc;obtain⟨i,hi,rfl⟩:=List.mem_iff_getElem.1 hc;exact h.1 i _ (Zb hi)
theorem WW{G:Gh}{b o st:Nat}{es:List CV}(hs:Sized st es){vs:List Value}(hv:RdCL G vs (Yw es))(hp:∀ (i:Nat) v,vs[i]?=some v->G.prot b (o+i)=some v):Elems G b o st es:=by
 refine⟨λ i c hc=>hs c (ZI hc),λ i c j d hc hd=>?_⟩
 have hj:j < st:=by
  have:=(Za.1 hd).1
  rw[hs c (ZI hc)]at this;exact this
 have hf:=QL hs i j c hc hj
 rw[hd]at hf;have hl:i*st+j < vs.length:=by
  rw[hv.1];exact(Za.1 hf).1
 exact⟨vs[i*st+j],by rw[<- hp _ _ (Zb hl)];congr 1;omega,hv.2 _ _ _ (Zb hl) hf⟩
theorem Elems.read{G:Gh}{h:Mem}{w:World}(hi:Inv G h w){b o st:Nat}(h0:0 < st){es:List CV}(he:Elems G b o st es) :
  ∃ vs,RdCL G vs (Yw es)/\Ones vs/\vs.length=es.length*st/\∀ (i:Nat) v,vs[i]?=some v->G.prot b (o+i)=some v:=by
 have hl:=Yh he.sized
 have key:∀ i,i < es.length*st->∃ v d,G.prot b (o+i)=some v/\(Yw es)[i]?=some d/\RdC G v d:=by
  intro i hlt;have h1:i / st < es.length:=Nat.div_lt_of_lt_mul (by rw[Nat.mul_comm];exact hlt)
  have h2:i % st < st:=Nat.mod_lt _ h0
  have h3:i / st*st+i % st=i:=Nat.div_add_mod' i st
  have hc:=Zb h1
  have hcl:=he.1 _ _ hc
  have hd:=Zb (show i % st < es[i / st].cells.length by omega)
  obtain⟨v,p1,p2⟩:=he.2 _ _ _ _ hc hd;refine⟨v,_,by rw[<- p1];congr 1;omega,?_,p2⟩
  rw[<- hd,<- QL he.sized _ _ _ hc h2,h3]
 refine⟨(List.range (es.length*st)).map λ i=>(G.prot b (o+i)).getD .nilIface,⟨by simp[hl],λ i v c hv hc=>?_⟩,λ v hv=>?_,by simp,λ i v hv=>?_⟩
 ·have hlt:i < es.length*st:=by have:=(Za.1 hv).1;simpa using this
  obtain⟨u,d,k1,k2,k3⟩:=key i hlt;rw[k2]at hc;cases hc;simp[List.getElem?_range hlt,k1]at hv;subst hv;exact k3
 ·obtain⟨i,hlt,rfl⟩:=List.mem_iff_getElem.1 hv;simp at hlt;obtain⟨u,d,k1,_⟩:=key i hlt;have:=(hi.prot _ _ _ k1).2
  simp[k1,this]
 ·have hlt:i < es.length*st:=by have:=(Za.1 hv).1;simpa using this
  obtain⟨u,d,k1,_⟩:=key i hlt;simp[List.getElem?_range hlt,k1]at hv;subst hv;exact k1
def Gh.tipTo(G:Gh)(id ver:Nat)(t:Tip)(vals:List Value):Gh:=
 { G with
  prot:=λ b o=>if b=t.b/\t.e - vals.length<=o/\o < t.e then vals[o - (t.e - vals.length)]? else G.prot b o
  tip:=λ i v=>if i=id/\v=ver then some t else G.tip i v }
theorem VV{G:Gh}{id ver:Nat}{t:Tip}{vals:List Value}(h1:G.tip id ver=none)(h2:∀ o,t.e - vals.length<=o->G.prot t.b o=none):G.le (G.tipTo id ver t vals):=by
 refine⟨λ b o v x=>?_,λ _ _ x=>x,λ _ _ x=>x,λ i v u x=>?_⟩
 ·simp only[Gh.tipTo]
  split
  ·rename_i hc;obtain⟨rfl,c1,_⟩:=hc;rw[h2 o c1]at x;cases x
  ·exact x
 ·simp only[Gh.tipTo]
  split
  ·rename_i hc;obtain⟨rfl,rfl⟩:=hc;rw[h1]at x;cases x
  ·exact x
theorem XQ(G:Gh)(id ver:Nat)(t:Tip)(vals:List Value):(G.tipTo id ver t vals).tip id ver=some t:=by simp[Gh.tipTo]
theorem Jg(G:Gh)(id ver:Nat)(t:Tip)(vals:List Value)(hl:vals.length<=t.e)(i:Nat)(v:Value)(hv:vals[i]?=some v):(G.tipTo id ver t vals).prot t.b (t.e - vals.length+i)=some v:=by
 have:=(Za.1 hv).1
 show(if t.b=t.b/\t.e - vals.length<=t.e - vals.length+i/\t.e - vals.length+i < t.e then vals[t.e - vals.length+i - (t.e - vals.length)]? else _)=some v;rw[if_pos ⟨rfl,by omega,by omega⟩,<- hv];congr 1;omega
theorem Step.tipTo{G:Gh}{h h':Mem}{w w':World}(hi:Inv G h w)(id ver:Nat)(t:Tip)(el:Nat)(vals:List Value)
  (hh:∀ j,j ≠ id->h'[j]?=h[j]?) (hid:h'[id]?=some (.tip ver t.s el)) (hlen:h.length<=h'.length) (hlt:id < h'.length)
  (htn:G.tip id ver=none) (hver:∀ u,ver < u->G.tip id u=none) (h0:0 < t.s) (hl:vals.length<=t.e)
  (hfree:∀ o,t.e - vals.length<=o->G.prot t.b o=none) (hpm:G.pmap t.b=none)
  (hblk:(∃ o,h[id]?=some o/\blk G id o=some t.b)\/w.heap.size<=t.b)
  (hcells:∀ (i:Nat) v,vals[i]?=some v->w'.cell? ⟨t.b,t.e - vals.length+i,none⟩=some v/\v.oneCell'=true)
  (hB:∃ vs fr,w'.heap[t.b]?=some (.cells vs el fr)/\vs.size=t.lim/\t.e<=t.lim/\froz fr t.e)
  (hsz:w.heap.size<=w'.heap.size) (hos:w'.os=w.os) (htape:w'.tape=w.tape) (hout:w'.output=w.output)
  (hsame:∀ b,b < w.heap.size->b ≠ t.b->w'.heap[b]?=w.heap[b]?)
  (hold:∀ o v,G.prot t.b o=some v->w'.cell? ⟨t.b,o,none⟩=some v):Step G h w (G.tipTo id ver t vals) h' w':=by
 have hle:=VV (G:=G) (id:=id) (ver:=ver) (t:=t) (vals:=vals) htn hfree
 have hsame':∀ b,b < w.heap.size->¬ (∃ o,h[id]?=some o/\blk G id o=some b)->w'.heap[b]?=w.heap[b]?:=by
  intro b hb hn;refine hsame b hb ?_
  rintro rfl
  rcases hblk with y | y
  ·exact hn y
  ·omega
 have hp:∀ b o v,(G.tipTo id ver t vals).prot b o=some v->(b=t.b/\∃ i,vals[i]?=some v/\o=t.e - vals.length+i)\/G.prot b o=some v:=by
  intro b o v x;simp only[Gh.tipTo]at x;split at x
  ·rename_i hc;exact .inl ⟨hc.1,_,x,by omega⟩
  ·exact .inr x
 refine W7 hi id (.tip ver t.s el) hle hh hid hlen hsz hos htape hout hsame' (λ b o v x=>?_) (λ b es x=>?_) (λ b o v x=>?_) (λ b es x=>.inl x) ?_ (λ b x=>?_) (λ j hj=>?_) (λ j hj u x=>?_)
 ·rcases hp b o v x with ⟨rfl,i,hv,rfl⟩|y
  ·exact hcells i v hv
  ·refine⟨?_,(hi.prot b o v y).2⟩;by_cases e:b=t.b
   ·subst e;exact hold o v y
   ·have:=(hi.prot b o v y).1
    rw[XX]at this ⊢;rw[hsame b (hi.prot_lt y) e];exact this
 ·obtain⟨clk,y⟩:=hi.pmap b es x;have e:b ≠ t.b:=by rintro rfl;rw[show(G.tipTo id ver t vals).pmap t.b=G.pmap t.b from rfl,hpm]at x;cases x
  exact⟨clk,by rw[hsame b (XF y.1) e];exact y.1,y.2⟩
 ·rcases hp b o v x with ⟨rfl,_⟩|y
  ·exact .inr hblk
  ·exact .inl y
 ·obtain⟨vs,fr,k1,k2,k3,k4⟩:=hB;refine⟨t,vs,fr,XQ _ _ _ _ _,rfl,h0,k1,k2,k3,k4,λ o ho=>?_,hpm,λ u hu=>?_⟩
  ·simp only[Gh.tipTo];rw[if_neg (by omega)];exact hfree o (by omega)
  ·simp only[Gh.tipTo];rw[if_neg (by omega)];exact hver u hu
 ·simp only[blk,XQ,Option.map_some,Option.some.injEq]at x;subst x;exact hblk
 ·have:=hi.new j (by omega)
  refine⟨this.1,λ u=>?_⟩
  simp only[Gh.tipTo];rw[if_neg (by omega)];exact this.2 u
 ·simp only[Gh.tipTo];rw[if_neg (λ c=>hj c.1)];exact x
section
variable {P:Program} {e:Env} {G:Gh} {h h':Mem} {w:World} {s:Zf} {a:Act} {nt:Nat}
theorem Inv.tipAt(hi:Inv G h w){id ver st el:Nat}(hm:h[id]?=some (.tip ver st el)){t:Tip}(ht:G.tip id ver=some t) :
  ∃ vs fr,t.s=st/\0 < st/\w.heap[t.b]?=some (.cells vs el fr)/\vs.size=t.lim/\t.e<=t.lim/\froz fr t.e/\(∀ o,t.e<=o->G.prot t.b o=none)/\G.pmap t.b=none/\(∀ u,ver < u->G.tip id u=none):=by
 obtain⟨t',vs,fr,h1,h2,h3,h4,h5,h6,h7,h8,h9,h10⟩:=hi.ob id _ hm;rw[h1]at ht;cases ht;exact⟨vs,fr,h2,h3,h4,h5,h6,h7,h8,h9,h10⟩
theorem Ue(hi:Inv G h w){w1:World}(hw1:w1.heap=w.heap)(ho:w1.os=w.os)(htp:w1.tape=w.tape)(hou:w1.output=w.output){st el:Nat}(h0:0 < st){es:List CV}(hs:Sized st es){vs rest:List Value}(hv:RdCL G vs (Yw es))(h1:Ones vs)
  (id ver:Nat) (h':Mem) (hcase:(id=h.length/\ver=0/\h'=h++[.tip 0 st el])\/(∃ v0 s0 e0,h[id]?=some (.tip v0 s0 e0)/\ver=v0+1/\h'=h.set id (.tip ver st el))) (cap:Nat) (hcap:(vs++rest).length=cap*st) (hec:es.length<=cap) :
  Step G h w (G.tipTo id ver ⟨w.heap.size,es.length*st,cap*st,st⟩ vs) h' (w1.alloc (.cells (vs++rest).toArray el))/\
  RdX (G.tipTo id ver ⟨w.heap.size,es.length*st,cap*st,st⟩ vs) (.slice (some ⟨w.heap.size,0,none⟩) es.length cap) (.own es id ver):=by
 have hl:vs.length=es.length*st:=by rw[hv.1,Yh hs]
 have hsz1:w1.heap.size=w.heap.size:=by rw[hw1]
 have hnew:∀ o,G.prot w.heap.size o=none:=λ o=>by
  cases hp:G.prot w.heap.size o with
  | none=>rfl
  | some u=>exact absurd (hi.prot_lt hp) (by omega)
 have hpm:G.pmap w.heap.size=none:=by
  cases hp:G.pmap w.heap.size with
  | none=>rfl
  | some u=>exact absurd (hi.pmap_lt hp) (by omega)
 have hB:(w1.alloc (.cells (vs++rest).toArray el)).heap[w.heap.size]?=some (.cells (vs++rest).toArray el (0,0)):=by
  rw[<- hsz1];exact YH w1 _
 have hcommon:G.tip id ver=none/\(∀ u,ver < u->G.tip id u=none)/\(∀ j,j ≠ id->h'[j]?=h[j]?)/\h'[id]?=some (.tip ver st el)/\h.length<=h'.length/\id < h'.length:=by
  rcases hcase with ⟨rfl,rfl,rfl⟩|⟨v0,s0,e0,hm,rfl,rfl⟩
  ·have hn:=hi.new h.length (Nat.le_refl _)
   refine⟨hn.2 _,λ u _=>hn.2 u,λ j hj=>?_,by simp,by simp,by simp⟩
   rcases Zl j h.length with hl | hl
   ·rw[Zr hl]
   ·rw[Zp hl,List.getElem?_eq_none hl,List.getElem?_eq_none (by simp;omega)]
  ·obtain⟨t,vs',fr,k1,k2,k3,k4,k5,k6,k7,k8,k9,k10⟩:=hi.ob id _ hm;have hid:=(Za.1 hm).1
   exact⟨k10 _ (by omega),λ u hu=>k10 u (by omega),λ j hj=>by rw[Zx (λ e=>hj e.symm)],by simp[hid],by simp,by simpa using hid⟩
 obtain⟨c1,c2,c3,c4,c5,c6⟩:=hcommon;have hle:=VV (G:=G) (id:=id) (ver:=ver) (t:=⟨w.heap.size,es.length*st,cap*st,st⟩) (vals:=vs) c1 (λ o _=>hnew o)
 refine⟨Step.tipTo hi id ver ⟨w.heap.size,es.length*st,cap*st,st⟩ el vs c3 c4 c5 c6 c1 c2 h0 (by simp[hl]) (λ o _=>hnew o) hpm (.inr (Nat.le_refl _)) (λ i v hv'=>?_)
  ⟨_,_,hB,by simpa using hcap,Nat.mul_le_mul_right _ hec,.inl rfl⟩ (by rw[WR,hsz1];omega) ho htp hou (λ b hb hne=>by rw[YD w1 _ (by omega),hw1]) (λ o v x=>by rw[hnew o]at x;cases x),?_⟩
 ·refine⟨?_,h1 v (ZI hv')⟩;have:=(Za.1 hv').1
  rw[XN hB];simp only[List.getElem?_toArray,hl,Nat.sub_self,Nat.zero_add];rw[Zr this];exact hv'
 ·refine .own es id ver 0 cap ⟨w.heap.size,es.length*st,cap*st,st⟩ (XQ _ _ _ _ _) (by simp) (by simp) hec ?_
  refine WW hs (hv.mono hle) (λ i v hv'=>?_)
  have:=Jg G id ver ⟨w.heap.size,es.length*st,cap*st,st⟩ vs (by simp[hl]) i v hv'
  simpa [hl] using this
end
end
section
theorem wF(n:Nat):∀ (k c:Nat),c<=n+(n+768) / 4->Builtin.growBy n k c<=n+(n+768) / 4
 | 0,c,h=>h
 | k+1,c,h=>by
  simp only[Builtin.growBy]
  split
  ·exact h
  ·exact wF n k _ (by omega)
theorem Gb{need old:Nat}(h:old < need):Builtin.nextslicecap need old<=2*need+200:=by
 unfold Builtin.nextslicecap
 split
 ·omega
 ·split
  ·omega
  ·have:=wF need 4 old (by omega);omega
section
variable {P:Program} {e:Env} {G:Gh} {h h':Mem} {w:World} {s:Zf} {a:Act} {nt:Nat}
theorem Jy(st:Nat):∀ (n:Nat) (l:List CV),l.length=n*st->(XG st n l).length=n/\(∀ c∈XG st n l,c.length=st)/\(XG st n l).flatten=l
 | 0,l,hl=>by
  have:l=[]:=List.eq_nil_of_length_eq_zero (by omega)
  subst this;simp[XG]
 | n+1,l,hl=>by
  rw[Nat.add_mul]at hl;obtain⟨h1,h2,h3⟩:=Jy st n (l.drop st) (by simp;omega)
  refine⟨by simp[XG,h1],λ c hc=>?_,by simp[XG,h3]⟩
  simp only[XG,List.mem_cons]at hc;rcases hc with rfl | hc
  ·simp;omega
  ·exact h2 c hc
theorem jF{vs:List Value}{xs:List X}{l:List CV}(h:RdL G vs xs)(hc:closedL xs=some l):RdCL G vs l:=by
 have:=Vj hc;subst this;exact h.closed
theorem KX(l:List UInt8):Yw (l.map Zt)=l.map Zt:=by
 induction l with
 | nil=>rfl
 | cons b r ih=>simp only[List.map_cons,X7,ih];rfl
theorem Ur(hi:Inv G h w){v:Value}{x:X}(hv:RdX G v x){ag:Bool}{st:Nat}(h0:0 < st){ys:List CV}(he:ZO h ag st x=some ys) :
  ∃ vs,Sized st ys/\RdCL G vs (Yw ys)/\Ones vs/\(∀ w',(Builtin.lenOf v).run P w'=.ok ys.length w')/\∀ w':World,w'.heap=w.heap->(Builtin.firstCells st ys.length v).run P w'=.ok vs.toArray w':=by
 have fromElems:∀ b o cap es,Elems G b o st es->v=.slice (some ⟨b,o,none⟩) es.length cap->∃ vs,Sized st es/\RdCL G vs (Yw es)/\Ones vs/\(∀ w',(Builtin.lenOf v).run P w'=.ok es.length w')/\
   ∀ w':World,w'.heap=w.heap->(Builtin.firstCells st es.length v).run P w'=.ok vs.toArray w':=by
  intro b o cap es hel hv;obtain⟨vs,r1,r2,r3,r4⟩:=hel.read hi h0;refine⟨vs,hel.sized,r1,r2,λ w'=>by rw[hv];rfl,λ w' hw'=>?_⟩
  have:=run_loadCells_list (P:=P) w' ⟨b,o,none⟩ vs (λ j u hu=>by
   rw[Xm];have:=((hi.heap_eq hw').prot _ _ _ (r4 j u hu)).1
   exact this)
  rw[hv];simp only[Builtin.firstCells];rw[<- r3];exact this
 have nilCase:(∃ a,v=.slice a 0 0)->ys=[]->∃ vs,Sized st ys/\RdCL G vs (Yw ys)/\Ones vs/\(∀ w',(Builtin.lenOf v).run P w'=.ok ys.length w')/\
   ∀ w':World,w'.heap=w.heap->(Builtin.firstCells st ys.length v).run P w'=.ok vs.toArray w':=by
  rintro⟨a,e1⟩ rfl
  refine⟨[],λ c hc=>by simp at hc,RdCL.nil G,λ u hu=>by simp at hu,λ w'=>by rw[e1];rfl,λ w' _=>?_⟩
  rw[e1];cases a with
  | none=>rfl
  | some a=>
   have:=run_loadCells_list (P:=P) w' a [] (λ j u hu=>by simp at hu)
   simpa [Builtin.firstCells] using this
 unfold ZO at he;split at he
 ·rename_i full es;cases hk:YC st es with
  | false=>simp[hk]at he
  | true=>
   simp[hk]at he;subst he;rcases hv.c_inv.sl_inv with ⟨e1,e2⟩|⟨b,o,cap,st',e1,hel,_⟩
   ·exact nilCase e1 e2
   ·rcases QH hel hk with rfl | rfl
    ·exact fromElems b o cap [] (Elems.nil _ _ _) e1
    ·exact fromElems b o cap es hel e1
 ·rename_i es id ver;cases hk:YC st es with
  | false=>simp[hk]at he
  | true=>
   simp[hk]at he;subst he;obtain⟨o,cap,t,e1,_,_,_,_,hel⟩:=hv.own_inv;rcases QH hel hk with rfl | e2
   ·exact fromElems t.b o cap [] (Elems.nil _ _ _) e1
   ·rw[e2]at hel;exact fromElems t.b o cap es hel e1
 ·rename_i l;cases hk:(ag||!(Nat.beq st 1)) with
  | true=>simp[hk]at he
  | false=>
   simp only[hk,cond_false,Option.some.injEq]at he;subst he;simp only[ZZ,Bool.not_eq_false']at hk;have hst:=Zd hk.2
   subst hst;have hf:=KX l
   have e1:=hv.str_inv
   refine⟨l.map λ b=>.int .u8 b.toNat,?_,?_,?_,λ w'=>?_,λ w' _=>?_⟩
   ·intro c hc;simp only[List.mem_map]at hc;obtain⟨b,_,rfl⟩:=hc;rfl
   ·rw[hf];refine⟨by simp,λ i u c hu hc=>?_⟩
    simp only[List.getElem?_map,Zc]at hu hc;obtain⟨b,hb,rfl⟩:=hu;obtain⟨b',hb',rfl⟩:=hc;rw[hb]at hb';cases hb';exact .int _ _
   ·intro u hu;simp only[List.mem_map]at hu;obtain⟨b,_,rfl⟩:=hu;rfl
   ·rw[e1];simp[Builtin.lenOf,ByteArray.size]
   ·rw[e1];have:(⟨l.toArray⟩:ByteArray).extract 0 (l.map Zt).length=⟨l.toArray⟩:=by
     apply ByteArray.ext;rw[ByteArray.data_extract];apply Array.ext';rw[Array.toList_extract,List.extract_eq_take_drop];simp
    simp only[Builtin.firstCells,this];simp
 ·rename_i id off n st';cases hk:(Nat.beq st st'&&(ag||Nat.beq st 1)) with
  | false=>simp[hk]at he
  | true=>
   simp only[hk,cond_true]at he;simp only[Bool.and_eq_true]at hk;have hst:=Zd hk.1
   subst hst;obtain⟨b,cap,hb,e1,_⟩:=hv.ms_inv;split at he
   ·rename_i cs hm;obtain⟨t',hm⟩:=Xy hm;split at he
    ·rename_i l hl;cases hn:Nat.beq l.length (n*st) with
     | false=>simp[hn]at he
     | true=>
      simp[hn]at he;subst he;have hlen:=Zd hn
      obtain⟨vs,fr,k1,k2,k3,_⟩:=hi.cellsAt hm hb;obtain⟨c1,c2,c3⟩:=Jy st n l hlen;have r:=jF ((k2.drop off).take (n*st)) hl
      have o1:=(k3.drop off).take (n*st)
      have hflat:∀ c∈XG st n l,(elemOf ag c).cells=c:=by
       intro c hc;cases ag with
       | true=>rfl
       | false=>
        have h1:st=1:=Zd (by simpa using hk.2)
        have hcl:=c2 c hc
        rw[h1]at hcl
        match c,hcl with
        | [d],_=>
         have hd:d∈l:=by rw[<- c3];exact List.mem_flatten.2 ⟨_,hc,by simp⟩
         obtain⟨i,hi',rfl⟩:=List.mem_iff_getElem.1 hd;have hil:i < ((vs.toList.drop off).take (n*st)).length:=by rw[r.1];exact hi'
         have:=r.2 i _ _ (Zb hil) (Zb hi')
         exact this.one (o1 _ (Zh _))
      have hfl:Yw ((XG st n l).map (elemOf ag))=l:=by
       unfold Yw;rw[List.map_map];have hm2:(XG st n l).map (CV.cells ∘ elemOf ag)=(XG st n l).map (λ c=>c):=List.map_congr_left (λ c hc=>hflat c hc)
       rw[hm2,List.map_id',c3]
      refine⟨_,?_,by rw[hfl];exact r,o1,λ w'=>by rw[e1];simp[Builtin.lenOf,c1],λ w' hw'=>?_⟩
      ·intro c hc;simp only[List.mem_map]at hc;obtain⟨d,hd,rfl⟩:=hc;rw[hflat d hd];exact c2 d hd
      ·rw[e1];simp only[Builtin.firstCells];have hk1:w'.heap[b]?=some (.cells vs t' fr):=by rw[hw'];exact k1
       have hl':((vs.toList.drop off).take (n*st)).length=((XG st n l).map (elemOf ag)).length*st:=by rw[r.1,hlen];simp[c1]
       rw[<- hl'];exact run_loadCells_list (P:=P) w' ⟨b,off,none⟩ _ (λ j u hu=>by
        rw[Xm,XN hk1];rw[List.getElem?_take]at hu;split at hu
        ·rw[List.getElem?_drop]at hu;simpa using hu
        ·cases hu)
    ·cases he
   ·cases he
 ·cases he
theorem Wt{t u ty el:TypeId}{d:TypeDesc}(ht:P.underlying t=some (.slice el))(hu:P.underlying u=some d)(hd:∀ k,d ≠ .int k){i:TypeInfo}(hinf:P.info? el=some i){z:Value}(hz:i.zero=some z)
  (hzs:z.cells.size=i.size) (hby:i.bytes<=4096) {base:Option Addr} {sLen sCap n:Nat} {x:Value} {old new:List Value} (hn:(Builtin.lenOf x).run P w=.ok n w) (hroom:sCap < sLen+n) (hbig:sLen+n<=Qq)
  (hold:∀ w':World,w'.heap=w.heap->(Builtin.firstCells i.size sLen (.slice base sLen sCap)).run P w'=.ok old.toArray w') (hnew:∀ w':World,w'.heap=w.heap->(Builtin.firstCells i.size n x).run P w'=.ok new.toArray w') :
  ∃ (cap:Nat) (w1:World) (rest:List Value),sLen+n<=cap/\w1.heap=w.heap/\w1.os=w.os/\w1.tape=w.tape/\w1.output=w.output/\rest.length=(cap - (sLen+n))*i.size/\
   (Builtin.append_ #[t,u] ty #[.slice base sLen sCap,x]).run P w=.ok (.slice (some ⟨w.heap.size,0,none⟩) (sLen+n) cap) (w1.alloc (.cells (old++new++rest).toArray el)):=by
 have h63:¬ (((sLen+n:Nat):Int) > IntKind.i64.max/\(False\/i.bytes=0)):=by
  have:IntKind.i64.max=9223372036854775807:=by decide
  rw[this];unfold Qq at hbig;omega
 have h48:¬ (Builtin.nextslicecap (sLen+n) sCap*i.bytes > 2 ^ 48):=by
  have h1:=Gb hroom
  have h2:Builtin.nextslicecap (sLen+n) sCap*i.bytes<=(2*(sLen+n)+200)*4096:=Nat.mul_le_mul h1 hby
  unfold Qq at hbig;omega
 let q:Question:=.appendCap (sLen+n) sCap el
 have hf:q.forced=false:=rfl
 refine⟨q.cut (w.tape w.drawn q),w.drew,(Builtin.zeroCells z.cells (q.cut (w.tape w.drawn q) - (sLen+n))).toList,by simp[q,Question.cut],rfl,rfl,rfl,rfl,by simp[Builtin.zeroCells,hzs],?_⟩
 have e1:=hold w.drew rfl
 have e2:=hnew w.drew rfl
 unfold Builtin.append_;simp only[List.getElem?_toArray,Sem.run_bind,ZR ht,Result.andThen,sizeOf,typeInfo,run_program,hinf,Sem.run_pure,ZR hu];cases d with
 | int k=>exact absurd rfl (hd k)
 | _=>
  simp only[List.getElem?_cons_zero,List.getElem?_cons_succ,Sem.run_bind,ZR ht,Result.andThen,sizeOf,typeInfo,run_program,hinf,Sem.run_pure,ZR hu,Bool.false_eq_true,if_false,hn,Bool.not_false,if_true];rw[if_neg (by omega)]
  simp only[Sem.run_bind,typeInfo,run_program,Result.andThen,hinf,Sem.run_pure,Bool.false_eq_true];rw[if_neg h63];simp only[Sem.run_bind,typeInfo,run_program,Result.andThen,hinf,Sem.run_pure];rw[if_neg h48];simp only[Sem.run_bind,typeInfo,run_program,Result.andThen,hinf,Sem.run_pure,run_choose_drew];rw[show(Question.appendCap (sLen+n) sCap el).forced=false from rfl]
  simp[e1,e2,zeroValue,typeInfo,hinf,hz,newRow,q]
  congr 2
  apply Array.ext';simp
theorem Ug{t u ty el:TypeId}{d:TypeDesc}(ht:P.underlying t=some (.slice el))(hu:P.underlying u=some d)(hd:∀ k,d ≠ .int k){i:TypeInfo}(hinf:P.info? el=some i)
  {b o sLen sCap n:Nat} {x:Value} {new:List Value} (hn:(Builtin.lenOf x).run P w=.ok n w) (hroom:sLen+n<=sCap) (hnew:(Builtin.firstCells i.size n x).run P w=.ok new.toArray w)
  (hc:∀ j,j < new.length->(w.cell? ⟨b,o+sLen*i.size+j,none⟩).isSome=true) (hf:∀ j,j < new.length->w.frozen? ⟨b,o+sLen*i.size+j,none⟩=false) (h1:Ones new) :
  (Builtin.append_ #[t,u] ty #[.slice (some ⟨b,o,none⟩) sLen sCap,x]).run P w=.ok (.slice (some ⟨b,o,none⟩) (sLen+n) sCap) (w.setCells b (o+sLen*i.size) new):=by
 have hst:=run_storeCells_cells (P:=P) b (o+sLen*i.size) new 0 w (by simpa using hc) (by simpa using hf) h1
 simp only[Nat.add_zero]at hst;unfold Builtin.append_;cases d with
 | int k=>exact absurd rfl (hd k)
 | _=>
  simp only[List.getElem?_toArray,List.getElem?_cons_zero,List.getElem?_cons_succ,Sem.run_bind,ZR ht,Result.andThen,sizeOf,typeInfo,run_program,hinf,Sem.run_pure,ZR hu,Bool.false_eq_true,if_false,hn,Bool.not_false,if_true];rw[if_pos hroom];simp[hnew,Xm,hst]
theorem K7{t u ty el:TypeId}{d:TypeDesc}(ht:P.underlying t=some (.slice el))(hu:P.underlying u=some d)(hd:∀ k,d ≠ .int k){i:TypeInfo}(hinf:P.info? el=some i)
  {base:Option Addr} {sLen sCap:Nat} {x:Value} (hn:(Builtin.lenOf x).run P w=.ok 0 w) (hroom:sLen<=sCap) (hnew:(Builtin.firstCells i.size 0 x).run P w=.ok #[] w) :
  (Builtin.append_ #[t,u] ty #[.slice base sLen sCap,x]).run P w=.ok (.slice base sLen sCap) w:=by
 unfold Builtin.append_;cases d with
 | int k=>exact absurd rfl (hd k)
 | _=>
  simp only[List.getElem?_toArray,List.getElem?_cons_zero,List.getElem?_cons_succ,Sem.run_bind,ZR ht,Result.andThen,sizeOf,typeInfo,run_program,hinf,Sem.run_pure,ZR hu,Bool.false_eq_true,if_false,hn,Bool.not_false,if_true,Nat.add_zero];rw[if_pos hroom];cases base<;>simp[hnew,storeCells]
theorem GC{el:TypeId}(h0:Zy P el ≠ 0):∃ i,P.info? el=some i/\i.size=Zy P el:=by
 unfold Zy at h0 ⊢
 split
 ·rename_i i hi;exact⟨i,hi,rfl⟩
 ·rename_i hi;rw[hi]at h0;exact absurd rfl h0
theorem VK{vs us:List Value}{cs ds:List CV}(h:RdCL G vs cs)(k:RdCL G us ds):RdCL G (vs++us) (cs++ds):=by
 refine⟨by simp[h.1,k.1],λ i v c hv hc=>?_⟩
 rcases Zl i vs.length with hl | hl
 ·rw[Zr hl]at hv;rw[Zr (by rw[<- h.1];exact hl)]at hc
  exact h.2 i v c hv hc
 ·rw[Zp hl]at hv;rw[Zp (by rw[<- h.1];exact hl),<- h.1]at hc
  exact k.2 _ v c hv hc
theorem Ones.append{vs us:List Value}(h:Ones vs)(k:Ones us):Ones (vs++us):=λ v hv=>by
 rcases List.mem_append.1 hv with hv | hv
 ·exact h v hv
 ·exact k v hv
theorem Sized.append{st:Nat}{xs ys:List CV}(h:Sized st xs)(k:Sized st ys):Sized st (xs++ys):=λ c hc=>by
 rcases List.mem_append.1 hc with hc | hc
 ·exact h c hc
 ·exact k c hc
theorem Ki(hi:Inv G h w){id ver st el:Nat}(hm:h[id]?=some (.tip ver st el)){t:Tip}(htip:G.tip id ver=some t){o cap:Nat}{es ys:List CV}(he:o+es.length*t.s=t.e)(hl:o+cap*t.s<=t.lim)(hcap:(es++ys).length<=cap)
  (hel:Elems G t.b o t.s es) (hs:Sized st ys) {new:List Value} (hv:RdCL G new (Yw ys)) (h1:Ones new) :
  (∀ j,j < new.length->(w.cell? ⟨t.b,t.e+j,none⟩).isSome=true)/\(∀ j,j < new.length->w.frozen? ⟨t.b,t.e+j,none⟩=false)/\
  Step G h w (G.tipTo id (ver+1) ⟨t.b,t.e+new.length,t.lim,st⟩ new) (h.set id (.tip (ver+1) st el)) (w.setCells t.b t.e new)/\
  RdX (G.tipTo id (ver+1) ⟨t.b,t.e+new.length,t.lim,st⟩ new) (.slice (some ⟨t.b,o,none⟩) (es++ys).length cap) (.own (es++ys) id (ver+1)):=by
 obtain⟨vs,fr,k1,k2,k3,k4,k5,k6,k7,k8,k9⟩:=hi.tipAt hm htip;have hnl:new.length=ys.length*st:=by rw[hv.1,Yh hs]
 have hlim:t.e+new.length<=t.lim:=by
  rw[k1]at he hl;have:(es.length+ys.length)*st<=cap*st:=Nat.mul_le_mul_right _ (by simpa using hcap)
  rw[Nat.add_mul]at this;omega
 obtain⟨q1,q2,q3,q4,q5,q6⟩:=WS t.b new t.e w vs el fr k3;have hexi:∀ j,j < new.length->(w.cell? ⟨t.b,t.e+j,none⟩).isSome=true:=λ j hj=>by rw[XN k3];simp;omega
 have hid:=(Za.1 hm).1
 have hle:=VV (G:=G) (id:=id) (ver:=ver+1) (t:=⟨t.b,t.e+new.length,t.lim,st⟩) (vals:=new) (k9 _ (by omega)) (λ o ho=>k7 o (by simp at ho;omega))
 refine⟨hexi,λ j hj=>wH k3 (k6.free (t.e+j+1) _ (by omega) (by omega)),?_,?_⟩
 ·refine Step.tipTo hi id (ver+1) ⟨t.b,t.e+new.length,t.lim,st⟩ el new (λ j hj=>by rw[Zx (λ e=>hj e.symm)]) (by simp[hid]) (by simp) (by simpa using hid) (k9 _ (by omega)) (λ u hu=>k9 u (by omega)) k2 (by simp)
   (λ o ho=>k7 o (by simp at ho;omega)) k8 (.inl ⟨_,hm,by simp[blk,htip]⟩) (λ i v hv'=>?_) ⟨_,fr,q1,by rw[U0];exact k4,hlim,k6.mono (by simp)⟩ (by omega) q4 q5 q6 (λ b _ hne=>q2 b hne) (λ o v hp=>?_)
  ·have hlt:=(Za.1 hv').1
   have hve:=(Za.1 hv').2
   have:=World.cell?_setCells_in t.b new t.e w hexi i hlt
   refine⟨?_,h1 v (ZI hv')⟩;simp only[Nat.add_sub_cancel];rw[this,hve]
  ·have hlt:o < t.e:=by
    by_cases hh:o < t.e
    ·exact hh
    ·rw[k7 o (by omega)]at hp;cases hp
   rw[World.cell?_setCells_out t.b new t.e w ⟨t.b,o,none⟩ (λ _ _=>.inl hlt)]
   exact(hi.prot _ _ _ hp).1
 ·refine .own (es++ys) id (ver+1) o cap ⟨t.b,t.e+new.length,t.lim,st⟩ (XQ _ _ _ _ _) ?_ ?_ hcap ?_
  ·simp only[List.length_append,Nat.add_mul];rw[k1]at he;omega
  ·simp only;rw[k1]at hl;exact hl
  ·obtain⟨old,r1,r2,r3,r4⟩:=hel.read hi (by rw[k1];exact k2)
   have hsz:Sized st (es++ys):=Sized.append (by rw[<- k1];exact hel.sized) hs
   refine WW hsz (vs:=old++new) (by rw[Wv];exact VK (r1.mono hle) (hv.mono hle)) (λ i v hv'=>?_)
   rw[k1]at r3 he;rcases Zl i old.length with hl' | hl'
   ·rw[Zr hl']at hv';exact hle.prot _ _ _ (r4 i v hv')
   ·rw[Zp hl']at hv';have:=Jg G id (ver+1) ⟨t.b,t.e+new.length,t.lim,st⟩ new (by simp) _ v hv'
    simp only[Nat.add_sub_cancel]at this;rw[<- this];congr 1;omega
theorem Im(hi:Inv G h w)(hs:SlotsRel G s a nt)(hg:GlobOk e G){t u ty el:TypeId}{d:TypeDesc}(ht:P.underlying t=some (.slice el))(hu:P.underlying u=some d)(hd:∀ k,d ≠ .int k)(h0:Zy P el ≠ 0){zc:CV}(hz:YO P el=some zc)
  {x y:Operand} {rx ry:Rand} (hx:Yx x=some rx) (hy:Yx y=some ry) {ag:Bool} {z:X} (hev:evalOp e s h (.app ag el (Zy P el) (P.bytesOf el) rx ry)=some (z,h')) {q:Sem Next}
  (hq:q=(do pure (.value (<- Builtin.append_ #[t,u] ty #[a.eval x,a.eval y])))):OpOk P G h w q z h':=by
 have hv:=ZC hs hg hx
 have hw:=ZC hs hg hy
 obtain⟨i,hinf,hisz⟩:=GC h0;obtain⟨i',zv,hi1,hi2,hi3,hi4,hi5,_⟩:=WZ hz;rw[hinf]at hi1;cases hi1;have hzs:zv.cells.size=i.size:=by
  have:=((hi3 G).cells hi4).1.1
  rw[<- hi5];simpa using this
 have hbytes:i.bytes=P.bytesOf el:=by simp[Program.bytesOf,hinf]
 simp only[evalOp]at hev;split at hev
 ·rename_i ys hys;obtain⟨new,n1,n2,n3,n4,n5⟩:=Ur (P:=P) hi hw (Z1 h0) hys;have ZD:∀ {v w' G' z' h''},(Builtin.append_ #[t,u] ty #[a.eval x,a.eval y]).run P w=.ok v w'->Step G h w G' h'' w'->RdX G' v z'->OpOk P G h w q z' h'':=by
   intro v w' G' z' h'' hr hst hx;exact⟨v,w',G',.inl (by rw[hq];simp[hr]),hst,hx⟩
  unfold ZP at hev;split at hev
  ·
   split at hev
   case h_2=>cases hev
   rename_i ln hln;cases hev;have hsl:∃ b l c,a.eval x=.slice b l c/\l<=c:=by
    unfold KK at hln;split at hln
    ·rename_i full es hp;rw[hp]at hv;rcases hv.c_inv.sl_inv with ⟨⟨a',e1⟩,e2⟩|⟨b,o,cap,st,e1,_,_,hc⟩
     ·exact⟨_,_,_,e1,Nat.le_refl _⟩
     ·exact⟨_,_,_,e1,hc⟩
    ·rename_i es id ver hp;rw[hp]at hv;obtain⟨o,cap,t,e1,_,_,_,hc,_⟩:=hv.own_inv;exact⟨_,_,_,e1,hc⟩
    ·rename_i id off n' st hp;rw[hp]at hv;obtain⟨b,cap,_,e1,hc⟩:=hv.ms_inv;exact⟨_,_,_,e1,hc⟩
    ·rename_i es id ver hp;rw[hp]at hv;generalize a.eval x=q at hv;cases hv;exact⟨_,_,_,rfl,‹_›⟩
    ·cases hln
   obtain⟨b,l,c,e1,hlc⟩:=hsl;have f0:=n5 w rfl
   have:new=[]:=by
    apply List.eq_nil_of_length_eq_zero;have:=n2.1;simpa [Yw] using this
   subst this;refine ZD (v:=a.eval x) ?_ (Y5 hi) hv;rw[e1];refine K7 ht hu hd hinf (by simpa using n4 w) hlc ?_
   rw[hisz];simpa using f0
  ·rename_i y0 yr;split at hev
   ·rename_i es hp;rw[hp]at hv;cases hbb:(YC (Zy P el) es&&Nat.ble (es.length+(y0::yr).length) Qq&&Nat.ble (P.bytesOf el) 4096) with
    | false=>rw[hbb]at hev;simp at hev
    | true=>
     rw[hbb]at hev;simp only[cond_true,Option.some.injEq,Prod.mk.injEq]at hev;obtain⟨rfl,rfl⟩:=hev;simp only[Bool.and_eq_true]at hbb;have c2:=Zg hbb.1.2
     have c3:=Zg hbb.2
     obtain⟨old,o1,o2,o3,o4,o5⟩:=Ur (P:=P) (ag:=ag) hi hv (Z1 h0) (ys:=es) (by simp[ZO,hbb.1.1])
     have hcap:∃ b,a.eval x=.slice b es.length es.length:=by
      rcases hv.c_inv.sl_inv with ⟨⟨a',e1⟩,e2⟩|⟨b,off,cap,st,e1,_,hf,_⟩
      ·subst e2;exact⟨a',e1⟩
      ·rw[hf rfl]at e1;exact⟨_,e1⟩
     obtain⟨b,e1⟩:=hcap;obtain⟨cap,w1,rest,r1,r2,r3,r4,r5,r6,r7⟩:=Wt (w:=w) (ty:=ty) ht hu hd hinf hi2 hzs (by rw[hbytes];exact c3) (base:=b) (sLen:=es.length) (sCap:=es.length) (old:=old) (n4 w) (by simp) c2
      (by rw[<- e1,hisz];exact o5) (by rw[hisz];exact n5)
     have hsz:=Sized.append o1 n1
     obtain⟨s1,s2⟩:=Ue (h':=h++[.tip 0 (Zy P el) el]) hi r2 r3 r4 r5 (el:=el) (Z1 h0) hsz (vs:=old++new) (rest:=rest) (by rw[Wv];exact VK o2 n2) (o3.append n3) h.length 0 (.inl ⟨rfl,rfl,rfl⟩) cap (by
       simp only[List.length_append,r6,o2.1,n2.1,Yh o1,Yh n1,hisz];rw[<- Nat.add_mul,<- Nat.add_mul];congr 1;simp at r1 ⊢;omega) (by simpa using r1)
     rw[e1]at ZD;exact ZD r7 s1 (by simpa using s2)
   ·rename_i es id ver hp;rw[hp]at hv;split at hev
    ·rename_i v0 s0 e0 hm;cases hbb:(Nat.beq v0 ver&&Nat.beq (Zy P el) s0&&Nat.beq el e0&&Nat.ble (es.length+(y0::yr).length) Qq&&Nat.ble (P.bytesOf el) 4096) with
     | false=>rw[hbb]at hev;simp at hev
     | true=>
      rw[hbb]at hev;simp only[cond_true,Option.some.injEq,Prod.mk.injEq]at hev;obtain⟨rfl,rfl⟩:=hev;simp only[Bool.and_eq_true]at hbb;have c1:=Zd hbb.1.1.1.1
      have c0:=Zd hbb.1.1.1.2
      have c9:=Zd hbb.1.1.2
      subst c9;have c2:=Zg hbb.1.2
      have c3:=Zg hbb.2
      subst c1;obtain⟨off,cap,tp,e1,t1,t2,t3,t4,t5⟩:=hv.own_inv;obtain⟨_,_,k1,_⟩:=hi.tipAt hm t1;rw[<- c0]at k1 hm;rw[e1]at ZD;by_cases hroom:es.length+(y0::yr).length<=cap
      ·obtain⟨q1,q2,q3,q4⟩:=Ki hi hm t1 t2 t3 (ys:=y0::yr) (by simpa using hroom) t5 n1 n2 n3
       have hoff:off+es.length*i.size=tp.e:=by rw[hisz,<- k1];exact t2
       have hr:=Ug (w:=w) (ty:=ty) (x:=a.eval y) (b:=tp.b) (o:=off) (sLen:=es.length) (sCap:=cap) ht hu hd hinf (n4 w) hroom (by rw[hisz];exact n5 w rfl) (by rw[hoff];exact q1) (by rw[hoff];exact q2) n3
       rw[hoff]at hr;exact ZD hr q3 (by simpa using q4)
      ·obtain⟨old,o2,o3,o4,o5⟩:=t5.read hi (by rw[k1];exact Z1 h0)
       have o1:Sized (Zy P el) es:=by rw[<- k1];exact t5.sized
       obtain⟨cap',w1,rest,r1,r2,r3,r4,r5,r6,r7⟩:=Wt (w:=w) (ty:=ty) ht hu hd hinf hi2 hzs (by rw[hbytes];exact c3) (base:=some ⟨tp.b,off,none⟩) (sLen:=es.length) (sCap:=cap) (old:=old) (n4 w) (by omega) c2
        (λ w' hw'=>by
         simp only[Builtin.firstCells];rw[hisz,<- k1,<- o4];exact run_loadCells_list (P:=P) w' ⟨tp.b,off,none⟩ old (λ j u hu=>by rw[Xm];exact((hi.heap_eq hw').prot _ _ _ (o5 j u hu)).1)) (by rw[hisz];exact n5)
       have hsz:=Sized.append o1 n1
       obtain⟨s1,s2⟩:=Ue (h':=h.set id (.tip (v0+1) (Zy P el) el)) hi r2 r3 r4 r5 (el:=el) (Z1 h0) hsz (vs:=old++new) (rest:=rest) (by rw[Wv];exact VK o2 n2) (o3.append n3) id (v0+1) (.inr ⟨v0,_,_,hm,rfl,rfl⟩) cap' (by
         simp only[List.length_append,r6,o2.1,n2.1,Yh o1,Yh n1,hisz];rw[<- Nat.add_mul,<- Nat.add_mul];congr 1;simp at r1 ⊢;omega) (by simpa using r1)
       exact ZD r7 s1 (by simpa using s2)
    ·cases hev
   ·cases hev
 ·cases hev
end
end
section
theorem Step.alloc{G:Gh}{h:Mem}{w:World}(hi:Inv G h w)(o:Obj):Step G h w G h (w.alloc o):=by
 refine⟨⟨λ b q v x=>⟨qL (hi.prot b q v x).1,(hi.prot b q v x).2⟩,λ b es x=>?_,λ id ob hob=>?_,hi.inj,hi.new⟩,Nat.le_refl _,⟨by rw[WR];omega,λ b hb _=>YD w o hb,rfl,rfl,rfl⟩,
  λ _ _ _ x=>x,λ _ _ x=>x,λ _ _ _ x=>x,λ _ _ _ _ x=>x,λ _ _ _ x=>.inl x,λ _ _ x=>.inl x,λ _ x=>.inl x⟩
 ·obtain⟨clk,y⟩:=hi.pmap b es x;exact⟨clk,by rw[YD w o (XF y.1)];exact y.1,y.2⟩
 ·exact(hi.ob id ob hob).keep (Gh.le.self G) (λ b hb=>YD w o (hi.blk_lt hob hb)) (λ b _=>⟨λ q x=>x,rfl⟩) (λ u x=>x)
section
variable {P:Program} {e:Env} {G:Gh} {h h':Mem} {w:World} {s:Zf} {a:Act} {nt:Nat}
theorem wI(off:Nat):∀ (l:List Value) (k:Nat) (cs:Array Value),(l.zipIdx k).foldl (λ cs (p:Value × Nat)=>cs.setIfInBounds (off+p.2) p.1) cs=setArr cs (off+k) l
 | [],_,_=>rfl
 | v::r,k,cs=>by
  simp only[List.zipIdx_cons,List.foldl_cons,setArr];rw[wI off r (k+1)];rfl
theorem wL(off:Nat)(v:Value)(cs:Array Value):v.cells.zipIdx.foldl (λ cs (c,j)=>cs.setIfInBounds (off+j) c) cs=setArr cs off v.cells.toList:=by
 have:=wI off v.cells.toList 0 cs
 rw[Nat.add_zero]at this;rw[<- this,<- Array.foldl_toList];simp
theorem yJ(hs:SlotsRel G s a nt)(hg:GlobOk e G){places:Nat->Option (Nat × Nat)}:∀ {ps:List (Nat × Operand)} {l:List (Nat × Nat × Rand)},VF places ps=some l->∀ {cs:Array Value} {zs out:List X},
  RdL G cs.toList zs->Ones cs.toList->ZH zs (l.map fun (o,n,r)=>(o,n,ZJ e s r))=some out->∃ cs',Instr.fill places cs (ps.map fun (i,x)=>(i,a.eval x))=some cs'/\RdL G cs'.toList out/\Ones cs'.toList
 | [],l,hl,cs,zs,out,h1,h2,hf=>by
  simp[VF]at hl;subst hl;simp[ZH]at hf;subst hf;exact⟨cs,rfl,h1,h2⟩
 | (i,x)::r,l,hl,cs,zs,out,h1,h2,hf=>by
  simp only[VF]at hl;split at hl
  ·rename_i o n rx rl hp hx hr;cases hl;simp only[List.map_cons,ZH]at hf;split at hf
   ·rename_i us hus;cases hb:(Nat.beq us.length n&&Nat.ble (o+n) zs.length) with
    | false=>rw[hb]at hf;simp at hf
    | true=>
     rw[hb]at hf;simp only[cond_true]at hf;simp only[Bool.and_eq_true]at hb;have c1:=Zd hb.1
     have c2:=Zg hb.2
     obtain⟨r1,r2⟩:=(ZC hs hg hx).cells hus;obtain⟨cs',k1,k2,k3⟩:=yJ hs hg hr (RdL.setAt o r1 h1) (Ones.setArr o r2 h2) hf;refine⟨cs',?_,k2,k3⟩;have hl1:=r1.1
     have hl2:=h1.1
     simp at hl1 hl2;simp only[List.map_cons,Instr.fill,hp];rw[if_neg (by simp;omega),wL]
     exact k1
   ·cases hf
  ·cases hl
theorem Q3{α β:Type}(f:α->Sem β)(g:α->β):∀ (l:List α),(∀ x∈l,(f x).run P w=.ok (g x) w)->(l.mapM f).run P w=.ok (l.map g) w
 | [],_=>by simp
 | x::r,h=>by
  simp only[List.mapM_cons,Sem.run_bind,h x (by simp),Result.andThen,Q3 f g r (λ y hy=>h y (by simp[hy])),Sem.run_pure,List.map_cons]
theorem GN{α β:Type}(f:α->Sem β)(g:α->β)(l:Array α)(h:∀ x∈l.toList,(f x).run P w=.ok (g x) w):(l.mapM f).run P w=.ok (l.map g) w:=by
 have h1:=Q3 f g l.toList h
 rw[Array.mapM_eq_mapM_toList,map_eq_pure_bind];simp only[Sem.run_bind,h1,Result.andThen,Sem.run_pure]
 congr 1
 apply Array.ext';simp
theorem wj{t:TypeId}(ho:OH P t=true)(w:World):(sizeOf t).run P w=.ok (Zy P t) w:=by
 unfold OH at ho;unfold Zy;split at ho
 ·rename_i i hi;simp[sizeOf,typeInfo,hi]
 ·cases ho
theorem K8(hi:Inv G h w)(hs:SlotsRel G s a nt)(hg:GlobOk e G){t:TypeId}{fs:Array Field}(ht:P.underlying t=some (.struct fs)){z:CV}(hz:YO P t=some z)(hok:fs.toList.all (λ f=>OH P f.type)=true)
  {ps:Array (Nat × Operand)} {l:List (Nat × Nat × Rand)} (hps:VF (λ i=>(fs[i]?).map λ f:Field=>(f.offset,Zy P f.type)) ps.toList=some l) {y:X}
  (hev:evalOp e s h (.build z.cells l)=some (y,h')) (o:Oper) (ho:o.op=.build t ps):OpOk P G h w (execOp a.eval o) y h':=by
 obtain⟨i,v,h1,h2,h3,h4,h5,h6⟩:=WZ hz;obtain⟨a1,a2⟩:=(h3 G).cells h4;simp only[evalOp]at hev;split at hev
 ·rename_i cs hcs;cases hev;obtain⟨cs',k1,k2,k3⟩:=yJ hs hg hps (cs:=v.cells) a1.toX a2 hcs;refine .same hi (v:=.agg cs') ?_ (by have:=VB k2 k3;simpa using this)
  have hm:=GN (P:=P) (w:=w) (λ f:Field=>(do pure (f.offset,<- sizeOf f.type):Sem (Nat × Nat))) (λ f:Field=>(f.offset,Zy P f.type)) fs (λ f hf=>by
   simp[wj (Zz.1 hok f hf)])
  have hpl:(λ x:Nat=>(fs.map λ f:Field=>(f.offset,Zy P f.type))[x]?)=λ i:Nat=>(fs[i]?).map λ f:Field=>(f.offset,Zy P f.type):=by funext i;simp
  have hpt:(Array.map (fun (i,x)=>(i,a.eval x)) ps).toList=ps.toList.map fun (i,x)=>(i,a.eval x):=by simp
  simp only[execOp,ho,Instr.build,Sem.run_bind,h6,Result.andThen,ZR ht,hm,hpl,hpt,k1,Sem.run_pure]
 ·cases hev
theorem Bw(hi:Inv G h w){q:Sem Next}{t:TypeId}(hq:q=(do pure (.value (<- Instr.makeMap t none)))):OpOk P G h w q (.map h.length) (h++[.map [] []]):=by
 refine⟨.map (some w.heap.size),_,_,.inl (by rw[hq];simp[Instr.makeMap]),Step.push hi (.map [] []) (.map #[] 0) ?_ (by simp[blk,Gh.at_]),.map _ _ (Wf _ _ _)⟩
 refine⟨w.heap.size,#[],0,Wf _ _ _,YH w _,rfl,rfl,λ i e k h1=>by simp at h1,λ i e k h1=>by simp at h1,λ o=>?_,?_,by simp[Jc]⟩
 ·cases hp:G.prot w.heap.size o with
  | none=>simp[Gh.at_,hp]
  | some u=>exact absurd (hi.prot_lt hp) (by omega)
 ·cases hp:G.pmap w.heap.size with
  | none=>simp[Gh.at_,hp]
  | some u=>exact absurd (hi.pmap_lt hp) (by omega)
inductive KeyD:Nat->TypeDesc->Prop
 | int (k:IntKind):KeyD 0 (.int k)
 | str:KeyD 1 .string
 | bool:KeyD 2 .bool
theorem QF{t:TypeId}{c:Nat}(hk:JR P t=some c):∃ d,P.underlying t=some d/\KeyD c d:=by
 unfold JR at hk;split at hk
 ·cases hk;exact⟨_,‹_›,.int _⟩
 ·cases hk;exact⟨_,‹_›,.str⟩
 ·cases hk;exact⟨_,‹_›,.bool⟩
 ·cases hk
theorem GG{d:TypeDesc}{u v:Value}{c k:CV}{kc:Nat}(hu:RdC G u c)(hv:RdC G v k)(hd:KeyD kc d)(hi:YG kc c=true){b:Bool}(he:We c k=some b) :
  Instr.sameNow d u v=some b/\(b=true->c=k):=by
 unfold We at he;split at he
 ·rename_i k1 m k2 n;cases hd<;>simp[YG]at hi
  cases hu;cases hv;cases hk:WO k1 k2 with
  | false=>rw[hk]at he;simp at he
  | true=>
   rw[hk]at he;simp at he;have:=QE hk;subst this
   refine⟨by simp[Instr.sameNow,he],λ hb=>?_⟩
   subst hb;simp at he;rw[he]
 ·rename_i x y;cases hd<;>simp[YG]at hi
  cases hu;cases hv;cases he;refine⟨by simp only[Instr.sameNow,beq_toListBytes,ByteArray.toList_mk],λ hb=>?_⟩
  simp at hb;rw[hb]
 ·rename_i x y;cases hd<;>simp[YG]at hi
  cases hu;cases hv;cases he;refine⟨rfl,λ hb=>?_⟩
  simp at hb;rw[hb]
 ·cases he
theorem Vy{d:TypeDesc}{v:Value}{k:CV}{kc:Nat}(hv:RdC G v k)(hd:KeyD kc d)(hi:YG kc k=true) :
  ∀ {es:List MapEntry} {ks:List CV} {i:Nat} {r:Option Nat},es.length=ks.length->(∀ (i:Nat) e k,es[i]?=some e->ks[i]?=some k->RdC G e.key k)->findKey k ks i=some r->
   ∃ q,Instr.findNow d v es i=some q/\(r=none->q=none)/\∀ j,r=some j->∃ e,es[j - i]?=some e/\ks[j - i]?=some k/\i<=j/\q=some (j,e.val)
 | [],[],i,r,_,_,hf=>by simp[findKey]at hf;subst hf;exact⟨none,rfl,λ _=>rfl,λ j hj=>by cases hj⟩
 | [],_::_,_,_,hl,_,_=>by simp at hl
 | _::_,[],_,_,hl,_,_=>by simp at hl
 | e::es,c::ks,i,r,hl,hr,hf=>by
  simp only[findKey]at hf;split at hf
  ·rename_i he;cases hf;obtain⟨this,hc⟩:=GG hv (hr 0 e c rfl rfl) hd hi he;exact⟨some (i,e.val),by simp[Instr.findNow,this],λ hh=>(by cases hh),λ j hj=>(by cases hj;exact⟨e,by simp,by simp[hc rfl],Nat.le_refl _,rfl⟩)⟩
  ·rename_i he;obtain⟨this,_⟩:=GG hv (hr 0 e c rfl rfl) hd hi he;obtain⟨q,h1,h2,h3⟩:=Vy hv hd hi (by simpa using hl) (λ j e' k' a b=>hr (j+1) e' k' (by simpa using a) (by simpa using b)) hf
   refine⟨q,by simp[Instr.findNow,this,h1],h2,λ j hj=>?_⟩
   obtain⟨e',k1,k2,k3,k4⟩:=h3 j hj;refine⟨e',?_,?_,by omega,k4⟩
   ·rw[show j - i=(j - (i+1))+1 by omega];simpa using k1
   ·rw[show j - i=(j - (i+1))+1 by omega];simpa using k2
  ·cases hf
theorem Vh{t:TypeId}{d:TypeDesc}{kc:Nat}(ht:P.underlying t=some d)(hd:KeyD kc d)(em:Bool)(n:Nat)(v:Value)(w:World):(Instr.checkKey em (n+1) t v).run P w=.ok () w:=by
 cases hd<;>simp[Instr.checkKey,ZR ht]
theorem VI{t:TypeId}{d:TypeDesc}(ht:P.underlying t=some d){v:Value}{es:List MapEntry}{q:Option (Nat × Value)}(hq:Instr.findNow d v es 0=some q)(w:World):(Instr.findKey t v es).run P w=.ok q w:=by
 simp[Instr.findKey,ZR ht,hq]
theorem Ae{v:Value}{k:CV}{kc:Nat}(hv:RdC G v k)(hi:YG kc k=true):Instr.sameBits 10000 v v=true:=by
 unfold YG at hi;split at hi
 ·cases hv;simp[Instr.sameBits]
 ·cases hv;simp only[Instr.sameBits,beq_toListBytes];simp
 ·cases hv;simp[Instr.sameBits]
 ·cases hi
end
end
section
section
variable {P:Program} {e:Env} {G:Gh} {h h':Mem} {w:World} {s:Zf} {a:Act} {nt:Nat}
theorem qO(hi:Inv G h w){id b:Nat}{ks vs ks' vs':List CV}{es es':Array MapEntry}{clk clk':Nat}(hm:h[id]?=some (.map ks vs))(hb:G.loc id=some b)(hw:w.heap[b]?=some (.map es clk))
  (h1:es'.size=ks'.length) (h2:es'.size=vs'.length) (h3:∀ (i:Nat) e k,es'[i]?=some e->ks'[i]?=some k->RdC G e.key k) (h4:∀ (i:Nat) e v,es'[i]?=some e->vs'[i]?=some v->RdC G e.val v) (h5:Jc es'.toList clk') :
  Step G h w G (h.set id (.map ks' vs')) { w with heap:=w.heap.setIfInBounds b (.map es' clk') }:=by
 obtain⟨_,_,_,_,_,_,_,h6,h7,_⟩:=hi.mapAt hm hb;have hid:id < h.length:=(Za.1 hm).1
 have hbl:=XF hw
 have hW:∃ q,h[id]?=some q/\blk G id q=some b:=⟨_,hm,hb⟩
 have hne:∀ c,¬ (∃ q,h[id]?=some q/\blk G id q=some c)->c ≠ b:=λ c hc e=>hc (e ▸ hW)
 have k1:(w.heap.setIfInBounds b (.map es' clk'))[b]?=some (.map es' clk'):=by simp[hbl]
 have k2:∀ c,c ≠ b->(w.heap.setIfInBounds b (.map es' clk'))[c]?=w.heap[c]?:=λ c hc=>by rw[Array.getElem?_setIfInBounds_ne (λ e=>hc e.symm)]
 refine W7 hi id (.map ks' vs') (Gh.le.self G) (λ j hj=>by rw[Zx (λ e=>hj e.symm)]) (by simp[hid]) (by simp) (by simp) rfl rfl rfl
  (λ c _ hc=>k2 c (hne c hc)) (λ c q v hp=>⟨?_,(hi.prot c q v hp).2⟩) (λ c es hp=>?_) (λ c q v x=>.inl x) (λ c es x=>.inl x) ?_ (λ c hc=>.inl ?_) (λ j hj=>hi.new j (by simpa using hj)) (λ j _ u x=>x)
 ·have:=(hi.prot c q v hp).1
  have hcb:c ≠ b:=by rintro rfl;rw[h6]at hp;cases hp
  rw[XX]at this ⊢;show(match (w.heap.setIfInBounds b (.map es' clk'))[c]? with | some (.cells c _ _)=>c[q]? | _=>none)=some v
  rw[k2 c hcb];exact this
 ·obtain⟨clk,hx⟩:=hi.pmap c es hp;have hcb:c ≠ b:=by rintro rfl;rw[h7]at hp;cases hp
  exact⟨clk,by rw[<- hx.1];exact k2 c hcb,hx.2⟩
 ·exact⟨b,es',clk',hb,k1,h1,h2,h3,h4,h6,h7,h5⟩
 ·exact⟨_,hm,hc⟩
theorem ym{es:Array MapEntry}{clk:Nat}(h:Jc es.toList clk)(i:Nat){k v:Value}:Jc (es.modify i λ e=>{ e with key:=k,val:=v }).toList clk:=by
 have hb:(es.modify i λ e=>{ e with key:=k,val:=v }).toList.map (·.born)=es.toList.map (·.born):=by
  apply List.ext_getElem?;intro j;simp only[List.getElem?_map,Array.getElem?_toList,Array.getElem?_modify]
  split
  ·cases es[j]?<;>rfl
  ·rfl
 refine⟨by rw[h.1];simp,λ x hx=>?_,by rw[hb];exact h.2.2⟩
 have:x.born∈(es.modify i λ e=>{ e with key:=k,val:=v }).toList.map (·.born):=List.mem_map_of_mem hx
 rw[hb]at this;obtain⟨y,hy,e⟩:=List.mem_map.1 this;rw[<- e];exact h.2.1 y hy
theorem jZ{es:Array MapEntry}{clk:Nat}(h:Jc es.toList clk)(e:MapEntry)(he:e.born=clk):Jc (es.push e).toList (clk+1):=by
 rw[Array.toList_push];refine⟨by rw[h.1];simp,λ x hx=>?_,?_⟩
 ·rcases List.mem_append.1 hx with hx | hx
  ·have:=h.2.1 x hx;omega
  ·simp at hx;subst hx;omega
 ·rw[List.map_append,List.nodup_append];refine⟨h.2.2,by simp,?_⟩
  intro a ha b hb hab;simp at hb;obtain⟨x,hx,e1⟩:=List.mem_map.1 ha;have:=h.2.1 x hx
  omega
theorem Cq{u v:Value}{k:CV}{kc:Nat}(hu:RdC G u k)(hv:RdC G v k)(hi:YG kc k=true):u=v:=by
 unfold YG at hi;split at hi
 ·cases hu;cases hv;rfl
 ·cases hu;cases hv;rfl
 ·cases hu;cases hv;rfl
 ·cases hi
theorem wn(hi:Inv G h w)(hs:SlotsRel G s a nt)(hg:GlobOk e G){t kt el kc:Nat}(ht:P.underlying t=some (.map kt el))(hkc:JR P kt=some kc){m k v:Operand}{rm rk rv:Rand}(hm:Yx m=some rm)(hk:Yx k=some rk)(hv:Yx v=some rv){z:X}
  (hev:evalOp e s h (.mapSet kc rm rk rv)=some (z,h')) {q:Sem Next} (hq:q=(do Instr.mapUpdate t (a.eval m) (a.eval k) (a.eval v);pure .skip)):OpOk P G h w q z h':=by
 have xm:=ZC hs hg hm
 have xk:=ZC hs hg hk
 have xv:=ZC hs hg hv
 obtain⟨d,hd,hD⟩:=QF hkc;simp only[evalOp]at hev;split at hev
 case h_2=>cases hev
 rename_i id kv vv e1 e2 e3;rw[e1]at xm;rw[e2]at xk;obtain⟨b,hb,em⟩:=xm.map_inv;obtain⟨rvv,_⟩:=xv.elem e3;have rk:=xk.c_inv
 cases hki:YG kc kv with
 | false=>rw[hki]at hev;simp at hev
 | true=>
  rw[hki]at hev;simp only[Bool.not_true,cond_false]at hev;split at hev
  case h_2=>cases hev
  rename_i ks vs ho;obtain⟨es,clk,g1,g2,g3,g4,g5,g6,g7,g8⟩:=hi.mapAt ho hb;split at hev
  ·rename_i i hf;cases hev;obtain⟨r,f1,f2,f3⟩:=Vy (es:=es.toList) rk hD hki (by simpa using g2) (λ i e k a b=>g4 i e k (by simpa using a) b) hf
   obtain⟨en,n1,n2,_,n4⟩:=f3 i rfl;simp only[Nat.sub_zero]at n1 n2;have n1':es[i]?=some en:=by simpa using n1
   have hlt:i < es.size:=by have:=(Za.1 n1).1;simpa using this
   obtain⟨dd,u1⟩:∃ dd,dd=Instr.sameNow d (a.eval k) en.key:=⟨_,rfl⟩;have hsb:Instr.sameBits 10000 en.key (a.eval k)=true:=by
    have r1:=g4 i en kv n1' n2
    have:=Ae rk hki
    have he:en.key=a.eval k:=Cq r1 rk hki
    rw[he];exact this
   refine⟨undef,_,G,.inr ⟨?_,rfl⟩,qO hi ho hb g1 (es':=es.modify i λ e=>{ e with key:=a.eval k,val:=a.eval v }) (clk':=clk) (by simpa using g2) (by simpa using g3) ?_ ?_ (ym g8 i),.c _ _ (.tup [] [] rfl (by simp))⟩
   ·rw[hq,em];simp[Instr.mapUpdate,ZR ht,MapKept.run_getObj_map g1,Vh hd hD,VI hd f1,n4,n1',Instr.keyThatStays,hsb,MapKept.run_setObj_map _ g1,Result.andThen]
   ·intro j e' k' a1 a2;rw[Array.getElem?_modify]at a1;split at a1
    ·rename_i hij;subst hij;rw[n1']at a1;simp at a1;subst a1;rw[n2]at a2;cases a2;exact rk
    ·exact g4 j e' k' a1 a2
   ·intro j e' k' a1 a2;rw[Array.getElem?_modify]at a1;split at a1
    ·rename_i hij;subst hij;rw[n1']at a1;simp at a1;subst a1;have hl2:i < vs.length:=by omega
     rw[ZG hl2]at a2;cases a2;exact rvv
    ·rename_i hij;rw[Zx hij]at a2;exact g5 j e' k' a1 a2
  ·rename_i hf;cases hev;obtain⟨r,f1,f2,f3⟩:=Vy (es:=es.toList) rk hD hki (by simpa using g2) (λ i e k a b=>g4 i e k (by simpa using a) b) hf
   have hr:=f2 rfl
   refine⟨undef,_,G,.inr ⟨?_,rfl⟩,qO hi ho hb g1 (es':=es.push { key:=a.eval k,val:=a.eval v,born:=clk }) (clk':=clk+1) (by simpa using g2) (by simpa using g3) ?_ ?_ (jZ g8 _ rfl),.c _ _ (.tup [] [] rfl (by simp))⟩
   ·rw[hq,em];simp[Instr.mapUpdate,ZR ht,MapKept.run_getObj_map g1,Vh hd hD,VI hd f1,hr,MapKept.run_setObj_map _ g1,Result.andThen]
   ·intro j e' k' a1 a2;rw[Array.getElem?_push]at a1;split at a1
    ·rename_i hij;cases a1;rw[Zp (by omega)]at a2
     simp only[hij,g2,Nat.sub_self,List.getElem?_cons_zero,Option.some.injEq]at a2;subst a2;exact rk
    ·have:=(Array.getElem?_eq_some_iff.1 a1).1
     rw[Zr (by omega)]at a2
     exact g4 j e' k' a1 a2
   ·intro j e' k' a1 a2;rw[Array.getElem?_push]at a1;split at a1
    ·rename_i hij;cases a1;rw[Zp (by omega)]at a2
     simp only[hij,g3,Nat.sub_self,List.getElem?_cons_zero,Option.some.injEq]at a2;subst a2;exact rvv
    ·have:=(Array.getElem?_eq_some_iff.1 a1).1
     rw[Zr (by omega)]at a2
     exact g5 j e' k' a1 a2
  ·cases hev
theorem RdC.tup2{u v:Value}{c d:CV}(h:RdC G u c)(k:RdC G v d):RdC G (.tuple #[u,v]) (.tup [c,d]):=by
 refine .tup [u,v] [c,d] rfl (λ i x y hx hy=>?_)
 match i with
 | 0=>cases hx;cases hy;exact h
 | 1=>cases hx;cases hy;exact k
 | i+2=>simp at hx
theorem wh{t:TypeId}{z:CV}(hz:YO P t=some z)(G:Gh):∃ v,(∀ w,(zeroValue t).run P w=.ok v w)/\RdC G v z.wk:=by
 obtain⟨i,v,h1,h2,h3,h4,h5,h6⟩:=WZ hz;exact⟨v,h6,(h3 G).wk⟩
theorem gL(hi:Inv G h w)(hs:SlotsRel G s a nt)(hg:GlobOk e G){t kt el kc:Nat}(ht:P.underlying t=some (.map kt el))(hkc:JR P kt=some kc){zc:CV}(hz:YO P el=some zc){m k:Operand}{rm rk:Rand}(hm:Yx m=some rm)(hk:Yx k=some rk){ok:Bool}{z:X}
  (hev:evalOp e s h (.lookup kc zc.wk ok rm rk)=some (z,h')) {q:Sem Next} (hq:q=(do pure (.value (<- Instr.lookup t (a.eval m) (a.eval k) ok)))):OpOk P G h w q z h':=by
 have xm:=ZC hs hg hm
 have xk:=ZC hs hg hk
 obtain⟨d,hd,hD⟩:=QF hkc;obtain⟨zv,z1,z2⟩:=wh hz G;have look:∀ {ks vs:List CV} {es:Array MapEntry},es.size=ks.length->es.size=vs.length->(∀ (i:Nat) e k,es[i]?=some e->ks[i]?=some k->RdC G e.key k)->(∀ (i:Nat) e v,es[i]?=some e->vs[i]?=some v->RdC G e.val v)->
   ((Instr.lookup t (a.eval m) (a.eval k) ok).run P w=(do
    Instr.checkKey es.isEmpty 10000 kt (a.eval k)
    let (v,o) <- match <- Instr.findKey kt (a.eval k) es.toList with
     | some (_,v)=>pure (v,true)
     | none=>pure (<- zeroValue el,false)
    pure (if ok then .tuple #[v,.bool o] else v):Sem Value).run P w)->
   (match ZJ e s rk with
   | .c kv=>bif !(YG kc kv) then none else match findKey kv ks 0 with
    | some (some i)=>match vs[i]? with
     | some v=>some (bif ok then .c (.tup [v,.bool true]) else .c v,h)
     | none=>none
    | some none=>some (bif ok then .c (.tup [zc.wk,.bool false]) else .c zc.wk,h)
    | none=>none
   | _=>none)=some (z,h')->OpOk P G h w q z h':=by
  intro ks vs es g2 g3 g4 g5 hrun hev;split at hev
  case h_2=>cases hev
  rename_i kv e2;rw[e2]at xk;have rk:=xk.c_inv
  cases hki:YG kc kv with
  | false=>rw[hki]at hev;simp at hev
  | true=>
   rw[hki]at hev;simp only[Bool.not_true,cond_false]at hev;split at hev
   ·rename_i i hf;split at hev
    case h_2=>cases hev
    rename_i v hv;cases hev;obtain⟨r,f1,f2,f3⟩:=Vy (es:=es.toList) rk hD hki (by simpa using g2) (λ i e k a b=>g4 i e k (by simpa using a) b) hf
    obtain⟨en,n1,n2,_,n4⟩:=f3 i rfl;simp only[Nat.sub_zero]at n1 n2;have rv:=g5 i en v (by simpa using n1) hv
    refine .same hi (v:=if ok then .tuple #[en.val,.bool true] else en.val) ?_ ?_
    ·rw[hq];simp[hrun,Vh hd hD,VI hd f1,n4,Result.andThen]
    ·cases ok
     ·exact .c _ _ rv
     ·exact .c _ _ (rv.tup2 (.bool true))
   ·rename_i hf;cases hev;obtain⟨r,f1,f2,f3⟩:=Vy (es:=es.toList) rk hD hki (by simpa using g2) (λ i e k a b=>g4 i e k (by simpa using a) b) hf
    have hr:=f2 rfl
    refine .same hi (v:=if ok then .tuple #[zv,.bool false] else zv) ?_ ?_
    ·rw[hq];simp[hrun,Vh hd hD,VI hd f1,hr,z1,Result.andThen]
    ·cases ok
     ·exact .c _ _ z2
     ·exact .c _ _ (z2.tup2 (.bool false))
   ·cases hev
 simp only[evalOp]at hev;split at hev
 ·rename_i e1;rw[e1]at xm;have em:a.eval m=.map none:=by generalize a.eval m=y at xm;cases xm.c_inv;rfl
  exact look (ks:=[]) (vs:=[]) (es:=#[]) rfl rfl (by simp) (by simp) (by rw[em];simp[Instr.lookup,ZR ht];rfl) hev
 ·rename_i ks vs e1;rw[e1]at xm;obtain⟨b,es,em,g1,g2,g3,g4,g5⟩:=xm.imap_inv;obtain⟨clk,g0,_⟩:=hi.pmap b es g1;refine look (es:=es.toArray) (by simpa using g2) (by simpa using g3) (λ i e k a b=>g4 i e k (by simpa using a) b) (λ i e k a b=>g5 i e k (by simpa using a) b) (by rw[em];simp[Instr.lookup,ZR ht,MapKept.run_getObj_map g0];rfl) hev
 ·rename_i id e1;rw[e1]at xm;obtain⟨b,hb,em⟩:=xm.map_inv;split at hev
  case h_2=>cases hev
  rename_i ks vs ho;obtain⟨es,clk,g1,g2,g3,g4,g5,g6,g7,_⟩:=hi.mapAt ho hb;exact look g2 g3 g4 g5 (by rw[em];simp[Instr.lookup,ZR ht,MapKept.run_getObj_map g1];rfl) hev
 ·cases hev
theorem gR(hi:Inv G h w)(hs:SlotsRel G s a nt)(hg:GlobOk e G){t xt:Nat}{d:TypeDesc}(ht:P.underlying t=some d)(hnd:∀ ms,d ≠ .interface ms){zc:CV}(hz:YO P t=some zc){x:Operand}{r:Rand}(hx:Yx x=some r){ok:Bool}{z:X}
  (hev:evalOp e s h (.assert t ok zc.wk r)=some (z,h')) {q:Sem Next} (hq:q=(do pure (.value (<- Instr.typeAssert (a.eval x) xt t ok)))):OpOk P G h w q z h':=by
 have hv:=ZC hs hg hx
 obtain⟨zv,z1,z2⟩:=wh hz G;simp only[evalOp]at hev;split at hev
 ·rename_i e1;rw[e1]at hv;have em:=hv.nilif_inv
  cases ok with
  | false=>simp at hev
  | true=>
   simp only[cond_true,Option.some.injEq,Prod.mk.injEq]at hev;obtain⟨rfl,rfl⟩:=hev;refine .same hi (v:=.tuple #[zv,.bool false]) ?_ (.c _ _ (z2.tup2 (.bool false)));rw[hq,em];cases d<;>first|exact absurd rfl (hnd _)|simp[Instr.typeAssert,ZR ht,z1]
 ·rename_i u c e1;rw[e1]at hv;obtain⟨v,em,rv⟩:=hv.iface_inv;by_cases hu:u=t
  ·subst hu;rw[Nat.beq_refl]at hev;simp only[cond_true,Option.some.injEq,Prod.mk.injEq]at hev;obtain⟨rfl,rfl⟩:=hev;refine .same hi (v:=if ok then .tuple #[v,.bool true] else v) ?_ ?_
   ·rw[hq,em];cases d<;>first|exact absurd rfl (hnd _)|simp[Instr.typeAssert,ZR ht]
   ·cases ok
    ·exact .c _ _ rv
    ·exact .c _ _ (rv.tup2 (.bool true))
  ·have:Nat.beq u t=false:=by
    cases hb:Nat.beq u t with
    | false=>rfl
    | true=>exact absurd (Zd hb) hu
   rw[this]at hev;cases ok with
   | false=>simp at hev
   | true=>
    simp only[cond_true,cond_false,Option.some.injEq,Prod.mk.injEq]at hev;obtain⟨rfl,rfl⟩:=hev;refine .same hi (v:=.tuple #[zv,.bool false]) ?_ (.c _ _ (z2.tup2 (.bool false)));rw[hq,em];cases d<;>first|exact absurd rfl (hnd _)|simp[Instr.typeAssert,ZR ht,z1,hu]
 ·cases hev
end
end
section
def Gh.row(G:Gh)(b:Nat)(vals:List Value):Gh:={ G with prot:=λ c o=>if c=b then vals[o]? else G.prot c o }
section
variable {P:Program} {e:Env} {G:Gh} {h h':Mem} {w:World} {s:Zf} {a:Act} {nt:Nat}
theorem Inv.prot_new(hi:Inv G h w){b:Nat}(hb:w.heap.size<=b)(o:Nat):G.prot b o=none:=by
 cases hp:G.prot b o with
 | none=>rfl
 | some u=>exact absurd (hi.prot_lt hp) (by omega)
theorem yh(hi:Inv G h w)(vals:List Value):G.le (G.row w.heap.size vals):=by
 refine⟨λ b o v hv=>?_,λ _ _ x=>x,λ _ _ x=>x,λ _ _ _ x=>x⟩
 have hb:=hi.prot_lt hv
 show(if b=w.heap.size then _ else _)=_;rw[if_neg (by omega)];exact hv
theorem jH(G:Gh)(b:Nat)(vals:List Value)(o:Nat):(G.row b vals).prot b o=vals[o]?:=by simp[Gh.row]
theorem Step.row(hi:Inv G h w){w':World}(hsz:w.heap.size<=w'.heap.size)(hold:∀ b,b < w.heap.size->w'.heap[b]?=w.heap[b]?)(ho:w'.os=w.os)(htp:w'.tape=w.tape)(hou:w'.output=w.output)(vals:List Value)
  (hc:∀ (i:Nat) v,vals[i]?=some v->w'.cell? ⟨w.heap.size,i,none⟩=some v/\v.oneCell'=true):Step G h w (G.row w.heap.size vals) h w':=by
 have hle:=yh hi vals
 have hpc:∀ b o v,(G.row w.heap.size vals).prot b o=some v->(b=w.heap.size/\vals[o]?=some v)\/G.prot b o=some v:=by
  intro b o v x;simp only[Gh.row]at x;split at x
  ·exact .inl ⟨‹_›,x⟩
  ·exact .inr x
 refine⟨⟨λ b q v x=>?_,λ b es x=>?_,λ id ob hob=>?_,?_,hi.new⟩,Nat.le_refl _,⟨hsz,λ b hb _=>hold b hb,ho,htp,hou⟩,
  hle.prot,λ _ _ x=>x,λ _ _ _ x=>x,λ _ _ _ _ x=>x,λ b o v x=>?_,λ _ _ x=>.inl x,λ b x=>.inl x⟩
 ·rcases hpc b q v x with ⟨rfl,y⟩|y
  ·exact hc q v y
  ·refine⟨?_,(hi.prot b q v y).2⟩;have:=(hi.prot b q v y).1
   rw[XX]at this ⊢;rw[hold b (hi.prot_lt y)];exact this
 ·obtain⟨clk,y⟩:=hi.pmap b es x;exact⟨clk,by rw[hold b (XF y.1)];exact y.1,y.2⟩
 ·refine(hi.ob id ob hob).keep hle (λ b hb=>hold b (hi.blk_lt hob hb)) (λ b hb=>⟨λ q hq=>?_,rfl⟩) (λ u x=>x)
  have:=hi.blk_lt hob hb
  show(if b=w.heap.size then _ else _)=_;rw[if_neg (by omega)];exact hq
 ·exact hi.inj
 ·rcases hpc b o v x with ⟨rfl,y⟩|y
  ·exact .inr (.inr (Nat.le_refl _))
  ·exact .inl y
theorem RdC.row(hi:Inv G h w){st:Nat}{es:List CV}(hs:Sized st es){vals:List Value}(hv:RdCL G vals (Yw es))(cap:Nat)(full:Bool)(hf:full=true->cap=es.length)(hc:es.length<=cap) :
  RdC (G.row w.heap.size vals) (.slice (some ⟨w.heap.size,0,none⟩) es.length cap) (.sl full es):=by
 refine Xn (s:=st) (WW hs (hv.mono (yh hi vals)) (λ i v hv'=>?_)) hf hc
 rw[Nat.zero_add,jH];exact hv'
theorem GZ(hi:Inv G h w)(hs:SlotsRel G s a nt)(hg:GlobOk e G){t n el:TypeId}(ht:P.underlying t=some (.array n el)){z:CV}(hz:YO P t=some z)(hok:OH P el=true)
  {ps:Array (Nat × Operand)} {l:List (Nat × Nat × Rand)} (hps:VF (λ i=>some (i*Zy P el,Zy P el)) ps.toList=some l) {y:X}
  (hev:evalOp e s h (.build z.cells l)=some (y,h')) (o:Oper) (ho:o.op=.build t ps):OpOk P G h w (execOp a.eval o) y h':=by
 obtain⟨i,v,h1,h2,h3,h4,h5,h6⟩:=WZ hz;obtain⟨a1,a2⟩:=(h3 G).cells h4;simp only[evalOp]at hev;split at hev
 ·rename_i cs hcs;cases hev;obtain⟨cs',k1,k2,k3⟩:=yJ hs hg hps (cs:=v.cells) a1.toX a2 hcs;refine .same hi (v:=.agg cs') ?_ (by have:=VB k2 k3;simpa using this)
  have hpt:(Array.map (fun (i,x)=>(i,a.eval x)) ps).toList=ps.toList.map fun (i,x)=>(i,a.eval x):=by simp
  simp only[execOp,ho,Instr.build,Sem.run_bind,h6,Result.andThen,ZR ht,wj hok,hpt,k1,Sem.run_pure]
 ·cases hev
theorem GF:∀ (us:List X) (cs:List X) (o:Nat),o+us.length<=cs.length->setAt cs o us=cs.take o++us++cs.drop (o+us.length)
 | [],cs,o,_=>by simp[setAt]
 | u::us,cs,o,hl=>by
  simp only[List.length_cons]at hl;rw[setAt,GF us _ _ (by simp;omega),List.take_set,List.drop_set]
  rw[if_pos (by omega)]
  have:(cs.take (o+1)).set o u=cs.take o++[u]:=by
   rw[List.set_eq_take_append_cons_drop];simp[List.take_take];omega
  rw[this];simp only[List.append_assoc,List.cons_append,List.nil_append,List.length_cons];rw[show o+1+us.length=o+(us.length+1) by omega]
theorem gD(A B C V:List X)(hl:V.length=B.length):setAt (A++(B++C)) A.length V=A++(V++C):=by
 rw[GF _ _ _ (by simp[hl]),hl]
 rw[List.take_left,List.drop_append,List.drop_eq_nil_of_le (by simp),List.nil_append,Yk,List.drop_left]
 simp
theorem Ak{st:Nat}{es:List CV}(hs:Sized st es){i:Nat}(hi:i < es.length){v:CV}(hv:v.cells.length=st) :
  (Yw (es.set i v)).map X.c=setAt ((Yw es).map X.c) (i*st) (v.cells.map X.c):=by
 have s1:Sized st (es.take i):=λ c hc=>hs c (List.mem_of_mem_take hc)
 have l1:(Yw (es.take i)).length=i*st:=by rw[Yh s1,List.length_take,Nat.min_eq_left (by omega)]
 have l2:es[i].cells.length=st:=hs _ (Zh hi)
 have h1:Yw es=Yw (es.take i)++(es[i].cells++Yw (es.drop (i+1))):=by
  rw[<- X7,<- Wv];congr 1;simp
 rw[List.set_eq_take_append_cons_drop,if_pos hi,Wv,X7];generalize Yw (es.take i)=A at *
 generalize Yw (es.drop (i+1))=C at *
 rw[h1];simp only[List.map_append];have:=gD (A.map X.c) (es[i].cells.map X.c) (C.map X.c) (v.cells.map X.c) (by simp[hv,l2])
 rw[List.length_map,l1]at this;exact this.symm
theorem Sized.set{st:Nat}{es:List CV}(hs:Sized st es){i:Nat}{v:CV}(hv:v.cells.length=st):Sized st (es.set i v):=by
 intro c hc;rcases List.mem_or_eq_of_mem_set hc with h | h
 ·exact hs c h
 ·rw[h];exact hv
end
end
section
section
variable {P:Program} {e:Env} {G:Gh} {h h':Mem} {w:World} {s:Zf} {a:Act} {nt:Nat}
theorem uP(hs:SlotsRel G s a nt)(hg:GlobOk e G){st:Nat}:∀ {ps:List (Nat × Operand)} {l:List (Nat × Rand)},Q2 ps=some l->∀ {cs:Array Value} {es out:List CV},RdCL G cs.toList (Yw es)->Ones cs.toList->Sized st es->
  Xo st es (l.map fun (i,r)=>(i,ZJ e s r))=some out->∃ cs',Instr.fill (λ i=>some (i*st,st)) cs (ps.map fun (i,x)=>(i,a.eval x))=some cs'/\RdCL G cs'.toList (Yw out)/\Ones cs'.toList/\Sized st out/\out.length=es.length
 | [],l,hl,cs,es,out,h1,h2,h3,hf=>by
  simp[Q2]at hl;subst hl;simp[Xo]at hf;subst hf;exact⟨cs,rfl,h1,h2,h3,rfl⟩
 | (i,x)::r,l,hl,cs,es,out,h1,h2,h3,hf=>by
  simp only[Q2]at hl;split at hl
  ·rename_i rx rl hx hr;cases hl;simp only[List.map_cons,Xo]at hf;split at hf
   ·rename_i v hv;cases hb:(Nat.ble (i+1) es.length&&Nat.beq v.cells.length st) with
    | false=>rw[hb]at hf;simp at hf
    | true=>
     rw[hb]at hf;simp only[cond_true]at hf;simp only[Bool.and_eq_true]at hb;have c1:=Zg hb.1
     have c2:=Zd hb.2
     obtain⟨rv,nt1⟩:=(ZC hs hg hx).elem hv;obtain⟨r1,r2⟩:=rv.cells (λ vs hvs=>by
      rw[hvs]at rv;cases rv;exact nt1 _ rfl)
     have hset:=Ak h3 (i:=i) c1 c2
     have q1:=RdL.setAt (i*st) r1.toX h1.toX
     rw[<- hset]at q1;obtain⟨cs',k1,k2,k3,k4,k5⟩:=uP hs hg hr (cs:=setArr cs (i*st) (a.eval x).cells.toList) q1.closed (Ones.setArr _ r2 h2) (h3.set c2) hf;refine⟨cs',?_,k2,k3,k4,by simpa using k5⟩
     have hl1:(a.eval x).cells.size=st:=by have:=r1.1;simp at this;omega
     have hl2:cs.size=es.length*st:=by have:=h1.1;rw[Yh h3]at this;simpa using this
     have hle:(i+1)*st<=es.length*st:=Nat.mul_le_mul_right _ c1
     rw[Nat.add_mul]at hle;simp only[List.map_cons,Instr.fill];rw[if_neg (by simp;omega),wL]
     exact k1
   ·cases hf
  ·cases hl
theorem wf{z:CV}(n:Nat):Sized z.cells.length (List.replicate n z):=by
 intro c hc;rw[(List.mem_replicate.1 hc).2]
theorem zl{v:Value}{z:CV}(hz:RdC G v z)(ht:∀ vs,v ≠ .tuple vs)(n:Nat) :
  RdCL G ((Array.range (n*z.cells.length)).map (v.cells[· % v.cells.size]!)).toList (Yw (List.replicate n z))/\Ones ((Array.range (n*z.cells.length)).map (v.cells[· % v.cells.size]!)).toList:=by
 obtain⟨a1,a2⟩:=hz.cells ht;have hsz:v.cells.size=z.cells.length:=by simpa using a1.1
 have hs:=wf (z:=z) n
 constructor
 ·refine⟨by rw[Yh hs];simp,λ k u c hu hc=>?_⟩
  have hk:=(Za.1 hc).1
  rw[Yh hs,List.length_replicate]at hk;have h0:0 < z.cells.length:=by
   rcases Nat.eq_zero_or_pos z.cells.length with h | h
   ·rw[h]at hk;omega
   ·exact h
  have hm:=Nat.mod_lt k h0
  have hd:k / z.cells.length < n:=Nat.div_lt_of_lt_mul (by rw[Nat.mul_comm];exact hk)
  have hg:=QL hs (k / z.cells.length) (k % z.cells.length) z (by simp[hd]) hm
  rw[Nat.div_add_mod',hc]at hg;simp only[Array.toList_map,List.getElem?_map,Array.toList_range,List.getElem?_range hk,Option.map_some,Option.some.injEq]at hu;rw[hsz]at hu;have h2:k % z.cells.length < v.cells.size:=by omega
  rw[getElem!_pos v.cells _ h2]at hu;refine a1.2 (k % z.cells.length) u c ?_ hg.symm;rw[<- hu];simp[h2]
 ·intro u hu;simp only[Array.toList_map,List.mem_map,Array.toList_range,List.mem_range]at hu;obtain⟨k,hk,rfl⟩:=hu;have h0:0 < z.cells.length:=by
   rcases Nat.eq_zero_or_pos z.cells.length with h | h
   ·rw[h]at hk;omega
   ·exact h
  have hm:=Nat.mod_lt k h0
  have h2:k % v.cells.size < v.cells.size:=by rw[hsz];exact hm
  rw[getElem!_pos v.cells _ h2];exact a2 _ (by simp)
theorem Qb(hi:Inv G h w)(hs:SlotsRel G s a nt)(hg:GlobOk e G){t n el:TypeId}(ht:P.underlying t=some (.slice el)){z:CV}(hz:YO P el=some z)(hsm:n*Zy P el<=65536)(h0:Zy P el ≠ 0)
  {ps:Array (Nat × Operand)} {l:List (Nat × Rand)} (hps:Q2 ps.toList=some l) {y:X} {ag:Bool}
  (hev:evalOp e s h (.buildSl ag (Zy P el) n z.wk l)=some (y,h')) (o:Oper) (ho:o.op=.buildSlice t n ps) :
  ∃ (cs':Array Value) (es:List CV),y=.c (.sl true es)/\h'=h/\n=es.length/\(execOp a.eval o).run P w=.ok (.value (.slice (some ⟨w.heap.size,0,none⟩) n n)) (w.alloc (.cells cs' el))/\
   RdCL G cs'.toList (Yw es)/\Ones cs'.toList/\Sized (Zy P el) es:=by
 obtain⟨i,v,h1,h2,h3,h4,h5,h6⟩:=WZ hz;have hsi:Zy P el=i.size:=by simp[Zy,h1]
 simp only[evalOp]at hev;split at hev
 case h_2=>cases hev
 rename_i es hes;cases hev;have hwk:z.wk.cells.length=Zy P el:=by
  have a1:=((h3 G).cells h4).1.1
  have b1:=((h3 G).wk.cells h4).1.1
  rw[hsi,<- h5,<- a1,<- b1]
 obtain⟨z1,z2⟩:=zl (h3 G).wk h4 n;rw[hwk]at z1 z2;obtain⟨cs',k1,k2,k3,k4,k5⟩:=uP hs hg hps z1 z2 (by rw[<- hwk];exact wf n) hes
 simp only[List.length_replicate]at k5;refine⟨cs',es,rfl,rfl,k5.symm,?_,k2,k3,k4⟩;have hpt:(Array.map (fun (i,x)=>(i,a.eval x)) ps).toList=ps.toList.map fun (i,x)=>(i,a.eval x):=by simp
 have hbig:¬ n*Zy P el > 2 ^ 24:=by have:(2:Nat) ^ 24=16777216:=rfl;exact λ hx=>absurd (Nat.lt_of_lt_of_le hx hsm) (by rw[this];decide)
 by_cases hn:n*Zy P el=0
 ·have he:((Array.range (n*Zy P el)).map (v.cells[· % v.cells.size]!))=((Array.range (n*Zy P el)).map ((#[]:Array Value)[· % (#[]:Array Value).size]!)):=by rw[hn];simp
  rw[he]at k1;simp only[execOp,ho,Instr.buildSlice,Sem.run_bind,ZR ht,Result.andThen,YU h0,if_neg hbig,if_pos hn,hpt,k1,Sem.run_pure,newRow,run_newObj];rfl
 ·simp only[execOp,ho,Instr.buildSlice,Sem.run_bind,ZR ht,Result.andThen,YU h0,if_neg hbig,if_neg hn,hpt,h6,k1,Sem.run_pure,newRow,run_newObj];rfl
theorem vd(hi:Inv G h w)(hs:SlotsRel G s a nt)(hg:GlobOk e G){t n el:TypeId}(ht:P.underlying t=some (.slice el)){z:CV}(hz:YO P el=some z)(hsm:n*Zy P el<=65536)(h0:Zy P el ≠ 0)
  {ps:Array (Nat × Operand)} {l:List (Nat × Rand)} (hps:Q2 ps.toList=some l) {y:X} {ag:Bool}
  (hev:evalOp e s h (.buildSl ag (Zy P el) n z.wk l)=some (y,h')) (o:Oper) (ho:o.op=.buildSlice t n ps):OpOk P G h w (execOp a.eval o) y h':=by
 obtain⟨cs',es,rfl,rfl,rfl,hrun,k2,k3,k4⟩:=Qb hi hs hg ht hz hsm h0 hps hev o ho;refine⟨_,w.alloc (.cells cs' el),G.row w.heap.size cs'.toList,.inl hrun,Step.row hi (by rw[WR];exact Nat.le_succ _) (λ b hb=>YD w _ hb) rfl rfl rfl cs'.toList (λ i v hv=>⟨?_,k3 v (ZI hv)⟩),.c _ _ (RdC.row hi k4 k2 es.length true (λ _=>rfl) (Nat.le_refl _))⟩
 rw[XN (YH w _)];simpa using hv
theorem zB(w:World)(cs:Array Value)(el:Nat){s el':TypeId}(hu:P.underlying s=some (.slice el'))(he:P.underlying el'=some (.int .u8))(n c:Nat) :
  (convert s s (.slice (some ⟨w.heap.size,0,none⟩) n c)).run P (w.alloc (.cells cs el))=.ok (.slice (some ⟨w.heap.size,0,none⟩) n c) (w.alloc (.cells cs el (cs.size,cs.size+1))):=by
 have hsh:(shape w.heap.size).run P (w.alloc (.cells cs el))=.ok (some (el,cs.size)) (w.alloc (.cells cs el)):=by
  have:(w.alloc (.cells cs el)).shape? w.heap.size=some (el,cs.size):=by
   unfold World.shape?;rw[YH w _]
  show((Sem.pure ((w.alloc (.cells cs el)).shape? w.heap.size)).run P (w.alloc (.cells cs el)))=_;rw[this];rfl
 have hfr:(w.alloc (.cells cs el)).freeze ⟨w.heap.size,cs.size,none⟩ 1=w.alloc (.cells cs el (cs.size,cs.size+1)):=by
  have hm:∀ (a:Array Obj) (x:Obj) (f:Obj->Obj),(a.push x).modify a.size f=a.push (f x):=by
   intro a x f;apply Array.ext
   ·simp
   ·intro i h1 h2;simp only[Array.getElem_modify,Array.getElem_push];by_cases h:a.size=i
    ·subst h;simp
    ·have hi:i < a.size:=by simp at h1;omega
     simp[h,hi]
  unfold World.freeze;rw[if_neg (by decide)]
  show({ w.alloc (.cells cs el) with heap:=(w.heap.push (.cells cs el)).modify w.heap.size _ }:World)=_
  rw[hm];rfl
 have hfr':(freeze { block:=w.heap.size,off:=cs.size } 1).run P (w.alloc (.cells cs el))=.ok () (w.alloc (.cells cs el (cs.size,cs.size+1))):=by
  rw[<- hfr];rfl
 simp only[convert,Sem.run_bind,ZR hu,ZR he,Result.andThen,beq_self_eq_true,markStringish,hsh,hfr'];rfl
theorem zF(hi:Inv G h w)(hs:SlotsRel G s a nt)(hg:GlobOk e G){t u el:TypeId}(ht:P.underlying t=some .string)(hu:P.underlying u=some (.slice el))(hel:P.underlying el=some (.int .u8))
  {x:Operand} {r:Rand} (hx:Yx x=some r) {z:X} (hev:evalOp e s h (.strBytes r)=some (z,h')) (o:Oper) (ho:o.op=.convert t u x):OpOk P G h w (execOp a.eval o) z h':=by
 have hv:=ZC hs hg hx
 simp only[evalOp]at hev;split at hev
 case h_2=>cases hev
 rename_i l e1;rw[e1]at hv;have em:=hv.str_inv
 cases hb:Nat.ble l.length Qq with
 | false=>rw[hb]at hev;simp at hev
 | true=>
  rw[hb]at hev;simp only[cond_true,Option.some.injEq,Prod.mk.injEq]at hev;obtain⟨rfl,rfl⟩:=hev;have c1:=Zg hb
  have hrd:RdCL G (l.map λ b=>Value.int .u8 b.toNat) (Yw (l.map Zt)):=by
   rw[KX];refine⟨by simp,λ i v c hv hc=>?_⟩
   simp only[List.getElem?_map,Zc]at hv hc;obtain⟨p,hp,rfl⟩:=hv;obtain⟨q,hq,rfl⟩:=hc;rw[hp]at hq;cases hq;exact .int .u8 _
  have hcap:l.length<=grownCap w l.length 0 el:=by
   simp only[grownCap,Question.cut];omega
  refine⟨_,_,G.row w.heap.size (l.map λ b=>Value.int .u8 b.toNat),.inl ?_,Step.row hi (by rw[Lib.bytesWorld_size];omega) (λ b hb=>Lib.bytesWorld_at_old w el ⟨l.toArray⟩ b hb) ?_ ?_ ?_ _ (λ i v hv=>?_),
   .c _ _ (RdC.row (es:=l.map Zt) (st:=1) hi (λ c hc=>?_) hrd (grownCap w l.length 0 el) false (by simp) (by simpa using hcap))⟩
  ·have:=Lib.run_convert_string_bytes (P:=P) w t u el ⟨l.toArray⟩ ht hu hel
   simp only[execOp,ho,em,Sem.run_bind,this,Result.andThen,Sem.run_pure];simp[ByteArray.size]
  ·simp[Lib.bytesWorld,World.freeze,World.alloc,World.drew,-World.alloc_eq,-World.drew_eq]
  ·simp[Lib.bytesWorld,World.freeze,World.alloc,World.drew,-World.alloc_eq,-World.drew_eq]
  ·simp[Lib.bytesWorld,World.freeze,World.alloc,World.drew,-World.alloc_eq,-World.drew_eq]
  ·simp only[List.getElem?_map,Zc]at hv;obtain⟨p,hp,rfl⟩:=hv;have:=(Za.1 hp).1
   refine⟨?_,rfl⟩;rw[Lib.bytesWorld_cell w el ⟨l.toArray⟩ i (by simpa [ByteArray.size] using this)]
   simp[List.getD,hp]
  ·simp only[List.mem_map]at hc;obtain⟨b,_,rfl⟩:=hc;rfl
end
end
section
section
variable {P:Program} {e:Env} {G:Gh} {h h':Mem} {w:World} {s:Zf} {a:Act} {nt:Nat}
theorem KU{t:TypeId}{c:Nat}(hk:JR P t=some c)(w:World):(isAgg t).run P w=.ok false w:=by
 obtain⟨d,h1,h2⟩:=QF hk;cases h2<;>simp[isAgg,ZR h1]
theorem q9{t:TypeId}{c d:Nat}(hk:JR P t=some c){u v:Value}{x y:CV}(hu:RdC G u x)(hv:RdC G v y)(h1:YG c x=true)(h2:YG c y=true){b:Bool}(he:We x y=some b)(w:World) :
  (Op.equalIn (d+1) t u v).run P w=.ok b w:=by
 obtain⟨td,k1,k2⟩:=QF hk;cases k2
 ·cases x<;>simp[YG]at h1
  cases y<;>simp[YG]at h2
  cases hu;cases hv;rename_i k n k' n';simp only[We]at he;cases hkk:WO k k' with
  | false=>rw[hkk]at he;simp at he
  | true=>
   rw[hkk]at he;simp at he;have:=QE hkk;subst this
   rw[run_equalIn_int w d t k _ n n' k1,he]
 ·cases x<;>simp[YG]at h1
  cases y<;>simp[YG]at h2
  cases hu;cases hv;simp only[We,Option.some.injEq]at he;rw[run_equalIn_string w d t _ _ k1,<- he];simp
 ·cases x<;>simp[YG]at h1
  cases y<;>simp[YG]at h2
  cases hu;cases hv;simp only[We,Option.some.injEq]at he;rw[run_equalIn_bool w d t _ _ k1,<- he]
theorem KZ{vs us:List Value}{xs ys:List CV}(hx:RdCL G vs xs)(hy:RdCL G us ys)(d:Nat)(w:World):∀ {fs:List Field} {offs:List (Nat × Nat)} {b:Bool},Kx P fs=some offs->XM xs ys offs=some b->
  (Op.eqFields (d+1) vs.toArray us.toArray fs).run P w=.ok b w
 | [],offs,b,ho,hc=>by
  simp[Kx]at ho;subst ho;simp[XM]at hc;subst hc;simp[Op.eqFields]
 | f::fs,offs,b,ho,hc=>by
  simp only[Kx]at ho;split at ho
  ·cases ho
  ·rename_i hn;split at ho
   ·rename_i c l hk hl;cases ho;simp only[XM]at hc;split at hc
    ·rename_i x y e1 e2;cases hki:(YG c x&&YG c y) with
     | false=>rw[hki]at hc;simp at hc
     | true=>
      rw[hki]at hc;simp only[cond_true]at hc;simp only[Bool.and_eq_true]at hki;split at hc
      ·rename_i b1 b2 q1 q2;cases hc;have hxl:=(Za.1 e1).1
       have hyl:=(Za.1 e2).1
       rw[<- hx.1]at hxl;rw[<- hy.1]at hyl;have r1:=hx.2 f.offset vs[f.offset] x (by simp[hxl]) e1
       have r2:=hy.2 f.offset us[f.offset] y (by simp[hyl]) e2
       have p1:(part f.type vs.toArray f.offset).run P w=.ok vs[f.offset] w:=by
        simp[part,KU hk,Result.andThen,hxl]
       have p2:(part f.type us.toArray f.offset).run P w=.ok us[f.offset] w:=by
        simp[part,KU hk,Result.andThen,hyl]
       have p3:=q9 (d:=d) hk r1 r2 hki.1 hki.2 q1 w
       have ih:=KZ hx hy d w hl q2
       simp only[Op.eqFields];rw[if_pos hn];simp only[Sem.run_bind,p1,p2,p3,Result.andThen];cases b1
       ·simp
       ·simpa using ih
      ·cases hc
    ·cases hc
   ·cases ho
theorem BH(hi:Inv G h w)(hs:SlotsRel G s a nt)(hg:GlobOk e G){k:BinOp}{t yt:TypeId}{fs:Array Field}(ht:P.underlying t=some (.struct fs))(hst:P.stoodInHeld t=false)(hgt:P.eqGuardType P.depth t=false){offs:List (Nat × Nat)}(hof:Kx P fs.toList=some offs){x y:Operand}{rx ry:Rand}(hx:Yx x=some rx)(hy:Yx y=some ry){z:X}{neg:Bool}
  (hk:k=bif neg then .neq else .eql) (hev:evalOp e s h (.eqa neg offs rx ry)=some (z,h')) (o:Oper) (ho:o.op=.binOp k t x y yt):OpOk P G h w (execOp a.eval o) z h':=by
 have h1:=ZC hs hg hx
 have h2:=ZC hs hg hy
 simp only[evalOp]at hev;split at hev
 ·rename_i xs ys e1 e2;cases hb:XM xs ys offs with
  | none=>rw[hb]at hev;simp[VT]at hev
  | some b=>
   rw[hb]at hev;simp only[VT,Option.some.injEq,Prod.mk.injEq]at hev;obtain⟨rfl,rfl⟩:=hev;obtain⟨vs,v1,l1,_⟩:=h1.aggCells (cs:=xs.map X.c) (by rw[e1];rfl)
   obtain⟨us,v2,l2,_⟩:=h2.aggCells (cs:=ys.map X.c) (by rw[e2];rfl)
   have hfo:P.fieldsOf t=fs:=by simp[Program.fieldsOf,ht]
   refine Vr hi hk (by rw[v1,v2];exact run_eqGuard_agg w k t x y vs us hgt) (λ kk hkk=>?_) ?_ o ho
   ·rw[v1,v2];rcases hkk with rfl | rfl<;>rfl
   ·rw[v1,v2];have:=KZ (P:=P) l1.closed l2.closed 9998 w hof hb
    simp only[Array.toArray_toList]at this;show(Op.equalIn (9999+1) t (.agg vs) (.agg us)).run P w=.ok b w;rw[run_equalIn_struct w 9999 t vs us (by rw[hfo];exact ht) hst,hfo]
    exact this
 ·cases hev
theorem wt{v:Value}{x:X}{n:Nat}(h:RdX G v x)(hn:YA x=some n)(w:World):(asInt v).run P w=.ok (n:Int) w:=by
 obtain⟨k,rfl⟩:=Y8 h hn;simp[asInt,asIntOf]
theorem EJ(hi:Inv G h w)(hs:SlotsRel G s a nt)(hg:GlobOk e G){t el:TypeId}(ht:P.underlying t=some (.slice el))(h0:Zy P el ≠ 0){zc:CV}(hz:YO P el=some zc)
  {x y:Operand} {rx ry:Rand} (hx:Yx x=some rx) (hy:Yx y=some ry) {ag:Bool} {z:X} (hev:evalOp e s h (.mkSl ag el (Zy P el) (P.bytesOf el) zc rx ry)=some (z,h')) {q:Sem Next}
  (hq:q=(do pure (.value (<- Instr.makeSlice t (a.eval x) (a.eval y))))):OpOk P G h w q z h':=by
 have hvx:=ZC hs hg hx
 have hvy:=ZC hs hg hy
 obtain⟨i,v,h1,h2,h3,h4,h5,h6⟩:=WZ hz;have hsi:Zy P el=i.size:=by simp[Zy,h1]
 have hby:P.bytesOf el=i.bytes:=by simp[Program.bytesOf,h1]
 simp only[evalOp]at hev;split at hev
 case h_2=>cases hev
 rename_i ln cp e1 e2;have i1:=wt (P:=P) hvx e1 w
 have i2:=wt (P:=P) hvy e2 w
 cases hb:(Nat.ble ln cp&&Nat.ble cp Qq&&Nat.ble (P.bytesOf el) 4096) with
 | false=>rw[hb]at hev;simp at hev
 | true=>
  rw[hb]at hev;simp only[cond_true]at hev;simp only[Bool.and_eq_true]at hb;have c1:=Zg hb.1.1
  have c2:=Zg hb.1.2
  have c3:=Zg hb.2
  obtain⟨z1,z2⟩:=zl (h3 G) h4 cp;have hzl:zc.cells.length=Zy P el:=by rw[hsi];exact h5
  rw[hzl]at z1 z2;obtain⟨k1,x1⟩:=Y8 hvx e1;obtain⟨k2,x2⟩:=Y8 hvy e2;have hb1:(i.bytes:Int)*(cp:Int)<=281474976710656:=by
   have:=Nat.mul_le_mul c3 c2
   rw[hby]at this;unfold Qq at this;have e:((i.bytes*cp:Nat):Int)<=17592186044416:=by
    have h9:i.bytes*cp<=17592186044416:=this
    omega
   rw[<- Int.natCast_mul];omega
  have h63:(cp:Int)<=9223372036854775807:=by
   have:cp<=4294967296:=c2
   omega
  have hrun:=run_make (P:=P) w t el i v ht h1 h2 k1 k2 ln cp (by omega) (by omega) hb1 h63
  rw[<- x1,<- x2]at hrun;simp only[Int.toNat_natCast]at hrun;rw[<- hsi]at hrun;have hr2:q.run P w=.ok (.value (.slice (some ⟨w.heap.size,0,none⟩) ln cp)) (w.alloc (.cells (madeCells v.cells (cp*Zy P el)) el)):=by rw[hq];simp only[Sem.run_bind,hrun,Result.andThen,Sem.run_pure]
  cases ln with
  | zero=>
   cases cp with
   | zero=>
   simp only[Option.some.injEq,Prod.mk.injEq]at hev;obtain⟨rfl,rfl⟩:=hev;exact⟨_,_,G,.inl hr2,Step.alloc hi _,.c _ _ (Xn (s:=Zy P el) (Elems.nil _ _ _) (λ _=>rfl) (Nat.le_refl _))⟩
   | succ c=>
   simp only[Option.some.injEq,Prod.mk.injEq]at hev;obtain⟨rfl,rfl⟩:=hev;obtain⟨s1,s2⟩:=Ue (h':=h++[.tip 0 (Zy P el) el]) hi rfl rfl rfl rfl (el:=el) (Z1 h0) (es:=[]) (λ c hc=>by simp at hc) (vs:=[]) (rest:=(madeCells v.cells ((c+1)*Zy P el)).toList) (RdCL.nil G) (λ u hu=>by simp at hu) h.length 0 (.inl ⟨rfl,rfl,rfl⟩) (c+1)
    (by simp[size_madeCells]) (by simp)
   have hcells:(([]:List Value)++(madeCells v.cells ((c+1)*Zy P el)).toList).toArray=madeCells v.cells ((c+1)*Zy P el):=by simp
   rw[hcells]at s1;exact⟨_,_,_,.inl hr2,s1,s2⟩
  | succ ln'=>
   simp only at hev;cases hbe:Nat.beq (ln'+1) cp with
   | false=>rw[hbe]at hev;simp at hev
   | true=>
    rw[hbe]at hev;simp only[cond_true,Option.some.injEq,Prod.mk.injEq]at hev;obtain⟨rfl,rfl⟩:=hev;have:=Zd hbe;subst this
    have hfl:(List.replicate (ln'+1) (zc.cells.map X.c)).flatten=(Yw (List.replicate (ln'+1) zc)).map X.c:=by
     simp[Yw,List.map_flatten]
    rw[hfl];have hst:=Step.push hi (.cells el ((Yw (List.replicate (ln'+1) zc)).map X.c)) (.cells (madeCells v.cells ((ln'+1)*Zy P el)) el) (by
     refine⟨w.heap.size,_,_,Wf _ _ _,YH w _,?_,λ j c hc=>?_,λ o _ _=>by simp,λ o=>?_,?_⟩
     ·have:=z1.1;simpa [madeCells] using this
     ·have hx:=z1.toX
      have hl:=(Za.1 hc).1
      rw[<- hx.1]at hl;refine⟨(madeCells v.cells ((ln'+1)*Zy P el)).toList[j]'hl,?_,z2 _ (Zh _),?_⟩
      ·rw[<- Array.getElem?_toList];exact Zb hl
      ·exact(hx.2 j _ c (Zb hl) hc).mono (Qu (hi.new _ (Nat.le_refl _)).1)
     ·simp[Gh.at_,hi.prot_new (Nat.le_refl _)]
     ·cases hp:G.pmap w.heap.size with
      | none=>simp[Gh.at_,hp]
      | some u=>exact absurd (hi.pmap_lt hp) (by omega)) (by simp[blk,Gh.at_])
    exact⟨_,_,_,.inl hr2,hst,.ms h.length 0 (ln'+1) _ _ _ (Wf _ _ _) (Nat.le_refl _)⟩
theorem UI:∀ {l:List CV} {bs:List UInt8},bytesOf l=some bs->∀ {vs:List Value},RdCL G vs l->∃ ns:List Int,vs=ns.map (Value.int .u8)/\bs=ns.map λ n=>UInt8.ofNat n.toNat
 | [],bs,hb,vs,hv=>by
  simp[bytesOf]at hb;subst hb;exact⟨[],hv.inv_nil,rfl⟩
 | c::l,bs,hb,vs,hv=>by
  unfold bytesOf at hb;split at hb
  ·rename_i e;cases e
  ·rename_i n r e;cases e;split at hb
   ·rename_i bs' hbs;cases hb;obtain⟨v,us,rfl,r1,r2⟩:=hv.inv_cons;obtain⟨ns,rfl,rfl⟩:=UI hbs r2;cases r1;exact⟨n::ns,rfl,rfl⟩
   ·cases hb
  ·cases hb
theorem vy(ns:List Int):∀ acc:ByteArray,ns.foldl (λ r n=>r.push (UInt8.ofNat n.toNat)) acc=⟨acc.data++(ns.map λ n=>UInt8.ofNat n.toNat).toArray⟩:=by
 induction ns with
 | nil=>intro acc;simp
 | cons n ns ih=>
  intro acc;rw[List.foldl_cons,ih];apply ByteArray.ext;simp[ByteArray.push]
theorem Jw:∀ {l:List CV} {bs:List UInt8},bytesOf l=some bs->Yw l=l
 | [],_,_=>rfl
 | c::l,bs,hb=>by
  unfold bytesOf at hb;split at hb
  ·rename_i e;cases e
  ·rename_i n r e;cases e;split at hb
   ·rename_i bs' hbs;rw[X7,Jw hbs];rfl
   ·cases hb
  ·cases hb
theorem zH(hi:Inv G h w)(hs:SlotsRel G s a nt)(hg:GlobOk e G){t u el:TypeId}(ht:P.underlying t=some (.slice el))(hel:P.underlying el=some (.int .u8))(hu:P.underlying u=some .string)
  {x:Operand} {r:Rand} (hx:Yx x=some r) {z:X} (hev:evalOp e s h (.bytesStr r)=some (z,h')) (o:Oper) (ho:o.op=.convert t u x):OpOk P G h w (execOp a.eval o) z h':=by
 have hv:=ZC hs hg hx
 simp only[evalOp]at hev;split at hev
 case h_2=>cases hev
 rename_i l hl;split at hev
 case h_2=>cases hev
 rename_i bs hbs;cases hev;obtain⟨vs,n1,n2,n3,n4,n5⟩:=Ur (P:=P) hi hv (by omega) hl
 rw[Jw hbs]at n2;obtain⟨ns,e1,e2⟩:=UI hbs n2;have hlen:l.length=ns.length:=by rw[<- n2.1,e1];simp
 refine .same hi (v:=.string ⟨bs.toArray⟩) ?_ (.c _ _ (.str bs));have h1:=n5 w rfl
 have h0:=n4 w
 obtain⟨v,hv0⟩:∃ v,a.eval x=v:=⟨_,rfl⟩;rw[hv0]at h0 h1 hv;have hsh:(∃ b n c,v=.slice b n c)\/∃ s,v=.string s:=by
  cases v<;>first|exact .inl ⟨_,_,_,rfl⟩|exact .inr ⟨_,rfl⟩|(simp[Builtin.lenOf,stuck]at h0)
 rcases hsh with ⟨b,n,c,rfl⟩|⟨sv,rfl⟩
 ·have hconv:=run_convert_bytes_string (P:=P) w t u el b n c ht hel hu
  simp only[execOp,ho,Sem.run_bind,hv0,hconv];have hn:n=l.length:=by simpa [Builtin.lenOf] using h0
  cases b with
  | none=>
   simp only[Builtin.firstCells,Sem.run_pure,Result.ok.injEq,and_true]at h1;have:vs=[]:=by simpa using congrArg Array.toList h1.symm
   subst this;have:ns=[]:=by simpa using e1.symm
   subst this;simp[Conv.bytesToString,e2,Result.andThen];rfl
  | some ad=>
   simp only[Builtin.firstCells,Nat.mul_one]at h1;rw[<- hn,e1]at h1;rw[run_bytesToString w ad n c ns h1,vy];simp[Result.andThen,e2]
 ·have hc:(convert t u (.string sv)).run P w=.ok (.string sv) w:=by
   simp[convert,ZR ht,ZR hu]
  simp only[execOp,ho,Sem.run_bind,hv0,hc,Result.andThen,Sem.run_pure];have hn:sv.size=l.length:=by simpa [Builtin.lenOf] using h0
  simp only[Builtin.firstCells,Sem.run_pure,Result.ok.injEq,and_true]at h1;have hx1:(sv.extract 0 l.length).data.toList=bs:=by
   have h2:=congrArg Array.toList h1
   rw[e1]at h2;simp only[Array.toList_map]at h2;have h3:=congrArg (List.map λ v:Value=>match v with | .int _ n=>UInt8.ofNat n.toNat | _=>0) h2
   simp only[List.map_map]at h3;rw[e2]
   simpa [Function.comp_def] using h3
  rw[<- hn]at hx1;have hx2:sv.extract 0 sv.size=sv:=by
   apply ByteArray.ext;simp
  rw[hx2]at hx1;subst hx1;rfl
theorem gK(hi:Inv G h w)(hs:SlotsRel G s a nt)(hg:GlobOk e G){t kt el:TypeId}(ht:P.underlying t=some (.map kt el)){x:Operand}{r:Rand}(hx:Yx x=some r){z:X}
  (hev:evalOp e s h (.rangeM r)=some (z,h')) {q:Sem Next} (hq:q=(do pure (.value (<- Instr.range t (a.eval x))))):OpOk P G h w q z h':=by
 have xm:=ZC hs hg hx
 simp only[evalOp]at hev;split at hev
 case h_2=>cases hev
 rename_i ks vs e1;rw[e1]at xm;cases hev;obtain⟨b,es,em,g1,g2,g3,g4,g5⟩:=xm.imap_inv;obtain⟨clk,g0,hst⟩:=hi.pmap b es g1;have hc:clk=es.length:=hst.1
 subst hc;have hrun:=run_range_map (P:=P) w t kt el b es.toArray es.length ht g0
 refine⟨.pointer (some ⟨w.heap.size,0,none⟩),_,_,.inl (by rw[hq,em];simp[hrun,Result.andThen]),Step.push hi (.miter ks vs 0) (.mapIter (some b) es.length #[] es.length) ?_ (by simp[blk,Gh.at_]),.iter _ _ (Wf _ _ _)⟩
 refine⟨rfl,w.heap.size,b,es,Wf _ _ _,YH w _,g1,g2,g3,λ i e k a c=>(g4 i e k a c).mono (Qu (hi.new _ (Nat.le_refl _)).1),λ i e k a c=>(g5 i e k a c).mono (Qu (hi.new _ (Nat.le_refl _)).1),λ o=>?_,?_⟩
 ·cases hp:G.prot w.heap.size o with
  | none=>simp[Gh.at_,hp]
  | some u=>exact absurd (hi.prot_lt hp) (by omega)
 ·cases hp:G.pmap w.heap.size with
  | none=>simp[Gh.at_,hp]
  | some u=>exact absurd (hi.pmap_lt hp) (by omega)
end
end
section
section
variable {P:Program} {e:Env} {G:Gh} {h h':Mem} {w:World} {s:Zf} {a:Act} {nt:Nat}
theorem GK(mx:Bool)(k:IntKind):∀ (vs:List Value) (xs:List X) (m n:Int),RdL G vs xs->evalOp.go mx m xs=some n->
  (vs.foldlM (bif mx then Builtin.max2 else Builtin.min2) (.int k m)).run P w=.ok (.int k n) w
 | vs,[],m,n,hv,hg=>by
  have:=hv.inv_nil;subst this
  simp[evalOp.go]at hg;subst hg;simp
 | vs,x::xs,m,n,hv,hg=>by
  obtain⟨v,us,rfl,r1,r2⟩:=hv.inv_cons;unfold evalOp.go at hg;split at hg
  ·rename_i e;cases e
  ·rename_i kb b r e;cases e;have:=r1.int_inv;subst this
   have ih:=GK mx k us xs _ n r2 hg
   simp only[List.foldlM_cons,Sem.run_bind];cases mx
   ·simp only[cond_false]at ih ⊢;by_cases hb:b < m
    ·simp[hb]at ih;simp[Builtin.min2,hb,Result.andThen,ih]
    ·simp[hb]at ih;simp[Builtin.min2,hb,Result.andThen,ih]
   ·simp only[cond_true]at ih ⊢;by_cases hb:m < b
    ·simp[hb]at ih;simp[Builtin.max2,hb,Result.andThen,ih]
    ·simp[hb]at ih;simp[Builtin.max2,hb,Result.andThen,ih]
  ·cases hg
theorem wm(hi:Inv G h w)(hs:SlotsRel G s a nt)(hg:GlobOk e G){mx:Bool}{xs:List Operand}{rs:List Rand}(hx:Gy xs=some rs){z:X}(hev:evalOp e s h (.minmax mx rs)=some (z,h')){ats:Array TypeId}{ty:TypeId}{args:Array Value}(hargs:args.toList=xs.map a.eval){q:Sem Next}
  (hq:q=(do pure (.value (<- (bif mx then Builtin.max_ else Builtin.min_) ats ty args)))):OpOk P G h w q z h':=by
 have hv:=Uq hs hg hx
 simp only[evalOp]at hev;split at hev
 case h_2=>cases hev
 rename_i k m r e1;rw[e1]at hv;obtain⟨v,us,e2,r1,r2⟩:=hv.inv_cons;have:=r1.int_inv;subst this
 split at hev
 case h_2=>cases hev
 rename_i n hn;cases hev;have hr:=GK (P:=P) (w:=w) mx k us r m n r2 hn
 refine .same hi (v:=.int k n) ?_ (.c _ _ (.int k n));rw[hq];cases mx
 ·simp only[cond_false]at hr ⊢;simp only[Sem.run_bind,Builtin.min_,hargs,e2,hr,Result.andThen,Sem.run_pure]
 ·simp only[cond_true]at hr ⊢;simp only[Sem.run_bind,Builtin.max_,hargs,e2,hr,Result.andThen,Sem.run_pure]
theorem GD{b t:Nat}{vs:Array Value}{fr:Nat × Nat}(hb:w.heap[b]?=some (.cells vs t fr)):w.shape? b=some (t,vs.size):=by
 simp[World.shape?,hb]
theorem GJ{b o:Nat}{sh:TypeId × Nat}(hs:w.shape? b=some sh):(Conv.seenAt ⟨b,o,none⟩).run P w=.ok ⟨b,o,none⟩ w:=by
 simp[Conv.seenAt,viewAt,hs]
theorem EG(hi:Inv G h w)(hs:SlotsRel G s a nt)(hg:GlobOk e G){t u el:TypeId}(ht:P.underlying t=some (.pointer el))(hu:P.underlying u=some .unsafePointer)(h0:Zy P el ≠ 0){x:Operand}{r:Rand}(hx:Yx x=some r){z:X}(hev:evalOp e s h (.uptr r)=some (z,h'))(o:Oper)(ho:o.op=.convert t u x):OpOk P G h w (execOp a.eval o) z h':=by
 have hv:=ZC hs hg hx
 simp only[evalOp]at hev;split at hev
 ·rename_i id off e1;rw[e1]at hv;obtain⟨b,hb,em⟩:=hv.ptr_inv;split at hev
  case h_2=>cases hev
  rename_i cs hm;obtain⟨tt,hm'⟩:=Xy hm;obtain⟨vs,fr,g1,g2,_⟩:=hi.cellsAt hm' hb;cases hbb:Nat.ble (off+1) cs.length with
  | false=>rw[hbb]at hev;simp at hev
  | true=>
   rw[hbb]at hev;simp only[cond_true,Option.some.injEq,Prod.mk.injEq]at hev;obtain⟨rfl,rfl⟩:=hev;have c1:=Zg hbb
   have hsz:vs.size=cs.length:=by have:=g2.1;simpa using this
   refine .same hi (v:=.pointer (some ⟨b,off,none⟩)) ?_ (.ptr _ _ _ hb);have hsh:=GD g1
   simp only[execOp,ho,em,Sem.run_bind];simp[convert,ZR ht,ZR hu,Conv.unsafePointer,GJ hsh,cellsIn,hsh,YU h0,h0,Result.andThen,show ¬ vs.size<=off by omega]
 ·rename_i e1;rw[e1]at hv;have em:=hv.nilptr_inv
  simp only[Option.some.injEq,Prod.mk.injEq]at hev;obtain⟨rfl,rfl⟩:=hev;refine .same hi (v:=.pointer none) ?_ (.c _ _ .nilptr);simp only[execOp,ho,em,Sem.run_bind];simp[convert,ZR ht,ZR hu,Conv.unsafePointer,Result.andThen]
 ·cases hev
def Xd(P:Program)(e:Env):Prop:=∀ t n off u,e.lies t n off u=true->liesAt P P.depth t (n / P.cellsOf t) off u 1=true
theorem Bo(hi:Inv G h w)(hs:SlotsRel G s a nt)(hg:GlobOk e G)(hlo:Xd P e){t u el:TypeId}(ht:P.underlying t=some .unsafePointer)(hu:P.underlying u=some (.pointer el))(h0:Zy P el ≠ 0){x:Operand}{r:Rand}(hx:Yx x=some r){z:X}(hev:evalOp e s h (.uback el r)=some (z,h'))(o:Oper)(ho:o.op=.convert t u x):OpOk P G h w (execOp a.eval o) z h':=by
 have hv:=ZC hs hg hx
 simp only[evalOp]at hev;split at hev
 ·rename_i id off e1;rw[e1]at hv;obtain⟨b,hb,em⟩:=hv.ptr_inv;split at hev
  case h_2=>cases hev
  rename_i tt cs hm';obtain⟨vs,fr,g1,g2,_⟩:=hi.cellsAt hm' hb;cases hbb:(Nat.ble (off+1) cs.length&&e.lies tt cs.length off el) with
  | false=>rw[hbb]at hev;simp at hev
  | true=>
   rw[hbb]at hev;simp only[cond_true,Option.some.injEq,Prod.mk.injEq]at hev;obtain⟨rfl,rfl⟩:=hev;simp only[Bool.and_eq_true]at hbb;have c1:=Zg hbb.1
   have hl:=hlo _ _ _ _ hbb.2
   have hsz:vs.size=cs.length:=by have:=g2.1;simpa using this
   rw[<- hsz]at hl;refine .same hi (v:=.pointer (some ⟨b,off,none⟩)) ?_ (.ptr _ _ _ hb);have hsh:=GD g1
   simp only[execOp,ho,em,Sem.run_bind];simp[convert,ZR ht,ZR hu,Conv.unsafePointer,GJ hsh,YU h0,h0,Result.andThen,variablesAt,hsh,hl]
 ·rename_i e1;rw[e1]at hv;have em:=hv.nilptr_inv
  simp only[Option.some.injEq,Prod.mk.injEq]at hev;obtain⟨rfl,rfl⟩:=hev;refine .same hi (v:=.pointer none) ?_ (.c _ _ .nilptr);simp only[execOp,ho,em,Sem.run_bind];simp[convert,ZR ht,ZR hu,Conv.unsafePointer,Result.andThen]
 ·cases hev
theorem Bt(hi:Inv G h w)(hs:SlotsRel G s a nt)(hg:GlobOk e G){x:Operand}{r:Rand}(hx:Yx x=some r){z:X}(hev:evalOp e s h (.sdata r)=some (z,h')){ats:Array TypeId}{ty el:TypeId}(hty:P.underlying ty=some (.pointer el)){q:Sem Next}
  (hq:q=(do pure (.value (<- Builtin.unsafeSliceData_ ats ty #[a.eval x])))):OpOk P G h w q z h':=by
 have hv:=ZC hs hg hx
 simp only[evalOp]at hev;split at hev
 ·rename_i es id ver e1;rw[e1]at hv;obtain⟨o,cap,t,em,t1,t2,t3,t4,t5⟩:=hv.own_inv;split at hev
  ·cases hev
  ·rename_i c es';cases hev;refine .same hi (v:=.pointer (some ⟨t.b,o,none⟩)) ?_ (.sdata _ _ _ _ _ t1 t2 t5);rw[hq,em];have:cap ≠ 0:=by simp at t4;omega
   simp[Lib.run_unsafeSliceData_row w ats ty ⟨t.b,o,none⟩ _ cap this,Result.andThen]
 ·cases hev
theorem z6(w:World)(b o k:Nat){vs:Array Value}{el:Nat}{fr:Nat × Nat}(hb:w.heap[b]?=some (.cells vs el fr))(h0:k ≠ 0) :
  (w.freeze ⟨b,o,none⟩ k).heap[b]?=some (.cells vs el (if fr.1==fr.2 then(o,o+k) else(min fr.1 o,max fr.2 (o+k))))/\(∀ c,c ≠ b->(w.freeze ⟨b,o,none⟩ k).heap[c]?=w.heap[c]?)/\
  (w.freeze ⟨b,o,none⟩ k).heap.size=w.heap.size/\(w.freeze ⟨b,o,none⟩ k).os=w.os/\(w.freeze ⟨b,o,none⟩ k).tape=w.tape/\(w.freeze ⟨b,o,none⟩ k).output=w.output:=by
 unfold World.freeze;rw[if_neg h0];refine⟨?_,λ c hc=>?_,by simp,rfl,rfl,rfl⟩
 ·rw[Array.getElem?_modify];simp[hb]
 ·rw[Array.getElem?_modify,if_neg (λ e=>hc e.symm)]
theorem jD(hi:Inv G h w){id ver st el:Nat}(hm:h[id]?=some (.tip ver st el)){t:Tip}(ht:G.tip id ver=some t){o k:Nat}(h0:k ≠ 0)(hle:o+k<=t.e):Step G h w G h (w.freeze ⟨t.b,o,none⟩ k):=by
 obtain⟨vs,fr,k1,k2,k3,k4,k5,k6,k7,k8,k9⟩:=hi.tipAt hm ht;obtain⟨q1,q2,q3,q4,q5,q6⟩:=z6 w t.b o k k3 h0;have hW:∃ q,h[id]?=some q/\blk G id q=some t.b:=⟨_,hm,by simp[blk,ht]⟩
 have hne:∀ c,¬ (∃ q,h[id]?=some q/\blk G id q=some c)->c ≠ t.b:=λ c hc e=>hc (e ▸ hW)
 refine W7 hi id (.tip ver st el) (Gh.le.self G) (λ j hj=>rfl) hm (Nat.le_refl _) (by omega) q4 q5 q6
  (λ c _ hc=>q2 c (hne c hc)) (λ c q v hp=>⟨?_,(hi.prot c q v hp).2⟩) (λ c es hp=>?_) (λ c q v x=>.inl x) (λ c es x=>.inl x) ?_ (λ c hc=>.inl ⟨_,hm,hc⟩) hi.new (λ j _ u x=>x)
 ·have:=(hi.prot c q v hp).1
  by_cases e:c=t.b
  ·subst e;rw[XN k3]at this;rw[XN q1];exact this
  ·rw[XX]at this ⊢;rw[q2 c e];exact this
 ·obtain⟨clk,y⟩:=hi.pmap c es hp;have e:c ≠ t.b:=by rintro rfl;rw[k8]at hp;cases hp
  exact⟨clk,by rw[q2 c e];exact y.1,y.2⟩
 ·refine⟨t,vs,_,ht,k1,k2,q1,k4,k5,?_,k7,k8,k9⟩
  split
  ·exact .inr hle
  ·rename_i hne;rcases k6 with k6 | k6
   ·simp[k6]at hne
   ·right
    show max fr.2 (o+k)<=t.e;omega
theorem wa{ns:List Int}{bs:List UInt8}(hb:bs=ns.map λ n=>UInt8.ofNat n.toNat)(vs:List Value)(hv:vs=ns.map (Value.int .u8)):∀ (a:Addr) (acc:ByteArray) (w:World),(∀ (j:Nat) v,vs[j]?=some v->w.cell? (a.add j)=some v)->
  (loadBytes a acc ns.length).run P w=.ok ⟨acc.data++bs.toArray⟩ w:=by
 subst hb;subst hv
 induction ns with
 | nil=>intro a acc w _;simp[loadBytes]
 | cons n ns ih=>
  intro a acc w hc;have h0:w.cell? a=some (.int .u8 n):=by
   have:=hc 0 _ rfl
   simpa [Addr.add] using this
  have ih':=ih (a.add 1) (acc.push (UInt8.ofNat n.toNat)) w (λ j v hv=>by
   have:=hc (j+1) v (by simpa using hv)
   have e:(a.add 1).add j=a.add (j+1):=by
    unfold Addr.add;by_cases hj:j=0
    ·subst hj;simp
    ·simp[hj];omega
   rw[e];exact this)
  simp only[List.length_cons,loadBytes,Sem.run_bind,run_load,h0,Result.andThen];rw[show n.toNat.toUInt8=UInt8.ofNat n.toNat from rfl,ih']
  congr 1
  apply ByteArray.ext;simp[ByteArray.push]
theorem vj{el:TypeId}(hc:P.cellsOf el=1)(count off n:Nat)(hn:off+n<=count):liesAt P P.depth el count off el n=true:=by
 have hd:P.depth=(2*(P.types.size+Made.depth)+1)+1:=rfl
 rw[hd];simp only[liesAt,Bool.or_eq_true]
 left
 rw[hd];simp[rowAt,hc,hn,sameLayout,Nat.mod_one]
theorem Ud(pt it ty:TypeId)(b o:Nat)(ki:IntKind)(k:Nat):∃ msg:String,Builtin.unsafeString_ #[pt,it] ty #[.pointer (some ⟨b,o,none⟩),.int ki k] =
   (do
    let n <- asInt (.int ki k)
    if n < 0 then runtimePanic (.error msg)
    if n > IntKind.i64.max then unsupported (.unsafePointer "String: a length above the largest int")
    if n=0 then pure (.string .empty)
    else if <- variablesAt ⟨b,o,none⟩ (<- Go.elemOf pt) n.toNat then do
     let s <- loadBytes ⟨b,o,none⟩ .empty n.toNat
     freeze ⟨b,o,none⟩ n.toNat
     pure (.string s)
    else unsupported (.unsafePointer "String: not so many bytes at ptr")):=⟨_,rfl⟩
theorem EF(hi:Inv G h w)(hs:SlotsRel G s a nt)(hg:GlobOk e G){pt it ty el:TypeId}(hpt:P.underlying pt=some (.pointer el))(hsz:Zy P el=1){x y:Operand}{rx ry:Rand}(hx:Yx x=some rx)(hy:Yx y=some ry){z:X}(hev:evalOp e s h (.ustr el rx ry)=some (z,h')){q:Sem Next}
  (hq:q=(do pure (.value (<- Builtin.unsafeString_ #[pt,it] ty #[a.eval x,a.eval y])))):OpOk P G h w q z h':=by
 have hv:=ZC hs hg hx
 have hw:=ZC hs hg hy
 simp only[evalOp]at hev;split at hev
 case h_2=>cases hev
 rename_i es id ver k e1 e2;rw[e1]at hv;obtain⟨ki,em2⟩:=Y8 hw e2;split at hev
 case h_2=>cases hev
 rename_i v s' t' hm;cases hbb:(Nat.beq v ver&&Nat.beq el t'&&Nat.beq s' 1&&Nat.ble k es.length&&Nat.ble k Qq) with
 | false=>rw[hbb]at hev;simp at hev
 | true=>
  rw[hbb]at hev;simp only[cond_true]at hev;simp only[Bool.and_eq_true]at hbb;have c1:=Zd hbb.1.1.1.1
  have c2:=Zd hbb.1.1.1.2
  have c3:=Zd hbb.1.1.2
  have c4:=Zg hbb.1.2
  have c5:=Zg hbb.2
  subst c1;subst c2;subst c3;split at hev
  case h_2=>cases hev
  rename_i bs hbs;cases hev;obtain⟨o,t,em,ht,he,hel⟩:∃ o t,a.eval x=.pointer (some ⟨t.b,o,none⟩)/\G.tip id v=some t/\o+es.length*t.s=t.e/\Elems G t.b o t.s es:=by
   generalize a.eval x=u at hv;cases hv;exact⟨_,_,rfl,‹_›,‹_›,‹_›⟩
  obtain⟨vs,fr,k1,k2,k3,k4,k5,k6,k7,k8,k9⟩:=hi.tipAt hm ht;rw[k1,Nat.mul_one]at he;rw[k1]at hel;have hco:P.cellsOf el=1:=by
   unfold Zy at hsz;unfold Program.cellsOf;split at hsz
   ·rename_i i hii;simp[hii,hsz]
   ·cases hsz
  have hel':Elems G t.b o 1 (es.take k):=by
   have:=Elems.cut (p:=0) (q:=k) hel
   simpa using this
  obtain⟨us,r1,r2,r3,r4⟩:=hel'.read hi (by omega)
  rw[Jw hbs]at r1;obtain⟨ns,e5,e6⟩:=UI hbs r1;have hnl:ns.length=k:=by
   have:=r1.1;rw[e5]at this;simp at this;omega
  rw[em,em2]at hq;by_cases hk0:k=0
  ·subst hk0;have hbs0:bs=[]:=by simpa [bytesOf] using hbs.symm
   subst hbs0;have h63:¬ (0:Int) > IntKind.i64.max:=by decide
   refine .same hi (v:=.string ⟨([]:List UInt8).toArray⟩) ?_ (.c _ _ (.str []));obtain⟨msg,hd⟩:=Ud pt it ty t.b o ki 0;rw[hq,hd];simp[asInt,asIntOf,Result.andThen,h63];rfl
  ·have hkl:k<=9223372036854775807:=by
    unfold Qq at c5;omega
   have h63:¬ (k:Int) > IntKind.i64.max:=by
    have:IntKind.i64.max=9223372036854775807:=by decide
    rw[this];omega
   have hneg:¬ (k:Int) < 0:=by omega
   refine⟨.string ⟨bs.toArray⟩,w.freeze ⟨t.b,o,none⟩ k,G,.inl ?_,jD hi hm ht hk0 (by omega),.c _ _ (.str bs)⟩
   have hlies:=vj (P:=P) hco (vs.size / P.cellsOf el) o k (by rw[hco,Nat.div_one,k4];omega)
   have hlb:=wa (P:=P) e6 us e5 ⟨t.b,o,none⟩ .empty w (λ j u hu=>by
    rw[Xm];exact(hi.prot _ _ _ (r4 j u hu)).1)
   rw[hnl]at hlb;obtain⟨msg,hd⟩:=Ud pt it ty t.b o ki k;rw[hq,hd];have h63':¬ (9223372036854775807:Int) < (k:Int):=by omega
   simp[asInt,asIntOf,Result.andThen,h63',h63,hneg,hk0,variablesAt,GD k3,Go.elemOf,ZR hpt,hlies,hlb]
end
end
section
section
variable {P:Program} {e:Env} {G:Gh} {h h':Mem} {w:World} {s:Zf} {a:Act} {nt:Nat}
theorem EP(hi:Inv G h w)(hs:SlotsRel G s a nt)(hg:GlobOk e G){t u ty el:TypeId}{d:TypeDesc}(ht:P.underlying t=some (.slice el))(hu:P.underlying u=some d)(hd:∀ k,d ≠ .int k)(h0:Zy P el ≠ 0){zc:CV}(hz:YO P el=some zc)
  {x y:Operand} {rx ry:Rand} (hx:Yx x=some rx) (hy:Yx y=some ry) {ag:Bool} {z:X} (hev:evalOp e s h (.appP ag el (Zy P el) (P.bytesOf el) rx ry)=some (z,h')) {q:Sem Next}
  (hq:q=(do pure (.value (<- Builtin.append_ #[t,u] ty #[a.eval x,a.eval y])))):OpOk P G h w q z h':=by
 have hv:=ZC hs hg hx
 have hw:=ZC hs hg hy
 obtain⟨i,hinf,hisz⟩:=GC h0;obtain⟨i',zv,hi1,hi2,hi3,hi4,hi5,_⟩:=WZ hz;rw[hinf]at hi1;cases hi1;have hzs:zv.cells.size=i.size:=by
  have:=((hi3 G).cells hi4).1.1
  rw[<- hi5];simpa using this
 have hbytes:i.bytes=P.bytesOf el:=by simp[Program.bytesOf,hinf]
 simp only[evalOp]at hev;split at hev
 case h_2=>cases hev
 rename_i y0 hys;obtain⟨new,n1,n2,n3,n4,n5⟩:=Ur (P:=P) hi hw (Z1 h0) hys;have ZD:∀ {v w' G' z' h''},(Builtin.append_ #[t,u] ty #[a.eval x,a.eval y]).run P w=.ok v w'->Step G h w G' h'' w'->RdX G' v z'->OpOk P G h w q z' h'':=by
  intro v w' G' z' h'' hr hst hx;exact⟨v,w',G',.inl (by rw[hq];simp[hr]),hst,hx⟩
 have pend:∀ {G':Gh} {b c:Nat} {es:List CV} {id ver:Nat},RdX G' (.slice (some ⟨b,0,none⟩) es.length c) (.own es id ver)->es.length+1<=c->RdX G' (.slice (some ⟨b,0,none⟩) (es.length+1) c) (.pend es id ver):=by
  intro G' b c es id ver hr hc;obtain⟨o,cap,tp,e1,t1,t2,t3,t4,t5⟩:=hr.own_inv;simp only[Value.slice.injEq,Option.some.injEq,Addr.mk.injEq,and_true,true_and]at e1;obtain⟨⟨rfl,rfl⟩,rfl⟩:=e1;exact .pend es id ver 0 c tp t1 t2 t3 hc t5
 split at hev
 ·rename_i es hp;rw[hp]at hv;cases hbb:(YC (Zy P el) es&&Nat.ble (es.length+1) Qq&&Nat.ble (P.bytesOf el) 4096) with
  | false=>rw[hbb]at hev;simp at hev
  | true=>
   rw[hbb]at hev;simp only[cond_true,Option.some.injEq,Prod.mk.injEq]at hev;obtain⟨rfl,rfl⟩:=hev;simp only[Bool.and_eq_true]at hbb;have c2:=Zg hbb.1.2
   have c3:=Zg hbb.2
   obtain⟨old,o1,o2,o3,o4,o5⟩:=Ur (P:=P) (ag:=ag) hi hv (Z1 h0) (ys:=es) (by simp[ZO,hbb.1.1])
   have hcap:∃ b,a.eval x=.slice b es.length es.length:=by
    rcases hv.c_inv.sl_inv with ⟨⟨a',e1⟩,e2⟩|⟨b,off,cap,st,e1,_,hf,_⟩
    ·subst e2;exact⟨a',e1⟩
    ·rw[hf rfl]at e1;exact⟨_,e1⟩
   obtain⟨b,e1⟩:=hcap;obtain⟨cap,w1,rest,r1,r2,r3,r4,r5,r6,r7⟩:=Wt (w:=w) (ty:=ty) ht hu hd hinf hi2 hzs (by rw[hbytes];exact c3) (base:=b) (sLen:=es.length) (sCap:=es.length) (n:=1) (old:=old) (n4 w) (by simp) c2
    (by rw[<- e1,hisz];exact o5) (by rw[hisz];exact n5)
   obtain⟨s1,s2⟩:=Ue (h':=h++[.tip 0 (Zy P el) el]) hi r2 r3 r4 r5 (el:=el) (Z1 h0) o1 (vs:=old) (rest:=new++rest) o2 o3 h.length 0 (.inl ⟨rfl,rfl,rfl⟩) cap (by
     simp only[List.length_append,r6,o2.1,n2.1,Yh o1,Yh n1,hisz];rw[<- Nat.add_mul,<- Nat.add_mul];congr 1;simp at r1 ⊢;omega) (by omega)
   rw[e1]at ZD;rw[<- List.append_assoc]at s1;exact ZD r7 s1 (pend s2 r1)
 ·rename_i es id ver hp;rw[hp]at hv;split at hev
  ·rename_i v0 s0 e0 hm;cases hbb:(Nat.beq v0 ver&&Nat.beq (Zy P el) s0&&Nat.beq el e0&&Nat.ble (es.length+1) Qq&&Nat.ble (P.bytesOf el) 4096) with
   | false=>rw[hbb]at hev;simp at hev
   | true=>
    rw[hbb]at hev;simp only[cond_true,Option.some.injEq,Prod.mk.injEq]at hev;obtain⟨rfl,rfl⟩:=hev;simp only[Bool.and_eq_true]at hbb;have c1:=Zd hbb.1.1.1.1
    have c0:=Zd hbb.1.1.1.2
    have c9:=Zd hbb.1.1.2
    subst c9;have c2:=Zg hbb.1.2
    have c3:=Zg hbb.2
    subst c1;obtain⟨off,cap,tp,e1,t1,t2,t3,t4,t5⟩:=hv.own_inv;obtain⟨vs,fr,k1,k2,k3,k4,k5,k6,k7,k8,k9⟩:=hi.tipAt hm t1;rw[<- c0]at k1 hm;rw[e1]at ZD;by_cases hroom:es.length+1<=cap
    ·obtain⟨q1,q2,_,_⟩:=Ki hi hm t1 t2 t3 (ys:=[y0]) (by simpa using hroom) t5 n1 n2 n3
     have hoff:off+es.length*i.size=tp.e:=by rw[hisz,<- k1];exact t2
     have hr:=Ug (w:=w) (ty:=ty) (x:=a.eval y) (b:=tp.b) (o:=off) (sLen:=es.length) (sCap:=cap) (n:=1) ht hu hd hinf (n4 w) hroom (by rw[hisz];exact n5 w rfl) (by rw[hoff];exact q1) (by rw[hoff];exact q2) n3
     rw[hoff]at hr;obtain⟨j1,j2,j3,j4,j5,j6⟩:=WS tp.b new tp.e w vs el fr k3;have hid:=(Za.1 hm).1
     have hle:=VV (G:=G) (id:=id) (ver:=v0+1) (t:=⟨tp.b,tp.e,tp.lim,Zy P el⟩) (vals:=[]) (k9 _ (by omega)) (λ o ho=>k7 o (by simpa using ho))
     refine ZD hr (Step.tipTo hi id (v0+1) ⟨tp.b,tp.e,tp.lim,Zy P el⟩ el [] (λ j hj=>by rw[Zx (λ e=>hj e.symm)]) (by simp[hid]) (by simp) (by simpa using hid) (k9 _ (by omega)) (λ u hu=>k9 u (by omega)) (Z1 h0) (by simp)
      (λ o ho=>k7 o (by simpa using ho)) k8 (.inl ⟨_,hm,by simp[blk,t1]⟩) (λ i v hv'=>by simp at hv') ⟨_,fr,j1,by rw[U0];exact k4,k5,k6⟩ (by omega) j4 j5 j6 (λ b _ hne=>j2 b hne) (λ o v hp=>?_)) ?_
     ·have hlt:o < tp.e:=by
       by_cases hh:o < tp.e
       ·exact hh
       ·rw[k7 o (by omega)]at hp;cases hp
      rw[World.cell?_setCells_out tp.b new tp.e w ⟨tp.b,o,none⟩ (λ _ _=>.inl hlt)]
      exact(hi.prot _ _ _ hp).1
     ·refine .pend es id (v0+1) off cap ⟨tp.b,tp.e,tp.lim,Zy P el⟩ (XQ _ _ _ _ _) ?_ ?_ hroom ?_
      ·rw[<- k1];exact t2
      ·rw[<- k1];exact t3
      ·have:=t5.mono hle
       rw[k1]at this;exact this
    ·obtain⟨old,o2,o3,o4,o5⟩:=t5.read hi (by rw[k1];exact Z1 h0)
     have o1:Sized (Zy P el) es:=by rw[<- k1];exact t5.sized
     obtain⟨cap',w1,rest,r1,r2,r3,r4,r5,r6,r7⟩:=Wt (w:=w) (ty:=ty) ht hu hd hinf hi2 hzs (by rw[hbytes];exact c3) (base:=some ⟨tp.b,off,none⟩) (sLen:=es.length) (sCap:=cap) (n:=1) (old:=old) (n4 w) (by omega) c2
      (λ w' hw'=>by
       simp only[Builtin.firstCells];rw[hisz,<- k1,<- o4];exact run_loadCells_list (P:=P) w' ⟨tp.b,off,none⟩ old (λ j u hu=>by rw[Xm];exact((hi.heap_eq hw').prot _ _ _ (o5 j u hu)).1)) (by rw[hisz];exact n5)
     obtain⟨s1,s2⟩:=Ue (h':=h.set id (.tip (v0+1) (Zy P el) el)) hi r2 r3 r4 r5 (el:=el) (Z1 h0) o1 (vs:=old) (rest:=new++rest) o2 o3 id (v0+1) (.inr ⟨v0,_,_,hm,rfl,rfl⟩) cap' (by
       simp only[List.length_append,r6,o2.1,n2.1,Yh o1,Yh n1,hisz];rw[<- Nat.add_mul,<- Nat.add_mul];congr 1;simp at r1 ⊢;omega) (by omega)
     rw[<- List.append_assoc]at s1;exact ZD r7 s1 (pend s2 r1)
  ·cases hev
 ·cases hev
theorem RdX.pend_inv{v:Value}{es:List CV}{id ver:Nat}(h:RdX G v (.pend es id ver)):∃ o cap t,v=.slice (some ⟨t.b,o,none⟩) (es.length+1) cap/\G.tip id ver=some t/\o+es.length*t.s=t.e/\o+cap*t.s<=t.lim/\es.length+1<=cap/\Elems G t.b o t.s es:=by
 cases h;exact⟨_,_,_,rfl,‹_›,‹_›,‹_›,‹_›,‹_›⟩
theorem RdX.pptr_inv{v:Value}{k id ver:Nat}(h:RdX G v (.pptr k id ver)):∃ t,v=.pointer (some ⟨t.b,t.e,none⟩)/\G.tip id ver=some t:=by
 cases h;exact⟨_,rfl,‹_›⟩
theorem EN(hi:Inv G h w)(hs:SlotsRel G s a nt)(hg:GlobOk e G){t el:Nat}(ht:P.underlying t=some (.slice el))(h0:Zy P el ≠ 0){x i:Operand}{r ri:Rand}(hx:Yx x=some r)(hix:Yx i=some ri){z:X}
  (hev:evalOp e s h (.idxP (Zy P el) r ri)=some (z,h')) (o:Oper) (ho:o.op=.indexAddr t x i):OpOk P G h w (execOp a.eval o) z h':=by
 have hv:=ZC hs hg hx
 have hj:=ZC hs hg hix
 simp only[evalOp]at hev;split at hev
 case h_2=>cases hev
 rename_i es id ver k e1 hk;rw[e1]at hv;obtain⟨kd,hkv⟩:=Y8 hj hk;split at hev
 case h_2=>cases hev
 rename_i v s'' _ hm;cases hbb:(Nat.beq k es.length&&Nat.beq v ver&&Nat.beq (Zy P el) s'') with
 | false=>rw[hbb]at hev;simp at hev
 | true=>
  rw[hbb]at hev;simp only[cond_true,Option.some.injEq,Prod.mk.injEq]at hev;obtain⟨rfl,rfl⟩:=hev;simp only[Bool.and_eq_true]at hbb;have c1:=Zd hbb.1.1
  have c2:=Zd hbb.1.2
  have c3:=Zd hbb.2
  subst c1;subst c2;obtain⟨off,cap,tp,e2,t1,t2,t3,t4,t5⟩:=hv.pend_inv;obtain⟨vs,fr,k1,_⟩:=hi.tipAt hm t1;refine .same hi (v:=.pointer (some ⟨tp.b,tp.e,none⟩)) ?_ (.pptr _ _ _ _ t1);simp only[execOp,ho,e2,hkv,Instr.indexAt,asIntOf,Sem.run_bind,Sem.run_pure,ZR ht,Result.andThen];rw[if_pos ⟨by omega,by omega⟩]
  simp only[Sem.run_bind,YU h0,Result.andThen,Sem.run_pure,Int.toNat_natCast,Xm];rw[c3,<- k1,t2]
theorem wl(hi:Inv G h w)(hs:SlotsRel G s a nt)(hg:GlobOk e G){t:TypeId}(ho:yz P t=true){x p:Nat}{v:Operand}{rv:Rand}(hv:Yx v=some rv){y:X}
  (hev:evalOp e s h (.storeP (Zy P t) x p rv)=some (y,h')) {q:Sem Next} (hq:q=(do Instr.storeAt t (a.eval (.tmp p)) (a.eval v);pure .skip)) :
  ∃ w' G',q.run P w=.ok .skip w'/\Step G h w G' h' w'/\RdX G' (a.eval (.tmp x)) y/\∀ id ver es tp tq,Zm s x=.pend es id ver->G.tip id ver=some tp->G'.tip id (ver+1)=some tq->tq.lim=tp.lim:=by
 have h1:=ZC hs hg (x:=.tmp x) (r:=.t x) rfl
 have h2:=ZC hs hg (x:=.tmp p) (r:=.t p) rfl
 have h3:=ZC hs hg hv
 simp only[ZJ]at h1 h2;simp only[evalOp]at hev;split at hev
 case h_2=>cases hev
 rename_i es id ver k id' ver' wv e1 e2 e3;rw[e1]at h1;rw[e2]at h2;split at hev
 case h_2=>cases hev
 rename_i v0 s' t' hm;cases hbb:(Nat.beq v0 ver&&Nat.beq id id'&&Nat.beq ver ver'&&Nat.beq k es.length&&Nat.beq wv.cells.length s'&&Nat.beq (Zy P t) s') with
 | false=>rw[hbb]at hev;simp at hev
 | true=>
  rw[hbb]at hev;simp only[cond_true,Option.some.injEq,Prod.mk.injEq]at hev;obtain⟨rfl,rfl⟩:=hev;simp only[Bool.and_eq_true]at hbb;have c1:=Zd hbb.1.1.1.1.1
  have c2:=Zd hbb.1.1.1.1.2
  have c3:=Zd hbb.1.1.1.2
  have c5:=Zd hbb.1.2
  have c6:=Zd hbb.2
  subst c1;subst c2;subst c3;obtain⟨off,cap,tp,e4,t1,t2,t3,t4,t5⟩:=h1.pend_inv;obtain⟨tp',e5,t6⟩:=h2.pptr_inv;rw[t1]at t6;cases t6;obtain⟨vs,fr,k1,k2,k3,k4,k5,k6,k7,k8,k9⟩:=hi.tipAt hm t1;obtain⟨rv1,nt1⟩:=h3.elem e3;obtain⟨r1,r2⟩:=rv1.cells (λ vs hvs=>by rw[hvs]at rv1;cases rv1;exact nt1 _ rfl)
  have hfl:Yw [wv]=wv.cells:=by simp[Yw]
  obtain⟨q1,q2,q3,q4⟩:=Ki hi hm t1 t2 t3 (ys:=[wv]) (by simpa using t4) t5 (λ c hc=>by simp at hc;rw[hc];exact c5) (new:=(a.eval v).cells.toList) (by rw[hfl];exact r1) r2
  refine⟨_,_,?_,q3,by rw[e4];simpa using q4,λ id2 ver2 es2 t2' tq g1 g2 g3=>?_⟩
  rotate_left
  ·rw[e1]at g1;cases g1;rw[t1]at g2;cases g2;rw[XQ]at g3;cases g3;rfl
  have hst:=run_storeCells_cells (P:=P) tp.b tp.e (a.eval v).cells.toList 0 w (by simpa using q1) (by simpa using q2) r2
  have hsz:(sizeOf t).run P w=.ok (Zy P t) w:=by
   by_cases h0:Zy P t=0
   ·unfold yz at ho;unfold Zy at h0 ⊢
    split
    ·rename_i i hi;simp[sizeOf,typeInfo,hi]
    ·rename_i hi;simp[Program.underlying,hi]at ho
   ·exact YU h0 w
  rw[hq,e5];simp only[Instr.storeAt,Instr.sureAddr,storeVar,Sem.run_bind,Sem.run_pure,Result.andThen,hsz];rw[if_neg (by have:=r1.1;simp at this;simp;omega)]
  simp only[Nat.add_zero]at hst;simp[hst]
theorem Step.reobs{G':Gh}{h1 h2:Mem}{w':World}(st:Step G h w G' h1 w')(hl:h2.length=h1.length)(hob:∀ (id:Nat) o,h2[id]?=some o->∃ o1,h1[id]?=some o1/\ObRel G' w' id o/\blk G' id o=blk G' id o1):Step G h w G' h2 w':=by
 refine⟨⟨st.inv.prot,st.inv.pmap,λ id o ho=>?_,λ i j oi oj bi bj hi hj hbi hbj he=>?_,λ id hid=>st.inv.new id (by omega)⟩,by have:=st.len;omega,st.fr,st.prot,st.pmap,st.loc,st.tip,st.newp,st.newm,λ b x=>?_⟩
 ·obtain⟨_,_,h3,_⟩:=hob id o ho;exact h3
 ·obtain⟨p,k1,_,k3⟩:=hob i oi hi;obtain⟨q,m1,_,m3⟩:=hob j oj hj;exact st.inv.inj i j p q bi bj k1 m1 (by rw[<- k3];exact hbi) (by rw[<- m3];exact hbj) he
 ·obtain⟨id,o,k1,k2⟩:=x;obtain⟨p,m1,_,m3⟩:=hob id o k1;exact st.newb b ⟨id,p,m1,by rw[<- m3];exact k2⟩
theorem gJ(hi:Inv G h w)(hs:SlotsRel G s a nt)(hg:GlobOk e G){t:TypeId}(ho:yz P t=true){x p:Nat}{v:Operand}{rv:Rand}(hv:Yx v=some rv){y:X}
  (hev:evalOp e s h (.storeF (Zy P t) x p rv)=some (y,h')) {q:Sem Next} (hq:q=(do Instr.storeAt t (a.eval (.tmp p)) (a.eval v);pure .skip)):OpOk P G h w q y h':=by
 have hev':=hev
 simp only[evalOp]at hev;split at hev
 case h_2=>cases hev
 rename_i es id ver k id' ver' wv e1 e2 e3;split at hev
 case h_2=>cases hev
 rename_i v0 s' t' hm;cases hbb:(Nat.beq v0 ver&&Nat.beq id id'&&Nat.beq ver ver'&&Nat.beq k es.length&&Nat.beq wv.cells.length s'&&Nat.beq (Zy P t) s') with
 | false=>rw[hbb]at hev;simp at hev
 | true=>
  rw[hbb]at hev;simp only[cond_true,Option.some.injEq,Prod.mk.injEq]at hev;obtain⟨rfl,rfl⟩:=hev;have hp:evalOp e s h (.storeP (Zy P t) x p rv)=some (.own (es++[wv]) id (ver+1),h.set id (.tip (ver+1) s' t')):=by
   simp only[evalOp,e1,e2,e3,hm,hbb,cond_true]
  obtain⟨w',G',r1,r2,r3,r4⟩:=wl hi hs hg ho hv hp hq;simp only[Bool.and_eq_true]at hbb;have c1:=Zd hbb.1.1.1.1.1
  have c5:=Zd hbb.1.2
  subst c1;have h1:=ZC hs hg (x:=.tmp x) (r:=.t x) rfl
  simp only[ZJ]at h1;rw[e1]at h1;obtain⟨off,cap,tp,e4,t1,t2,t3,t4,t5⟩:=h1.pend_inv;obtain⟨vs,fr,k1,k2,_⟩:=hi.tipAt hm t1;have hle:=r2.le hi.new
  obtain⟨o2,cap2,tq,e5,u1,u2,u3,u4,u5⟩:=r3.own_inv;rw[e4]at e5;simp only[Value.slice.injEq,Option.some.injEq,Addr.mk.injEq,and_true]at e5;obtain⟨⟨eb,rfl⟩,_,rfl⟩:=e5;have hid:=(Za.1 hm).1
  have hob:=r2.inv.ob id (.tip (v0+1) s' t') (by simp[hid])
  refine⟨undef,w',G',.inr ⟨r1,rfl⟩,r2.reobs (by simp) (λ j o hj=>?_),.c _ _ (.tup [] [] rfl (λ i v c x=>by simp at x))⟩
  by_cases hji:j=id
  ·subst hji;simp[hid]at hj;subst hj;refine⟨.tip (v0+1) s' t',by simp[hid],⟨hob,?_⟩,rfl⟩
   obtain⟨tt,_,_,w1,w2,_⟩:=hob;rw[u1]at w1;cases w1;have hlim:tp.lim=tq.lim:=(r4 _ _ _ _ _ e1 t1 u1).symm
   refine⟨tq,tp,u1,hle.tip _ _ _ (by simpa using t1),eb,?_,hlim,k1,w2,?_⟩
   ·rw[<- u2,<- t2,k1,w2];simp[Nat.add_mul];omega
   ·have:=Elems.cut (p:=es.length) (q:=(es++[wv]).length) u5
    rw[w2]at this;rw[<- t2,k1];have e9:((es++[wv]).take (es++[wv]).length).drop es.length=[wv]:=by rw[List.take_length,List.drop_left]
    rw[e9]at this;exact this
  ·rw[Zx (λ e=>hji e.symm)]at hj
   exact⟨o,by rw[Zx (λ e=>hji e.symm)];exact hj,r2.inv.ob j o (by rw[Zx (λ e=>hji e.symm)];exact hj),rfl⟩
end
end
section
def POp.isCall:POp->Bool
 | .call _ _=>true
 | .callv _ _=>true
 | _=>false
section
variable {P:Program} {e:Env} {G:Gh} {h h':Mem} {w:World} {s:Zf} {a:Act} {nt:Nat}
theorem zr{x:Option Operand}(h:jL x=some none):x=none:=by
 cases x with
 | none=>rfl
 | some y=>
  simp only[jL]at h;split at h<;>cases h
theorem CX(hi:Inv G h w)(hs:SlotsRel G s a nt)(hg:GlobOk e G)(o:Oper){k:BinOp}{t yt:TypeId}{x y:Operand}(hop:o.op=.binOp k t x y yt){pop:POp}(htr:Yi P o.type (.binOp k t x y yt)=some pop){z:X}(hev:evalOp e s h pop=some (z,h')):OpOk P G h w (execOp a.eval o) z h':=by
 simp only[Yi]at htr;split at htr
 case h_2=>cases htr
 rename_i rx ry hx hy;split at htr
 ·cases htr;exact BJ hi hs hg hx hy hev o hop
 ·cases htr;exact BJ hi hs hg hx hy hev o hop
 ·rename_i ht;split at htr
  ·cases htr;exact BE hi hs hg ht hx hy rfl hev o hop
  ·cases htr;exact BE hi hs hg ht hx hy rfl hev o hop
  ·cases htr
 ·rename_i el ht;split at htr
  ·cases htr
  ·rename_i h0;split at htr
   ·cases htr;exact BB hi hs hg ht h0 hx hy rfl hev o hop
   ·cases htr;exact BB hi hs hg ht h0 hx hy rfl hev o hop
   ·cases htr
 ·rename_i ps rs vr ht;split at htr
  ·cases htr;exact BD hi hs hg ht hx hy rfl hev o hop
  ·cases htr;exact BD hi hs hg ht hx hy rfl hev o hop
  ·cases htr
 ·rename_i ms ht;split at htr
  ·rename_i hk;split at htr
   ·cases htr;exact BC hi hs hg ht hx hy hk rfl hev o hop
   ·cases htr;exact BC hi hs hg ht hx hy hk rfl hev o hop
   ·cases htr
  ·cases htr
 ·rename_i fs ht;split at htr
  ·cases htr
  ·rename_i hn;simp only[not_or,Bool.not_eq_true]at hn;split at htr
   ·rename_i l hl;cases htr;exact BH hi hs hg ht hn.1 hn.2 hl hx hy rfl hev o hop
   ·rename_i l hl;cases htr;exact BH hi hs hg ht hn.1 hn.2 hl hx hy rfl hev o hop
   ·cases htr
 ·cases htr
theorem As(hi:Inv G h w)(hs:SlotsRel G s a nt)(hg:GlobOk e G)(hl:Xd P e)(o:Oper){t u:TypeId}{x:Operand}(hop:o.op=.convert t u x){pop:POp}(htr:Yi P o.type (.convert t u x)=some pop){z:X}(hev:evalOp e s h pop=some (z,h')):OpOk P G h w (execOp a.eval o) z h':=by
 simp only[Yi]at htr;split at htr
 ·rename_i h1 h2 hx;cases htr;exact Bp hi hs hg h1 h2 hx hev o hop
 ·rename_i h1 h2 hx;cases htr;exact Ij hi hs hg h1 h2 hx hev o hop
 ·rename_i el rx h1 h2 hx;split at htr
  ·rename_i h3;cases htr;exact zF hi hs hg h1 h2 h3 hx hev o hop
  ·cases htr
 ·rename_i el rx h1 h2 hx;split at htr
  ·rename_i h3;cases htr;exact zH hi hs hg h1 h3 h2 hx hev o hop
  ·cases htr
 ·rename_i el rx h1 h2 hx;split at htr
  ·cases htr
  ·rename_i h0;cases htr;exact EG hi hs hg h1 h2 h0 hx hev o hop
 ·rename_i el rx h1 h2 hx;split at htr
  ·cases htr
  ·rename_i h0;cases htr;exact Bo hi hs hg hl h1 h2 h0 hx hev o hop
 ·cases htr
theorem wP(o:Oper){c:Call}(hop:o.op=.call c){b:Builtin}(hc:c.callee=.builtin b):∃ cs,(execOp a.eval o).run P w=(builtin b c.argTypes o.type cs (c.args.map a.eval)).run P w:=by
 simp only[execOp,hop,resolve,hc,invoke,Sem.run_bind,Sem.run_pure,Result.andThen];exact⟨_,rfl⟩
theorem HI{xs:Array Operand}{x:Operand}(h:xs.toList=[x]):xs.map a.eval=#[a.eval x]:=by
 apply Array.ext';simp[h]
theorem DI{xs:Array Operand}{x y:Operand}(h:xs.toList=[x,y]):xs.map a.eval=#[a.eval x,a.eval y]:=by
 apply Array.ext';simp[h]
theorem Od{α:Type}{xs:Array α}{x y:α}(h:xs.toList=[x,y]):xs=#[x,y]:=by
 apply Array.ext';simp[h]
theorem OpOk.of_run{q q':Sem Next}{z:X}(h1:q.run P w=q'.run P w)(h2:OpOk P G h w q' z h'):OpOk P G h w q z h':=by
 obtain⟨v,w',G',hr,hs,hx⟩:=h2;exact⟨v,w',G',by rw[h1];exact hr,hs,hx⟩
theorem uJ{d:TypeDesc}(h:¬ Ix d=true):∀ k,d ≠ .int k:=by
 rintro k rfl;exact h rfl
theorem yP(hi:Inv G h w)(hs:SlotsRel G s a nt)(hg:GlobOk e G)(o:Oper){c:Call}(hop:o.op=.call c){b:Builtin}(hc:c.callee=.builtin b){pop:POp}(htr:WI P o.type c.argTypes b c.args.toList=some pop){z:X}(hev:evalOp e s h pop=some (z,h')):OpOk P G h w (execOp a.eval o) z h':=by
 obtain⟨cs,hrun⟩:=wP (P:=P) (w:=w) (a:=a) o hop hc;refine .of_run hrun ?_;unfold WI at htr;split at htr
 ·split at htr
  case h_2=>cases htr
  rename_i x hx;rw[HI hx];split at htr
  ·rename_i rx n el h1 h2;cases htr;refine EM (n:=n) hi hev ?_;simp only[Yb]at h2;obtain⟨t,h3,h4⟩:=h2;simp[builtin,Builtin.len_,h3,ZR h4,Result.andThen]
  ·rename_i rx h1 h2;cases htr;simp only[Yb]at h2;obtain⟨t,h3,h4⟩:=h2;exact gM hi hs hg h1 hev h3 h4 rfl
  ·rename_i rx el h1 h2;cases htr;simp only[Yb]at h2;obtain⟨t,h3,h4⟩:=h2;exact Bx hi hs hg h1 hev h3 h4 rfl
  ·rename_i rx k el h1 h2;cases htr;simp only[Yb]at h2;obtain⟨t,h3,h4⟩:=h2;exact gN hi hs hg h1 hev h3 h4 rfl
  ·cases htr
 ·split at htr
  case h_2=>cases htr
  rename_i x y hx;rw[DI hx];split at htr
  case h_2=>cases htr
  rename_i t u rx ry h1 h2 h3;rw[Od h1];split at htr
  case h_2=>cases htr
  rename_i el d h4 h5;split at htr
  ·cases htr
  ·rename_i hn;simp only[not_or]at hn;cases htr;cases hz:YO P el with
   | none=>rw[hz]at hn;simp at hn
   | some zc=>exact Im hi hs hg h4 h5 (uJ hn.2.1) hn.1 hz h2 h3 hev rfl
 ·simp only[Zc]at htr;obtain⟨l,hl,rfl⟩:=htr;exact wm (mx:=false) hi hs hg hl hev (ats:=c.argTypes) (ty:=o.type) (args:=c.args.map a.eval) (by simp) rfl
 ·simp only[Zc]at htr;obtain⟨l,hl,rfl⟩:=htr;exact wm (mx:=true) hi hs hg hl hev (ats:=c.argTypes) (ty:=o.type) (args:=c.args.map a.eval) (by simp) rfl
 ·split at htr
  case h_2=>cases htr
  rename_i x hx;rw[HI hx];split at htr
  case h_2=>cases htr
  rename_i rx el h1 h2;cases htr;exact Bt hi hs hg h1 hev h2 rfl
 ·split at htr
  case h_2=>cases htr
  rename_i x y hx;rw[DI hx];split at htr
  case h_2=>cases htr
  rename_i t u rx ry h1 h2 h3;rw[Od h1];split at htr
  case h_2=>cases htr
  rename_i el h4;split at htr
  ·rename_i h5;cases htr;exact EF hi hs hg h4 h5 h2 h3 hev rfl
  ·cases htr
 ·cases htr;simp[Kw,evalOp,ZJ]at hev
 ·cases htr
theorem Pn(hi:Inv G h w)(hs:SlotsRel G s a nt)(hg:GlobOk e G)(hl:Xd P e)(o:Oper){pop:POp}(htr:Yi P o.type o.op=some pop)(hnc:pop.isCall=false){z:X}(hev:evalOp e s h pop=some (z,h')):OpOk P G h w (execOp a.eval o) z h':=by
 cases hop:o.op with
 | move x=>rw[hop]at htr;simp only[Yi,Zc]at htr;obtain⟨r,hr,rfl⟩:=htr;exact Bv hi hs hg hr hev o (.inl hop)
 | assign x=>rw[hop]at htr;simp only[Yi,Zc]at htr;obtain⟨r,hr,rfl⟩:=htr;exact Bv hi hs hg hr hev o (.inr hop)
 | pick c x y=>
  rw[hop]at htr;simp only[Yi]at htr;split at htr
  ·rename_i h1 h2 h3;cases htr;exact EI hi hs hg h1 h2 h3 hev (by simp only[execOp,hop])
  ·cases htr
 | alloc t=>
  rw[hop]at htr;simp only[Yi,Zc]at htr;obtain⟨zc,hz,rfl⟩:=htr;simp only[evalOp,Option.some.injEq,Prod.mk.injEq]at hev;obtain⟨rfl,rfl⟩:=hev;exact BN hi hz (by simp only[execOp,hop])
 | box t x=>
  rw[hop]at htr;simp only[Yi,Zc]at htr;obtain⟨r,hr,rfl⟩:=htr;simp only[evalOp]at hev;split at hev
  ·rename_i cs hcs;simp only[Option.some.injEq,Prod.mk.injEq]at hev;obtain⟨rfl,rfl⟩:=hev;exact Il hi hs hg hr hcs (by simp only[execOp,hop])
  ·cases hev
 | build t ps=>
  rw[hop]at htr;simp only[Yi]at htr;split at htr
  ·rename_i fs zc h1 h2;split at htr
   ·cases htr
   ·rename_i h3;simp only[Zc]at htr;obtain⟨l,hl',rfl⟩:=htr;exact K8 hi hs hg h1 h2 (by simpa using h3) hl' hev o hop
  ·rename_i n el zc h1 h2;split at htr
   ·cases htr
   ·rename_i h3;simp only[Zc]at htr;obtain⟨l,hl',rfl⟩:=htr;exact GZ hi hs hg h1 h2 (by simpa using h3) hl' hev o hop
  ·cases htr
 | buildSlice t n ps=>
  rw[hop]at htr;simp only[Yi]at htr;split at htr
  ·rename_i el h1;split at htr
   ·rename_i zc l h2 h3;split at htr
    ·rename_i h4;cases htr;exact vd hi hs hg h1 h2 h4.1 h4.2 h3 hev o hop
    ·cases htr
   ·cases htr
  ·cases htr
 | load t x=>
  rw[hop]at htr;simp only[Yi]at htr;split at htr
  ·cases htr
  ·rename_i h1;simp only[not_or,Bool.not_eq_false]at h1;simp only[Zc]at htr;obtain⟨r,hr,rfl⟩:=htr;exact EL hi hs hg h1.2 h1.1 hr hev (by simp only[execOp,hop])
 | store t x v=>
  rw[hop]at htr;simp only[Yi]at htr;split at htr
  ·rename_i h1 h2;split at htr
   ·rename_i h3;cases htr;exact Bq hi hs hg h3 h1 h2 hev (by simp only[execOp,hop])
   ·cases htr
  ·cases htr
 | nilCheck x=>rw[hop]at htr;simp only[Yi,Zc]at htr;obtain⟨r,hr,rfl⟩:=htr;exact zG hi hs hg hr hev o hop
 | binOp k t x y yt=>rw[hop]at htr;exact CX hi hs hg o hop htr hev
 | unOp k t x=>
  rw[hop]at htr;simp only[Yi]at htr;split at htr
  ·simp only[Zc]at htr;obtain⟨r,hr,rfl⟩:=htr;exact Ii hi hs hg hr hev o hop
  ·simp only[Zc]at htr;obtain⟨r,hr,rfl⟩:=htr;exact Ih hi hs hg hr hev o hop
  ·simp only[Zc]at htr;obtain⟨r,hr,rfl⟩:=htr;exact BI hi hs hg hr hev o hop
  ·cases htr
 | convert t u x=>rw[hop]at htr;exact As hi hs hg hl o hop htr hev
 | makeInterface t x=>
  rw[hop]at htr;simp only[Yi]at htr;split at htr
  ·cases htr
  ·rename_i d h2 h1;simp only[Zc]at htr;obtain⟨r,hr,rfl⟩:=htr;exact Bz hi hs hg h1 (λ ms hd=>h2 ms (by rw[hd])) hr hev o hop
  ·cases htr
 | makeFunc fn first caps=>
  rw[hop]at htr;simp only[Yi]at htr;split at htr
  ·rename_i f l h1 h2;cases htr;exact EK hi hs hg h2 h1 hev o hop
  ·cases htr
 | makeMap t r=>
  rw[hop]at htr;simp only[Yi]at htr;split at htr
  ·cases htr;simp only[evalOp,Option.some.injEq,Prod.mk.injEq]at hev;obtain⟨rfl,rfl⟩:=hev;exact Bw (t:=t) hi (by simp only[execOp,hop,Option.map_none])
  ·cases htr
 | insert t m k v=>
  rw[hop]at htr;simp only[Yi]at htr;split at htr
  ·rename_i h1 h2 h3 h4;simp only[Zc]at htr;obtain⟨c,hc,rfl⟩:=htr;exact wn hi hs hg h1 hc h2 h3 h4 hev (by simp only[execOp,hop])
  ·cases htr
 | mapUpdate t m k v=>
  rw[hop]at htr;simp only[Yi]at htr;split at htr
  ·rename_i h1 h2 h3 h4;simp only[Zc]at htr;obtain⟨c,hc,rfl⟩:=htr;exact wn hi hs hg h1 hc h2 h3 h4 hev (by simp only[execOp,hop])
  ·cases htr
 | lookup t m k ok=>
  rw[hop]at htr;simp only[Yi]at htr;split at htr
  ·rename_i h1 h2 h3;split at htr
   ·rename_i h4 h5;cases htr;exact gL hi hs hg h1 h4 h5 h2 h3 hev (by simp only[execOp,hop])
   ·cases htr
  ·cases htr
 | makeSlice t x y=>
  rw[hop]at htr;simp only[Yi]at htr;split at htr
  ·rename_i h1 h2 h3;split at htr
   ·rename_i h4;split at htr
    ·cases htr
    ·rename_i h5;cases htr;exact EJ hi hs hg h1 h5 h4 h2 h3 hev (by simp only[execOp,hop])
   ·cases htr
  ·cases htr
 | slice t x lo hh mx=>
  rw[hop]at htr;simp only[Yi]at htr;split at htr
  ·rename_i h1 h2 h3 h4 h5;cases htr;have:=zr h5;subst this
   exact Br hi hs hg h1 h2 h3 h4 hev o hop
  ·rename_i h1 h2 h3 h4 h5;split at htr
   ·cases htr
   ·rename_i h6;cases htr;exact EH hi hs hg h1 h6 h2 h3 h4 h5 hev o hop rfl
  ·rename_i h1 h2 h3 h4 h5;split at htr
   ·cases htr
   ·rename_i h6;cases htr;have:=zr h5;subst this
    exact Bs hi hs hg h1 h6 h2 h3 h4 hev o hop
  ·cases htr
 | fieldAddr t x f=>
  rw[hop]at htr;simp only[Yi]at htr;split at htr
  ·rename_i h1 h2;split at htr
   ·rename_i h3;split at htr
    ·cases htr
    ·rename_i h4;cases htr;exact EO hi hs hg h1 h3 (λ hh=>h4 (.inl hh)) h2 hev o hop
   ·cases htr
  ·cases htr
 | field t x f=>
  rw[hop]at htr;simp only[Yi]at htr;split at htr
  ·rename_i h1 h2;split at htr
   ·rename_i h3;split at htr
    ·cases htr
    ·rename_i h4;cases htr;simp only[not_or,Bool.not_eq_false]at h4;exact Ik hi hs hg h1 h3 h4.1 h4.2 h2 hev o hop
   ·cases htr
  ·cases htr
 | indexAddr t x i=>
  rw[hop]at htr;simp only[Yi]at htr;split at htr
  ·rename_i h1 h2 h3;split at htr
   ·cases htr
   ·rename_i h4;cases htr;exact BA hi hs hg h1 h4 h2 h3 hev o hop
  ·rename_i h1 h2 h3;split at htr
   ·cases htr
   ·rename_i h4;cases htr;exact gP hi hs hg h1 h4 h2 h3 hev o hop
  ·cases htr
 | index t x i=>
  rw[hop]at htr;simp only[Yi]at htr;split at htr
  ·rename_i h1 h2 h3;cases htr;exact gO hi hs hg h1 h2 h3 hev o hop
  ·rename_i h1 h2 h3;split at htr
   ·cases htr
   ·rename_i h4;cases htr;simp only[not_or,Bool.not_eq_false]at h4;exact gQ hi hs hg h1 h4.1 h4.2 h2 h3 hev o hop
  ·cases htr
 | extract x i=>rw[hop]at htr;simp only[Yi,Zc]at htr;obtain⟨r,hr,rfl⟩:=htr;exact va hi hs hg hr hev o hop
 | typeAssert x xt t ok=>
  rw[hop]at htr;simp only[Yi]at htr;split at htr
  ·cases htr
  ·rename_i d h2 h1;split at htr
   ·rename_i h3 h4;cases htr;exact gR (xt:=xt) hi hs hg h1 (λ ms hd=>h2 ms (by rw[hd])) h4 h3 hev (by simp only[execOp,hop])
   ·cases htr
  ·cases htr
 | panic x=>
  rw[hop]at htr;simp only[Yi]at htr;cases htr;simp[Kw,evalOp,ZJ]at hev
 | call c=>
  rw[hop]at htr;simp only[Yi]at htr;split at htr
  ·rename_i b hc;exact yP hi hs hg o hop hc htr hev
  ·rename_i v hc;unfold VE at htr;split at htr
   ·split at htr
    ·cases htr;simp[POp.isCall]at hnc
    ·simp only[Zc]at htr;obtain⟨r,hr,rfl⟩:=htr;simp[POp.isCall]at hnc
   ·cases htr
  ·cases htr
 | range t x=>
  rw[hop]at htr;simp only[Yi]at htr;split at htr
  ·rename_i h1 h2;cases htr;exact gK hi hs hg h1 h2 hev (by simp only[execOp,hop])
  ·cases htr
 | next x is=>
  rw[hop]at htr;cases is with
  | true=>simp[Yi]at htr
  | false=>
   simp only[Yi,Zc]at htr;obtain⟨r,hr,rfl⟩:=htr;simp[evalOp]at hev
 | entry x=>
  rw[hop]at htr;simp only[Yi,Zc]at htr;obtain⟨r,hr,rfl⟩:=htr;simp[evalOp]at hev
 | _=>rw[hop]at htr;simp[Yi]at htr
end
end
section
def CallsAs(P:Program)(G:Gh)(h:Mem)(w:World)(f:Nat)(vs:Array Value)(z:X)(h':Mem):Prop:=
 (∃ v w' G',(callFunc f vs).run P w=.ok (.value v) w'/\Step G h w G' h' w'/\RdX G' v z)\/
 ∃ f' vs' w0,(callFunc f vs).run P w=.ok (.enter f' vs') w0/\Calls P f' vs' w0 λ e w'=>∃ v G',e=.returned v/\Step G h w G' h' w'/\RdX G' v z
def CallOk(P:Program)(e:Env):Prop:=∀ (h:Mem) (f:Nat) (args:List X) (z:X) (h':Mem),Zi e h f args=some (z,h')->
 ∀ (G:Gh) (w:World) (vs:List Value),Inv G h w->GlobOk e G->RdL G vs args->CallsAs P G h w f vs.toArray z h'
section
variable {P:Program} {e:Env} {G:Gh} {h h':Mem} {w:World} {s:Zf} {a:Act} {nt:Nat}
theorem SlotsRel.upd(hs:SlotsRel G s a nt){x:Nat}{y:X}(hy:RdX G (a.eval (.tmp x)) y):SlotsRel G (Yo s (some x) y) a nt:=by
 refine⟨hs.size,λ j=>?_⟩
 simp only[Yo,XA]
 split
 ·rename_i e;subst e;exact hy
 ·exact hs.rd j
theorem RdL.wk{vs:List Value}{xs:List X}(h:RdL G vs xs):RdL G vs (xs.map X.wk):=
 ⟨by simpa using h.1,λ i v x hv hx=>by
  simp only[List.getElem?_map,Zc]at hx;obtain⟨y,hy,rfl⟩:=hx;exact(h.2 i v y hv hy).wk⟩
theorem RdL.append{vs us:List Value}{xs ys:List X}(h:RdL G vs xs)(k:RdL G us ys):RdL G (vs++us) (xs++ys):=by
 refine⟨by simp[h.1,k.1],λ i v x hv hx=>?_⟩
 have hl:=h.1
 rcases Zl i vs.length with hi | hi
 ·rw[Zr hi]at hv;rw[Zr (by omega)]at hx
  exact h.2 i v x hv hx
 ·rw[Zp hi]at hv;rw[Zp (by omega)]at hx
  rw[<- hl]at hx;exact k.2 _ v x hv hx
def XK(P:Program)(G:Gh)(h:Mem)(w:World)(s':Zf)(h':Mem)(nt:Nat)(a:Act)(next:Act->World->Prop):Prop:=
 ∀ w' G' a',Step G h w G' h' w'->SlotsRel G' s' a' nt->a'.defers=a.defers->next a' w'
theorem put_defers(d:Option Nat)(v:Value):(a.put d v).defers=a.defers:=by cases d<;>rfl
theorem OpOk.wp{o:Oper}{z:X}(hi:Inv G h w)(hs:SlotsRel G s a nt)(hd:∀ i,o.dst=some i->i < nt)(hk:OpOk P G h w (execOp a.eval o) z h'){next:Act->World->Prop}{Q:Go.Exit->Act->World->Prop}
  (hn:XK P G h w (Yo s o.dst z) h' nt a next):o.wp P a w next Q:=by
 obtain⟨v,w',G',hr,hst,hx⟩:=hk;have hs':=(hs.mono (hst.le hi.new)).put hd hx
 rcases hr with hr | ⟨hr,rfl⟩
 ·rw[Oper.wp,hr,Oper.upon_value];exact hn w' G' _ hst hs' (put_defers _ _)
 ·rw[Oper.wp,hr,Oper.upon_skip];exact hn w' G' _ hst hs' (put_defers _ _)
theorem CallsAs.wp{o:Oper}{z:X}{f:Nat}{vs:Array Value}(hi:Inv G h w)(hs:SlotsRel G s a nt)(hd:∀ i,o.dst=some i->i < nt)(hrun:(execOp a.eval o).run P w=(callFunc f vs).run P w)(hk:CallsAs P G h w f vs z h'){next:Act->World->Prop}{Q:Go.Exit->Act->World->Prop}
  (hn:XK P G h w (Yo s o.dst z) h' nt a next):o.wp P a w next Q:=by
 rcases hk with ⟨v,w',G',hr,hst,hx⟩|⟨f',vs',w0,hr,hc⟩
 ·exact OpOk.wp hi hs hd ⟨v,w',G',.inl (by rw[hrun];exact hr),hst,hx⟩ hn
 ·rw[Oper.wp,hrun,hr,Oper.upon_enter];refine hc.mono λ en w' hx=>?_
  obtain⟨v,G',rfl,hst,hx⟩:=hx;exact hn w' G' _ hst ((hs.mono (hst.le hi.new)).put hd hx) (put_defers _ _)
theorem WU(o:Oper){c:Call}(hop:o.op=.call c){v:Operand}(hc:c.callee=.value v){f:Nat}{caps:Array Value}(hv:a.eval v=.func (.func f) #[] caps) :
  (execOp a.eval o).run P w=(callFunc f (c.args.map a.eval++caps)).run P w:=by
 simp[execOp,hop,resolve,hc,hv,Deferred.ofValue,invoke,Result.andThen]
theorem Ga{ty:TypeId}{ats:Array TypeId}{b:Builtin}{xs:List Operand}{pop:POp}(htr:WI P ty ats b xs=some pop):pop.isCall=false:=by
 unfold WI at htr;repeat' (first|(cases htr;rfl)|(cases htr;done)|(simp only[Zc]at htr;obtain⟨_,_,rfl⟩:=htr;rfl)|split at htr)
theorem wd{ty:TypeId}{q:Op}{pop:POp}(htr:Yi P ty q=some pop)(hic:pop.isCall=true):∃ c,q=.call c/\∃ v,c.callee=.value v/\VE v (Gy c.args.toList)=some pop:=by
 cases q with
 | call c=>
  simp only[Yi]at htr;split at htr
  ·rw[Ga htr]at hic;cases hic
  ·rename_i v hc;exact⟨c,rfl,v,hc,htr⟩
  ·cases htr
 | next x is=>
  exfalso;cases is with
  | true=>simp[Yi]at htr
  | false=>simp only[Yi,Zc]at htr;obtain⟨_,_,rfl⟩:=htr;cases hic
 | _=>
  exfalso;simp only[Yi]at htr;repeat' (first|(cases htr;done)|(cases htr;cases hic;done)|(simp only[Zc]at htr;obtain⟨_,_,rfl⟩:=htr;cases hic;done)|split at htr)
theorem FA(hC:CallOk P e)(hi:Inv G h w)(hs:SlotsRel G s a nt)(hg:GlobOk e G)(o:Oper){pop:POp}(htr:Yi P o.type o.op=some pop)(hic:pop.isCall=true){z:X}(hev:evalOp e s h pop=some (z,h'))(hd:∀ i,o.dst=some i->i < nt){next:Act->World->Prop}{Q:Go.Exit->Act->World->Prop}
  (hn:XK P G h w (Yo s o.dst z) h' nt a next):o.wp P a w next Q:=by
 have key:=wd htr hic
 obtain⟨c,hop,v,hc,htv⟩:=key;unfold VE at htv;split at htv
 case h_2=>cases htv
 rename_i l hl;have hargs:=Uq hs hg hl
 split at htv
 ·rename_i f;cases htv;simp only[evalOp]at hev;have hk:=hC h f _ z h' hev G w _ hi hg hargs.wk
  have hrun:=WU (P:=P) (w:=w) (a:=a) o hop hc (f:=f) (caps:=#[]) rfl
  have he:c.args.map a.eval++(#[]:Array Value)=(c.args.toList.map a.eval).toArray:=by apply Array.ext';simp
  refine CallsAs.wp hi hs hd hrun ?_ hn;rw[he];exact hk
 ·simp only[Zc]at htv;obtain⟨r,hr,rfl⟩:=htv;have hf:=ZC hs hg hr
  simp only[evalOp]at hev;split at hev
  ·rename_i n caps e1;rw[e1]at hf;obtain⟨vs,ev,hvs⟩:=hf.cfunc_inv
   have hk:=hC h n _ z h' hev G w _ hi hg (hargs.wk.append hvs.toX)
   have hrun:=WU (P:=P) (w:=w) (a:=a) o hop hc ev
   have he:c.args.map a.eval++vs.toArray=(c.args.toList.map a.eval++vs).toArray:=by apply Array.ext';simp
   refine CallsAs.wp hi hs hd hrun ?_ hn;rw[he];exact hk
  ·rename_i n caps e1;rw[e1]at hf;obtain⟨vs,ev,hvs⟩:=hf.func_inv
   have hk:=hC h n _ z h' hev G w _ hi hg (hargs.wk.append hvs)
   have hrun:=WU (P:=P) (w:=w) (a:=a) o hop hc ev
   have he:c.args.map a.eval++vs.toArray=(c.args.toList.map a.eval++vs).toArray:=by apply Array.ext';simp
   refine CallsAs.wp hi hs hd hrun ?_ hn;rw[he];exact hk
  ·cases hev
theorem Dg(hC:CallOk P e)(hi:Inv G h w)(hs:SlotsRel G s a nt)(hg:GlobOk e G)(o:Oper){f:Nat}{args:List Rand}(htr:Yi P o.type o.op=some (.call f args)){z:X}(hev:Zi e h f (Xr e s args)=some (z,h'))(hd:∀ i,o.dst=some i->i < nt){next:Act->World->Prop}{Q:Go.Exit->Act->World->Prop}
  (hn:XK P G h w (Yo s o.dst z) h' nt a next):o.wp P a w next Q:=by
 obtain⟨c,hop,v,hc,htv⟩:=wd htr rfl;unfold VE at htv;split at htv
 case h_2=>cases htv
 rename_i l hl;have hargs:=Uq hs hg hl
 split at htv
 ·rename_i f';cases htv;have hk:=hC h f _ z h' hev G w _ hi hg hargs
  have hrun:=WU (P:=P) (w:=w) (a:=a) o hop hc (f:=f) (caps:=#[]) rfl
  have he:c.args.map a.eval++(#[]:Array Value)=(c.args.toList.map a.eval).toArray:=by apply Array.ext';simp
  refine CallsAs.wp hi hs hd hrun ?_ hn;rw[he];exact hk
 ·simp only[Zc]at htv;obtain⟨r,hr,hx⟩:=htv;cases hx
end
end
end Go.Pi
