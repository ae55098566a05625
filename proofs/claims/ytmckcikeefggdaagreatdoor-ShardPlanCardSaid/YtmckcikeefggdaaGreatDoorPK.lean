/- Part 11 of the proof. -/
import Derived.Test.YtmckcikeefggdaaGreatDoorRows
import Derived.Test.YtmckcikeefggdaaGreatDoorTie
import Derived.ProofKit
import Derived.LaidMore
import Derived.OpenShut
import Derived.Carry
import Derived.MakeChecks
import Derived.Stop.Joined
import Derived.Test.YtmckcikeefggdaaGreatDoorPJ
set_option linter.unusedVariables false
set_option linter.unusedSimpArgs false
set_option linter.unusedSectionVars false
set_option maxRecDepth 100000
set_option maxHeartbeats 16000000
namespace Go.Proofs.YtmckcikeefggdaaGreatDoor
section
open Go Go.Pi Go.ChangeShapes Go.WideShapes Go.ChangeAt Go.RowKit
theorem own:ownKnob Tryz.prog.godebug=none:=by kernel_rfl
theorem EV:laidOutB Tryz.prog=true:=by kernel_rfl
theorem CU(os:Os)(args:Array Value):laidMetH Tryz.prog Rows.shardPlanRow.laid ((World.doorLaid Tryz.prog 86 os).forCall (λ _ _=>0) ⟨#[],args,[]⟩).memory:=
 laidMetH_of_parts3 (fuel:=8) (laidMet_of_run' 8 (by kernel_rfl) (by kernel_rfl)) (by kernel_rfl) (by kernel_rfl)
def Ho:CV->Int
 | .int _ n=>n
 | _=>0
def zs0:List Int:=glob0.map Ho
def zs5:List Int:=glob5.map Ho
theorem Zap:glob0=zs0.map (CV.int .u8):=by kernel_rfl
theorem Zao:glob5=zs5.map (CV.int .u64):=by kernel_rfl
theorem ZaD:Rows.laid_strings_asciiSpace (H:=Unit)=.agg (zs0.map λ z=>.lit (.int .u8 z)):=by kernel_rfl
theorem ZaA:Rows.laid_internal_strconv_uint64pow10 (H:=Unit)=.agg (zs5.map λ z=>.lit (.int .u64 z)):=by kernel_rfl
theorem E2{W:World}(h:laidMetH Tryz.prog Rows.shardPlanRow.laid W):GlobOk (Zo WF) (Xq W):=by
 rw[MakeChecks.laidMetH_plain _ _ _ (by kernel_rfl)]at h
 intro g cs hg i c hc;have hg':Ct g=some cs:=hg
 unfold Ct at hg';split at hg'
 ·cases hg';rw[Zap]at hc;refine wz h (n:= "strings.asciiSpace") (t:=150) (t':=5) (c:=256) ?_ (by kernel_rfl) (by kernel_rfl) (by kernel_rfl) (by kernel_rfl) (by kernel_rfl) i c hc
  rw[<- ZaD];simp[Rows.shardPlanRow]
 ·cases hg';rw[Zao]at hc;refine wz h (n:= "internal/strconv.uint64pow10") (t:=245) (t':=181) (c:=20) ?_ (by kernel_rfl) (by kernel_rfl) (by kernel_rfl) (by kernel_rfl) (by kernel_rfl) i c hc
  rw[<- ZaA];simp[Rows.shardPlanRow]
 ·cases hg'
theorem O8:(match Tryz.prog.underlying 33 with | some (.struct _)=>true | _=>false)=true:=by kernel_rfl
theorem A5{W:World}{base:Nat}{v:Value}(h:Value.okWide Tryz.prog W .any base 33 v):∃ cs,v=.agg cs/\cs.size=Tryz.prog.cellsOf 33/\Row.okWide Tryz.prog W .any base 33 cs:=by
 have hs:=O8
 split at hs
 ·rename_i fs hu;unfold Value.okWide at h;rw[hu]at h;exact h
 ·cases hs
theorem Ej(os:Os)(H:Type)(enc:TypeId × Value->H):∃ (w:World) (tape:Tape) (i:Input),w.os=os/\(w.forCall tape i).Shaped Tryz.checked.prog/\i.vars=[]/\Input.okWide Tryz.checked.prog (w.forCall tape i) .any w.heap.size 3 i/\
   ((Rows.shardPlanSpec.pre enc Tryz.checked.prog Tryz.f3 [] false (w.forCall tape i).memory i.args/\laidMetH Tryz.prog Rows.shardPlanRow.laid (w.forCall tape i).memory)/\sizedMet enc Tryz.checked.prog Tryz.f3 (OpenSpec.ofChange Rows.shardPlanSpec) false (w.forCall tape i).memory i.args)/\({}:Assume).holds Tryz.checked.prog (lone (Frame.enter Tryz.checked.prog 3 i.args .normal) [] (w.forCall tape i)):=
 ChangeSpec.witness_shaped (enc:=enc) (C:=Tryz.checked) (os:=os) (X:=λ w _=>laidMetH Tryz.prog Rows.shardPlanRow.laid w) false (World.doorLaid Tryz.prog 86 os) #[.agg #[.int .i64 0,.int .i64 0,.slice none 0 0,.int .i64 0,.int .i64 0,.int .i64 0,.int .i64 0,.slice none 0 0,.bool false,.int .i64 0,.slice none 0 0,.int .i64 0,.slice none 0 0,.slice none 0 0,.string ByteArray.empty,.slice none 0 0]] 8 rfl (World.shaped_of_RefB (by kernel_rfl) (by kernel_rfl)) (by kernel_rfl) (by kernel_rfl) (by kernel_rfl) (CU os _)
end
end Go.Proofs.YtmckcikeefggdaaGreatDoor
