/- The law holds for every input: proved by a pure interpreter of the machine that is itself proved sound (the texts before this one). -/
import Derived.Test.YtmckcikeefggdaaGreatDoorCards
import Derived.SevenTiedAt
import Derived.Test.YtmckcikeefggdaaGreatDoorPM
set_option linter.unusedVariables false
set_option linter.unusedSimpArgs false
set_option linter.unusedSectionVars false
set_option maxRecDepth 100000
set_option maxHeartbeats 16000000
namespace Go.Proofs.YtmckcikeefggdaaGreatDoor
open Go
theorem card_holds:Rows.ShardPlanCardSaid:=
 Claim7.holds_tied_plain_at .later [] _ _ _ _ gG (λ _ h=>by cases h) (by kernel_rfl) (λ _ h=>by cases h) shardPlan_row_tie rfl ⟨rfl,rfl⟩ (by kernel_rfl) rfl
  (λ f fn hf hfn=>by
   obtain rfl:f=3:=Option.some.inj ((show Tryz.prog.funcNamed "lookout/lookoutlaw49.ShardPlan" = some 3 by kernel_rfl).symm.trans hf) |>.symm
   obtain rfl:fn=Tryz.f3:=(Option.some.inj (Tryz.func3.symm.trans hfn)).symm
   exact⟨by kernel_rfl,λ j t ht=>by
    rw[Tryz.params3]at ht;obtain rfl:t=33:=by
     rcases j with _ | j
     ·simpa using ht.symm
     ·simp at ht
    exact(show Tryz.prog.wantsStandIn 33=false by kernel_rfl)⟩)
  (by kernel_rfl)
end Go.Proofs.YtmckcikeefggdaaGreatDoor
