/-
  DERIVED. GIVEN WITH THE SEED: THE CARDS: each row of YtmckcikeefggdaaGreatDoorRows.lean that lists a variable, with what it lists TIED to the program's text (the seventh form; the later family's looks); each row that meets fmt, with fmt's text TOLD by the authors' own Lean function (tested against real Go, not proved from fmt's source: count such statements apart). THE CARD IS WHAT COUNTS. Prove the row's statement (the work); the ties are given (YtmckcikeefggdaaGreatDoorTie.lean); close each card by the builder's one call (the guide's Derived/Test/ToyasCard.lean, 'card_holds'). Laid BY PROGRAM, IN A SANDBOX (cutbox-door.mjs). By AI agents, Wed Nov 11 2026. No macro, syntax, notation, axiom, sorry.
-/
import Derived.Test.YtmckcikeefggdaaGreatDoorRows
import GoSem.ClaimSeven
namespace Go.Proofs.YtmckcikeefggdaaGreatDoor
namespace Rows

/-- THE TIED CARD OF 'lookoutlaw49.ShardPlan'. -/
def shardPlanCard : Claim7 := { stood := { row := shardPlanRow, standIns := [], harness := (true, "701574f197fc7028e62f3c3a4f855f2f4d564c340fc52c4426543b95906b7ab6"), looks := true }, kinds := [], alts := [], laidByText := true, laidKinds := [.data, .data, .data, .sentinel, .sentinel, .listed, .data], laidTests := true, laidLooks := .later }
def ShardPlanCardSaid : Prop := Claim7.holds Tryz.pinned (.plain (OpenSpec.ofChange shardPlanSpec)) shardPlanCard

/-- THE SECOND FORM's CARD OF 'lookoutlaw49.ShardPlan'. -/
def shardPlanUptoCard : Claim7 := { stood := { row := shardPlanUptoRow, standIns := [], harness := (true, "701574f197fc7028e62f3c3a4f855f2f4d564c340fc52c4426543b95906b7ab6"), looks := true }, kinds := [], alts := [], laidByText := true, laidKinds := [.data, .data, .data, .sentinel, .sentinel, .listed, .data], laidTests := true, laidLooks := .later }
def ShardPlanUptoCardSaid : Prop := Claim7.holds Tryz.pinned (.plain (OpenSpec.upto shardPlanSpec)) shardPlanUptoCard
end Rows
end Go.Proofs.YtmckcikeefggdaaGreatDoor
