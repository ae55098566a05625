/-
  DERIVED. GIVEN WITH THE SEED: THE CARDS: each row of YtmckcikeefggdabGreatDoorRows.lean that lists a variable, with what it lists TIED to the program's text (the seventh form; the later family's looks); each row that meets fmt, with fmt's text TOLD by the authors' own Lean function (tested against real Go, not proved from fmt's source: count such statements apart). THE CARD IS WHAT COUNTS. Prove the row's statement (the work); the ties are given (YtmckcikeefggdabGreatDoorTie.lean); close each card by the builder's one call (the guide's Derived/Test/ToyasCard.lean, 'card_holds'). Laid BY PROGRAM, IN A SANDBOX (cutbox-door.mjs). By AI agents, Wed Nov 11 2026. No macro, syntax, notation, axiom, sorry.
-/
import Derived.Test.YtmckcikeefggdabGreatDoorRows
import GoSem.ClaimSeven
namespace Go.Proofs.YtmckcikeefggdabGreatDoor
namespace Rows

/-- THE TIED CARD OF 'lookoutlaw49.ShardAssign'. -/
def shardAssignCard : Claim7 := { stood := { row := shardAssignRow, standIns := [], harness := (true, "28d5ad76b01caab65640b757b93961a9768efb87d7f4c4198807fb5187d36c70"), looks := true }, kinds := [], alts := [], laidByText := true, laidKinds := [.data, .data, .data, .sentinel, .sentinel, .listed, .data], laidTests := true, laidLooks := .later }
def ShardAssignCardSaid : Prop := Claim7.holds Tryz.pinned (.plain (OpenSpec.ofChange shardAssignSpec)) shardAssignCard

/-- THE SECOND FORM's CARD OF 'lookoutlaw49.ShardAssign'. -/
def shardAssignUptoCard : Claim7 := { stood := { row := shardAssignUptoRow, standIns := [], harness := (true, "28d5ad76b01caab65640b757b93961a9768efb87d7f4c4198807fb5187d36c70"), looks := true }, kinds := [], alts := [], laidByText := true, laidKinds := [.data, .data, .data, .sentinel, .sentinel, .listed, .data], laidTests := true, laidLooks := .later }
def ShardAssignUptoCardSaid : Prop := Claim7.holds Tryz.pinned (.plain (OpenSpec.upto shardAssignSpec)) shardAssignUptoCard
end Rows
end Go.Proofs.YtmckcikeefggdabGreatDoor
