/-
  DERIVED. GIVEN WITH THE SEED: THE CARDS: each row of YtnjhghmdcoaceaaGreatDoorRows.lean that lists a variable, with what it lists TIED to the program's text (the seventh form; the later family's looks); each row that meets fmt, with fmt's text TOLD by the authors' own Lean function (tested against real Go, not proved from fmt's source: count such statements apart). THE CARD IS WHAT COUNTS. Prove the row's statement (the work); the ties are given (YtnjhghmdcoaceaaGreatDoorTie.lean); close each card by the builder's one call (the guide's Derived/Test/ToyasCard.lean, 'card_holds'). Laid BY PROGRAM, IN A SANDBOX (cutbox-door.mjs). By AI agents, Wed Nov 11 2026. No macro, syntax, notation, axiom, sorry.
-/
import Derived.Test.YtnjhghmdcoaceaaGreatDoorRows
import GoSem.ClaimSeven
namespace Go.Proofs.YtnjhghmdcoaceaaGreatDoor
namespace Rows

/-- THE TIED CARD OF 'tidegatelaw52.RescaleComposes'. -/
def rescaleComposesCard : Claim7 := { stood := { row := rescaleComposesRow, standIns := [], harness := (true, "bcc086a1863c4a586ea1eb26ba1c67e93b385a52b79c83d8ca1646babcfbbfbb"), looks := false }, kinds := [], alts := [], laidByText := true, laidKinds := [.data, .data, .data, .data, .data], laidTests := true, laidLooks := .later }
def RescaleComposesCardSaid : Prop := Claim7.holds Tryz.pinned (.plain (OpenSpec.ofChange rescaleComposesSpec)) rescaleComposesCard

/-- THE SECOND FORM's CARD OF 'tidegatelaw52.RescaleComposes'. -/
def rescaleComposesUptoCard : Claim7 := { stood := { row := rescaleComposesUptoRow, standIns := [], harness := (true, "bcc086a1863c4a586ea1eb26ba1c67e93b385a52b79c83d8ca1646babcfbbfbb"), looks := false }, kinds := [], alts := [], laidByText := true, laidKinds := [.data, .data, .data, .data, .data], laidTests := true, laidLooks := .later }
def RescaleComposesUptoCardSaid : Prop := Claim7.holds Tryz.pinned (.plain (OpenSpec.upto rescaleComposesSpec)) rescaleComposesUptoCard
end Rows
end Go.Proofs.YtnjhghmdcoaceaaGreatDoor
