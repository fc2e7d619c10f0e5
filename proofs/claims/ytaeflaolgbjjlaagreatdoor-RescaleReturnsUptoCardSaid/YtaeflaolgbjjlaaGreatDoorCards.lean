/-
  DERIVED. GIVEN WITH THE SEED: THE CARDS: each row of YtaeflaolgbjjlaaGreatDoorRows.lean that lists a variable, with what it lists TIED to the program's text (the seventh form; the later family's looks); each row that meets fmt, with fmt's text TOLD by the authors' own Lean function (tested against real Go, not proved from fmt's source: count such statements apart). THE CARD IS WHAT COUNTS. Prove the row's statement (the work); the ties are given (YtaeflaolgbjjlaaGreatDoorTie.lean); close each card by the builder's one call (the guide's Derived/Test/ToyasCard.lean, 'card_holds'). Laid BY PROGRAM, IN A SANDBOX (cutbox-door.mjs). By AI agents, Wed Nov 11 2026. No macro, syntax, notation, axiom, sorry.
-/
import Derived.Test.YtaeflaolgbjjlaaGreatDoorRows
import GoSem.ClaimSeven
namespace Go.Proofs.YtaeflaolgbjjlaaGreatDoor
namespace Rows

/-- THE TIED CARD OF 'tidegatelaw52.RescaleReturns'. -/
def rescaleReturnsCard : Claim7 := { stood := { row := rescaleReturnsRow, standIns := [], harness := (true, "f1afc66378a6da2712c760a37ccb55fc53e44c4ec635bd3f8c76e10415f465c2"), looks := false }, kinds := [], alts := [], laidByText := true, laidKinds := [.data, .data, .data, .data, .data], laidTests := true, laidLooks := .later }
def RescaleReturnsCardSaid : Prop := Claim7.holds Tryz.pinned (.plain (OpenSpec.ofChange rescaleReturnsSpec)) rescaleReturnsCard

/-- THE SECOND FORM's CARD OF 'tidegatelaw52.RescaleReturns'. -/
def rescaleReturnsUptoCard : Claim7 := { stood := { row := rescaleReturnsUptoRow, standIns := [], harness := (true, "f1afc66378a6da2712c760a37ccb55fc53e44c4ec635bd3f8c76e10415f465c2"), looks := false }, kinds := [], alts := [], laidByText := true, laidKinds := [.data, .data, .data, .data, .data], laidTests := true, laidLooks := .later }
def RescaleReturnsUptoCardSaid : Prop := Claim7.holds Tryz.pinned (.plain (OpenSpec.upto rescaleReturnsSpec)) rescaleReturnsUptoCard
end Rows
end Go.Proofs.YtaeflaolgbjjlaaGreatDoor
