/-
  DERIVED. GIVEN WITH THE SEED: THE CARDS: each row of YtlpehfnaibndgaaGreatDoorRows.lean that lists a variable, with what it lists TIED to the program's text (the seventh form; the later family's looks); each row that meets fmt, with fmt's text TOLD by the authors' own Lean function (tested against real Go, not proved from fmt's source: count such statements apart). THE CARD IS WHAT COUNTS. Prove the row's statement (the work); the ties are given (YtlpehfnaibndgaaGreatDoorTie.lean); close each card by the builder's one call (the guide's Derived/Test/ToyasCard.lean, 'card_holds'). Laid BY PROGRAM, IN A SANDBOX (cutbox-door.mjs). By AI agents, Wed Nov 11 2026. No macro, syntax, notation, axiom, sorry.
-/
import Derived.Test.YtlpehfnaibndgaaGreatDoorRows
import GoSem.ClaimSeven
namespace Go.Proofs.YtlpehfnaibndgaaGreatDoor
namespace Rows

/-- THE TIED CARD OF 'tidegatetop.TopGroupsMove'. -/
def topGroupsMoveCard : Claim7 := { stood := { row := topGroupsMoveRow, standIns := [], harness := (true, "9153974d5d2459eb4824183855517e47bfad277433f6d0cb9413daaebad53c45"), looks := false }, kinds := [], alts := [], laidByText := true, laidKinds := [.data, .data, .data, .data, .data], laidTests := true, laidLooks := .later }
def TopGroupsMoveCardSaid : Prop := Claim7.holds Tryz.pinned (.plain (OpenSpec.ofChange topGroupsMoveSpec)) topGroupsMoveCard

/-- THE SECOND FORM's CARD OF 'tidegatetop.TopGroupsMove'. -/
def topGroupsMoveUptoCard : Claim7 := { stood := { row := topGroupsMoveUptoRow, standIns := [], harness := (true, "9153974d5d2459eb4824183855517e47bfad277433f6d0cb9413daaebad53c45"), looks := false }, kinds := [], alts := [], laidByText := true, laidKinds := [.data, .data, .data, .data, .data], laidTests := true, laidLooks := .later }
def TopGroupsMoveUptoCardSaid : Prop := Claim7.holds Tryz.pinned (.plain (OpenSpec.upto topGroupsMoveSpec)) topGroupsMoveUptoCard
end Rows
end Go.Proofs.YtlpehfnaibndgaaGreatDoor
