/-
  DERIVED. GIVEN WITH THE SEED: THE CARDS: each row of YtilblajffdkccaaGreatDoorRows.lean that lists a variable, with what it lists TIED to the program's text (the seventh form; the later family's looks); each row that meets fmt, with fmt's text TOLD by the authors' own Lean function (tested against real Go, not proved from fmt's source: count such statements apart). THE CARD IS WHAT COUNTS. Prove the row's statement (the work); the ties are given (YtilblajffdkccaaGreatDoorTie.lean); close each card by the builder's one call (the guide's Derived/Test/ToyasCard.lean, 'card_holds'). Laid BY PROGRAM, IN A SANDBOX (cutbox-door.mjs). By AI agents, Wed Nov 11 2026. No macro, syntax, notation, axiom, sorry.
-/
import Derived.Test.YtilblajffdkccaaGreatDoorRows
import GoSem.ClaimSeven
namespace Go.Proofs.YtilblajffdkccaaGreatDoor
namespace Rows

/-- THE TIED CARD OF 'tidegatelaw38.FeasiblePlans'. -/
def feasiblePlansCard : Claim7 := { stood := { row := feasiblePlansRow, standIns := [], harness := (true, "1274a6836f908d1a240da4fa45525255c23a7550fed91e79fcb4f6215b866793"), looks := false }, kinds := [], alts := [], laidByText := true, laidKinds := [.data, .data, .data, .data, .data], laidTests := true, laidLooks := .later }
def FeasiblePlansCardSaid : Prop := Claim7.holds Tryz.pinned (.plain (OpenSpec.ofChange feasiblePlansSpec)) feasiblePlansCard

/-- THE SECOND FORM's CARD OF 'tidegatelaw38.FeasiblePlans'. -/
def feasiblePlansUptoCard : Claim7 := { stood := { row := feasiblePlansUptoRow, standIns := [], harness := (true, "1274a6836f908d1a240da4fa45525255c23a7550fed91e79fcb4f6215b866793"), looks := false }, kinds := [], alts := [], laidByText := true, laidKinds := [.data, .data, .data, .data, .data], laidTests := true, laidLooks := .later }
def FeasiblePlansUptoCardSaid : Prop := Claim7.holds Tryz.pinned (.plain (OpenSpec.upto feasiblePlansSpec)) feasiblePlansUptoCard
end Rows
end Go.Proofs.YtilblajffdkccaaGreatDoor
