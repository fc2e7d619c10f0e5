/- Proved: closed facts of the row (a part of the proof of RescaleReturnsUptoCardSaid, whose theorem stands in the last text). -/
import Derived.Test.YtaeflaolgbjjlaaGreatDoorAq
open Option renaming some->J,none->Z
open Bool renaming true->V,false->C
open Go.Proofs.Tryz renaming prog->eP
noncomputable section
set_option linter.all false
namespace Go.Proofs.YtaeflaolgbjjlaaGreatDoor.rr
set_option maxRecDepth 100000
theorem l1:laidOutB eP=V:=aN
end Go.Proofs.YtaeflaolgbjjlaaGreatDoor.rr
