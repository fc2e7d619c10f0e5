/- Proved: a part of the fixed example. -/
import Derived.Test.YtlpehfnaibndgaaGreatDoorAl
open Option renaming some->J,none->Z
open Bool renaming true->V,false->C
noncomputable section
set_option linter.all false
namespace Go.AM
open Go
set_option maxRecDepth 1000000
def k18:entry PP (AM.run PP (lj 6 3000 ZZ kO) 1000000) 277 Tt g18=V:=aL
end Go.AM
