/- Proved: the listed variables hold what the text lays. -/
import Derived.Test.YtnjhghmdcoaceaaGreatDoorRows
import Derived.Test.YtnjhghmdcoaceaaGreatDoorAa
open Option renaming some->J,none->Z
open Bool renaming true->V,false->C
open Go.Proofs.Tryz renaming prog->eD
noncomputable section
set_option maxRecDepth 100000
set_option linter.all false
namespace Go.Proofs.YtnjhghmdcoaceaaGreatDoor
open Go
abbrev Mr:List (String×DataW Unit):=[("math/bits.deBruijn32tab",Rows.laid_math_bits_deBruijn32tab),("math/bits.deBruijn64tab",Rows.laid_math_bits_deBruijn64tab),("internal/strconv.uint64pow10",Rows.laid_internal_strconv_uint64pow10),("tidegate/pattern.shapes",Rows.laid_tidegate_pattern_shapes),("tidegate/scope.table",Rows.laid_tidegate_scope_table)]
def aME:Tryz.prog.worded (varsWordLater V)=V:=aL
def aMF:Tryz.prog.worded (varsWordLater !V)=C:=aL
def aMG:Tryz.prog.worded rootWordLater=V:=aL
def aMH:Mr.map (λx=>Tryz.prog.kindOfLater x.1)=[LaidKind.data,.data,.data,.data,.data].map J:=aL
def aMI:(Tryz.prog.funcNamed "gosem.cut.vars").isSome=V:=aL
def aMJ:varsNamedLaterB eD (varsId eD) Mr=V:=aL
def aMK:∀o t,doorLeaves eD 53 8 67 Mr o t=J (Mr.filter λx=>x.2.handleName?.isNone,(funcsListed Mr).map (·.2.funcsOut)):=λ_ _=>aL
def aDj:Tryz.pinned.checked.prog.headLifts.contains "ownunsafe"=C:=aL
def aI4:Rows.rescaleComposesUptoRow.laidByTextAt .later Tryz.pinned [.data,.data,.data,.data,.data] V:=OpenClaim.laidByTextAt_later rfl rfl (Program.laidByTextLater_by_one 53 8 67 aME aMF aMG aMH aMI aMJ aMK) aDj
