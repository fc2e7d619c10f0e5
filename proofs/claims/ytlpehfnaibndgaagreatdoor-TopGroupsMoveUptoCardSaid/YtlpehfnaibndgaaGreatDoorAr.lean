/- Proved: the listed variables hold what the text lays. -/
import Derived.Test.YtlpehfnaibndgaaGreatDoorRows
import Derived.Test.YtlpehfnaibndgaaGreatDoorAa
open Option renaming some->J,none->Z
open Bool renaming true->V,false->C
open Go.Proofs.Tryz renaming prog->eP
noncomputable section
set_option linter.all false
namespace Go.Proofs.YtlpehfnaibndgaaGreatDoor
open Go
set_option maxRecDepth 100000
abbrev Md:List (String×DataW Unit):=[("math/bits.deBruijn32tab",Rows.laid_math_bits_deBruijn32tab),("math/bits.deBruijn64tab",Rows.laid_math_bits_deBruijn64tab),("internal/strconv.uint64pow10",Rows.laid_internal_strconv_uint64pow10),("tidegate/pattern.shapes",Rows.laid_tidegate_pattern_shapes),("tidegate/scope.table",Rows.laid_tidegate_scope_table)]
def aLA:Tryz.prog.worded (varsWordLater V)=V:=aL
def aLB:Tryz.prog.worded (varsWordLater !V)=C:=aL
def aLC:Tryz.prog.worded rootWordLater=V:=aL
def aLD:Md.map (λx=>Tryz.prog.kindOfLater x.1)=[LaidKind.data,.data,.data,.data,.data].map J:=aL
def aLE:(Tryz.prog.funcNamed "gosem.cut.vars").isSome=V:=aL
def aLF:varsNamedLaterB eP (varsId eP) Md=V:=aL
def aLG:∀o t,doorLeaves eP 53 8 67 Md o t=J (Md.filter λx=>x.2.handleName?.isNone,(funcsListed Md).map (·.2.funcsOut)):=λ_ _=>aL
def aCv:Tryz.pinned.checked.prog.headLifts.contains "ownunsafe"=C:=aL
def aHZ:Rows.topGroupsMoveUptoRow.laidByTextAt .later Tryz.pinned [.data,.data,.data,.data,.data] V:=OpenClaim.laidByTextAt_later rfl rfl (Program.laidByTextLater_by_one 53 8 67 aLA aLB aLC aLD aLE aLF aLG) aCv
end Go.Proofs.YtlpehfnaibndgaaGreatDoor
