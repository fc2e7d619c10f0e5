/- Proved: a closed fact of the row. -/
import Derived.Test.YtlpehfnaibndgaaGreatDoorAo
open Option renaming some->J,none->Z
open Bool renaming true->V,false->C
open Go.Proofs.Tryz renaming prog->eP
noncomputable section
set_option linter.all false
namespace Go.Proofs.YtlpehfnaibndgaaGreatDoor.tm
set_option maxRecDepth 100000
def la0:eP.types.size=732:=by kernel_rfl
def la1:(List.range 250).all (rowFine eP)=V:=by kernel_rfl
def la2:(List.range' 250 250).all (rowFine eP)=V:=by kernel_rfl
def la3:(List.range' 500 232).all (rowFine eP)=V:=by kernel_rfl
def la4:eP.globals.all (λg=>decide (g.type<eP.types.size))=V:=by kernel_rfl
def la5:eP.funcs.all (λf=>f.params.all λt=>decide (t<eP.types.size))=V:=by kernel_rfl
def l1:laidOutB eP=V:=by unfold laidOutB;rw[la4,la5,la0,show List.range 732=List.range 250++(List.range' 250 250++List.range' 500 232)by rfl,List.all_append,List.all_append,la1,la2,la3];rfl
end Go.Proofs.YtlpehfnaibndgaaGreatDoor.tm
