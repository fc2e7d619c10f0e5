/- Proved: a closed fact of the row. -/
import Derived.Test.YtnjhghmdcoaceaaGreatDoorAm
open Option renaming some->J,none->Z
open Bool renaming true->V,false->C
open Go.Proofs.Tryz renaming prog->eD
open List renaming range->qm,range'->vp
noncomputable section
set_option maxRecDepth 100000
set_option linter.all false
namespace Go.Proofs.YtnjhghmdcoaceaaGreatDoor.tm
def la0:Tryz.prog.types.size=724:=aL
def la1:(qm 250).all (rowFine eD)=V:=aL
def la2:(vp 250 250).all (rowFine eD)=V:=aL
def la3:(vp 500 224).all (rowFine eD)=V:=aL
def la4:Tryz.prog.globals.all (λg=>decide (g.type<Tryz.prog.types.size))=V:=aL
def la5:Tryz.prog.funcs.all (λf=>f.params.all λt=>decide (t<Tryz.prog.types.size))=V:=aL
def l1:laidOutB eD=V:=by unfold laidOutB;rw[la4,la5,la0,show qm 724=qm 250++(vp 250 250++vp 500 224)by rfl,List.all_append,List.all_append,la1,la2,la3];rfl
