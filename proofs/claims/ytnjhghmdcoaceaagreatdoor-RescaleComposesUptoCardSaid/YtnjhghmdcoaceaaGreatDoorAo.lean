/- Proved: closed facts of the row. -/
import Derived.Test.YtnjhghmdcoaceaaGreatDoorAn
open Option renaming some->J,none->Z
open Bool renaming true->V,false->C
open Go.Proofs.Tryz renaming prog->eD
noncomputable section
set_option maxRecDepth 100000
open Go.Proofs.Tryz
set_option linter.all false
namespace Go.Proofs.YtnjhghmdcoaceaaGreatDoor.tm
def vO:Tryz.prog.inPlace 3=fC.inPlace:=by unfold Program.inPlace;rw[OL];kernel_rfl
def co:Tryz.prog.unfollowed 3=V:=by unfold Program.unfollowed;rw[OL];kernel_rfl
def l9:(fC.inPlace==Tryz.prog.inPlace 3)=V:=by rw[vO];kernel_rfl
def l10:(fC.unfollowed==Tryz.prog.unfollowed 3)=V:=by rw[co];kernel_rfl
def l11:(fC.recurses==Tryz.prog.recurses 3)=V:=by unfold Program.recurses;rw[co];kernel_rfl
def goA:(cl3.any λg=>(Tryz.prog.funcs[g]?).any Func.goes)=C:=aL
def goB:Tryz.prog.funcs.any Func.goes=C:=aL
def go3:Tryz.prog.goes 3=C:=by unfold Program.goes;rw[OL,co,goA,goB];rfl
def Wa:Tryz.prog.funcNamed "tidegate/tidegatelaw52.RescaleComposes"=J 3:=aL
def aDg:C=fC.goesBy eD:=by show C=((Tryz.prog.funcNamed "tidegate/tidegatelaw52.RescaleComposes").any Tryz.prog.goes||false);rw[Wa,Option.any_some,go3];rfl
theorem VK:(fC.named==Tryz.prog.varsNamed 3)=V:=by unfold Program.varsNamed;rw[OL];kernel_rfl
def l2:mapsRowed eD=V:=aL
def l24:Tryz.prog.stopsHeard=V:=aL
def l25:Tryz.prog.mayEnter=V:=aL
def aDi:C=Tryz.prog.looks []:=aL
def l0:fC.wf (OpenSpec.ofChange qG)=V:=aL
def l3:f3.params.all (Tryz.prog.readableRec .)=V:=aL
def l4:namedTie eD fC.named qG.vars=V:=aL
def l5:(fC.stops==[])=V:=aL
def l6:(Tryz.prog.stops==[])=V:=aL
def l7:(fC.knobs==[])=V:=aL
def l8:(Tryz.prog.stopKnobs==[])=V:=aL
def l13:(fC.maps==(f3.params.toList++qG.plain.varTypes eD).any (Tryz.prog.mapsRec .))=V:=aL
def l14:(fC.ifaces==(f3.params.toList++qG.plain.varTypes eD).any (Tryz.prog.ifacesRec .))=V:=aL
def l15:(fC.mapsOut==Tryz.prog.mapsAmong f3.resultTypes.toList)=V:=aL
def l16:(fC.loops==(f3.params.toList++qG.plain.varTypes eD).any (Tryz.prog.loopsFrom .))=V:=aL
def l17:(fC.wideKeys==(f3.params.toList++qG.plain.varTypes eD++f3.resultTypes.toList).any (Tryz.prog.wideKeysFrom .))=V:=aL
def l18:qG.vars.all (Tryz.prog.varReadable .)=V:=aL
def l19:f3.resultTypes.all (λt=>Tryz.prog.readableRec t&&decide (t<Tryz.prog.types.size))=V:=aL
def l20:(fC.ifacesOut==f3.resultTypes.toList.any (Tryz.prog.ifacesRec .))=V:=aL
def l21:(fC.loopsOut==f3.resultTypes.toList.any (Tryz.prog.loopsFrom .))=V:=aL
theorem VL:(fC.plainKeys==Tryz.prog.plainKeys)=V:=aL
def l23:fC.shortTexts.isNone=V:=aL
def l26:(fC.lifted==Tryz.prog.liftsFinal)=V:=aL
def l27:(Tryz.prog.make==J fC.make)=V:=aL
def l28:(fC.kinds==(if fC.domain.isEmpty then[]else f3.params.toList.map λt=>match Tryz.prog.underlying t with|some (.int k)=>J k|_=>Z))=V:=aL
def l29:(fC.pinned==fC.pinnedBy)=V:=aL
def l30:(fC.veiled==(f3.params.toList++qG.plain.varTypes eD++f3.resultTypes.toList).any (Tryz.prog.veiledRec .))=V:=aL
def l31:fC.veiledFits eD f3.params.toList (f3.params.toList++qG.plain.varTypes eD++f3.resultTypes.toList)=V:=aL
def facts:joinedFacts Tryz.pinned.checked.prog 3 f3 qG fC=V:=by
 have h:(fC.wf (OpenSpec.ofChange qG)&&laidOutB eD&&mapsRowed eD&&f3.params.all (Tryz.prog.readableRec .)&&namedTie eD fC.named qG.vars&&(fC.stops==[])&&(Tryz.prog.stops==[])&&(fC.knobs==[])&&(Tryz.prog.stopKnobs==[])&&(fC.inPlace==Tryz.prog.inPlace 3)&&(fC.unfollowed==Tryz.prog.unfollowed 3)&&(fC.recurses==Tryz.prog.recurses 3)&&(fC.named==Tryz.prog.varsNamed 3)&&(fC.maps==(f3.params.toList++qG.plain.varTypes eD).any (Tryz.prog.mapsRec .))&&(fC.ifaces==(f3.params.toList++qG.plain.varTypes eD).any (Tryz.prog.ifacesRec .))&&(fC.mapsOut==Tryz.prog.mapsAmong f3.resultTypes.toList)&&(fC.loops==(f3.params.toList++qG.plain.varTypes eD).any (Tryz.prog.loopsFrom .))&&(fC.wideKeys==(f3.params.toList++qG.plain.varTypes eD++f3.resultTypes.toList).any (Tryz.prog.wideKeysFrom .))&&qG.vars.all (Tryz.prog.varReadable .)&&f3.resultTypes.all (λt=>Tryz.prog.readableRec t&&decide (t<Tryz.prog.types.size))&&(fC.ifacesOut==f3.resultTypes.toList.any (Tryz.prog.ifacesRec .))&&(fC.loopsOut==f3.resultTypes.toList.any (Tryz.prog.loopsFrom .))&&(fC.plainKeys==Tryz.prog.plainKeys)&&fC.shortTexts.isNone&&Tryz.prog.stopsHeard&&Tryz.prog.mayEnter&&(fC.lifted==Tryz.prog.liftsFinal)&&(Tryz.prog.make==J fC.make)&&(fC.kinds==(if fC.domain.isEmpty then[]else f3.params.toList.map λt=>match Tryz.prog.underlying t with|some (.int k)=>J k|_=>Z))&&(fC.pinned==fC.pinnedBy)&&(fC.veiled==(f3.params.toList++qG.plain.varTypes eD++f3.resultTypes.toList).any (Tryz.prog.veiledRec .))&&fC.veiledFits eD f3.params.toList (f3.params.toList++qG.plain.varTypes eD++f3.resultTypes.toList))=V:=by simp only[gD];exact⟨⟨⟨⟨⟨⟨⟨⟨⟨⟨⟨⟨⟨⟨⟨⟨⟨⟨⟨⟨⟨⟨⟨⟨⟨⟨⟨⟨⟨⟨⟨l0,l1⟩,l2⟩,l3⟩,l4⟩,l5⟩,l6⟩,l7⟩,l8⟩,l9⟩,l10⟩,l11⟩,VK⟩,l13⟩,l14⟩,l15⟩,l16⟩,l17⟩,l18⟩,l19⟩,l20⟩,l21⟩,VL⟩,l23⟩,l24⟩,l25⟩,l26⟩,l27⟩,l28⟩,l29⟩,l30⟩,l31⟩
 exact h
