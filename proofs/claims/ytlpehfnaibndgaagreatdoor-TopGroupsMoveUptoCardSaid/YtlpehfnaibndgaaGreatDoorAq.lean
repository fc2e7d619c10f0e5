/- Proved: closed facts of the row. -/
import Derived.Test.YtlpehfnaibndgaaGreatDoorAa
import Derived.Test.YtlpehfnaibndgaaGreatDoorAp
open Option renaming some->J,none->Z
open Bool renaming true->V,false->C
open Go.Proofs.Tryz renaming prog->eP
noncomputable section
set_option linter.all false
namespace Go.Proofs.YtlpehfnaibndgaaGreatDoor.tm
set_option maxRecDepth 100000
def vK:Tryz.prog.inPlace 3=fA.inPlace:=by unfold Program.inPlace;rw[Ow];kernel_rfl
def unF:Tryz.prog.unfollowed 3=V:=by unfold Program.unfollowed;rw[Ow];kernel_rfl
def l9:(fA.inPlace==Tryz.prog.inPlace 3)=V:=by rw[vK];kernel_rfl
def l10:(fA.unfollowed==Tryz.prog.unfollowed 3)=V:=by rw[unF];kernel_rfl
def l11:(fA.recurses==Tryz.prog.recurses 3)=V:=by unfold Program.recurses;rw[unF];kernel_rfl
def goA:(cl3.any λg=>(Tryz.prog.funcs[g]?).any Func.goes)=C:=aL
def goB:Tryz.prog.funcs.any Func.goes=C:=aL
def go3:Tryz.prog.goes 3=C:=by unfold Program.goes;rw[Ow,unF,goA,goB];rfl
def VQ:Tryz.prog.funcNamed "tidegate/tidegatetop.TopGroupsMove"=J 3:=aL
def aCs:C=fA.goesBy eP:=by show C=((Tryz.prog.funcNamed "tidegate/tidegatetop.TopGroupsMove").any Tryz.prog.goes||false);rw[VQ,Option.any_some,go3];rfl
theorem Vr:(fA.named==Tryz.prog.varsNamed 3)=V:=by unfold Program.varsNamed;rw[Ow];kernel_rfl
def l2:mapsRowed eP=V:=aL
def l24:Tryz.prog.stopsHeard=V:=aL
def l25:Tryz.prog.mayEnter=V:=aL
def aCu:C=Tryz.prog.looks []:=aL
def l0:fA.wf (OpenSpec.ofChange qu)=V:=aL
def l3:Tryz.f3.params.all (Tryz.prog.readableRec .)=V:=aL
def l4:namedTie eP fA.named qu.vars=V:=aL
def l5:(fA.stops==[])=V:=aL
def l6:(Tryz.prog.stops==[])=V:=aL
def l7:(fA.knobs==[])=V:=aL
def l8:(Tryz.prog.stopKnobs==[])=V:=aL
def l13:(fA.maps==(Tryz.f3.params.toList++qu.plain.varTypes eP).any (Tryz.prog.mapsRec .))=V:=aL
def l14:(fA.ifaces==(Tryz.f3.params.toList++qu.plain.varTypes eP).any (Tryz.prog.ifacesRec .))=V:=aL
def l15:(fA.mapsOut==Tryz.prog.mapsAmong Tryz.f3.resultTypes.toList)=V:=aL
def l16:(fA.loops==(Tryz.f3.params.toList++qu.plain.varTypes eP).any (Tryz.prog.loopsFrom .))=V:=aL
def l17:(fA.wideKeys==(Tryz.f3.params.toList++qu.plain.varTypes eP++Tryz.f3.resultTypes.toList).any (Tryz.prog.wideKeysFrom .))=V:=aL
def l18:qu.vars.all (Tryz.prog.varReadable .)=V:=aL
def l19:Tryz.f3.resultTypes.all (λt=>Tryz.prog.readableRec t&&decide (t<Tryz.prog.types.size))=V:=aL
def l20:(fA.ifacesOut==Tryz.f3.resultTypes.toList.any (Tryz.prog.ifacesRec .))=V:=aL
def l21:(fA.loopsOut==Tryz.f3.resultTypes.toList.any (Tryz.prog.loopsFrom .))=V:=aL
theorem Vs:(fA.plainKeys==Tryz.prog.plainKeys)=V:=aL
def l23:fA.shortTexts.isNone=V:=aL
def l26:(fA.lifted==Tryz.prog.liftsFinal)=V:=aL
def l27:(Tryz.prog.make==J fA.make)=V:=aL
def l28:(fA.kinds==(if fA.domain.isEmpty then[]else Tryz.f3.params.toList.map λt=>match Tryz.prog.underlying t with|some (.int k)=>J k|_=>Z))=V:=aL
def l29:(fA.pinned==fA.pinnedBy)=V:=aL
def l30:(fA.veiled==(Tryz.f3.params.toList++qu.plain.varTypes eP++Tryz.f3.resultTypes.toList).any (Tryz.prog.veiledRec .))=V:=aL
def l31:fA.veiledFits eP Tryz.f3.params.toList (Tryz.f3.params.toList++qu.plain.varTypes eP++Tryz.f3.resultTypes.toList)=V:=aL
def facts:joinedFacts Tryz.pinned.checked.prog 3 Tryz.f3 qu fA=V:=by
 have h:(fA.wf (OpenSpec.ofChange qu)&&laidOutB eP&&mapsRowed eP&&Tryz.f3.params.all (Tryz.prog.readableRec .)&&namedTie eP fA.named qu.vars&&(fA.stops==[])&&(Tryz.prog.stops==[])&&(fA.knobs==[])&&(Tryz.prog.stopKnobs==[])&&(fA.inPlace==Tryz.prog.inPlace 3)&&(fA.unfollowed==Tryz.prog.unfollowed 3)&&(fA.recurses==Tryz.prog.recurses 3)&&(fA.named==Tryz.prog.varsNamed 3)&&(fA.maps==(Tryz.f3.params.toList++qu.plain.varTypes eP).any (Tryz.prog.mapsRec .))&&(fA.ifaces==(Tryz.f3.params.toList++qu.plain.varTypes eP).any (Tryz.prog.ifacesRec .))&&(fA.mapsOut==Tryz.prog.mapsAmong Tryz.f3.resultTypes.toList)&&(fA.loops==(Tryz.f3.params.toList++qu.plain.varTypes eP).any (Tryz.prog.loopsFrom .))&&(fA.wideKeys==(Tryz.f3.params.toList++qu.plain.varTypes eP++Tryz.f3.resultTypes.toList).any (Tryz.prog.wideKeysFrom .))&&qu.vars.all (Tryz.prog.varReadable .)&&Tryz.f3.resultTypes.all (λt=>Tryz.prog.readableRec t&&decide (t<Tryz.prog.types.size))&&(fA.ifacesOut==Tryz.f3.resultTypes.toList.any (Tryz.prog.ifacesRec .))&&(fA.loopsOut==Tryz.f3.resultTypes.toList.any (Tryz.prog.loopsFrom .))&&(fA.plainKeys==Tryz.prog.plainKeys)&&fA.shortTexts.isNone&&Tryz.prog.stopsHeard&&Tryz.prog.mayEnter&&(fA.lifted==Tryz.prog.liftsFinal)&&(Tryz.prog.make==J fA.make)&&(fA.kinds==(if fA.domain.isEmpty then[]else Tryz.f3.params.toList.map λt=>match Tryz.prog.underlying t with|some (.int k)=>J k|_=>Z))&&(fA.pinned==fA.pinnedBy)&&(fA.veiled==(Tryz.f3.params.toList++qu.plain.varTypes eP++Tryz.f3.resultTypes.toList).any (Tryz.prog.veiledRec .))&&fA.veiledFits eP Tryz.f3.params.toList (Tryz.f3.params.toList++qu.plain.varTypes eP++Tryz.f3.resultTypes.toList))=V:=by simp only[gu];exact⟨⟨⟨⟨⟨⟨⟨⟨⟨⟨⟨⟨⟨⟨⟨⟨⟨⟨⟨⟨⟨⟨⟨⟨⟨⟨⟨⟨⟨⟨⟨l0,l1⟩,l2⟩,l3⟩,l4⟩,l5⟩,l6⟩,l7⟩,l8⟩,l9⟩,l10⟩,l11⟩,Vr⟩,l13⟩,l14⟩,l15⟩,l16⟩,l17⟩,l18⟩,l19⟩,l20⟩,l21⟩,Vs⟩,l23⟩,l24⟩,l25⟩,l26⟩,l27⟩,l28⟩,l29⟩,l30⟩,l31⟩
 exact h
end Go.Proofs.YtlpehfnaibndgaaGreatDoor.tm
