/- Proved: closed facts of the row (a part of the proof of FeasiblePlansUptoCardSaid, whose theorem stands in the last text). -/
import Derived.Test.YtilblajffdkccaaGreatDoorAp
open Option renaming some->J,none->Z
open Bool renaming true->V,false->C
open Bool renaming noConfusion->mK
open Go renaming TypeId->al,Value->aB,Oper->aC,Operand->aH,Program->aM,World->aT,Code->bz,FuncId->bS,Frame->cZ,lone->eT,IntKind->gZ,MapEntry->kZ
open Go.Builtin renaming zeroCells->nR,firstCells->oE,append_->s8,copy_->zF
open Go.Lib renaming compact->tb
open Go.Op renaming operands->eB,mapUpdate->rC
open Go.Proofs.Tryz renaming prog->eS
open Go.Region renaming binds->uq
open Go.stepG renaming exec->ug
open Int renaming ofNat->dI,sub->nS
open List renaming rec->kG,append->qA
open Nat renaming beq->aw,ble->bV,blt->cM,succ->eU,add->im,mul->jD
open SizeOf renaming sizeOf->kb
open UInt8 renaming toNat->nU
noncomputable section
set_option linter.all false
namespace Go.Proofs.YtilblajffdkccaaGreatDoor.fp
set_option maxRecDepth 100000
theorem vR:Tryz.prog.inPlace 3=fh.inPlace:=by unfold Program.inPlace;rw[OK];kernel_rfl
theorem unF:Tryz.prog.unfollowed 3=V:=by unfold Program.unfollowed;rw[OK];kernel_rfl
theorem l9:(fh.inPlace==Tryz.prog.inPlace 3)=V:=by rw[vR];kernel_rfl
theorem l10:(fh.unfollowed==Tryz.prog.unfollowed 3)=V:=by rw[unF];kernel_rfl
theorem l11:(fh.recurses==Tryz.prog.recurses 3)=V:=by unfold Program.recurses;rw[unF];kernel_rfl
theorem goA:(cl3.any λg=>(Tryz.prog.funcs[g]?).any Func.goes)=C:=aI
theorem goB:Tryz.prog.funcs.any Func.goes=C:=aI
theorem go3:Tryz.prog.goes 3=C:=by unfold Program.goes;rw[OK,unF,goA,goB];rfl
theorem Wv:Tryz.prog.funcNamed "tidegate/tidegatelaw38.FeasiblePlans"=J 3:=aI
theorem aB0:C=fh.goesBy eS:=by show C=((Tryz.prog.funcNamed "tidegate/tidegatelaw38.FeasiblePlans").any Tryz.prog.goes||false);rw[Wv,Option.any_some,go3];rfl
theorem V9:(fh.named==Tryz.prog.varsNamed 3)=V:=by unfold Program.varsNamed;rw[OK];kernel_rfl
theorem l2:mapsRowed eS=V:=aI
theorem l24:Tryz.prog.stopsHeard=V:=aI
theorem l25:Tryz.prog.mayEnter=V:=aI
theorem aB2:C=Tryz.prog.looks []:=aI
theorem l0:fh.wf (OpenSpec.ofChange qu)=V:=aI
theorem l3:Tryz.f3.params.all (Tryz.prog.readableRec .)=V:=aI
theorem l4:namedTie eS fh.named qu.vars=V:=aI
theorem l5:(fh.stops==[])=V:=aI
theorem l6:(Tryz.prog.stops==[])=V:=aI
theorem l7:(fh.knobs==[])=V:=aI
theorem l8:(Tryz.prog.stopKnobs==[])=V:=aI
theorem l13:(fh.maps==(Tryz.f3.params.toList++qu.plain.varTypes eS).any (Tryz.prog.mapsRec .))=V:=aI
theorem l14:(fh.ifaces==(Tryz.f3.params.toList++qu.plain.varTypes eS).any (Tryz.prog.ifacesRec .))=V:=aI
theorem l15:(fh.mapsOut==Tryz.prog.mapsAmong Tryz.f3.resultTypes.toList)=V:=aI
theorem l16:(fh.loops==(Tryz.f3.params.toList++qu.plain.varTypes eS).any (Tryz.prog.loopsFrom .))=V:=aI
theorem l17:(fh.wideKeys==(Tryz.f3.params.toList++qu.plain.varTypes eS++Tryz.f3.resultTypes.toList).any (Tryz.prog.wideKeysFrom .))=V:=aI
theorem l18:qu.vars.all (Tryz.prog.varReadable .)=V:=aI
theorem l19:Tryz.f3.resultTypes.all (λt=>Tryz.prog.readableRec t&&decide (t<Tryz.prog.types.size))=V:=aI
theorem l20:(fh.ifacesOut==Tryz.f3.resultTypes.toList.any (Tryz.prog.ifacesRec .))=V:=aI
theorem l21:(fh.loopsOut==Tryz.f3.resultTypes.toList.any (Tryz.prog.loopsFrom .))=V:=aI
theorem V':(fh.plainKeys==Tryz.prog.plainKeys)=V:=aI
theorem l23:fh.shortTexts.isNone=V:=aI
theorem l26:(fh.lifted==Tryz.prog.liftsFinal)=V:=aI
theorem l27:(Tryz.prog.make==J fh.make)=V:=aI
theorem l28:(fh.kinds==(if fh.domain.isEmpty then[]else Tryz.f3.params.toList.map λt=>match Tryz.prog.underlying t with|some (.int k)=>J k|_=>Z))=V:=aI
theorem l29:(fh.pinned==fh.pinnedBy)=V:=aI
theorem l30:(fh.veiled==(Tryz.f3.params.toList++qu.plain.varTypes eS++Tryz.f3.resultTypes.toList).any (Tryz.prog.veiledRec .))=V:=aI
theorem l31:fh.veiledFits eS Tryz.f3.params.toList (Tryz.f3.params.toList++qu.plain.varTypes eS++Tryz.f3.resultTypes.toList)=V:=aI
theorem facts:joinedFacts Tryz.pinned.checked.prog 3 Tryz.f3 qu fh=V:=by
 have h:(fh.wf (OpenSpec.ofChange qu)&&laidOutB eS&&mapsRowed eS&&Tryz.f3.params.all (Tryz.prog.readableRec .)&&namedTie eS fh.named qu.vars&&(fh.stops==[])&&(Tryz.prog.stops==[])&&(fh.knobs==[])&&(Tryz.prog.stopKnobs==[])&&(fh.inPlace==Tryz.prog.inPlace 3)&&(fh.unfollowed==Tryz.prog.unfollowed 3)&&(fh.recurses==Tryz.prog.recurses 3)&&(fh.named==Tryz.prog.varsNamed 3)&&(fh.maps==(Tryz.f3.params.toList++qu.plain.varTypes eS).any (Tryz.prog.mapsRec .))&&(fh.ifaces==(Tryz.f3.params.toList++qu.plain.varTypes eS).any (Tryz.prog.ifacesRec .))&&(fh.mapsOut==Tryz.prog.mapsAmong Tryz.f3.resultTypes.toList)&&(fh.loops==(Tryz.f3.params.toList++qu.plain.varTypes eS).any (Tryz.prog.loopsFrom .))&&(fh.wideKeys==(Tryz.f3.params.toList++qu.plain.varTypes eS++Tryz.f3.resultTypes.toList).any (Tryz.prog.wideKeysFrom .))&&qu.vars.all (Tryz.prog.varReadable .)&&Tryz.f3.resultTypes.all (λt=>Tryz.prog.readableRec t&&decide (t<Tryz.prog.types.size))&&(fh.ifacesOut==Tryz.f3.resultTypes.toList.any (Tryz.prog.ifacesRec .))&&(fh.loopsOut==Tryz.f3.resultTypes.toList.any (Tryz.prog.loopsFrom .))&&(fh.plainKeys==Tryz.prog.plainKeys)&&fh.shortTexts.isNone&&Tryz.prog.stopsHeard&&Tryz.prog.mayEnter&&(fh.lifted==Tryz.prog.liftsFinal)&&(Tryz.prog.make==J fh.make)&&(fh.kinds==(if fh.domain.isEmpty then[]else Tryz.f3.params.toList.map λt=>match Tryz.prog.underlying t with|some (.int k)=>J k|_=>Z))&&(fh.pinned==fh.pinnedBy)&&(fh.veiled==(Tryz.f3.params.toList++qu.plain.varTypes eS++Tryz.f3.resultTypes.toList).any (Tryz.prog.veiledRec .))&&fh.veiledFits eS Tryz.f3.params.toList (Tryz.f3.params.toList++qu.plain.varTypes eS++Tryz.f3.resultTypes.toList))=V:=by simp only[iC];exact⟨⟨⟨⟨⟨⟨⟨⟨⟨⟨⟨⟨⟨⟨⟨⟨⟨⟨⟨⟨⟨⟨⟨⟨⟨⟨⟨⟨⟨⟨⟨l0,l1⟩,l2⟩,l3⟩,l4⟩,l5⟩,l6⟩,l7⟩,l8⟩,l9⟩,l10⟩,l11⟩,V9⟩,l13⟩,l14⟩,l15⟩,l16⟩,l17⟩,l18⟩,l19⟩,l20⟩,l21⟩,V'⟩,l23⟩,l24⟩,l25⟩,l26⟩,l27⟩,l28⟩,l29⟩,l30⟩,l31⟩
 exact h
end Go.Proofs.YtilblajffdkccaaGreatDoor.fp
