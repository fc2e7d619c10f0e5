/- Proved: RescaleReturns of tidegatelaw52 returns true (joining what Split gives yields the operator, each part has its watermarks and the engines of its own keys, and the parts hold as many events as the operator) for all programs, operators and numbers. Conditions: those of the given statement RescaleReturnsUptoCardSaid alone, so arguments of at most its bulk. -/
import Derived.Test.YtaeflaolgbjjlaaGreatDoorAp
import Derived.Test.YtaeflaolgbjjlaaGreatDoorAr
open Option renaming some->J,none->Z
open Bool renaming true->V,false->C
open Go renaming TypeId->an,Value->aC,World->aW,FuncId->bV
open Go.Proofs.Tryz renaming prog->eP
noncomputable section
set_option linter.all false
namespace Go.Proofs.YtaeflaolgbjjlaaGreatDoor.rr
set_option maxRecDepth 100000
theorem vj:Tryz.prog.inPlace 3=fx.inPlace:=by unfold Program.inPlace;rw[NU];kernel_rfl
theorem Zy:Tryz.prog.unfollowed 3=V:=by unfold Program.unfollowed;rw[NU];kernel_rfl
theorem l9:(fx.inPlace==Tryz.prog.inPlace 3)=V:=by rw[vj];kernel_rfl
theorem l10:(fx.unfollowed==Tryz.prog.unfollowed 3)=V:=by rw[Zy];kernel_rfl
theorem l11:(fx.recurses==Tryz.prog.recurses 3)=V:=by unfold Program.recurses;rw[Zy];kernel_rfl
theorem goA:(cl3.any λg=>(Tryz.prog.funcs[g]?).any Func.goes)=C:=aN
theorem goB:Tryz.prog.funcs.any Func.goes=C:=aN
theorem go3:Tryz.prog.goes 3=C:=by unfold Program.goes;rw[NU,Zy,goA,goB];rfl
theorem U5:Tryz.prog.funcNamed "tidegate/tidegatelaw52.RescaleReturns"=J 3:=aN
theorem aA5:C=fx.goesBy eP:=by show C=((Tryz.prog.funcNamed "tidegate/tidegatelaw52.RescaleReturns").any Tryz.prog.goes||false);rw[U5,Option.any_some,go3];rfl
theorem UG:(fx.named==Tryz.prog.varsNamed 3)=V:=by unfold Program.varsNamed;rw[NU];kernel_rfl
theorem l2:mapsRowed eP=V:=aN
theorem l24:Tryz.prog.stopsHeard=V:=aN
theorem l25:Tryz.prog.mayEnter=V:=aN
theorem aA7:C=Tryz.prog.looks []:=aN
theorem l0:fx.wf (OpenSpec.ofChange p8)=V:=aN
theorem l3:Tryz.f3.params.all (Tryz.prog.readableRec .)=V:=aN
theorem l4:namedTie eP fx.named p8.vars=V:=aN
theorem l5:(fx.stops==[])=V:=aN
theorem l6:(Tryz.prog.stops==[])=V:=aN
theorem l7:(fx.knobs==[])=V:=aN
theorem l8:(Tryz.prog.stopKnobs==[])=V:=aN
theorem l13:(fx.maps==(Tryz.f3.params.toList++p8.plain.varTypes eP).any (Tryz.prog.mapsRec .))=V:=aN
theorem l14:(fx.ifaces==(Tryz.f3.params.toList++p8.plain.varTypes eP).any (Tryz.prog.ifacesRec .))=V:=aN
theorem l15:(fx.mapsOut==Tryz.prog.mapsAmong Tryz.f3.resultTypes.toList)=V:=aN
theorem l16:(fx.loops==(Tryz.f3.params.toList++p8.plain.varTypes eP).any (Tryz.prog.loopsFrom .))=V:=aN
theorem l17:(fx.wideKeys==(Tryz.f3.params.toList++p8.plain.varTypes eP++Tryz.f3.resultTypes.toList).any (Tryz.prog.wideKeysFrom .))=V:=aN
theorem l18:p8.vars.all (Tryz.prog.varReadable .)=V:=aN
theorem l19:Tryz.f3.resultTypes.all (λt=>Tryz.prog.readableRec t&&decide (t<Tryz.prog.types.size))=V:=aN
theorem l20:(fx.ifacesOut==Tryz.f3.resultTypes.toList.any (Tryz.prog.ifacesRec .))=V:=aN
theorem l21:(fx.loopsOut==Tryz.f3.resultTypes.toList.any (Tryz.prog.loopsFrom .))=V:=aN
theorem UH:(fx.plainKeys==Tryz.prog.plainKeys)=V:=aN
theorem l23:fx.shortTexts.isNone=V:=aN
theorem l26:(fx.lifted==Tryz.prog.liftsFinal)=V:=aN
theorem l27:(Tryz.prog.make==J fx.make)=V:=aN
theorem l28:(fx.kinds==(if fx.domain.isEmpty then[]else Tryz.f3.params.toList.map λt=>match Tryz.prog.underlying t with|some (.int k)=>J k|_=>Z))=V:=aN
theorem l29:(fx.pinned==fx.pinnedBy)=V:=aN
theorem l30:(fx.veiled==(Tryz.f3.params.toList++p8.plain.varTypes eP++Tryz.f3.resultTypes.toList).any (Tryz.prog.veiledRec .))=V:=aN
theorem l31:fx.veiledFits eP Tryz.f3.params.toList (Tryz.f3.params.toList++p8.plain.varTypes eP++Tryz.f3.resultTypes.toList)=V:=aN
theorem facts:joinedFacts Tryz.pinned.checked.prog 3 Tryz.f3 p8 fx=V:=by
 have h:(fx.wf (OpenSpec.ofChange p8)&&laidOutB eP&&mapsRowed eP&&Tryz.f3.params.all (Tryz.prog.readableRec .)&&namedTie eP fx.named p8.vars&&(fx.stops==[])&&(Tryz.prog.stops==[])&&(fx.knobs==[])&&(Tryz.prog.stopKnobs==[])&&(fx.inPlace==Tryz.prog.inPlace 3)&&(fx.unfollowed==Tryz.prog.unfollowed 3)&&(fx.recurses==Tryz.prog.recurses 3)&&(fx.named==Tryz.prog.varsNamed 3)&&(fx.maps==(Tryz.f3.params.toList++p8.plain.varTypes eP).any (Tryz.prog.mapsRec .))&&(fx.ifaces==(Tryz.f3.params.toList++p8.plain.varTypes eP).any (Tryz.prog.ifacesRec .))&&(fx.mapsOut==Tryz.prog.mapsAmong Tryz.f3.resultTypes.toList)&&(fx.loops==(Tryz.f3.params.toList++p8.plain.varTypes eP).any (Tryz.prog.loopsFrom .))&&(fx.wideKeys==(Tryz.f3.params.toList++p8.plain.varTypes eP++Tryz.f3.resultTypes.toList).any (Tryz.prog.wideKeysFrom .))&&p8.vars.all (Tryz.prog.varReadable .)&&Tryz.f3.resultTypes.all (λt=>Tryz.prog.readableRec t&&decide (t<Tryz.prog.types.size))&&(fx.ifacesOut==Tryz.f3.resultTypes.toList.any (Tryz.prog.ifacesRec .))&&(fx.loopsOut==Tryz.f3.resultTypes.toList.any (Tryz.prog.loopsFrom .))&&(fx.plainKeys==Tryz.prog.plainKeys)&&fx.shortTexts.isNone&&Tryz.prog.stopsHeard&&Tryz.prog.mayEnter&&(fx.lifted==Tryz.prog.liftsFinal)&&(Tryz.prog.make==J fx.make)&&(fx.kinds==(if fx.domain.isEmpty then[]else Tryz.f3.params.toList.map λt=>match Tryz.prog.underlying t with|some (.int k)=>J k|_=>Z))&&(fx.pinned==fx.pinnedBy)&&(fx.veiled==(Tryz.f3.params.toList++p8.plain.varTypes eP++Tryz.f3.resultTypes.toList).any (Tryz.prog.veiledRec .))&&fx.veiledFits eP Tryz.f3.params.toList (Tryz.f3.params.toList++p8.plain.varTypes eP++Tryz.f3.resultTypes.toList))=V:=by simp only[gD];exact⟨⟨⟨⟨⟨⟨⟨⟨⟨⟨⟨⟨⟨⟨⟨⟨⟨⟨⟨⟨⟨⟨⟨⟨⟨⟨⟨⟨⟨⟨⟨l0,l1⟩,l2⟩,l3⟩,l4⟩,l5⟩,l6⟩,l7⟩,l8⟩,l9⟩,l10⟩,l11⟩,UG⟩,l13⟩,l14⟩,l15⟩,l16⟩,l17⟩,l18⟩,l19⟩,l20⟩,l21⟩,UH⟩,l23⟩,l24⟩,l25⟩,l26⟩,l27⟩,l28⟩,l29⟩,l30⟩,l31⟩
 exact h
open Go.ChangeShapes Go.WideShapes Go.ChangeAt Go.RowKit Go.VM
def LD(g:Nat):Obj->Obj|.cells _ t f=>.cells (((AM.gl[g]?).getD ([],0)).1.map Ce).toArray t f|o=>o
noncomputable def EU(o:Os):aW:={World.holding eP o ⟨#[],#[],[]⟩with heap:=(((((World.holding eP o ⟨#[],#[],[]⟩).heap.modify 0 (LD 0)).modify 1 (LD 1)).modify 3 (LD 3)).modify 4 (LD 4)).modify 5 (LD 5)}
def zs:aC:=.slice Z 0 0
def aFf:aC:=.agg #[zs,zs]
def aDR:aC:=.agg #[zs,zs]
def AT:Array aC:=#[aFf,aDR,.int .u8 0]
theorem ayJ(o:Os):laidMet eP Rows.rescaleReturnsUptoRow.laid ((EU o).forCall (λ_ _=>0) ⟨#[],AT,[]⟩).memory:=laidMet_of_run' 8 aN aN
theorem ayK(o:Os):laidMetH eP Rows.rescaleReturnsUptoRow.laid ((EU o).forCall (λ_ _=>0) ⟨#[],AT,[]⟩).memory:=by unfold laidMetH;rw[agq];exact ayJ o
def li{H:Type}:DataW H:=.lit (.int .u8 0)
def la{H:Type}:DataW H:=.agg [.nil,.nil]
theorem reads(o:Os){H:Type}(e:an×aC->H):∃p,DataW.whole e eP ((EU o).forCall (λ_ _=>0) ⟨#[],AT,[]⟩).memory Tryz.f3.params.toList Rows.rescaleReturnsSpec.vars C AT.toList 8=J ([la,la,li],[],p):=⟨[],aN⟩
theorem small{H:Type}:Rows.uptoSmall H ([la,la,li]++[])=V:=aN
theorem aA6:Tryz.checked.prog.inits.idxOf? 3=Z:=aN
theorem aK6(o:Os):((EU o).forCall (λ_ _=>0) ⟨#[],AT,[]⟩).variablesB Tryz.checked.prog=V:=aN
theorem aK7(o:Os):(((EU o).forCall (λ_ _=>0) ⟨#[],AT,[]⟩).heap.toList.drop Tryz.checked.prog.globals.size).take ((begin Tryz.checked.prog (λ_ _=>0) default).world.heap.size-Tryz.checked.prog.globals.size)=(begin Tryz.checked.prog (λ_ _=>0) default).world.heap.toList.drop Tryz.checked.prog.globals.size:=aN
theorem aK8(o:Os):Input.okWideB Tryz.checked.prog ((EU o).forCall (λ_ _=>0) ⟨#[],AT,[]⟩) 3 ⟨#[],AT,[]⟩=V:=aN
theorem aIZ:Tryz.prog.wantsStandIn 25=C:=aN
theorem aI0:Tryz.prog.wantsStandIn 29=C:=aN
theorem st5:Tryz.prog.wantsStandIn 5=C:=aN
theorem azi (o : Os) (t : o.Started) (H : Type) (e : an × aC -> H) (F : Stop.Interp) :
    ReturnsInHanded {} Tryz.checked o 3 .any ((Rows.OpenSpec.upto Rows.rescaleReturnsSpec).preRow e eP Tryz.f3 Rows.rescaleReturnsUptoRow.domain C Rows.rescaleReturnsUptoRow.laid) (((Rows.OpenSpec.upto Rows.rescaleReturnsSpec).at F).post e eP Tryz.f3 C V C C) := by
  obtain ⟨p, x⟩ := reads o e
  refine returnsInHanded_of_row (C := Tryz.checked) (s := Rows.OpenSpec.upto Rows.rescaleReturnsSpec) own t aA6 Ty
    (witness_row_at (enc := e) (C := Tryz.checked) C (EU o) AT rfl (aK6 o) (aK7 o) (aK8 o)
      (OpenSpec.preRow_of_cond 8 x aN (λ k c => by cases c; exact small) aN (ayK o))) ?_
  intro W b args d g before z a _ E _ h S _
  exact anh H e W b args d g before z a (vu (E _ rfl)) h S
theorem aw1:Tryz.f3.isInstance Tryz.pinned.checked.prog Rows.rescaleReturnsUptoRow.origin Rows.rescaleReturnsUptoRow.targs:=vu aN
theorem aLa:Tryz.f3.isWrapper Tryz.pinned.checked.prog Rows.rescaleReturnsUptoRow.wrapper Rows.rescaleReturnsUptoRow.mainSum:=by unfold Func.isWrapper;first|(rw[if_pos (by decide+kernel)];kernel_rfl)|(rw[if_neg (by decide+kernel)];exact⟨rfl,rfl⟩)
theorem aG8:Rows.RescaleReturnsUptoSaid:=OpenClaim.holds_of_cond 3 Tryz.f3 rfl rfl rfl rfl rfl rfl rfl ⟨rfl,rfl,rfl,rfl,rfl⟩ rfl rfl rfl rfl rfl U5 Ty facts aw1 aLa (λo s H e _ F=>by rw[OpenClaim.pre_eq_preRow];exact azi o s H e F)
theorem plain(f:bV)(n:Func)(a:Tryz.pinned.checked.prog.funcNamed "tidegate/tidegatelaw52.RescaleReturns"=J f)(y:Tryz.pinned.checked.prog.funcs[f]?=J n):C=Tryz.pinned.checked.prog.looks []/\∀(j:Nat)t,n.params[j]?=J t->Tryz.pinned.checked.prog.wantsStandIn t=C:=by
 obtain rfl:f=3:=(bt (U5.symm.trans a)).symm;obtain rfl:n=Tryz.f3:=(bt (Ty.symm.trans y)).symm;refine⟨aA7,λj t h=>?_⟩;rw[params3]at h;have m:t=25\/t=29\/t=5:=by simpa using Array.mem_of_getElem? h
 rcases m with rfl|rfl|rfl;.exact aIZ
 .exact aI0
 .exact st5
theorem wfT:Rows.rescaleReturnsUptoRow.wfByText (Rows.OpenSpec.upto Rows.rescaleReturnsSpec)=V:=aN
theorem az0:Tryz.pinned.checked.prog.mainIs=J (V, "f1afc66378a6da2712c760a37ccb55fc53e44c4ec635bd3f8c76e10415f465c2".toList):=aN
theorem cardUpto:Rows.RescaleReturnsUptoCardSaid:=Claim7.holds_tied_plain_at .later [] _ _ _ _ aG8 (λ_ h=>by cases h) wfT (λ_ h=>by cases h) rescaleReturnsUpto_row_tie rfl ⟨rfl,rfl⟩ az0 rfl plain aA5
end Go.Proofs.YtaeflaolgbjjlaaGreatDoor.rr
