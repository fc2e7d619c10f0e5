/- Proved: FeasiblePlans of tidegatelaw38 returns true (Check and Paths return the results, or the errors, of the reference) for all plans, automata and states. Conditions: those of the given statement FeasiblePlansUptoCardSaid alone, so arguments of at most its bulk. -/
import Derived.Test.YtilblajffdkccaaGreatDoorAn
import Derived.Test.YtilblajffdkccaaGreatDoorAt
open Option renaming some->J,none->Z
open Bool renaming true->V,false->C
open Bool renaming noConfusion->mK
open Go renaming TypeId->al,Value->aB,Oper->aC,Operand->aH,Program->aM,World->aT,Code->bz,FuncId->bS,Frame->cZ,lone->eT,IntKind->gZ,MapEntry->kZ
open Go.Builtin renaming zeroCells->nR,firstCells->oE,append_->s8,copy_->zF
open Go.Lib renaming compact->tb
open Go.Op renaming operands->eB,mapUpdate->rC
open Go.Proofs.Tryz renaming prog->eS
open Go.Region renaming binds->uq
open Go.stepG renaming exec->ug
open Int renaming ofNat->dI,sub->nS
open List renaming rec->kG,append->qA
open Nat renaming beq->aw,ble->bV,blt->cM,succ->eU,add->im,mul->jD
open SizeOf renaming sizeOf->kb
open UInt8 renaming toNat->nU
noncomputable section
set_option linter.all false
namespace Go.Proofs.YtilblajffdkccaaGreatDoor.fp
set_option maxRecDepth 100000
open Go.ChangeShapes Go.WideShapes Go.ChangeAt Go.RowKit Go.VM
def Mi(g:Nat):Obj->Obj|.cells _ t f=>.cells (((AM.gl[g]?).getD ([],0)).1.map CN).toArray t f|o=>o
noncomputable def FL(o:Os):aT:={World.holding eS o ⟨#[],#[],[]⟩with heap:=(((((World.holding eS o ⟨#[],#[],[]⟩).heap.modify 0 (Mi 0)).modify 1 (Mi 1)).modify 3 (Mi 3)).modify 4 (Mi 4)).modify 5 (Mi 5)}
def zi:aB:=.int .i64 0
def zs:aB:=.slice Z 0 0
def zt:aB:=.string ⟨#[]⟩
def aEj:aB:=.agg #[zs,zt,zs,zs,zi,zs,zi,zi,zi,zi,zi,zs,zi,zi,zi,zi,zi,zt,zs,zi,zi,zs,zs]
def amu:aB:=.agg #[zi,zi,zs,zs]
def BH:Array aB:=#[aEj,amu,zi]
theorem azV(o:Os):laidMet eS Rows.feasiblePlansUptoRow.laid ((FL o).forCall (λ_ _=>0) ⟨#[],BH,[]⟩).memory:=laidMet_of_run' 8 aI aI
theorem azW(o:Os):laidMetH eS Rows.feasiblePlansUptoRow.laid ((FL o).forCall (λ_ _=>0) ⟨#[],BH,[]⟩).memory:=by unfold laidMetH;rw[ah2];exact azV o
def li{H:Type}:DataW H:=.lit (.int .i64 0)
def lt{H:Type}:DataW H:=.lit (.string [])
def lc{H:Type}:DataW H:=.agg [li,.nil,li,li,li,.agg [li,li,lt]]
def la{H:Type}:DataW H:=.agg [li,li,.nil,.nil]
def lp{H:Type}:DataW H:=.agg [.nil,.agg [lt,.nil,.nil,.agg [li,.nil,li,li,li,li,lc],.nil],la]
theorem reads(o:Os){H:Type}(e:al×aB->H):∃p,DataW.whole e eS ((FL o).forCall (λ_ _=>0) ⟨#[],BH,[]⟩).memory Tryz.f3.params.toList Rows.feasiblePlansSpec.vars C BH.toList 8=J ([lp,la,li],[],p):=⟨[],aI⟩
theorem small{H:Type}:Rows.uptoSmall H ([lp,la,li]++[])=V:=aI
theorem aB1:Tryz.checked.prog.inits.idxOf? 3=Z:=aI
theorem aLv(o:Os):((FL o).forCall (λ_ _=>0) ⟨#[],BH,[]⟩).variablesB Tryz.checked.prog=V:=aI
theorem aLw(o:Os):(((FL o).forCall (λ_ _=>0) ⟨#[],BH,[]⟩).heap.toList.drop Tryz.checked.prog.globals.size).take ((begin Tryz.checked.prog (λ_ _=>0) default).world.heap.size-Tryz.checked.prog.globals.size)=(begin Tryz.checked.prog (λ_ _=>0) default).world.heap.toList.drop Tryz.checked.prog.globals.size:=aI
theorem aLx(o:Os):Input.okWideB Tryz.checked.prog ((FL o).forCall (λ_ _=>0) ⟨#[],BH,[]⟩) 3 ⟨#[],BH,[]⟩=V:=aI
theorem aJe:Tryz.prog.wantsStandIn 40=C:=aI
theorem aJa:Tryz.prog.wantsStandIn 38=C:=aI
theorem Cv:Tryz.prog.wantsStandIn 3=C:=aI
theorem aAp (o : Os) (t : o.Started) (H : Type) (e : al × aB -> H) (F : Stop.Interp) :
    ReturnsInHanded {} Tryz.checked o 3 .any ((Rows.OpenSpec.upto Rows.feasiblePlansSpec).preRow e eS Tryz.f3 Rows.feasiblePlansUptoRow.domain C Rows.feasiblePlansUptoRow.laid) (((Rows.OpenSpec.upto Rows.feasiblePlansSpec).at F).post e eS Tryz.f3 C V C C) := by
  obtain ⟨p, x⟩ := reads o e
  refine returnsInHanded_of_row (C := Tryz.checked) (s := Rows.OpenSpec.upto Rows.feasiblePlansSpec) own t aB1 UU
    (witness_row_at (enc := e) (C := Tryz.checked) C (FL o) BH rfl (aLv o) (aLw o) (aLx o)
      (OpenSpec.preRow_of_cond 8 x aI (λ k f => by cases f; exact small) aI (azW o))) ?_
  intro W b args d g before A a _ c _ h S _
  exact aoz H e W b args d g before A a (A2 (c _ rfl)) h S
theorem ax1:Tryz.f3.isInstance Tryz.pinned.checked.prog Rows.feasiblePlansUptoRow.origin Rows.feasiblePlansUptoRow.targs:=A2 aI
theorem aLD:Tryz.f3.isWrapper Tryz.pinned.checked.prog Rows.feasiblePlansUptoRow.wrapper Rows.feasiblePlansUptoRow.mainSum:=by unfold Func.isWrapper;first|(rw[if_pos (by decide+kernel)];kernel_rfl)|(rw[if_neg (by decide+kernel)];exact⟨rfl,rfl⟩)
theorem aGz:Rows.FeasiblePlansUptoSaid:=OpenClaim.holds_of_cond 3 Tryz.f3 rfl rfl rfl rfl rfl rfl rfl ⟨rfl,rfl,rfl,rfl,rfl⟩ rfl rfl rfl rfl rfl Wv UU facts ax1 aLD (λo s H e _ F=>by rw[OpenClaim.pre_eq_preRow];exact aAp o s H e F)
theorem plain(f:bS)(n:Func)(a:Tryz.pinned.checked.prog.funcNamed "tidegate/tidegatelaw38.FeasiblePlans"=J f)(A:Tryz.pinned.checked.prog.funcs[f]?=J n):C=Tryz.pinned.checked.prog.looks []/\∀(j:Nat)t,n.params[j]?=J t->Tryz.pinned.checked.prog.wantsStandIn t=C:=by
 obtain rfl:f=3:=(br (Wv.symm.trans a)).symm;obtain rfl:n=Tryz.f3:=(br (UU.symm.trans A)).symm;refine⟨aB2,λj t h=>?_⟩;rw[params3]at h;have m:t=40\/t=38\/t=3:=by simpa using Array.mem_of_getElem? h
 rcases m with rfl|rfl|rfl;.exact aJe
 .exact aJa
 .exact Cv
theorem wfT:Rows.feasiblePlansUptoRow.wfByText (Rows.OpenSpec.upto Rows.feasiblePlansSpec)=V:=aI
theorem aA2:Tryz.pinned.checked.prog.mainIs=J (V, "1274a6836f908d1a240da4fa45525255c23a7550fed91e79fcb4f6215b866793".toList):=aI
theorem cardUpto:Rows.FeasiblePlansUptoCardSaid:=Claim7.holds_tied_plain_at .later [] _ _ _ _ aGz (λ_ h=>by cases h) wfT (λ_ h=>by cases h) feasiblePlansUpto_row_tie rfl ⟨rfl,rfl⟩ aA2 rfl plain aB0
end Go.Proofs.YtilblajffdkccaaGreatDoor.fp
