/- Proved: TopGroupsMove of tidegatetop returns true (a rescaling moves exactly the engines whose key groups move, from the worker that had the group to the one that has it then) for all programs, snapshots and numbers. Conditions: those of the given statement TopGroupsMoveUptoCardSaid alone, so arguments of at most its bulk. -/
import Derived.Test.YtlpehfnaibndgaaGreatDoorAn
import Derived.Test.YtlpehfnaibndgaaGreatDoorAq
import Derived.Test.YtlpehfnaibndgaaGreatDoorAr
open Option renaming some->J,none->Z
open Bool renaming true->V,false->C
open Go renaming TypeId->an,Value->aD,World->aV,FuncId->bW
open Go.Proofs.Tryz renaming prog->eP
noncomputable section
set_option linter.all false
namespace Go.Proofs.YtlpehfnaibndgaaGreatDoor.tm
open Go.ChangeShapes Go.WideShapes Go.ChangeAt Go.RowKit Go.VM
set_option maxRecDepth 100000
def Me(g:Nat):Obj->Obj|.cells _ t f=>.cells (((AM.gl[g]?).getD ([],0)).1.map Cz).toArray t f|o=>o
noncomputable def Fo(o:Os):aV:={World.holding eP o ⟨#[],#[],[]⟩with heap:=(((((World.holding eP o ⟨#[],#[],[]⟩).heap.modify 0 (Me 0)).modify 1 (Me 1)).modify 3 (Me 3)).modify 4 (Me 4)).modify 5 (Me 5)}
def zs:aD:=.slice Z 0 0
def aGu:aD:=.agg #[zs,zs]
def aE5:aD:=.agg #[.int .i64 0,zs,zs]
def A5:Array aD:=#[aGu,aE5,.int .u8 0]
def azW(o:Os):laidMet eP Rows.topGroupsMoveUptoRow.laid ((Fo o).forCall (λ_ _=>0) ⟨#[],A5,[]⟩).memory:=laidMet_of_run' 8 aL aL
def azX(o:Os):laidMetH eP Rows.topGroupsMoveUptoRow.laid ((Fo o).forCall (λ_ _=>0) ⟨#[],A5,[]⟩).memory:=by unfold laidMetH;rw[ahp];exact azW o
def li{H:Type}:DataW H:=.lit (.int .u8 0)
def la{H:Type}:DataW H:=.agg [.nil,.nil]
def ls{H:Type}:DataW H:=.agg [.lit (.int .i64 0),.nil,.nil]
def reads(o:Os){H:Type}(e:an×aD->H):∃p,DataW.whole e eP ((Fo o).forCall (λ_ _=>0) ⟨#[],A5,[]⟩).memory Tryz.f3.params.toList Rows.topGroupsMoveSpec.vars C A5.toList 8=J ([la,ls,li],[],p):=⟨[],aL⟩
def small{H:Type}:Rows.uptoSmall H ([la,ls,li]++[])=V:=aL
def aCt:Tryz.checked.prog.inits.idxOf? 3=Z:=aL
def aMJ(o:Os):((Fo o).forCall (λ_ _=>0) ⟨#[],A5,[]⟩).variablesB Tryz.checked.prog=V:=aL
def aMK(o:Os):(((Fo o).forCall (λ_ _=>0) ⟨#[],A5,[]⟩).heap.toList.drop Tryz.checked.prog.globals.size).take ((begin Tryz.checked.prog (λ_ _=>0) default).world.heap.size-Tryz.checked.prog.globals.size)=(begin Tryz.checked.prog (λ_ _=>0) default).world.heap.toList.drop Tryz.checked.prog.globals.size:=aL
def aML(o:Os):Input.okWideB Tryz.checked.prog ((Fo o).forCall (λ_ _=>0) ⟨#[],A5,[]⟩) 3 ⟨#[],A5,[]⟩=V:=aL
def aKe:Tryz.prog.wantsStandIn 25=C:=aL
def aKf:Tryz.prog.wantsStandIn 29=C:=aL
def st5:Tryz.prog.wantsStandIn 5=C:=aL
def aAu (o : Os) (t : o.Started) (H : Type) (e : an × aD -> H) (F : Stop.Interp) :
    ReturnsInHanded {} Tryz.checked o 3 .any ((Rows.OpenSpec.upto Rows.topGroupsMoveSpec).preRow e eP Tryz.f3 Rows.topGroupsMoveUptoRow.domain C Rows.topGroupsMoveUptoRow.laid) (((Rows.OpenSpec.upto Rows.topGroupsMoveSpec).at F).post e eP Tryz.f3 C V C C) := by
  obtain ⟨p, x⟩ := reads o e
  refine returnsInHanded_of_row (C := Tryz.checked) (s := Rows.OpenSpec.upto Rows.topGroupsMoveSpec) own t aCt Uc
    (witness_row_at (enc := e) (C := Tryz.checked) C (Fo o) A5 rfl (aMJ o) (aMK o) (aML o)
      (OpenSpec.preRow_of_cond 8 x aL (λ k c => by cases c; exact small) aL (azX o))) ?_
  intro W b args d g before B a _ E _ h S _
  exact aon H e W b args d g before B a (uU (E _ rfl)) h S
def ax8:Tryz.f3.isInstance Tryz.pinned.checked.prog Rows.topGroupsMoveUptoRow.origin Rows.topGroupsMoveUptoRow.targs:=uU aL
def aMN:Tryz.f3.isWrapper Tryz.pinned.checked.prog Rows.topGroupsMoveUptoRow.wrapper Rows.topGroupsMoveUptoRow.mainSum:=by unfold Func.isWrapper;first|(rw[if_pos (by decide+kernel)];kernel_rfl)|(rw[if_neg (by decide+kernel)];exact⟨rfl,rfl⟩)
def aIo:Rows.TopGroupsMoveUptoSaid:=OpenClaim.holds_of_cond 3 Tryz.f3 rfl rfl rfl rfl rfl rfl rfl ⟨rfl,rfl,rfl,rfl,rfl⟩ rfl rfl rfl rfl rfl VQ Uc facts ax8 aMN (λo s H e _ F=>by rw[OpenClaim.pre_eq_preRow];exact aAu o s H e F)
theorem plain(f:bW)(n:Func)(a:Tryz.pinned.checked.prog.funcNamed "tidegate/tidegatetop.TopGroupsMove"=J f)(y:Tryz.pinned.checked.prog.funcs[f]?=J n):C=Tryz.pinned.checked.prog.looks []/\∀(j:Nat)t,n.params[j]?=J t->Tryz.pinned.checked.prog.wantsStandIn t=C:=by
 obtain rfl:f=3:=(bE (VQ.symm.trans a)).symm;obtain rfl:n=Tryz.f3:=(bE (Uc.symm.trans y)).symm;refine⟨aCu,λj t h=>?_⟩;rw[params3]at h;have m:t=25\/t=29\/t=5:=by simpa using Array.mem_of_getElem? h
 rcases m with rfl|rfl|rfl;.exact aKe
 .exact aKf
 .exact st5
def wfT:Rows.topGroupsMoveUptoRow.wfByText (Rows.OpenSpec.upto Rows.topGroupsMoveSpec)=V:=aL
def aBb:Tryz.pinned.checked.prog.mainIs=J (V, "9153974d5d2459eb4824183855517e47bfad277433f6d0cb9413daaebad53c45".toList):=aL
theorem cardUpto:Rows.TopGroupsMoveUptoCardSaid:=Claim7.holds_tied_plain_at .later [] _ _ _ _ aIo (λ_ h=>by cases h) wfT (λ_ h=>by cases h) aHZ rfl ⟨rfl,rfl⟩ aBb rfl plain aCs
end Go.Proofs.YtlpehfnaibndgaaGreatDoor.tm
