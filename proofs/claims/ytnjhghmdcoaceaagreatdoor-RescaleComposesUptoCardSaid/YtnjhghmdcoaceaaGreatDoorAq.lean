/- Proved: RescaleComposes of tidegatelaw52 returns true (rescaled snapshots are well-formed; rescaling twice is rescaling once, and going back yields the snapshot) for all programs, snapshots and pairs of numbers. Conditions: those of the given statement RescaleComposesUptoCardSaid alone, so arguments of at most its bulk. -/
import Derived.Test.YtnjhghmdcoaceaaGreatDoorAl
import Derived.Test.YtnjhghmdcoaceaaGreatDoorAo
import Derived.Test.YtnjhghmdcoaceaaGreatDoorAp
open Option renaming some->J,none->Z
open Bool renaming true->V,false->C
open Go renaming TypeId->an,Value->aD,World->aT,FuncId->bY
open Go.Proofs.Tryz renaming prog->eD
noncomputable section
set_option maxRecDepth 100000
open Go.Proofs.Tryz
set_option linter.all false
namespace Go.Proofs.YtnjhghmdcoaceaaGreatDoor.tm
open Go.ChangeShapes Go.WideShapes Go.ChangeAt Go.RowKit Go.VM
def Ms(g:Nat):Obj->Obj|.cells _ t f=>.cells (((AM.gl[g]?).getD ([],0)).1.map CR).toArray t f|o=>o
def FC(o:Os):aT:={World.holding eD o ⟨#[],#[],[]⟩with heap:=(((((World.holding eD o ⟨#[],#[],[]⟩).heap.modify 0 (Ms 0)).modify 1 (Ms 1)).modify 3 (Ms 3)).modify 4 (Ms 4)).modify 5 (Ms 5)}
def zs:aD:=.slice Z 0 0
def aHr:aD:=.agg #[zs,zs]
def aF0:aD:=.agg #[.int .i64 0,zs,zs]
def Bi:Array aD:=#[aHr,aF0,.agg #[.int .u8 0,.int .u8 0]]
def aAK(o:Os):laidMet eD Rows.rescaleComposesUptoRow.laid ((FC o).forCall (λ_ _=>0) ⟨#[],Bi,[]⟩).memory:=laidMet_of_run' 8 aL aL
def aAL(o:Os):laidMetH eD Rows.rescaleComposesUptoRow.laid ((FC o).forCall (λ_ _=>0) ⟨#[],Bi,[]⟩).memory:=by unfold laidMetH;rw[A3];exact aAK o
def li{H:Type}:DataW H:=.agg [.lit (.int .u8 0),.lit (.int .u8 0)]
def la{H:Type}:DataW H:=.agg [.nil,.nil]
def ls{H:Type}:DataW H:=.agg [.lit (.int .i64 0),.nil,.nil]
def reads(o:Os){H:Type}(e:an×aD->H):∃p,DataW.whole e eD ((FC o).forCall (λ_ _=>0) ⟨#[],Bi,[]⟩).memory f3.params.toList Rows.rescaleComposesSpec.vars C Bi.toList 8=J ([la,ls,li],[],p):=⟨[],aL⟩
def small{H:Type}:Rows.uptoSmall H ([la,ls,li]++[])=V:=aL
def aDh:Tryz.checked.prog.inits.idxOf? 3=Z:=aL
def aNT(o:Os):((FC o).forCall (λ_ _=>0) ⟨#[],Bi,[]⟩).variablesB Tryz.checked.prog=V:=aL
def aNU(o:Os):(((FC o).forCall (λ_ _=>0) ⟨#[],Bi,[]⟩).heap.toList.drop Tryz.checked.prog.globals.size).take ((begin Tryz.checked.prog (λ_ _=>0) default).world.heap.size-Tryz.checked.prog.globals.size)=(begin Tryz.checked.prog (λ_ _=>0) default).world.heap.toList.drop Tryz.checked.prog.globals.size:=aL
def aNV(o:Os):Input.okWideB Tryz.checked.prog ((FC o).forCall (λ_ _=>0) ⟨#[],Bi,[]⟩) 3 ⟨#[],Bi,[]⟩=V:=aL
def aLo:Tryz.prog.wantsStandIn 25=C:=aL
def aLp:Tryz.prog.wantsStandIn 29=C:=aL
def aLq:Tryz.prog.wantsStandIn 30=C:=aL
def aBi (o : Os) (t : o.Started) (H : Type) (e : an × aD -> H) (F : Stop.Interp) :
    ReturnsInHanded {} Tryz.checked o 3 .any ((Rows.OpenSpec.upto Rows.rescaleComposesSpec).preRow e eD f3 Rows.rescaleComposesUptoRow.domain C Rows.rescaleComposesUptoRow.laid) (((Rows.OpenSpec.upto Rows.rescaleComposesSpec).at F).post e eD f3 C V C C) := by
  obtain ⟨p, x⟩ := reads o e
  refine returnsInHanded_of_row (C := Tryz.checked) (s := Rows.OpenSpec.upto Rows.rescaleComposesSpec) own t aDh Uw
    (witness_row_at (enc := e) (C := Tryz.checked) C (FC o) Bi rfl (aNT o) (aNU o) (aNV o)
      (OpenSpec.preRow_of_cond 8 x aL (λ k c => by cases c; exact small) aL (aAL o))) ?_
  intro W b args d g before A a _ E _ h S _
  exact aoN H e W b args d g before A a (ue (E _ rfl)) h S
def ayT:f3.isInstance Tryz.pinned.checked.prog Rows.rescaleComposesUptoRow.origin Rows.rescaleComposesUptoRow.targs:=ue aL
def aNY:f3.isWrapper Tryz.pinned.checked.prog Rows.rescaleComposesUptoRow.wrapper Rows.rescaleComposesUptoRow.mainSum:=by unfold Func.isWrapper;first|(rw[if_pos (by decide+kernel)];kernel_rfl)|(rw[if_neg (by decide+kernel)];exact⟨rfl,rfl⟩)
def aJw:Rows.RescaleComposesUptoSaid:=OpenClaim.holds_of_cond 3 f3 rfl rfl rfl rfl rfl rfl rfl ⟨rfl,rfl,rfl,rfl,rfl⟩ rfl rfl rfl rfl rfl Wa Uw facts ayT aNY (λo s H e _ F=>by rw[OpenClaim.pre_eq_preRow];exact aBi o s H e F)
theorem plain(f:bY)(n:Func)(a:Tryz.pinned.checked.prog.funcNamed "tidegate/tidegatelaw52.RescaleComposes"=J f)(y:Tryz.pinned.checked.prog.funcs[f]?=J n):C=Tryz.pinned.checked.prog.looks []/\∀(j:Nat)t,n.params[j]?=J t->Tryz.pinned.checked.prog.wantsStandIn t=C:=by
 obtain rfl:f=3:=(bE (Wa.symm.trans a)).symm;obtain rfl:n=f3:=(bE (Uw.symm.trans y)).symm;refine⟨aDi,λj t h=>?_⟩;rw[params3]at h;have m:t=25\/t=29\/t=30:=by simpa using Array.mem_of_getElem? h
 rcases m with rfl|rfl|rfl;.exact aLo
 .exact aLp
 .exact aLq
def U5:Rows.rescaleComposesUptoRow.wfByText (Rows.OpenSpec.upto Rows.rescaleComposesSpec)=V:=aL
def aB1:Tryz.pinned.checked.prog.mainIs=J (V, "bcc086a1863c4a586ea1eb26ba1c67e93b385a52b79c83d8ca1646babcfbbfbb".toList):=aL
theorem cardUpto:Rows.RescaleComposesUptoCardSaid:=Claim7.holds_tied_plain_at .later [] _ _ _ _ aJw (λ_ h=>by cases h) U5 (λ_ h=>by cases h) aI4 rfl ⟨rfl,rfl⟩ aB1 rfl plain aDg
