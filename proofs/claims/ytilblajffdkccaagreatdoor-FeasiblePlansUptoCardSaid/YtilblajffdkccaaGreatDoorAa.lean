/- Proved: the abstract machine and the value machine, and laws of the first one (a part of the proof of FeasiblePlansUptoCardSaid, whose theorem stands in the last text): they hold for every program that the texts behind them run. -/
import GoSem.Step
import Derived.Calls
import Derived.Laws.Entries
import Derived.Laws.StructEq
import Derived.Laws.RangeString
import Derived.Laws.BytesString
import Derived.RunT
import Derived.Orders
import Derived.Test.YtilblajffdkccaaGreatDoorProg
import Derived.KernelRfl
import Derived.Lib.SlicesCompact
import Derived.Shelf.Strings.Search2
import Derived.Shelf.Sort.Plain
import Derived.Shelf.Slices.CompactI
import Derived.Shelf.Spec.SlicesInsert
import Derived.Lib.AppendZerosOnto
import Derived.Shelf.Slices.In.SortNone
import Derived.ReadAgain
import Derived.OpenShut
import Derived.LaidSub
import Derived.WalkKit
import Derived.ProofKit
import Derived.Deep.DeepHandedRow
import Derived.Lib.LaidTab
open Option renaming some->J,none->Z
open Bool renaming true->V,false->C
open Bool renaming noConfusion->mK
open Go renaming TypeId->al,Value->aB,Oper->aC,Operand->aH,Program->aM,World->aT,Code->bz,FuncId->bS,Frame->cZ,lone->eT,IntKind->gZ,MapEntry->kZ
open Go.Builtin renaming zeroCells->nR,firstCells->oE,append_->s8,copy_->zF
open Go.Lib renaming compact->tb
open Go.Op renaming operands->eB,mapUpdate->rC
open Go.Proofs.Tryz renaming prog->eS
open Go.Region renaming binds->uq
open Go.stepG renaming exec->ug
open Int renaming ofNat->dI,sub->nS
open List renaming rec->kG,append->qA
open Nat renaming beq->aw,ble->bV,blt->cM,succ->eU,add->im,mul->jD
open SizeOf renaming sizeOf->kb
open UInt8 renaming toNat->nU
noncomputable section set_option linter.all false
theorem ae{p:Prop}(h:p:=by omega):p:=h
theorem aO{p:Prop}(h:p:=by simp):p:=h
theorem aj{p:Prop}(h:p:=by grind):p:=h
theorem aP{p:Prop}(h:p:=by simp_all):p:=h
theorem gD{p:Prop}(h:p:=by decide):p:=h
theorem aI{p:Prop}(h:p:=by kernel_rfl):p:=h
theorem aL:type_of%@cond_true:=@cond_true
theorem bg:type_of%@cond_false:=@cond_false
theorem bo:type_of%@Nat.le_refl:=@Nat.le_refl
theorem br:type_of%@Option.some.inj:=@Option.some.inj
theorem bP:type_of%@List.map_nil:=@List.map_nil
theorem bU:type_of%@List.length_cons:=@List.length_cons
def bW:=@eq_false
def cI:=@List.mem_of_getElem?
theorem cU:type_of%@Option.bind_some:=@Option.bind_some
theorem db:type_of%@List.length_append:=@List.length_append
theorem de:type_of%@List.map_cons:=@List.map_cons
theorem dk:type_of%@List.nil_append:=@List.nil_append
theorem dU:type_of%@List.length_map:=@List.length_map
def eu:=@decide_true
def eD:=@List.length_nil
theorem eI:type_of%@List.map_append:=@List.map_append
theorem eQ:type_of%@List.mem_cons_self:=@List.mem_cons_self
theorem eZ:type_of%@List.getElem?_eq_getElem:=@List.getElem?_eq_getElem
theorem fj:type_of%@Nat.lt_of_lt_of_le:=@Nat.lt_of_lt_of_le
def fu:=@Classical.em
theorem fy:type_of%@List.append_nil:=@List.append_nil
def fA:=@List.cons_append
def fH:=@congrArg
def gv:=@Nat.le_trans
def gT:=@List.not_mem_nil
theorem iC:type_of%@Bool.and_eq_true:=@Bool.and_eq_true
def iE:=@Option.map_some
def iL:=@List.mem_cons_of_mem
def iT:=@Option.isSome_none
theorem jE:type_of%@Option.map_eq_some_iff:=@Option.map_eq_some_iff
theorem jM:type_of%@Nat.zero_add:=@Nat.zero_add
def jY:=@List.sizeOf_lt_of_mem
def j9:=@Prod.mk.inj
def ki:=@eq_true
theorem kr:type_of%@List.append_assoc:=@List.append_assoc
theorem kH:type_of%@Nat.zero_le:=@Nat.zero_le
def kY:=@List.all_cons
theorem lE:type_of%@List.getElem?_map:=@List.getElem?_map
theorem lS:type_of%@decide_eq_true:=@decide_eq_true
def ml:=@Nat.mul_le_mul_right
theorem mw:type_of%@decide_eq_true_eq:=@decide_eq_true_eq
def mO:=@decide_false
theorem np:type_of%@Array.getElem?_eq_getElem:=@Array.getElem?_eq_getElem
def nu:=@List.all_nil
theorem nv:type_of%@List.any_cons:=@List.any_cons
theorem nT:type_of%@Nat.beq_refl:=@Nat.beq_refl
theorem oF:type_of%@List.getElem?_append_left:=@List.getElem?_append_left
theorem oG:type_of%@List.getElem?_append_right:=@List.getElem?_append_right
def ph:=@Nat.mul_le_mul
def pj:=@Option.isNone_none
def pn:=@Option.isNone_some
theorem rB:type_of%@Nat.ble_eq_true_of_le:=@Nat.ble_eq_true_of_le
def rD:=@Option.map_none
def rX:=@of_eq_true
theorem um:type_of%@List.all_eq_true:=@List.all_eq_true
def uo:=@Option.bind_assoc
theorem vp:type_of%@Bool.false_or:=@Bool.false_or
theorem vu:type_of%@List.flatMap_cons:=@List.flatMap_cons
def wH:=@Int.ofNat_eq_natCast
theorem wJ:type_of%@List.drop_zero:=@List.drop_zero
theorem wS:type_of%@decide_eq_false:=@decide_eq_false
def xP:=@Bool.and_true
theorem xS:type_of%@List.foldl_cons:=@List.foldl_cons
theorem xT:type_of%@Nat.add_mul:=@Nat.add_mul
def xU:=@Option.some.injEq
def zC:=@Bool.and_self
def zD:=@Bool.true_and
theorem zG:type_of%@Classical.byContradiction:=@Classical.byContradiction
def zM:=@List.any_nil
theorem zN:type_of%@List.filter_cons:=@List.filter_cons
theorem zO:type_of%@List.getElem?_drop:=@List.getElem?_drop
def zQ:=@List.mem_append_left
theorem zT:type_of%@List.tail_drop:=@List.tail_drop
theorem zU:type_of%@Nat.add_zero:=@Nat.add_zero
def A2:=@of_decide_eq_true
def Bo:=@Bool.not_true
theorem Bt:type_of%@List.head?_drop:=@List.head?_drop
theorem Bu:type_of%@List.length_singleton:=@List.length_singleton
theorem Bv:type_of%@List.length_take:=@List.length_take
theorem Bw:type_of%@List.map_map:=@List.map_map
theorem Bx:type_of%@List.mem_singleton:=@List.mem_singleton
theorem By:type_of%@Nat.add_assoc:=@Nat.add_assoc
theorem CF:type_of%@List.mem_append:=@List.mem_append
theorem Et:type_of%@List.drop_drop:=@List.drop_drop
def Eu:=@List.eq_nil_of_length_eq_zero
theorem Ew:type_of%@List.getElem?_take_of_lt:=@List.getElem?_take_of_lt
theorem Ex:type_of%@Nat.add_comm:=@Nat.add_comm
def EA:=@Option.getD_some
theorem EN:type_of%@decide_eq_false_iff_not:=@decide_eq_false_iff_not
theorem GY:type_of%@Array.getD_eq_getD_getElem?:=@Array.getD_eq_getD_getElem?
def GZ:=@Bool.not_false
theorem G5:type_of%@List.drop_eq_getElem_cons:=@List.drop_eq_getElem_cons
def G6:=@List.foldl_nil
theorem G7:type_of%@List.getElem_mem:=@List.getElem_mem
def G8:=@List.nodup_nil
theorem G9:type_of%@List.take_of_length_le:=@List.take_of_length_le
def Hf:=@Nat.lt_of_le_of_lt
def I5:=@of_decide_eq_false
def J0:=@Bool.not_not
theorem J1:type_of%@Bool.or_eq_false_iff:=@Bool.or_eq_false_iff
def J2:=@Bool.or_false
def J5:=@List.append_of_mem
theorem J6:type_of%@List.getElem?_cons_succ:=@List.getElem?_cons_succ
def J7:=@List.mem_append_right
def J8:=@List.mem_cons
theorem J9:type_of%@List.take_append_drop:=@List.take_append_drop
def J':=@Nat.le_succ
def Ka:=@Nat.lt_succ_self
def Kc:=@Prod.mk.injEq
def N1:=@Bool.or_eq_true
def N2:=@Bool.true_or
def Su:=@Array.ext_getElem?
def Sx:=@List.cons.injEq
def Sy:=@List.filter_nil
def Sz:=@List.mem_map_of_mem
def SA:=@Nat.eq_zero_or_pos
def SB:=@Nat.le_add_right
def SC:=@Option.isSome_some
namespace Go
abbrev an:=List Nat
abbrev bT:=List Int
abbrev ah:=Option.{0}
end Go
namespace Go.AM
inductive Pos where|e|o(p:Pos)|i(p:Pos)
def xM(f:Nat):Nat->Pos:=Nat.rec (λ_=>.e) (λ_ i n=>Bool.rec (Bool.rec (.i (i (Nat.pred (Nat.div n 2)))) (.o (i (Nat.div n 2))) (aw (Nat.mod n 2) 1)) .e (aw n 0)) f
def toPos(n:Nat):Pos:=xM (eU n) n
inductive Tr(α:Type)where|nil|node(l:Tr α)(v:Option α)(r:Tr α)
def BV{a:Type}(t:Tr a):Pos->ah a:=Tr.rec (λ_=>Z) (λ_ v _ gl gr p=>Pos.rec v (λp _=>gl p) (λp _=>gr p) p) t
def Dw{a:Type}(p:Pos)(x:a):Tr a->Tr a:=Pos.rec (λt=>Tr.rec (.node .nil (J x) .nil) (λl _ r _ _=>.node l (J x) r) t) (λ_ i t=>Tr.rec (.node (i .nil) Z .nil) (λl v r _ _=>.node (i l) v r) t) (λ_ i t=>Tr.rec (.node .nil Z (i .nil)) (λl v r _ _=>.node l v (i r)) t) p
def Tr.get{a:Type}(t:Tr a)(n:Nat):ah a:=BV t (toPos n)
def Tr.ins{a:Type}(t:Tr a)(n:Nat)(x:a):Tr a:=Dw (toPos n) x t
def eL{a:Type}(l:List a):Nat:=kG 0 (λ_ _ i=>eU i) l
def cQ{b:Type}(l m:List b):List b:=kG m (λa _ i=>a::i) l
def Aj{a:Type}(n:Nat):List a->List a:=Nat.rec (λl=>l) (λ_ i l=>kG [] (λ_ t _=>i t) l) n
def xK{b:Type}(n:Nat):List b->List b:=Nat.rec (λ_=>[]) (λ_ i l=>kG [] (λa t _=>a::i t) l) n
def oW{b:Type}(l:List b)(n:Nat):ah b:=kG Z (λa _ _=>J a) (Aj n l)
def AS{b c:Type}(f:b->c)(l:List b):List c:=kG [] (λa _ i=>f a::i) l
def cE{c d:Type}(f:c->ah d)(l:List c):ah (List d):=kG (J []) (λa _ i=>(f a).bind λb=>i.bind λt=>J (b::t)) l
def fV{d c:Type}(f:c->d->c)(l:List d):c->c:=kG (λb=>b) (λa _ i b=>i (f b a)) l
def oN{d c:Type}(f:c->d->ah c)(l:List d):c->ah c:=kG (λb=>J b) (λa _ i b=>(f b a).bind i) l
def kU{a:Type}(n:Nat)(z:List a):List a:=Nat.rec [] (λ_ i=>cQ z i) n
def iw{b:Type}(f:b->Bool)(l:List b):Bool:=kG V (λa _ i=>bif f a then i else C) l
def Ak(l:an):an->Bool:=kG (λm=>kG V (λ_ _ _=>C) m) (λa _ i m=>kG C (λb t _=>bif aw a b then i t else C) m) l
def gG{a:Type}(l:List a)(o:Nat)(v:List a):List a:=cQ (xK o l) (cQ v (Aj (im o (eL v)) l))
def v7{a:Type}(l:List a)(i:Nat)(x:a):List a:=cQ (xK i l) (x::Aj (eU i) l)
def ai:Int->Int->Bool|.ofNat a,.ofNat b=>aw a b|.negSucc a,.negSucc b=>aw a b|_,_=>C
def ao:Int->Int->Bool|.ofNat a,.ofNat b=>cM a b|.negSucc _,.ofNat _=>V|.ofNat _,.negSucc _=>C|.negSucc a,.negSucc b=>cM b a
def Du:Int->ah Nat|.ofNat n=>J n|.negSucc _=>Z
def fS(k:gZ)(n:Int):Int:=match k,n with|.i64,.ofNat m=>bif cM m 9223372036854775808 then n else k.wrap n|_,_=>k.wrap n
end Go.AM
namespace Go.AM
variable{α:Type}
inductive AV where|top|bool(b:Bool)|int(k:gZ)(n:Int)|str(s:List Nat)|ptr(id off:Nat)|jV|sl(id off len:Nat)(cap:Option Nat)(esz:Nat)|bc|map(r:Nat)|il|func(f:bS)(first captured:List AV)|yield(l:Nat)|nilFunc|agg(l:List AV)|cw(l:List AV)
abbrev aD:=List AV
def fR:AV:=.cw []
def AV.bj:AV->Bool|.agg _|.cw _=>C|_=>V
def AV.cells:AV->ah aD|.agg l=>J l|.cw _|.top=>Z|v=>J [v]
inductive NZ where|fn(f:bS)(captured:List AV)|yield(l:Nat)|builtin(b:Builtin)(argTypes:Array al)
structure Ss where
 target:NZ
 args:aD
structure Bm where
 state:LoopState
 pending:ah bz
 fn:bS
 n:Nat
 tmps:Tr AV
 params:List Tmp
 assign:bz
 body:bz
 defers:Nat
abbrev ew:=AV×AV×Nat
inductive gS where|ro|ex|op
def gS.wr:gS->Bool|.ro=>C|_=>V
inductive bQ where|cells(l:List AV)(root:Nat)(fl:gS)(e:al)|map(es:List ew)(clock:Nat)|mapIter(m:Option Nat)(since:Nat)(seen:List Nat)(D7:Nat)|loop(l:Bm)|deferred(b:Bool)
structure Heap where
 tr:Tr bQ
 dh:Tr (Nat×Nat)next:Nat
 bn:Nat
 bK:an
 cK:an
namespace Heap
def get(H:Heap)(i:Nat):ah bQ:=H.tr.get i
def bh(H:Heap)(r:Nat):Nat×Nat:=(H.dh.get r).getD (0,r)
def alloc(H:Heap)(o:bQ):Heap:={H with tr:=H.tr.ins H.next o,next:=eU H.next}
def cO(H:Heap)(l:aD)(f:gS)(e:al):Heap:=H.alloc (.cells l H.next f e)
def note(b r:Nat)(l:an):an:=bif cM r b then r::l else l
def put(H:Heap)(i r:Nat)(o:bQ):Heap:={H with tr:=H.tr.ins i o,bK:=note H.bn r H.bK}
def dG(H:Heap)(i r:Nat)(o:bQ):Heap:=bif aw r i then H.put i r o else{H.put i r o with dh:=(H.put i r o).dh.ins r (i,i)}
def hQ(H:Heap)(r Y:Nat)(g:Bool)(c:aD)(e:al):Heap:={tr:=H.tr.ins H.next (.cells c r .op e),dh:=H.dh.ins r (bif g then H.next else Y,H.next),next:=eU H.next,bn:=H.bn,bK:=bif g then note H.bn r H.bK else H.bK,cK:=note H.bn r H.cK}
def cellsOf(H:Heap)(i:Nat):ah aD:=match H.get i with|some (.cells l root _ _)=>bif bV (H.bh root).1 i then J l else Z|_=>Z
def load(H:Heap)(i o n:Nat):ah aD:=(H.cellsOf i).bind λl=>bif bV (im o n) (eL l)then J (xK n (Aj o l))else Z
def store(H:Heap)(i o:Nat)(v:aD):ah Heap:=match H.get i with
 |some (.cells l root f e)=>let m:=H.bh root
 bif bV m.1 i&&(aw m.2 i&&(bV (im o (eL v)) (eL l)&&f.wr))then J (H.dG i root (.cells (gG l o v) root f e))else Z|_=>Z
def jT(H:Heap)(r:Nat):ah (List ew×Nat):=match H.get r with|some (.map e c)=>J (e,c)|_=>Z
end Heap
def DE:aB->ah AV|.bool b=>J (.bool b)|.int k n=>J (.int k n)|.string s=>J (.str (s.data.toList.map nU))|.pointer Z=>J .jV|.slice Z 0 0=>J .bc|.map Z=>J .il|.nilFunc=>J .nilFunc|_=>Z
def xx:aB->ah AV|.agg c=>(cE DE c.toList).map .agg|v=>DE v
structure cu where
 fn:bS
 n:Nat
 tmps:Tr AV
 todo:List Item
 defers:an
 mode:FrameMode
 roundOf:ah Nat
def cu.tmp(f:cu)(t:Nat):AV:=(f.tmps.get t).getD fR
inductive Out where|ret(v:AV)(H:Heap)
def Lj{a:Type}(n:Nat)(k:Nat->a):a:=Nat.rec (k 0) (λm _=>k (eU m)) n
theorem UT(n:Nat)(k:Nat->α):Lj n k=k n:=by cases n<;>rfl
def US{b c:Type}(l:List c)(k:List c->b):b:=kG (k []) (λa l _=>k (a::l)) l
theorem atK{a:Type}(l:List a)(k:List a->α):US l k=k l:=by cases l<;>rfl
def Lk{a b:Type}(t:Tr b)(k:Tr b->a):a:=Tr.rec (k .nil) (λl v r _ _=>k (.node l v r)) t
theorem Ps{a:Type}(t:Tr a)(k:Tr a->α):Lk t k=k t:=by cases t<;>rfl
def NH{a:Type}(k:Heap->a)(H:Heap):a:=Heap.rec (λt d next n b c=>Lk t λt=>Lk d λd=>Lj next λnext=>Lj n λn=>US b λb=>US c λc=>k ⟨t,d,next,n,b,c⟩) H
theorem akm(k:Heap->α)(H:Heap):NH k H=k H:=by cases H;simp only[NH,UT,atK,Ps]
def cu.ve(f:cu)(x:List Item):cu:=cu.rec (λfn n t _ d m ro=>⟨fn,n,t,x,d,m,ro⟩) f
def cu.Rw(f:cu)(x:FrameMode):cu:=cu.rec (λfn n t todo d _ ro=>⟨fn,n,t,todo,d,x,ro⟩) f
def cu.Rv(f:cu)(x:an):cu:=cu.rec (λfn n t todo _ m ro=>⟨fn,n,t,todo,x,m,ro⟩) f
abbrev Rec:=cu->Heap->ah Out
abbrev bZ:=bS->aD->Heap->ah (ah (AV×Heap))
section
variable(P:aM)
def isAgg(t:al):ah Bool:=match P.underlying t with|some (.struct _)|some (.array _ _)=>J V|some _=>J C|none=>Z
def bC(t:al):ah Nat:=(P.info? t).map (·.size)
def zB(t:al):ah AV:=(P.info? t).bind λi=>i.zero.bind xx
def mJ(t:al):ah aD:=(zB P t).bind AV.cells
def bu(m:Tr AV):aH->ah AV
 |.tmp t=>match(m.get t).getD fR with|.top=>Z|v=>J v
 |.const v=>xx v|.global g=>bif cM g P.globals.size then J (.ptr g 0)else Z|.func f=>J (.func f [] [])
def qo(t:al)(c:aD)(o:Nat):ah AV:=match isAgg P t with|some V=>(bC P t).bind λn=>bif bV (im o n) (eL c)then J (.agg (xK n (Aj o c)))else Z|some C=>oW c o|none=>Z
def loadVar(H:Heap)(t:al)(i o:Nat):ah AV:=match isAgg P t with|some V=>(bC P t).bind λn=>(H.load i o n).map .agg|some C=>(H.cellsOf i).bind λl=>oW l o|none=>Z
def storeVar(H:Heap)(t:al)(i o:Nat)(v:AV):ah Heap:=(bC P t).bind λn=>v.cells.bind λs=>bif aw (eL s) n then H.store i o s else Z
def Ao(l:Nat->ah (Nat×Nat))(s:List (Nat×AV)):aD->ah aD:=oN (λcells p=>(l p.1).bind λo=>p.2.cells.bind λv=>bif aw (eL v) o.2&&bV (im o.1 o.2) (eL cells)then J (gG cells o.1 v)else Z) s
def HH(h:al->AV->AV->ah Bool)(t:al)(x y:AV):ah Bool:=match P.underlying t,x,y with|some .bool,.bool a,.bool b=>J (a==b)|some (.int _),.int k a,.int d b=>if k=d then J (ai a b)else Z|some .string,.str a,.str b=>J (Ak a b)|some (.struct i),.agg s,.agg e=>bif P.stoodInHeld t then Z else oN (λc(f:Field)=>bif c then(bif f.name== "_"then J V else(qo P f.type s f.offset).bind λa=>(qo P f.type e f.offset).bind λb=>h f.type a b)else J C) i.toList V|some (.slice _),.bc,.bc=>J V|some (.slice _),.bc,.sl ..|some (.slice _),.sl ..,.bc=>J C|_,_,_=>Z
def mQ(f:Nat):al->AV->AV->ah Bool:=Nat.rec (λ_ _ _=>Z) (λ_ i=>HH P i) f
def ix(n:Nat):AV:=.int .i64 (.ofNat n)
def IG(o:BinOp)(k:gZ)(a b:Int):ah AV:=match o with
 |.add=>J (.int k (fS k (Int.add a b)))|.sub=>J (.int k (fS k (nS a b)))|.mul=>J (.int k (fS k (Int.mul a b)))|.and=>match(Op.intBits o k a b).run P default with|.ok (.int k n) _=>J (.int k n)|_=>Z
 |.eql=>J (.bool (ai a b))|.neq=>J (.bool (!(ai a b)))|.lss=>J (.bool (ao a b))|.leq=>J (.bool (!(ao b a)))|.gtr=>J (.bool (ao b a))|.geq=>J (.bool (!(ao a b)))|_=>Z
def RO(o:BinOp)(a b:an):ah AV:=match o with|.add=>bif bV (im (eL a) (eL b)) 1000000000 then J (.str (cQ a b))else Z|.eql=>J (.bool (Ak a b))|.neq=>J (.bool (!(Ak a b)))|_=>Z
def aNE:aH->Bool|.const _=>V|_=>C
def As(t:al)(o a:aH)(x y:AV):Bool:=match x,y with|.agg _,.agg _=>!P.eqGuardType P.depth t|_,_=>V
def Ag(op:BinOp)(t:al)(o c:aH)(x y:AV):ah AV:=match op,x,y with
 |.shr,.int k a,.int e b=>match(Op.shift op k a e b).run P default with|.ok (.int k n) _=>J (.int k n)|_=>Z
 |op,.int k a,.int d b=>if k=d then IG P op k a b else Z|op,.str a,.str b=>RO op a b|.eql,x,y=>bif As P t o c x y then(mQ P 50 t x y).map .bool else Z|.neq,x,y=>bif As P t o c x y then(mQ P 50 t x y).map λb=>.bool (!b)else Z|_,_,_=>Z
def RW(o:UnOp)(x:AV):ah AV:=match o,x with|.neg,.int k n=>J (.int k (fS k (nS 0 n)))|.not,.bool b=>J (.bool (!b))|_,_=>Z
def nN:AV->ah Nat|.bc=>J 0|.sl _ _ n _ _=>J n|_=>Z
def rT:AV->ah Nat|.str s=>J (eL s)|v=>nN v
def qK(H:Heap)(z n:Nat):AV->ah aD|.bc=>J []|.sl id o _ _ e=>bif aw n 0 then J []else bif aw e z then H.load id o (jD n z)else Z|.str s=>bif aw z 1 then J (AS (λ(b:Nat)=>AV.int .u8 (.ofNat b)) (xK n s))else Z|_=>Z
def bF:Nat:=1099511627776
def nz(H:Heap)(m:al)(z b:Nat)(s:AV)(w:aD)(n:Nat):ah (AV×Heap):=bif aw z 0 then Z else match s with
 |.bc=>bif aw n 0 then J (.bc,H)else bif bV (jD n b) bF&&bV n bF then J (.sl H.next 0 n Z z,H.cO w .op m)else Z|.sl id o len p e=>bif aw e z&&(bV (jD (im len n) b) bF&&bV (im len n) bF)then bif aw n 0 then J (s,H)else match H.get id with
 |some (.cells l root d e0)=>let f:=H.bh root
 bif bV f.1 id then let a:=im o (jD len z)
 let fresh:ah (AV×Heap):=J (.sl H.next 0 (im len n) Z z,H.cO (cQ (xK (jD len z) (Aj o l)) w) .op m)
 match p with
 |some c=>bif bV (im len n) c then(H.store id a w).map λH=>(.sl id o (im len n) p z,H)else fresh|none=>bif bV (im a (jD n z)) (eL l)then(H.store id a w).map λH=>(.sl id o (im len n) Z z,H)else bif d.wr&&(aw f.2 id&&aw e0 m)then let cells:=cQ (xK (jD len z) (Aj o l)) w
 let g:=cM a (eL l)
 J (.sl H.next 0 (im len n) Z z,H.hQ root f.1 g cells m)else Z else Z|_=>Z else Z|_=>Z
def oM(t:al)(k:AV)(s:List ew):Nat->ah (ah (Nat×ew)):=kG (λ_=>J Z) (λe _ h i=>(mQ P 50 t k e.1).bind λb=>bif b then J (J (i,e))else h (eU i)) s
def yL(h:al->AV->Bool)(t:al)(k:AV):Bool:=match P.underlying t,k with|some .bool,.bool _|some (.int _),.int _ _|some .string,.str _=>V|some (.struct i),.agg c=>iw (λ(f:Field)=>f.name== "_"||(match qo P f.type c f.offset with|some v=>h f.type v|none=>C)) i.toList|_,_=>C
def Qr(f:Nat):al->AV->Bool:=Nat.rec (λ_ _=>C) (λ_ i=>yL P i) f
def ql(t:al)(k:AV):Bool:=Qr P 5 t k
def zd:AV->AV->Bool|.bool a,.bool b=>a==b|.int j a,.int k b=>j==k&&ai a b|.str a,.str b=>Ak a b|_,_=>C
def sameKey:AV->AV->Bool|.agg a,.agg b=>aw (eL a) (eL b)&&iw (λ(p:AV×AV)=>zd p.1 p.2) (List.zip a b)|x,y=>zd x y
def Ow(b:Nat)(l:List ew):Nat->ah (Nat×ew):=kG (λ_=>Z) (λ(e:ew)_ h i=>bif aw e.2.2 b then J (i,e)else h (eU i)) l
def Dx(n:an)(l:List ew):List ew:=kG [] (λ(e:ew)_ i=>bif iw (λs=>!(aw s e.2.2)) n then e::i else i) l
def mN(x:AV)(y:Nat):ah Nat:=match x with|.int _ (.ofNat n)=>bif bV n y then J n else Z|_=>Z
def fc(x:ah AV)(y d:Nat):ah Nat:=match x with|some v=>mN v y|none=>J d
def sliceB(H:Heap)(t:al)(x:AV)(b i d:ah AV):ah AV:=match P.underlying t,x with|some (.slice a),.bc=>(bC P a).bind λ_=>(fc d 0 0).bind λm=>(fc i m 0).bind λh=>(fc b h 0).bind λ_=>J .bc|some (.slice a),.sl id o len (J c) e=>(bC P a).bind λn=>bif aw n e then(fc d c c).bind λm=>(fc i m len).bind λh=>(fc b h 0).bind λl=>bif bV l h&&bV h m then J (.sl id (im o (jD l e)) (Nat.sub h l) (J (Nat.sub m l)) e)else Z else Z|some (.slice a),.sl id o len Z e=>(bC P a).bind λn=>bif aw n e then match d with|some m=>(mN m bF).bind λm=>(fc i m len).bind λh=>(fc b h 0).bind λl=>(H.cellsOf id).bind λc=>bif bV (im o (jD m e)) (eL c)&&(bV h m&&bV l h)then J (.sl id (im o (jD l e)) (Nat.sub h l) (J (Nat.sub m l)) e)else Z|none=>(fc i bF len).bind λh=>(fc b h 0).bind λl=>bif bV l h then bif bV h len then J (.sl id (im o (jD l e)) (Nat.sub h l) Z e)else(H.cellsOf id).bind λc=>bif bV (im o (jD h e)) (eL c)then J (.sl id (im o (jD l e)) (Nat.sub h l) Z e)else Z else Z else Z|_,_=>Z
def pQ(H:Heap)(t:al)(x:AV)(l h m:ah AV):ah AV:=match m,h with|some _,Z=>Z|_,_=>sliceB P H t x l h m
inductive eV where|val(v:AV)(H:Heap)|call(fr:cu)(H:Heap)
def aLX(s:an):Bool:=iw (λb=>cM b 256) s
def aLY(l:aD):ah an:=cE (λ|.int .u8 (.ofNat b)=>J b|_=>Z) l
def lf(H:Heap)(b:Builtin)(t:Array al)(h:aD):ah (AV×Heap):=match b,h with
 |.append,[s,x]=>match t[0]?.bind P.underlying with
  |some (.slice e)=>match P.info? e with|some i=>(mJ P e).bind λz=>bif aw (eL z) i.size then match t[1]?.bind P.underlying with
  |some (.int _)=>match x with|.int .i64 (.ofNat n)=>bif bV n bF then nz H e i.size i.bytes s (kU n z) n else Z|_=>Z
  |some _=>(rT x).bind λn=>(qK H i.size n x).bind λnew=>nz H e i.size i.bytes s new n|none=>Z else Z|none=>Z
  |_=>Z
 |.len,[x]=>match t[0]?.bind P.underlying with
  |some (.array n _)=>J (ix n,H)|some (.pointer a)=>match P.underlying a with|some (.array n _)=>J (ix n,H)|_=>Z
  |some .string=>match x with|.str s=>J (ix (eL s),H)|_=>Z
  |some (.slice _)=>(nN x).map λn=>(ix n,H)|some (.map _ _)=>match x with|.il=>J (ix 0,H)|.map r=>(H.jT r).map λm=>(ix (eL m.1),H)|_=>Z
  |_=>Z
 |.cap,[x]=>match t[0]?.bind P.underlying,x with|some (.slice _),.bc=>J (ix 0,H)|some (.slice _),.sl _ _ _ (J c) _=>J (ix c,H)|_,_=>Z
 |.copy,[d,s]=>match t[0]?.bind P.underlying with
  |some (.slice e)=>(bC P e).bind λf=>(rT s).bind λa=>(nN d).bind λc=>let n:=Nat.min a c
  (qK H f n s).bind λcells=>match d with|.sl id o _ _ _=>bif aw n 0 then J (ix 0,H)else(H.store id o cells).map λH=>(ix n,H)|_=>J (ix n,H)
  |_=>Z
 |.max,x::rest=>(oN (λx y=>match x,y with|.int k a,.int _ b=>J (.int k (bif ao a b then b else a))|_,_=>Z) rest x).map λv=>(v,H)|.clear,[x]=>match t[0]?.bind P.underlying,x with|some _,.il|some _,.bc=>J (fR,H)|some _,.map r=>(H.jT r).map λm=>(fR,H.put r r (.map [] m.2))|some (.slice e),.sl id o n _ f=>bif aw n 0 then J (fR,H)else(mJ P e).bind λz=>bif aw (eL z) f then(H.store id o (kU n z)).map λH=>(fR,H)else Z|_,_=>Z
 |.delete,[m,k]=>match t[0]?.bind P.underlying with
  |some (.map j _)=>bif ql P j k then match m with
  |.il=>J (fR,H)|.map r=>(H.jT r).bind λg=>(oM P j k g.1 0).map λ|some (i,_)=>(fR,H.put r r (.map (cQ (xK i g.1) (Aj (eU i) g.1)) g.2))|none=>(fR,H.put r r (.map g.1 g.2))
  |_=>Z else Z|_=>Z
 |_,_=>Z
def wT(f:bS)(r:aD):ah cu:=(P.funcs[f]?).bind λfn=>fn.body.bind λb=>bif bV (eL r) fn.ntmps then J {fn:=f,n:=fn.ntmps,tmps:=(fV (λ(p:Tr AV×Nat)a=>(p.1.ins p.2 a,eU p.2)) r (Tr.nil,0)).1,todo:=[.code b],defers:=[],mode:=.run,roundOf:=Z}else Z
variable(ak:bZ)
def yd(f:bS)(a:aD)(H:Heap):ah eV:=match ak f a H with|some r=>r.map λv=>.val v.1 v.2|none=>(wT P f a).map λfr=>.call fr H
def vU(t:NZ)(a:aD)(H:Heap):ah eV:=match t with|.builtin b s=>(lf P H b s a).map λv=>.val v.1 v.2|.fn f c=>yd P ak f (cQ a c) H|.yield l=>match H.get l with|some (.loop r)=>bif aw (eL a) (eL r.params)then J (.call {fn:=r.fn,n:=r.n,tmps:=fV (λt(p:Tmp×AV)=>bif cM p.1 r.n then t.ins p.1 p.2 else t) (List.zip r.params a) r.tmps,todo:=[.code r.assign,.beginRound,.code r.body],defers:=[],mode:=.run,roundOf:=J l} H)else Z|_=>Z
def A6(t:Tr AV)(c:Call):ah Ss:=(cE (bu P t) c.args.toList).bind λargs=>match c.callee with|.builtin b=>J {target:=.builtin b c.argTypes,args}|.invoke ..=>Z|.value f=>(bu P t f).bind λ|.func f first a=>J {target:=.fn f a,args:=cQ first args}|.yield l=>J {target:=.yield l,args}|_=>Z
def ff(H:Heap)(v:ah AV):ah eV:=v.map λv=>.val v H
def El(t:Tr AV)(H:Heap)(x:aH):ah eV:=ff H (bu P t x)
def CD(t:Tr AV)(H:Heap)(c:aH)(a:aH)(b:aH):ah eV:=match bu P t c with|some (.bool V)=>ff H (bu P t a)|some (.bool C)=>ff H (bu P t b)|_=>Z
def GL(t:Tr AV)(H:Heap)(e:al):ah eV:=(mJ P e).map λz=>.val (.ptr H.next 0) (H.cO z .ex e)
def GN(t:Tr AV)(H:Heap)(e:al)(x:aH):ah eV:=(bu P t x).bind λv=>v.cells.map λs=>.val (.ptr H.next 0) (H.cO s .ex e)
def Eg(b:Tr AV)(H:Heap)(t:al)(a:Array (Nat×aH)):ah eV:=(mJ P t).bind λz=>(cE (λ(p:Nat×aH)=>(bu P b p.2).map λv=>(p.1,v)) a.toList).bind λs=>match P.underlying t with|some (.struct e)=>(cE (λ(f:Field)=>(bC P f.type).map λn=>(f.offset,n)) e.toList).bind λl=>ff H ((Ao (λi=>oW l i) s z).map .agg)|some (.array _ m)=>(bC P m).bind λn=>ff H ((Ao (λi=>J (jD i n,n)) s z).map .agg)|_=>Z
def GQ(m:Tr AV)(H:Heap)(t:al)(l:Nat)(a:Array (Nat×aH)):ah eV:=match P.underlying t with|some (.slice e)=>(bC P e).bind λn=>bif aw n 0||!(bV (jD l n) 16777216)then Z else(cE (λ(p:Nat×aH)=>(bu P m p.2).map λv=>(p.1,v)) a.toList).bind λs=>(bif aw l 0 then J []else mJ P e).bind λz=>bif !(aw l 0||aw (eL z) n)then Z else(Ao (λi=>J (jD i n,n)) s (kU l z)).map λcells=>.val (.sl H.next 0 l (J l) n) (H.cO cells .ex e)|_=>Z
def GU(m:Tr AV)(H:Heap)(t:al)(a:aH):ah eV:=match bu P m a with|some (.ptr id o)=>ff H (loadVar P H t id o)|_=>Z
def En(m:Tr AV)(H:Heap)(t:al)(a:aH)(x:aH):ah eV:=match bu P m a with|some (.ptr id o)=>(bu P m x).bind λv=>(storeVar P H t id o v).map λH=>.val fR H|_=>Z
def Em(t:Tr AV)(H:Heap)(x:aH):ah eV:=match bu P t x with|some (.ptr id o)=>ff H (J (.ptr id o))|some (.func f a b)=>ff H (J (.func f a b))|some (.yield l)=>ff H (J (.yield l))|_=>Z
def GM(m:Tr AV)(H:Heap)(o:BinOp)(t:al)(x:aH)(y:aH):ah eV:=(bu P m x).bind λa=>(bu P m y).bind λb=>ff H (Ag P o t x y a b)
def GX(t:Tr AV)(H:Heap)(o:UnOp)(x:aH):ah eV:=(bu P t x).bind λa=>ff H (RW o a)
def GR(t:Tr AV)(H:Heap)(r:al)(d:al)(x:aH):ah eV:=(bu P t x).bind λv=>match P.underlying r,P.underlying d,v with
 |some _,J (.int k),.int _ n=>ff H (J (.int k (fS k n)))|some .string,J (.slice e),.str s=>match P.underlying e with|some (.int .u8)=>J (.val (.sl H.next 0 (eL s) Z 1) (H.cO (AS (λ(b:Nat)=>AV.int .u8 (.ofNat b)) s) .ro e))|_=>Z
 |_,_,_=>Z
def GV(t:Tr AV)(H:Heap)(f:bS)(i:Array aH)(c:Array aH):ah eV:=(cE (bu P t) i.toList).bind λa=>(cE (bu P t) c.toList).bind λb=>ff H (J (.func f a b))
def GW(m:Tr AV)(H:Heap)(t:al)(r:ah aH):ah eV:=match r with|none=>J (.val (.map H.next) (H.alloc (.map [] 0)))|some x=>match P.underlying t,bu P m x with|some (.map _ _),J (.int _ _)=>J (.val (.map H.next) (H.alloc (.map [] 0)))|_,_=>Z
def JX(m:Tr AV)(H:Heap)(t:al)(l:aH)(c:aH):ah eV:=match P.underlying t with
 |some (.slice e)=>match P.info? e,bu P m l,bu P m c with|some i,J (.int _ (.ofNat l)),J (.int _ (.ofNat c))=>bif !(aw i.size 0)&&(bV l c&&(bV (jD c i.bytes) bF&&bV c bF))then(bif aw c 0 then J []else mJ P e).bind λz=>bif aw c 0||aw (eL z) i.size then J (.val (.sl H.next 0 l (J c) i.size) (H.cO (kU c z) .ex e))else Z else Z|_,_,_=>Z
 |_=>Z
def NX(m:Tr AV)(H:Heap)(t:al)(x:aH)(l:ah aH)(h:ah aH)(a:ah aH):ah eV:=(bu P m x).bind λv=>(match l with|some x=>(bu P m x).map J|none=>J Z).bind λl=>(match h with|some x=>(bu P m x).map J|none=>J Z).bind λh=>(match a with|some x=>(bu P m x).map J|none=>J Z).bind λa=>ff H (pQ P H t v l h a)
def Ei(t:Tr AV)(H:Heap)(s:al)(x:aH)(f:Nat):ah eV:=match P.underlying s with
 |some (.struct i)=>(i[f]?).bind λd=>(bC P d.type).bind λn=>match n,bu P t x with|eU _,J (.ptr id o)=>ff H (J (.ptr id (im o d.offset)))|_,_=>Z
 |_=>Z
def GS(m:Tr AV)(H:Heap)(t:al)(x:aH)(f:Nat):ah eV:=match P.underlying t with
 |some (.struct i)=>(i[f]?).bind λd=>match bu P m x with|some (.agg c)=>ff H (qo P d.type c d.offset)|_=>Z
 |_=>Z
def CA(m:Tr AV)(H:Heap)(t:al)(x:aH)(i:aH):ah eV:=match bu P m i with
 |some (.int _ (.ofNat i))=>match P.underlying t,bu P m x with|some (.array len e),J (.ptr id o)=>(bC P e).bind λn=>bif cM i len then ff H (J (.ptr id (im o (jD i n))))else Z|some (.slice e),J (.sl id o len _ s)=>(bC P e).bind λn=>bif cM i len&&aw n s then ff H (J (.ptr id (im o (jD i s))))else Z|_,_=>Z
 |_=>Z
def Ej(m:Tr AV)(H:Heap)(t:al)(x:aH)(i:aH):ah eV:=match bu P m i with
 |some (.int _ (.ofNat i))=>match P.underlying t,bu P m x with|some .string,J (.str s)=>ff H ((oW s i).map λb=>.int .u8 (.ofNat b))|_,_=>Z
 |_=>Z
def CB(m:Tr AV)(H:Heap)(t:al)(x:aH)(k:aH)(o:Bool):ah eV:=match P.underlying t with|some (.map a b)=>(match bu P m x with|some .il=>J []|some (.map r)=>(H.jT r).map Prod.fst|_=>Z).bind λs=>(bu P m k).bind λk=>bif ql P a k then(oM P a k s 0).bind λ|some (_,e)=>ff H (J (bif o then .cw [e.2.1,.bool V]else e.2.1))|none=>(zB P b).bind λz=>ff H (J (bif o then .cw [z,.bool C]else z))else Z|_=>Z
def Ek(a:Tr AV)(H:Heap)(t:al)(m:aH)(k:aH)(x:aH):ah eV:=match P.underlying t,bu P a m with|some (.map b _),J (.map r)=>(H.jT r).bind λo=>(bu P a k).bind λk=>(bu P a x).bind λx=>bif ql P b k then(oM P b k o.1 0).bind λ|some (i,e)=>bif sameKey e.1 k then J (.val fR (H.put r r (.map (v7 o.1 i (e.1,x,e.2.2)) o.2)))else Z|none=>J (.val fR (H.put r r (.map (cQ o.1 [(k,x,o.2)]) (eU o.2))))else Z|_,_=>Z
def JY(b:Tr AV)(H:Heap)(t:al)(m:aH)(k:aH):ah eV:=match P.underlying t,bu P b m with|some (.map a c),J (.map r)=>(H.jT r).bind λo=>(bu P b k).bind λk=>bif ql P a k then(oM P a k o.1 0).bind λ|some (_,e)=>bif sameKey e.1 k then J (.val (.cw [e.2.1,ix e.2.2]) (H.put r r (.map o.1 o.2)))else Z|none=>(zB P c).map λz=>.val (.cw [z,ix o.2]) (H.put r r (.map (cQ o.1 [(k,z,o.2)]) (eU o.2)))else Z|_,_=>Z
def Sm(t:Tr AV)(H:Heap)(m:aH)(s:aH)(x:aH):ah eV:=match bu P t m,bu P t s with|some (.map r),J (.int _ (.ofNat b))=>(H.jT r).bind λo=>(bu P t x).bind λx=>(Ow b o.1 0).map λi=>.val fR (H.put r r (.map (v7 o.1 i.1 (i.2.1,x,i.2.2.2)) o.2))|_,_=>Z
def Sp(a:Tr AV)(H:Heap)(t:al)(x:aH):ah eV:=match P.underlying t,bu P a x with|some (.map _ _),J .il=>J (.val (.ptr H.next 0) (H.alloc (.mapIter Z 0 [] 0)))|some (.map _ _),J (.map m)=>(H.jT m).map λo=>.val (.ptr H.next 0) (H.alloc (.mapIter (J m) o.2 [] o.2))|_,_=>Z
def Sn(t:Tr AV)(H:Heap)(i:aH):ah eV:=match bu P t i with
 |some (.ptr r 0)=>match H.get r with|some (.mapIter Z _ _ _)=>ff H (J (.cw [.bool C]))|some (.mapIter (J m) s seen l)=>(H.jT m).bind λo=>bif aw o.2 s&&(aw l s&&iw (λ(e:ew)=>cM e.2.2 s) o.1)then match Dx seen o.1 with|[]=>ff H (J (.cw [.bool C]))|[e]=>J (.val (.cw [.bool V,e.1,e.2.1]) (H.put r r (.mapIter (J m) s (cQ seen [e.2.2]) l)))|_=>Z else Z|_=>Z
 |_=>Z
def Sk(t:Tr AV)(H:Heap)(i:aH):ah eV:=match bu P t i with
 |some (.ptr r 0)=>match H.get r with
  |some (.mapIter (J m) _ seen D)=>(H.jT m).bind λo=>bif aw o.2 D then match seen with
  |[s]=>match o.1 with|[e]=>bif aw e.2.2 s then ff H (J (.cw [e.1,e.2.1]))else Z|_=>Z
  |_=>Z else Z|_=>Z
 |_=>Z
def JW(m:Tr AV)(H:Heap)(t:aH)(i:Nat):ah eV:=match bu P m t with|some (.cw v)=>ff H (oW v i)|_=>Z
def Eh(t:Tr AV)(H:Heap)(c:Call):ah eV:=(A6 P t c).bind λd=>vU P ak d.target d.args H
def dV(d:Tr AV)(H:Heap)(o:aC):ah eV:=match o.op with|.move x|.assign x=>El P d H x|.pick c a b=>CD P d H c a b|.alloc e=>GL P d H e|.box e x=>GN P d H e x|.build t parts=>Eg P d H t parts|.buildSlice t len parts=>GQ P d H t len parts|.load t a=>GU P d H t a|.store t a x=>En P d H t a x|.nilCheck x=>Em P d H x|.binOp op t x y _=>GM P d H op t x y|.unOp op _ x=>GX P d H op x|.convert src g x=>GR P d H src g x|.makeFunc (.func f) first p=>GV P d H f first p|.makeMap t r=>GW P d H t r|.makeSlice t l c=>JX P d H t l c|.slice t x lo hi j=>NX P d H t x lo hi j|.fieldAddr s x f=>Ei P d H s x f|.field t x f=>GS P d H t x f|.indexAddr t x i=>CA P d H t x i|.index t x i=>Ej P d H t x i|.lookup t x k ok=>CB P d H t x k ok|.mapUpdate t m k x|.insert t m k x=>Ek P d H t m k x|.mapEntry t m k=>JY P d H t m k|.entryStore _ m s x=>Sm P d H m s x|.range t x=>Sp P d H t x|.next h C=>Sn P d H h|.entry h=>Sk P d H h|.extract t i=>JW P d H t i|.call c=>Eh P ak d H c|_=>Z
def sW(f:cu)(d:ah Tmp)(v:AV):ah cu:=match d with|some d=>cu.rec (λfn n t todo e m ro=>bif cM d n then Lk (t.ins d v) λt=>J ⟨fn,n,t,todo,e,m,ro⟩else Z) f|none=>J f
theorem D1(f:cu)(d:ah Tmp)(v:AV):sW f d v=match d with|some d=>bif cM d f.n then J {f with tmps:=f.tmps.ins d v}else Z|none=>J f:=by cases d with|none=>rfl|some d=>simp only[sW,Ps]
def wC(p:Array aC)(t:Tr AV)(o:aC):ah Bool:=match o.guard with|none=>J V|some (j,w)=>match(p[j]?).bind (·.dst)with
 |some d=>match t.get d with|some (.bool b)=>J (b==w)|some .top=>Z|_=>J C
 |none=>J C
def EE(a:List aC):Tr Nat×Nat:=fV (λ(p:Tr Nat×Nat)(o:aC)=>(p.1.ins p.2 (fV (λs(e:Edge)=>bif uq .any e then Nat.lor s (Nat.lor (Nat.shiftLeft 1 e.on) ((p.1.get e.on).getD 0))else s) o.after.toList 0),eU p.2)) a (Tr.nil,0)
def before(a:Tr Nat)(i j:Nat):Bool:=aw (Nat.mod (Nat.shiftRight ((a.get j).getD 0) i) 2) 1
def tied(a:Tr Nat)(i j:Nat):Bool:=before a i j||before a j i
def ov:Op->Bool|.move _|.assign _|.pick ..|.build ..|.nilCheck _|.unOp ..|.makeInterface ..|.makeFunc ..|.fieldAddr ..|.field ..|.indexAddr ..|.index ..|.typeAssert ..|.extract ..=>V|.binOp ..=>V|_=>C
def yW:Op->Bool|.load ..|.lookup ..|.slice ..|.alloc _|.box ..|.buildSlice ..|.makeMap ..|.makeSlice ..=>V|.call {callee:=.builtin .len,..}|.call {callee:=.builtin .cap,..}=>V|_=>C
def JC(s:List aC)(j:Nat):Bool:=let a:=(EE s).1
 (fV (λ(p:Bool×Nat)(o:aC)=>(p.1&&(ov o.op||yW o.op||aw p.2 j||tied a p.2 j),eU p.2)) s (V,0)).1
def rj(o:List aC)(i j:Nat):Bool:=tied (EE o).1 i j
def tmpsOf(o:aC):List Tmp:=fV (λa x=>match x with|.tmp t=>t::a|_=>a) o.op.operands.toList []
def akJ(s:List aC):ah (Tr Nat):=(oN (λ(p:Tr Nat×Nat)(o:aC)=>match o.dst with|none=>J (p.1,eU p.2)|some t=>match p.1.get t with|none=>J (p.1.ins t p.2,eU p.2)|some _=>Z) s (Tr.nil,0)).map Prod.fst
def wj(s:List aC):Bool:=match akJ s with|none=>C|some w=>let a:=(EE s).1
 (fV (λ(p:Bool×Nat)(o:aC)=>(p.1&&(iw (λ(e:Edge)=>!(uq .any e)||cM e.on p.2) o.after.toList&&(match o.guard with|none=>V|some (g,_)=>before a g p.2&&(match oW s g with|some q=>q.dst.isSome|none=>C))&&iw (λt=>match w.get t with|none=>V|some k=>aw k p.2||tied a k p.2) (tmpsOf o)),eU p.2)) s (V,0)).1
def ua(H:Heap)(i:Nat):ah Nat:=match H.get i with|some (.cells _ root _ _)=>J root|_=>Z
inductive Touch where|rd|wr|look(t:al)(k:AV)|entry(t:al)(k:AV)
def Gv(t:al)(k:AV):Bool:=match P.underlying t with|some (.map a _)=>(match mQ P 50 a k k with|some V=>V|_=>C)|_=>C
def ey(b:Tr AV)(H:Heap)(o:aC):ah (List (Touch×Nat)):=match o.op with
 |.alloc _|.box ..|.buildSlice ..|.makeMap ..|.makeSlice ..=>J []|.load _ a=>match bu P b a with|some (.ptr id _)=>(ua H id).map λr=>[(.rd,r)]|_=>Z
 |.store _ a _=>match bu P b a with|some (.ptr id _)=>(ua H id).map λr=>[(.wr,r)]|_=>Z
 |.lookup t m k C=>match bu P b m,bu P b k with|some (.map r),J k=>J [(bif Gv P t k then .look t k else .rd,r)]|some .il,_=>J []|_,_=>Z
 |.lookup _ m _ V=>match bu P b m with|some (.map r)=>J [(.rd,r)]|some .il=>J []|_=>Z
 |.mapEntry t m k=>match bu P b m,bu P b k with|some (.map r),J k=>J [(.entry t k,r)]|_,_=>Z
 |.slice _ x _ _ _=>match bu P b x with|some (.sl id _ _ _ _)=>(ua H id).map λr=>[(.rd,r)]|some (.str _)|some .bc=>J []|_=>Z
 |.call {callee:=.builtin .len,args,..}=>match args.toList with
  |[x]=>match bu P b x with|some (.map r)=>J [(.rd,r)]|some _=>J []|none=>Z
  |_=>Z
 |.call {callee:=.builtin .cap,..}=>J []|_=>Z
structure jL where reads:ah (List (Touch×Nat))writes:an
def Cg(x:Nat)(l:an):Bool:=!(iw (λy=>!(aw x y)) l)
def clear(w:an)(r:ah (List (Touch×Nat))):Bool:=match w,r with|[],_=>V|_,Z=>C|w,J l=>iw (λt=>!(Cg t.2 w)) l
def QA(a b:jL):Bool:=match a.reads,b.reads with|some [(.look t k,r)],J [(.entry e c,d)]=>aw r d&&(aw t e&&sameKey k c)|_,_=>C
def apart(a b:jL):Bool:=(clear a.writes b.reads&&clear b.writes a.reads&&iw (λx=>!(Cg x b.writes)) a.writes)||QA a b
inductive Bz where|next(fr:cu)(H:Heap)
inductive Ez where|val(v:AV)(H:Heap)
def fP(r:Rec)(t:Tr AV)(H:Heap)(o:aC):ah Ez:=(dV P ak t H o).bind λ|.val v H=>J (.val v H)|.call c H=>(r c H).bind λ|.ret v H=>J (.val v H)
def BQ(r:Rec)(p:Array aC)(f:cu)(H:Heap)(o:aC):ah Bz:=(wC p f.tmps o).bind λw=>bif w then(fP P ak r f.tmps H o).bind λ|.val v H=>(sW f o.dst v).map λf=>NH (λH=>.next f H) H else(sW f o.dst fR).map λf=>NH (λH=>.next f H) H
theorem KS(r:Rec)(p:Array aC)(f:cu)(H:Heap)(o:aC):BQ P ak r p f H o=(wC p f.tmps o).bind λw=>bif w then(fP P ak r f.tmps H o).bind λ|.val v H=>(sW f o.dst v).map λf=>.next f H else(sW f o.dst fR).map λf=>.next f H:=by unfold BQ;simp only[akm]
def Ba(r:Rec)(p:Array aC)(l:List aC):cu->Heap->ah Bz:=kG (λfr H=>J (.next fr H)) (λo _ i fr H=>(BQ P ak r p fr H o).bind λ|.next fr H=>i fr H) l
def Heap.resume(a H:Heap):Heap:={H with bn:=a.bn,bK:=fV (λl r=>Heap.note a.bn r l) H.bK a.bK,cK:=fV (λl r=>Heap.note a.bn r l) H.cK a.cK}
def Heap.fresh(H:Heap):Heap:={H with bn:=H.next,bK:=[],cK:=[]}
def sI(p:Array aC)(o:aC)(j:Nat)(d:jL)(H:Heap):Bool:=match H.cK with|[]=>V|_=>JC p.toList j&&(!(yW o.op)&&(match d.reads with|none=>V|some _=>C))
def tX(o:aC)(H:Heap):Bool:=bif yW o.op then(match H.bK,H.cK with|[],[]=>V|_,_=>C)else V
def within(d:jL):Bool:=match d.reads with|none=>V|some l=>iw (λr=>Cg r (AS (λ(t:Touch×Nat)=>t.2) l)) d.writes
def va(r:Rec)(p:Array aC)(l:List aC):Nat->List (Nat×jL)->cu->Heap->ah Bz:=kG (λ_ _ fr H=>J (.next fr H)) (λo _ i j g fr H=>(wC p fr.tmps o).bind λw=>bif !w then(sW fr o.dst fR).bind λfr=>i (eU j) g fr H else(fP P ak r fr.tmps H.fresh o).bind λ
 |.val v a=>(sW fr o.dst v).bind λf=>bif ov o.op then i (eU j) g f H else let gL:jL:=⟨ey P fr.tmps H o,a.bK⟩
 bif iw (λ(e:Nat×jL)=>apart e.2 gL||rj p.toList e.1 j) g&&(sI p o j gL a&&(tX o a&&within gL))then NH (λH=>i (eU j) ((j,gL)::g) f H) (H.resume a)else Z) l
def Jj(n:Func)(f:cu)(H:Heap):ah AV:=(cE (λ|.tmp t=>J (f.tmp t)|.cell a t=>match f.tmp a with|.ptr id o=>loadVar P H t id o|_=>Z) n.results.toList).map λ|[v]=>v|s=>.cw s
def ag9:List Item->ah bz|[]=>Z|_=>J .ret
def wO(e:Rec)(f:cu)(H:Heap):ah Out:=match f.roundOf with|none=>e (f.Rw (.returning)) H|some l=>match H.get l with
 |some (.loop r)=>let j:ah bz:=ag9 f.todo
 J (.ret (.bool j.isNone) (H.put l l (.loop {r with state:=(match j with|none=>.ready|some _=>.done),pending:=j})))|_=>Z
def xZ(r:Rec)(f:cu)(H:Heap)(c:aH)(t:bz)(T:bz)(k:List Item):ah Out:=match bu P f.tmps c with|some (.bool V)=>r (f.ve (.code t::k)) H|some (.bool C)=>r (f.ve (.code T::k)) H|_=>Z
def ya(e:Rec)(f:cu)(H:Heap)(i:Nat)(k:List Item):ah Out:=match exitTo i k with|some k=>e (f.ve (k)) H|none=>match f.roundOf with|none=>Z|some l=>match H.get l with|some (.loop r)=>J (.ret (.bool C) (H.put l l (.loop {r with state:=.done,pending:=J (.exit i)})))|_=>Z
def yb(r:Rec)(f:cu)(H:Heap)(o:Array aC)(d:Bool)(k:List Item):ah Out:=let f:=(f.ve (k))
 (bif d then(bif wj o.toList then va P ak r o o.toList 0 [] f H else Z)else Ba P ak r o o.toList f H).bind λ|.next f H=>r f H
def Ks(e:Rec)(d:cu)(H:Heap)(f:aH)(p:Array Tmp)(s:bz)(b:bz)(k:List Item):ah Out:=match bu P d.tmps f with
 |some (.func g first a)=>let h:ah (Nat×an×Heap):=match d.roundOf with
  |some l=>match H.get l with|some (.loop r)=>J (r.defers,[],H)|_=>Z
  |none=>J (H.next,[H.next],H.alloc (.deferred V))
 h.bind λm=>let l:=m.2.2.next
  let H:=m.2.2.alloc (.loop {state:=.ready,pending:=Z,fn:=d.fn,n:=d.n,tmps:=d.tmps,params:=p.toList,assign:=s,body:=b,defers:=m.1})
  let d:=((d.ve (k)).Rv (cQ m.2.1 d.defers))
  match yd P ak g (cQ (cQ first [.yield l]) a) H with
  |some (.call c H)=>(e c H).bind λ|.ret _ H=>match H.get l with
   |some (.loop r)=>match r.state with|.busy=>Z|_=>let H:=H.put l l (.loop {r with state:=.exhausted})
   match r.pending with|some c=>e (d.ve (.code c::k)) H|none=>e d H
   |_=>Z
  |_=>Z
 |_=>Z
def BJ(e:Rec)(f:cu)(H:Heap)(k:List Item):ah Out:=match f.roundOf with
 |some l=>match H.get l with
  |some (.loop r)=>match r.state with|.ready=>e (f.ve (k)) (H.put l l (.loop {r with state:=.busy}))|_=>Z
  |_=>Z
 |none=>Z
def vw(r:Rec)(d:cu)(H:Heap):ah Out:=match d.todo with|[]|.code .ret::_=>wO r d H|.code .skip::k|.code (.label _)::k|.inBlock _::k|.inScope _::k=>r (d.ve (k)) H|.code (.seq a b)::k=>r (d.ve (.code a::.code b::k)) H|.code (.cond c t T)::k=>xZ P r d H c t T k|.code (.block id b)::k=>r (d.ve (.code b::.inBlock id::k)) H|.code (.loop b)::k|.inLoop b::k=>r (d.ve (.code b::.inLoop b::k)) H|.code (.scope b)::k=>r (d.ve (.code b::.inScope b::k)) H|.code (.exit id)::k=>ya r d H id k|.code (.region _ o w)::k=>yb P ak r d H o w k|.code (.rangeFunc f p s b)::k=>Ks P ak r d H f p s b k|.beginRound::k=>BJ r d H k|_=>Z
def EH(e:Rec)(a:cu)(H:Heap):ah Out:=match a.roundOf with|some _=>Z|none=>match a.defers with
 |r::d=>match H.get r with|some (.deferred V)=>e (a.Rv d) (H.put r r (.deferred C))|_=>Z
 |[]=>(Lj a.fn λf=>P.funcs[f]?).bind λfn=>(Jj P fn a H).map λv=>.ret v H
def body(r:Rec)(f:cu)(H:Heap):ah Out:=match f.mode with|.run=>vw P ak r f H|.returning=>EH P r f H|_=>Z
def run(n:Nat):Rec:=Nat.rec (λ_ _=>Z) (λ_ i=>body P ak i) n
end
end Go.AM
namespace Go.VM
open Go Go.AM
inductive DV where|bool(b:Bool)|int(k:gZ)(n:Int)|str(s:List Nat)|nl|ay(l:List DV)(e:al)(esz:Nat)|ptr(id off:Nat)|jV|map(r:Nat)|il|func(f:bS)(first captured:List DV)|dK(l:Nat)|nilFunc|agg(l:List DV)|jk
abbrev aA:=List DV
mutual
def DV.ia (e : al) : DV -> Bool
  | .ay l e1 _ => !(aw e1 e) && jB e l
  | .agg l => jB e l
  | .func _ a b => jB e a && jB e b
  | _ => V
def jB (e : al) : aA -> Bool
  | [] => V
  | d :: t => d.ia e && jB e t
end
inductive aX where|no|any|ty(e:al)|ex(e:al)|full(e:al)
inductive SV where|dv(d:DV)(o:aX)|tp(l:List (DV×aX))|lp(s off:Nat)|ev(d:DV)|sr(t:Nat)|se(t i off:Nat)|gr(id off:Nat)|hd(n:Nat)|dd
abbrev cT:=List (Nat×SV)
structure LB where
 cells:aA
 own:List (Nat×aX)
abbrev dX:=List (Nat×LB)
def DV.bj:DV->Bool|.agg _=>C|_=>V
def DV.flat:DV->aA|.agg l=>l|v=>[v]
abbrev pf:=DV×DV×Nat
structure aby where
 state:LoopState
 pending:ah bz
 fn:bS
 n:Nat
 sl:cT
 params:List Tmp
 assign:bz
 body:bz
inductive GO where|box(b:LB)|map(es:List pf)(clock:Nat)|loop(l:aby)
structure GH where
 next:Nat
 yQ:List (Nat×GO)
def look{a:Type}(l:List (Nat×a))(n:Nat):ah a:=match l with|[]=>Z|(m,x)::t=>bif aw m n then J x else look t n
def put{a:Type}(l:List (Nat×a))(n:Nat)(x:a):List (Nat×a):=match l with|[]=>[(n,x)]|(m,y)::t=>bif aw m n then(n,x)::t else(m,y)::put t n x
def GH.get(g:GH)(i:Nat):ah GO:=look g.yQ i
def GH.set(g:GH)(i:Nat)(o:GO):GH:={g with yQ:=put g.yQ i o}
def GH.alloc(g:GH)(o:GO):GH:={next:=g.next+1,yQ:=put g.yQ g.next o}
def GH.empty:GH:={next:=0,yQ:=[]}
structure St where
 fn:bS
 n:Nat
 sl:cT
 lb:dX
 g:GH
def Oj:AV->ah DV|.bool b=>J (.bool b)|.int k n=>J (.int k n)|.str s=>J (.str s)|.jV=>J .jV|.bc=>J .nl|.il=>J .il|.nilFunc=>J .nilFunc|_=>Z
def BI:aD->ah aA|[]=>J []|a::t=>(Oj a).bind λd=>(BI t).bind λl=>J (d::l)
def CM:AV->ah DV|.agg l=>(BI l).map .agg|v=>Oj v
def CV:SV->ah DV|.dv d _=>J d|_=>Z
def tW(d:DV):aX:=match d with|.nl=>.any|_=>.no
section
variable(P:aM)(aq:Nat->ah aA)
def fT(t:al):ah DV:=(zB P t).bind CM
def cP(s:St):aH->ah SV|.tmp t=>(match look s.sl t with|some .dd=>Z|r=>r)|.const v=>(xx v).bind λa=>(CM a).map λd=>.dv d (tW d)|.global g=>(aq g).map λl=>.ev (.agg l)|.func f=>J (.dv (.func f [] []) .no)
def bp(s:St)(x:aH):ah DV:=(cP aq s x).bind CV
def lO(t:al)(c:aA)(o:Nat):ah DV:=match AM.isAgg P t with|some V=>(bC P t).bind λn=>bif bV (o+n) c.length then J (.agg ((c.drop o).take n))else Z|some C=>c[o]?|none=>Z
def pR(c:aA)(o:Nat)(v:aA):aA:=c.take o++v++c.drop (o+v.length)
def BT(l:Nat->ah (Nat×Nat)):List (Nat×DV)->aA->ah aA|[],cells=>J cells|p::t,cells=>(l p.1).bind λo=>bif aw p.2.flat.length o.2&&bV (o.1+o.2) cells.length then BT l t (pR cells o.1 p.2.flat)else Z
def Am(h:al->DV->DV->ah Bool)(t:al)(x y:DV):ah Bool:=match P.underlying t,x,y with|some .bool,.bool a,.bool b=>J (a==b)|some (.int _),.int k a,.int d b=>if k=d then J (ai a b)else Z|some .string,.str a,.str b=>J (Ak a b)|some (.struct i),.agg s,.agg e=>bif P.stoodInHeld t then Z else oN (λc(f:Field)=>bif c then(bif f.name== "_"then J V else(lO P f.type s f.offset).bind λa=>(lO P f.type e f.offset).bind λb=>h f.type a b)else J C) i.toList V|some (.slice _),.nl,.nl=>J V|some (.slice _),.nl,.ay ..|some (.slice _),.ay ..,.nl=>J C|_,_,_=>Z
def kN(f:Nat):al->DV->DV->ah Bool:=Nat.rec (λ_ _ _=>Z) (λ_ i=>Am P i) f
def Lq(t:al)(x y:DV):Bool:=match x,y with|.agg _,.agg _=>!P.eqGuardType P.depth t|_,_=>V
def nX(op:BinOp)(t:al)(x y:DV):ah DV:=match op,x,y with|.shr,_,_=>Z|op,.int k a,.int c b=>if k=c then(IG P op k a b).bind CM else Z|op,.str a,.str b=>(RO op a b).bind CM|.eql,x,y=>bif Lq P t x y then(kN P 50 t x y).map .bool else Z|.neq,x,y=>bif Lq P t x y then(kN P 50 t x y).map λb=>.bool (!b)else Z|_,_,_=>Z
def JH(o:UnOp)(x:DV):ah DV:=match o,x with|.neg,.int k n=>J (.int k (fS k (nS 0 n)))|.not,.bool b=>J (.bool (!b))|_,_=>Z
inductive jq where|none|len|ref|take|copy
def jq.join:jq->jq->jq|.none,u|u,.none=>u|.len,.len=>.len|.len,.ref|.ref,.len|.ref,.ref=>.ref|.take,_|_,.take=>.take|_,_=>.copy
def qj(d:Tmp):aH->Bool|.tmp t=>aw t d|_=>C
def aa2(k:bS->Nat)(d:Tmp)(o:Op):jq:=match o with|.assign x=>bif qj d x then .take else .none|.store _ a x=>bif qj d x then .take else bif qj d a then .copy else .none|.indexAddr _ x i=>bif qj d x then .ref else bif qj d i then .copy else .none|.call {callee:=.builtin .len,args,..}=>bif args.toList.any (qj d)then .len else .none|.call {callee:=.builtin .append,args,..}=>(match args.toList with|x::l=>bif qj d x then .take else bif l.any (qj d)then .copy else .none|[]=>.none)|.call {callee:=.value (.func f),args,..}=>(match args.toList with|x::l=>bif qj d x&&aw (k f) 1||aw (k f) 3&&(qj d x||l.any (qj d))then .ref else bif qj d x&&aw (k f) 2 then .take else bif qj d x||l.any (qj d)then .copy else .none|[]=>.none)|o=>bif o.operands.toList.any (qj d)then .copy else .none
def JK(f:bS->Nat)(l:List aC)(d:Tmp):jq:=match l with|[]=>.none|o::t=>jq.join (aa2 f d o.op) (JK f t d)
def GI(f:bS->Nat)(c:an)(l:List aC)(d:Tmp):jq:=bif c.any (aw d)then .copy else JK f l d
def rf:aX->aX|.ex e=>.ty e|o=>o
def share:SV->SV|.dv d o=>.dv d (rf o)|.tp _=>.dd|v=>v
def leave:SV->SV|.dv d (.ex _)=>.dv .jk .no|.dv d _=>.dv d .no|.tp _=>.dd|v=>v
def aQ(f:SV->SV)(s:St)(x:aH):St:=match x with
 |.tmp t=>match look s.sl t with|some v=>{s with sl:=put s.sl t (f v)}|none=>s
 |_=>s
def pJ(s:Nat):SV->SV|.sr t=>bif aw t s then .dd else .sr t|.se t i o=>bif aw t s then .dd else .se t i o|v=>v
def iG(l:cT)(s:Nat):cT:=l.map λx=>(x.1,pJ s x.2)
def Gn(d:Nat):SV->Bool|.sr s|.se s _ _=>aw s d|_=>C
def aJ(s:St)(d:ah Tmp)(v:SV):ah St:=match d with|none=>J s|some d=>bif cM d s.n&&!(Gn d v)then J {s with sl:=put (iG s.sl d) d v}else Z
def vW(s:Nat):SV->SV|.lp t o=>bif aw t s then .dd else .lp t o|v=>v
def E3(l:cT)(s:Nat):cT:=l.map λx=>(x.1,vW s x.2)
def DA(u:Bool)(s:St)(d:ah Tmp)(c:aA):ah St:=match d with|none=>Z|some d=>bif cM d s.n then(bif u then J {s with sl:=put (iG s.sl d) d (.dv (.ptr s.g.next 0) .no),g:=s.g.alloc (.box ⟨c,[]⟩)}else J {s with sl:=put (iG (E3 s.sl d) d) d (.lp d 0),lb:=put s.lb d ⟨c,[]⟩})else Z
def pI:SV->SV|.gr _ _=>.dd|v=>v
def cV(s:cT):cT:=s.map λx=>(x.1,pI x.2)
def jo(l:aA)(i:Nat)(v:DV):aA:=l.take i++v::l.drop (i+1)
def pK:DV->ah Nat|.nl=>J 0|.ay l _ _=>J l.length|_=>Z
def fg(b:LB)(o:Nat):aX:=match b.cells[o]? with|some .nl=>.any|_=>(look b.own o).getD .no
def dB(l:List (Nat×aX))(o n:Nat):List (Nat×aX):=l.filter λx=>cM x.1 o||bV (o+n) x.1
def pO(u:jq)(b:LB)(o:Nat)(d:DV)(w:aX):SV×LB:=match u,w with|.take,.ex e=>(.dv d (.ex e),{cells:=jo b.cells o .jk,own:=dB b.own o 1})|.take,.ty e=>(.dv d (.ty e),{b with own:=dB b.own o 1})|.take,.any=>(.dv d .any,b)|.take,_=>(.dv d .no,b)|.len,.ex e=>(match pK d with|some n=>(.hd n,b)|none=>(.dv d .no,{b with own:=(o,.ty e)::dB b.own o 1}))|_,.ex e=>(.dv d .no,{b with own:=(o,.ty e)::dB b.own o 1})|_,_=>(.dv d .no,b)
def gP(u:jq)(t:al)(b:LB)(o:Nat):ah (SV×LB):=match AM.isAgg P t with|some V=>(bC P t).bind λn=>bif bV (o+n) b.cells.length then J (.dv (.agg ((b.cells.drop o).take n)) .no,{b with own:=b.own.map λx=>(x.1,rf x.2)})else Z|some C=>(b.cells[o]?).map λd=>pO u b o d (fg b o)|none=>Z
def qn(f:Nat)(v:DV)(o:aX):List (Nat×aX):=match v.bj,o with|true,.ty e=>[(f,.ty e)]|true,.ex e=>[(f,.ex e)]|_,_=>[]
def zh(t:al)(b:LB)(f:Nat)(v:DV)(o:aX):ah LB:=(bC P t).bind λn=>bif aw v.flat.length n&&bV (f+n) b.cells.length then J {cells:=pR b.cells f v.flat,own:=qn f v o++dB b.own f n}else Z
def findD(t:al)(k:DV):List pf->Nat->ah (ah (Nat×pf))|[],_=>J Z|e::l,i=>(kN P 50 t k e.1).bind λb=>bif b then J (J (i,e))else findD t k l (i+1)
def vV(t:al)(k:DV):Bool:=match P.underlying t,k with|some .bool,.bool _|some (.int _),.int _ _|some .string,.str _=>V|_,_=>C
def Dz:DV->ah aA|.nl=>J []|.ay l _ _=>J l|_=>Z
def goN(n:Nat):DV:=.int .i64 (.ofNat n)
def nY(x:ah DV)(y d:Nat):ah Nat:=match x with|some (.int _ (.ofNat n))=>bif bV n y then J n else Z|some _=>Z|none=>J d
def oz(t:al)(x:DV)(o i c:ah DV):ah (DV×aX):=match P.underlying t,x with|some (.slice a),.nl=>bif c.isSome&&i.isNone then Z else(bC P a).bind λ_=>(nY c 0 0).bind λ_=>(nY i 0 0).bind λh=>(nY o h 0).bind λ_=>J (.nl,.any)|some (.slice a),.ay b e s=>(bC P a).bind λn=>bif aw n s&&aw e a then match c with|none=>(nY i b.length b.length).bind λh=>bif i.isNone||bV h bF then(nY o h 0).map λl=>(.ay ((b.take h).drop l) e s,.no)else Z|some _=>match i with|none=>Z|some _=>(nY c b.length 0).bind λm=>bif bV m bF then(nY i m 0).bind λh=>(nY o h 0).map λl=>(.ay ((b.take h).drop l) e s,bif aw h m then .full a else .no)else Z else Z|_,_=>Z
def iM(m:al)(s b:Nat)(d:DV)(o:aX)(n:aA):ah (DV×aX):=bif aw s 0 then Z else match d with|.nl=>bif bV (n.length*b) bF&&bV n.length bF then(match n with|[]=>J (.nl,.any)|_=>J (.ay n m s,.ex m))else Z|.ay l e0 e=>bif aw e s&&aw e0 m&&(bV ((l.length+n.length)*b) bF&&bV (l.length+n.length) bF)then(match n with|[]=>J (.ay l e0 e,o)|_=>match o with|.ty e1=>bif aw e1 m then J (.ay (l++n) m s,.ty m)else Z|.ex e1=>bif aw e1 m then J (.ay (l++n) m s,.ex m)else Z|.full e1=>bif aw e1 m then J (.ay (l++n) m s,.ex m)else Z|_=>Z)else Z|_=>Z
def nB(t:St)(s:Nat):ah (aA×al×Nat):=match look t.sl s with|some (.dv (.ay l e n) (.ex _))=>J (l,e,n)|_=>Z
def reshape(e:DV)(s:aA):ah DV:=match e,s with|.agg _,s=>J (.agg s)|_,[c]=>bif c.bj then J c else Z|_,_=>Z
def EW(s:St)(i o:Nat):ah DV:=match s.g.get i with|some (.box b)=>(match b.cells[o]?,fg b o with|some d,.ex _=>J d|_,_=>Z)|_=>Z
def Ad(t:St)(x:aH):ah DV:=(cP aq t x).bind λ|.dv d _=>J d|.sr s=>(nB t s).map λy=>.ay y.1 y.2.1 y.2.2|.gr id o=>EW t id o|_=>Z
def dM(R:bS->Nat)(S Q:an)(B:List aC)(h:St)(o:aC):ah St:=match o.op with
 |.move x=>(cP aq h x).bind λv=>match o.dst with|none=>J h|some d=>(match v with|.tp _=>aJ (aQ leave h x) (J d) v|.dv dd E=>(match GI R Q B d,E,x with|.take,.ex _,_=>(aJ h (J d) v).map λh=>aQ (λ_=>.sr d) h x|.take,_,_=>aJ (aQ leave h x) (J d) v|.len,.ex _,_=>(pK dd).bind λn=>aJ h (J d) (.hd n)|.ref,.ex _,.tmp t=>aJ h (J d) (.sr t)|_,.any,_=>aJ h (J d) v|_,_,_=>aJ (aQ share h x) (J d) (.dv dd .no))|v=>aJ h (J d) v)
 |.assign x=>(cP aq h x).bind λv=>aJ (aQ leave h x) o.dst v|.pick c a b=>match bp aq h c with|some (.bool c)=>bif c then(bp aq h a).bind λv=>aJ h o.dst (.dv v .no)else(bp aq h b).bind λv=>aJ h o.dst (.dv v .no)|_=>Z
 |.alloc e=>(fT P e).bind λz=>DA (match o.dst with|some d=>S.any (aw d)|none=>C) h o.dst z.flat|.box _ x=>(bp aq h x).bind λv=>DA (match o.dst with|some d=>S.any (aw d)|none=>C) h o.dst v.flat|.build t parts=>(fT P t).bind λz=>(cE (λ(p:Nat×aH)=>(bp aq h p.2).map λv=>(p.1,v)) parts.toList).bind λO=>match P.underlying t with|some (.struct w)=>(cE (λ(f:Field)=>(bC P f.type).map λn=>(f.offset,n)) w.toList).bind λD=>(BT (λi=>oW D i) O z.flat).bind λl=>aJ h o.dst (.dv (.agg l) .no)|_=>Z
 |.buildSlice t len parts=>match P.underlying t with|some (.slice j)=>(bC P j).bind λn=>bif aw n 0||!(bV (len*n) 16777216)then Z else(cE (λ(p:Nat×aH)=>(bp aq h p.2).map λv=>(p.1,v)) parts.toList).bind λO=>(fT P j).bind λz=>bif aw z.flat.length n then(oN (λ(l:aA)(p:Nat×DV)=>bif cM p.1 l.length&&(aw p.2.flat.length n&&(p.2.bj==z.bj))then J (jo l p.1 p.2)else Z) O (List.replicate len z)).bind λl=>aJ h o.dst (.dv (.ay l j n) (.ex j))else Z|_=>Z
 |.load t a=>let u:=match o.dst with|some d=>GI R Q B d|none=>.none
  match cP aq h a with
  |some (.lp s q)=>(look h.lb s).bind λb=>(gP P u t b q).bind λr=>aJ {h with lb:=put h.lb s r.2} o.dst r.1|some (.ev d)=>match AM.isAgg P t with|some V=>(bC P t).bind λn=>bif !d.bj&&aw d.flat.length n then aJ h o.dst (.dv d .no)else Z|some C=>bif d.bj then aJ h o.dst (.dv d .no)else Z|none=>Z
  |some (.se s i q)=>(nB h s).bind λx=>(x.1[i]?).bind λd=>(lO P t d.flat q).bind λd=>aJ h o.dst (.dv d .no)|some (.dv (.ptr id q) _)=>match h.g.get id with|some (.box b)=>(match u,fg b q,AM.isAgg P t with|.ref,.ex _,J C=>bif cM q b.cells.length then aJ h o.dst (.gr id q)else Z|_,_,_=>(gP P u t b q).bind λr=>aJ {h with g:=h.g.set id (.box r.2)} o.dst r.1)|_=>Z
  |_=>Z
 |.store t a x=>(cP aq h x).bind λv=>match v with
  |.dv d E=>match cP aq h a with
   |some (.lp s q)=>(look h.lb s).bind λb=>(zh P t b q d E).bind λb=>aJ {aQ leave h x with sl:=cV (aQ leave h x).sl,lb:=put h.lb s b} o.dst (.tp [])|some (.dv (.ptr id q) _)=>match h.g.get id with|some (.box b)=>(zh P t b q d E).bind λb=>aJ {aQ leave h x with sl:=cV (aQ leave h x).sl,g:=h.g.set id (.box b)} o.dst (.tp [])|_=>Z
   |some (.se s i q)=>(nB (aQ share h x) s).bind λy=>(y.1[i]?).bind λK=>(bC P t).bind λn=>bif aw d.flat.length n&&bV (q+n) K.flat.length then(reshape K (pR K.flat q d.flat)).bind λL=>aJ {aQ share h x with sl:=put (cV (aQ share h x).sl) s (.dv (.ay (jo y.1 i L) y.2.1 y.2.2) (.ex y.2.1))} o.dst (.tp [])else Z|_=>Z
  |_=>Z
 |.nilCheck x=>(cP aq h x).bind λv=>match v with|.lp s _=>(look h.lb s).bind λ_=>aJ h o.dst v|.ev _|.se ..=>aJ h o.dst v|.dv (.ptr id q) _=>aJ h o.dst (.dv (.ptr id q) .no)|_=>Z
 |.binOp op t x y _=>(bp aq h x).bind λa=>(bp aq h y).bind λb=>(nX P op t a b).bind λv=>aJ h o.dst (.dv v .no)|.unOp op _ x=>(bp aq h x).bind λa=>(JH op a).bind λv=>aJ h o.dst (.dv v .no)|.convert src I x=>(bp aq h x).bind λv=>match P.underlying src,P.underlying I,v with|some _,J (.int k),.int _ n=>aJ h o.dst (.dv (.int k (fS k n)) .no)|some .string,J (.slice e),.str s=>(match P.underlying e with|some (.int .u8)=>aJ h o.dst (.dv (.ay (s.map λb=>.int .u8 (.ofNat b)) e 1) .no)|_=>Z)|_,_,_=>Z
 |.makeFunc (.func f) first A=>(cE (bp aq h) first.toList).bind λa=>(cE (bp aq h) A.toList).bind λb=>aJ h o.dst (.dv (.func f a b) .no)|.makeMap _ Z=>aJ {h with g:=h.g.alloc (.map [] 0)} o.dst (.dv (.map h.g.next) .no)|.slice t x lo hi N=>(bp aq h x).bind λv=>(match lo with|some x=>(bp aq h x).map J|none=>J Z).bind λlo=>(match hi with|some x=>(bp aq h x).map J|none=>J Z).bind λhi=>(match N with|some x=>(bp aq h x).map J|none=>J Z).bind λN=>(oz P t v lo hi N).bind λr=>aJ h o.dst (.dv r.1 r.2)|.fieldAddr s x f=>match P.underlying s with
  |some (.struct w)=>(w[f]?).bind λG=>(bC P G.type).bind λn=>match n,cP aq h x with|eU _,J (.lp b q)=>(look h.lb b).bind λ_=>aJ h o.dst (.lp b (q+G.offset))|eU _,J (.dv (.ptr id q) _)=>aJ h o.dst (.dv (.ptr id (q+G.offset)) .no)|eU _,J (.se s i q)=>aJ h o.dst (.se s i (q+G.offset))|eU _,J (.ev (.agg l))=>(lO P G.type l G.offset).bind λd=>aJ h o.dst (.ev d)|_,_=>Z
  |_=>Z
 |.indexAddr t x i=>match bp aq h i with
  |some (.int _ (.ofNat i))=>match P.underlying t,cP aq h x with|some (.slice j),J (.dv (.ay l e M) E)=>(bC P j).bind λn=>bif aw n M&&aw e j then(match E,x with|.ex _,.tmp s=>bif cM i l.length then aJ h o.dst (.se s i 0)else Z|_,_=>(l[i]?).bind λd=>aJ h o.dst (.ev d))else Z|some (.slice j),J (.sr s)=>(nB h s).bind λy=>(bC P j).bind λn=>bif aw n y.2.2&&(aw y.2.1 j&&cM i y.1.length)then aJ h o.dst (.se s i 0)else Z|some (.array len j),J (.ev (.agg l))=>(bC P j).bind λn=>bif cM i len then(lO P j l (i*n)).bind λd=>aJ h o.dst (.ev d)else Z|some (.array len j),J (.lp s q)=>(bC P j).bind λn=>bif cM i len then(look h.lb s).bind λ_=>aJ h o.dst (.lp s (q+i*n))else Z|_,_=>Z
  |_=>Z
 |.index t x i=>match bp aq h i with
  |some (.int _ (.ofNat i))=>match P.underlying t,bp aq h x with|some .string,J (.str s)=>(s[i]?).bind λb=>aJ h o.dst (.dv (.int .u8 (.ofNat b)) .no)|_,_=>Z
  |_=>Z
 |.lookup t x k C=>match P.underlying t,bp aq h x with
  |some (.map H T),J (.map r)=>match h.g.get r with|some (.map F _)=>(bp aq h k).bind λk=>bif vV P H k then(findD P H k F 0).bind λ|some (_,e)=>aJ h o.dst (.dv e.2.1 .no)|none=>(fT P T).bind λz=>aJ h o.dst (.dv z .no)else Z|_=>Z
  |_,_=>Z
 |.mapUpdate t m k x=>match P.underlying t,bp aq h m with
  |some (.map H _),J (.map r)=>match h.g.get r with|some (.map F c)=>(bp aq h k).bind λk=>(bp aq h x).bind λx=>bif vV P H k then(findD P H k F 0).bind λ|some (i,e)=>aJ {h with sl:=cV h.sl,g:=h.g.set r (.map (F.take i++(e.1,x,e.2.2)::F.drop (i+1)) c)} o.dst (.tp [])|none=>aJ {h with sl:=cV h.sl,g:=h.g.set r (.map (F++[(k,x,c)]) (c+1))} o.dst (.tp [])else Z|_=>Z
  |_,_=>Z
 |.extract t i=>match t with
  |.tmp s=>match look h.sl s with|some (.tp l)=>(l[i]?).bind λx=>aJ {h with sl:=put h.sl s (.tp (l.take i++(match x.2 with|.ex _=>(DV.jk,aX.no)|_=>(x.1,.no))::l.drop (i+1)))} o.dst (.dv x.1 x.2)|_=>Z
  |_=>Z
 |.call c=>match c.callee with
  |.builtin .len=>match c.args.toList with
   |[x]=>(cP aq h x).bind λv=>match c.argTypes[0]?.bind P.underlying,v with|some (.array n _),.dv _ _=>aJ h o.dst (.dv (goN n) .no)|some .string,.dv (.str s) _=>aJ h o.dst (.dv (goN s.length) .no)|some (.slice _),.dv d _=>(pK d).bind λn=>aJ h o.dst (.dv (goN n) .no)|some (.slice _),.hd n=>aJ h o.dst (.dv (goN n) .no)|some (.slice _),.sr s=>(nB h s).bind λy=>aJ h o.dst (.dv (goN y.1.length) .no)|some (.slice _),.gr id q=>(EW h id q).bind λd=>(pK d).bind λn=>aJ h o.dst (.dv (goN n) .no)|_,_=>Z
   |_=>Z
  |.builtin .append=>match c.args.toList with
   |[s,x]=>match c.argTypes[0]?.bind P.underlying,c.argTypes[1]?.bind P.underlying with
    |some (.slice j),J (.slice _)=>match P.info? j,fT P j,cP aq h s,bp aq h x with|some i,J z,J (.dv d E),J v=>bif aw z.flat.length i.size then(Dz v).bind λnew=>bif new.all (λy=>aw y.flat.length i.size)then(iM j i.size i.bytes d E new).bind λr=>bif o.dst.isSome then aJ {aQ leave h s with sl:=cV (aQ leave h s).sl} o.dst (.dv r.1 r.2)else Z else Z else Z|_,_,_,_=>Z
    |_,_=>Z
   |_=>Z
  |.builtin .max=>(cE (bp aq h) c.args.toList).bind λ|[.int k a,.int _ b]=>aJ h o.dst (.dv (.int k (bif ao a b then b else a)) .no)|_=>Z
  |_=>Z
 |_=>Z
end
mutual
def DV.pure : DV -> Bool
  | .ptr .. | .map _ | .dK _ | .jk => C
  | .ay l _ _ => cF l
  | .agg l => cF l
  | .func _ a b => cF a && cF b
  | _ => V
def cF : aA -> Bool
  | [] => V
  | d :: t => d.pure && cF t
end
def SV.pure:SV->Bool|.dv d _=>d.pure|.tp l=>l.all λx=>x.1.pure|_=>C
mutual
def DV.plain : DV -> Bool
  | .bool _ | .int .. | .str _ | .nl | .jV | .il | .nilFunc => V
  | .agg l => MS l
  | _ => C
def MS : aA -> Bool
  | [] => V
  | d :: t => d.plain && MS t
end
def SV.plain:SV->Bool|.dv d _=>d.plain|.tp l=>l.all λx=>x.1.plain|_=>C
def aX.yK:aX->Bool|.no=>V|_=>C
inductive eJ where|fO(st:St)|ext(id:Nat)(st:St)|rt(st:St)
inductive CE where|call(f:bS)(args:List DV)(ow:aX)(g:GH)|loop(b:bz)(st:St)(rd:Option Nat)|dK(l:Nat)(args:List DV)(g:GH)
inductive bt where|val(v:SV)(g:GH)|out(o:eJ)
abbrev eK:=CE->ah bt
structure cj where
 aq:Nat->ah aA
 ko:bS->aA->ah (ah SV)eF:bS->Bool
 uA:bS->an
 BN:bS->an
 ri:bS->Bool
 fk:bS->Nat
 qh:bS->DV->aA->ah (DV×SV)live:bS->Nat->an
 keep:bS->Nat->an
def mc(l:cT):cT:=l.map λx=>(x.1,match x.2 with|.dv d .no=>.dv d .no|.dv d .any=>.dv d .any|.ev d=>.ev d|_=>.dd)
def Db:bz->Nat|.region id _ _=>id|.seq a _=>Db a|.block _ b|.loop b|.scope b=>Db b|_=>0
def ajf:SV->an|.lp s _=>[s]|_=>[]
def mask(l:an)(t:St):St:=let sl:=l.filterMap λs=>(look t.sl s).map λv=>(s,v)
 {t with sl:=sl,lb:=(sl.flatMap λx=>ajf x.2).eraseDups.filterMap λs=>(look t.lb s).map λb=>(s,b)}
def handsOn:Op->List aH|.move _|.assign _|.store ..|.load ..|.fieldAddr ..|.indexAddr ..|.nilCheck _|.binOp ..|.unOp ..|.extract ..|.index ..|.call {callee:=.builtin _,..}=>[]|o=>o.operands.toList
inductive Kd where|no|rd|wr
def Kd.apart:Kd->Kd->Bool|.no,_|_,.no=>V|.rd,.rd=>V|_,_=>C
def kindOf(c:cj)(s:St)(o:Op):Kd:=bif ov o then .no else match o with|.alloc _|.box ..|.buildSlice ..|.makeMap ..=>.no|.load ..|.lookup ..|.slice ..|.convert ..=>.rd|.call {callee:=.builtin .len,..}|.call {callee:=.builtin .max,..}|.call {callee:=.builtin .append,..}=>.rd|.call {callee:=.value (.func f),..}=>bif c.eF f&&!(aw (c.fk f) 1||aw (c.fk f) 2)then .rd else .wr|_=>.wr
def isApp:Op->Bool|.call {callee:=.builtin .append,..}=>V|_=>C
def Md(c:cj)(s:St)(o:Op):Bool:=match o with|.call {callee:=.value _,..}=>(match kindOf c s o with|.wr=>V|_=>C)|_=>C
def oK(c:cj)(s:St)(o:List aC):Bool:=wj o&&o.zipIdx.all λx=>!(isApp x.1.op||Md c s x.1.op)||JC o x.2
inductive Kx where|s(k:Kd)|pt(t:Option Nat)(g:GH)(w:Bool)
def jI(c:cj)(s:St)(o:Op):Kx:=match o with|.load _ a=>(match cP c.aq s a with|some (.dv (.ptr id _) _)=>.pt (J id) s.g C|_=>.s (kindOf c s o))|.store _ a _=>(match cP c.aq s a with|some (.dv (.ptr id _) _)=>.pt (J id) s.g V|some (.se ..)=>.pt Z s.g V|_=>.s (kindOf c s o))|o=>.s (kindOf c s o)
def Kx.kd:Kx->Kd|.s k=>k|.pt _ _ w=>bif w then .wr else .rd
def Kx.tC:Kx->Kx->Bool|.pt t g _,.pt (J id) _ _=>(g.get id).isSome&&(match t with|some x=>!(aw x id)|none=>V)|_,_=>C
def Kx.apart(a b:Kx):Bool:=Kd.apart a.kd b.kd||Kx.tC a b
def IP(o:List aC)(l:List (Nat×Kx))(j:Nat)(k:Kx):Bool:=l.all λe=>Kx.apart e.2 k||rj o e.1 j
section
variable(P:aM)(cf:cj)(rec:eK)
def zn(p:Array aC)(s:St)(o:aC):ah Bool:=match o.guard with|none=>J V|some (j,w)=>match(p[j]?).bind (·.dst)with
 |some d=>match look s.sl d with|some (.dv (.bool b) _)=>J (b==w)|some (.tp [])=>J C|_=>Z
 |none=>J C
def xL(l:List (DV×aX))(j:Nat)(x:DV×aX):DV×aX:=match x.1,x.2 with|.ay d e n,.ty e1=>bif aw e e1&&(jB e d&&l.zipIdx.all λy=>aw y.2 j||y.1.1.ia e)then(.ay d e n,.ex e)else x|_,_=>x
def ri(t:Bool):SV->SV|.tp l=>bif t then .tp (l.zipIdx.map λx=>xL l x.2 x.1)else .tp l|v=>v
def ku{b:Type}(f:bS)(a:aA)(o:aX)(g:GH)(k:SV->GH->ah b):ah b:=bif cf.eF f then(bif cF a then(rec (.call f a o .empty)).bind λ|.val v _=>bif v.pure then k (ri (cf.ri f&&o.yK) v) g else Z|_=>Z else Z)else(rec (.call f a o g)).bind λ|.val v g=>k v g|_=>Z
def Qm(t:St)(f:bS)(x:aH)(S:aA):ah (St×SV):=(cP cf.aq t x).bind λv=>let a:=λ(s:Nat)=>match look t.sl s with|some (.dv d (.ex e))=>(cf.qh f d S).map λr=>({t with sl:=put (iG t.sl s) s (match r.1 with|.jk=>.dv .jk .no|d=>.dv d (.ex e))},r.2)|_=>Z
 match v with|.dv .nl _=>(cf.qh f .nl S).map λr=>(t,r.2)|.dv _ (.ex _)=>(match x with|.tmp s=>a s|_=>Z)|.sr s=>a s|.gr id o=>(match t.g.get id with|some (.box b)=>(match b.cells[o]?,fg b o with|some d,.ex e=>(cf.qh f d S).map λr=>({t with g:=t.g.set id (.box {cells:=jo b.cells o r.1,own:=(match r.1 with|.jk=>dB b.own o 1|_=>b.own)})},r.2)|_,_=>Z)|_=>Z)|_=>Z
def qE(s:St)(o:Op)(i:aH)(a:List aH):ah (St×SV):=(bp cf.aq s i).bind λv=>match v with
 |.func h first c=>bif aw (cf.fk h) 1 then match first,c,a with|[],[],x::b=>(cE (bp cf.aq (b.foldl (aQ share) s)) b).bind λS=>Qm cf (b.foldl (aQ share) s) h x S|_,_,_=>Z else bif aw (cf.fk h) 2 then match first,a with|[],x::b=>(match cP cf.aq s x with|some (.dv d w)=>(cE (bp cf.aq ((handsOn o).foldl (aQ share) (aQ leave s x))) b).bind λS=>ku cf rec h (d::(S++c)) w ((handsOn o).foldl (aQ share) (aQ leave s x)).g λv g=>J ({((handsOn o).foldl (aQ share) (aQ leave s x))with g:=g},v)|_=>Z)|_,_=>Z else bif aw (cf.fk h) 3 then bif cf.eF h then(cE (Ad cf.aq s) a).bind λS=>ku cf rec h (first++S++c) .no s.g λv _=>bif v.plain then J (s,v)else Z else Z else(cE (bp cf.aq ((handsOn o).foldl (aQ share) s)) a).bind λS=>ku cf rec h (first++S++c) .no ((handsOn o).foldl (aQ share) s).g λv g=>J ({((handsOn o).foldl (aQ share) s)with g:=g},v)|.dK l=>(cE (bp cf.aq ((handsOn o).foldl (aQ share) s)) a).bind λS=>(rec (.dK l S ((handsOn o).foldl (aQ share) s).g)).bind λ|.val v g=>J ({((handsOn o).foldl (aQ share) s)with g:=g},v)|_=>Z
 |_=>Z
def dN(g c:an)(l:List aC)(s:St)(o:aC):ah St:=match o.op with|.call {callee:=.value f,args,..}=>(qE cf rec s o.op f args.toList).bind λr=>aJ {r.1 with sl:=cV r.1.sl} o.dst r.2|_=>dM P cf.aq cf.fk g c l ((handsOn o.op).foldl (aQ share) s) o
def jW(s c:an)(d:Bool)(p:Array aC):List aC->Nat->List (Nat×Kx)->St->ah St|[],_,_,st=>J st|o::l,j,g,st=>(zn p st o).bind λw=>bif w then bif !d||IP p.toList g j (jI cf st o.op)then(dN P cf rec s c l st o).bind λt=>jW s c d p l (j+1) (bif d then(j,jI cf st o.op)::g else g) t else Z else(aJ st o.dst (.tp [])).bind λst=>jW s c d p l (j+1) g st
def jm(k:eJ->ah bt):bt->ah bt|.out o=>k o|.val ..=>Z
variable(rd:ah Nat)
def Cm(g:GH):Bool:=match rd with|none=>V|some l=>(match g.get l with|some (.loop _)=>V|_=>C)
def exec:bz->St->(eJ->ah bt)->ah bt
 |.skip,st,k|.label _,st,k=>k (.fO st)|.seq a b,st,k=>exec a st λ|.fO st=>exec b st k|.ext i st=>k (.ext i st)|.rt st=>k (.rt st)
 |.cond c a b,st,k=>match bp cf.aq st c with|some (.bool x)=>bif x then exec a st k else exec b st k|_=>Z
 |.block id b,st,k=>exec b st λ|.fO st=>k (.fO st)|.ext i st=>bif aw i id then k (.fO st)else k (.ext i st)|.rt st=>k (.rt st)
 |.loop b,st,k=>(rec (.loop b (mask (cf.live st.fn (Db b)) st) rd)).bind (jm k)|.scope b,st,k=>exec b st k|.exit id,st,k=>k (.ext id st)|.ret,st,k=>k (.rt st)|.region id o d,st,k=>bif !d||oK cf st o.toList then(jW P cf rec (cf.uA st.fn) (cf.BN st.fn) d o o.toList 0 [] st).bind λt=>k (.fO (mask (cf.keep st.fn id) t))else Z|.rangeFunc f m v b,st,k=>match bp cf.aq st f with
  |some (.func h first p)=>bif(cf.ko h (first++[.dK st.g.next]++p)).isSome||!(Cm rd st.g)then Z else(rec (.call h (first++[.dK st.g.next]++p) .no (st.g.alloc (.loop {state:=.ready,pending:=Z,fn:=st.fn,n:=st.n,sl:=mc st.sl,params:=m.toList,assign:=v,body:=b})))).bind λ
   |.val _ g=>(match g.get st.g.next with|some (.loop r)=>(match r.state with|.busy=>Z|_=>let s:={st with sl:=cV st.sl,g:=g.set st.g.next (.loop {r with state:=.exhausted})}
   (match r.pending with|none=>k (.fO s)|some .ret=>k (.rt s)|some (.exit id)=>k (.ext id s)|_=>Z))|_=>Z)|_=>Z
  |_=>Z
 |.goto _,_,_|.refuse _,_,_=>Z
def uZ(s:St)(t:Tmp):ah ((DV×aX)×St):=match look s.sl t with|some (.dv d o)=>J ((d,o),{s with sl:=put s.sl t (leave (.dv d o))})|_=>Z
def Ji(c:St):ResultVar->ah ((DV×aX)×St)|.tmp t=>uZ c t|.cell a t=>match look c.sl a with|some (.lp s o)=>(look c.lb s).bind λb=>(gP P .take t b o).bind λr=>(aJ {c with lb:=put c.lb s r.2} (J a) r.1).bind λc=>uZ c a|some (.dv (.ptr id o) _)=>(match c.g.get id with|some (.box b)=>(gP P .take t b o).bind λr=>(aJ {c with g:=c.g.set id (.box r.2)} (J a) r.1).bind λc=>uZ c a|_=>Z)|_=>Z
def vE:List ResultVar->St->ah (List (DV×aX)×St)|[],st=>J ([],st)|r::l,st=>(Ji P st r).bind λx=>(vE l x.2).bind λy=>J (x.1::y.1,y.2)
def A9:ResultVar->Tmp|.tmp t=>t|.cell a _=>a
def DD:an->Bool|[]=>V|x::l=>!(l.any (aw x))&&DD l
def DH:List (DV×aX)->SV|[x]=>.dv x.1 x.2|l=>.tp l
def EZ(f:Func)(s:St):ah bt:=bif DD (f.results.toList.map A9)then(vE P f.results.toList s).map λy=>.val (DH y.1) y.2.g else Z
def Ae:Nat->aX->aA->cT|_,_,[]=>[]|i,o,d::t=>(i,.dv d o)::Ae (i+1) .no t
def Cs:List Tmp->aA->cT->cT|p::a,d::s,sl=>Cs a s (put sl p (.dv d .no))|_,_,sl=>sl
def wV(l:Nat)(s:St)(p:ah bz):ah bt:=match s.g.get l with|some (.loop r)=>J (.val (.dv (.bool p.isNone) .no) (s.g.set l (.loop {r with state:=(match p with|none=>.ready|some _=>.done),pending:=p})))|_=>Z
def v8:aX->Bool|.ex _|.any=>V|_=>C
def zm:CE->ah bt
 |.call f args w g=>match cf.ko f args with|some r=>bif aw (cf.fk f) 2&&!v8 w then Z else r.map λv=>.val v g|none=>(P.funcs[f]?).bind λfn=>fn.body.bind λb=>bif bV args.length fn.ntmps then exec P cf rec Z b {fn:=f,n:=fn.ntmps,sl:=Ae 0 w args,lb:=[],g:=g} λ|.fO st|.rt st=>EZ P fn st|.ext ..=>Z else Z
 |.loop b st rd=>exec P cf rec rd b st λ|.fO st=>rec (.loop b (mask (cf.live st.fn (Db b)) st) rd)|o=>J (.out o)
 |.dK l args g=>match g.get l with|some (.loop r)=>bif aw args.length r.params.length&&r.params.all (λp=>cM p r.n)then exec P cf rec (J l) r.assign {fn:=r.fn,n:=r.n,sl:=Cs r.params args r.sl,lb:=[],g:=g} λ|.fO st=>(match st.g.get l with|some (.loop r1)=>(match r1.state with|.ready=>exec P cf rec (J l) r.body {st with sl:=cV st.sl,g:=st.g.set l (.loop {r1 with state:=.busy})} λo=>(match o with|.fO st=>wV l st Z|.rt st=>wV l st (J .ret)|.ext id st=>wV l st (J (.exit id)))|_=>Z)|_=>Z)|_=>Z else Z|_=>Z
end
def JN(P:aM)(c:cj):Nat->eK|0=>λ_=>Z|n+1=>zm P c (JN P c n)
end Go.VM
namespace Go.AM
theorem BK{a b:Nat}(h:a≠b):aw a b=C:=by grind[Nat.eq_of_beq_eq_true]
theorem Kv{a b:Nat}(h:a=b):aw a b=V:=by simp_all
theorem aKC(f:Nat):xM f 0=.e:=by cases f<;>rfl
theorem aKB(f n:Nat)(a:n≠0)(h:n%2=1):xM (f+1) n=.o (xM f (n/2)):=by have e:xM (f+1) n=@Bool.rec (λ_=>Pos) (@Bool.rec (λ_=>Pos) _ (.o (xM f (n/2))) (aw (n%2) 1)) .e _:=rfl;simp_all[BK]
theorem aKz(f n:Nat)(a:n≠0)(h:n%2≠1):xM (f+1) n=.i (xM f (n/2-1)):=by have e:xM (f+1) n=@Bool.rec (λ_=>Pos) (@Bool.rec (λ_=>Pos) (.i (xM f (n/2-1))) _ (aw (n%2) 1)) .e _:=rfl;simp_all[BK]
theorem aKA:∀(f g n m:Nat),n<f->m<g->xM f n=xM g m->n=m:=by intro f;induction f with|zero=>omega|succ f i=>intro g n m b a h;cases g<;>grind[aKC,aKB,aKz]
theorem aKD{n m:Nat}(h:toPos n=toPos m):n=m:=aKA _ _ n m (Ka n) (Ka m) h
theorem afi{a:Type}(x:a):∀(p q:Pos)(t:Tr a),(p=q->BV (Dw p x t) q=J x)/\(p≠q->BV (Dw p x t) q=BV t q):=by intro p;induction p with
 |e=>intro q t;cases t<;>cases q<;>simp[Dw,BV]|o p h=>
 intro q t;rcases t with _|⟨l,v,r⟩;.cases q<;>simp_all[Dw,BV]
 cases q<;>simp_all[Dw,BV]|i p h=>
 intro q t;rcases t with _|⟨l,v,r⟩;.cases q<;>simp_all[Dw,BV]
 cases q<;>simp_all[Dw,BV]
theorem Tr.lL{a:Type}(t:Tr a)(n:Nat)(x:a):(t.ins n x).get n=J x:=(afi x _ _ t).1 rfl
theorem Tr.jF{a:Type}(t:Tr a){n m:Nat}(x:a)(h:n≠m):(t.ins n x).get m=t.get m:=(afi x _ _ t).2 λe=>h (aKD e)
theorem Tr.get_nil{a:Type}(n:Nat):(Tr.nil:Tr a).get n=Z:=by rfl
theorem ef{a:Type}(l:List a):eL l=l.length:=by induction l<;>grind[eL]
theorem lQ{a:Type}(l m:List a):cQ l m=l++m:=by induction l<;>grind[cQ]
theorem qI{b:Type}(n:Nat):∀l:List b,Aj n l=l.drop n:=by induction n with|zero=>intro l;rfl|succ n i=>intro l;cases l with|nil=>rfl|cons a l=>exact i l
theorem qx{a:Type}(n:Nat):∀l:List a,xK n l=l.take n:=by induction n with|zero=>intro l;rfl|succ n i=>intro l;cases l<;>simp_all[xK]
theorem xw{a:Type}(l:List a)(n:Nat):oW l n=l[n]?:=by
 unfold oW;rw[qI];have:l[n]?=(l.drop n)[0]?:=by simp
 rw[this];cases l.drop n<;>rfl
theorem Ce{a b:Type}(f:a->b)(l:List a):AS f l=l.map f:=by induction l<;>grind[AS]
theorem QE{a b:Type}(f:a->ah b):cE f []=J []:=rfl
theorem QD{c d:Type}(f:c->ah d)(a:c)(l:List c):cE f (a::l)=(f a).bind λb=>(cE f l).bind λt=>J (b::t):=rfl
theorem Mu{c d:Type}{f:c->ah d}:∀{l:List c}{r:List d},cE f l=J r->l.length=r.length/\∀(i:Nat)(a:c),l[i]?=J a->∃b,f a=J b/\r[i]?=J b:=by intro l;induction l with|nil=>simp[QE]|cons a l j=>
 intro r h;rw[QD]at h;rcases e:f a with _|b;.grind
 cases g:cE f l<;>grind
theorem pA{d c:Type}(f:c->d->c):∀(l:List d)(b:c),fV f l b=l.foldl f b:=by intro l;induction l with|nil=>intro b;rfl|cons a l i=>intro b;exact i _
theorem H6{c a:Type}(f:a->c->ah a)(b:a):oN f [] b=J b:=rfl
theorem H4{c d:Type}(f:d->c->ah d)(a:c)(l:List c)(b:d):oN f (a::l) b=(f b a).bind (oN f l):=rfl
theorem Rk{a:Type}(z:List a):kU 0 z=[]:=rfl
theorem Rj{a:Type}(n:Nat)(z:List a):kU (n+1) z=z++kU n z:=by grind[kU,lQ]
theorem Jh{a:Type}(n:Nat)(z:List a):(kU n z).length=n*z.length:=by induction n<;>grind[Rk,Rj]
theorem ZM{a:Type}(n:Nat)(z:List a)(i:Nat)(h:i<n*z.length):(kU n z)[i]?=z[i%z.length]?:=by induction n generalizing i<;>grind[Rj,Nat.mod_eq_of_lt,oG,Nat.mod_eq_sub_mod]
theorem alT{b:Type}(f:b->Bool)(a:b)(l:List b):iw f (a::l)=(f a&&iw f l):=by simp[iw]
theorem rI{b:Type}(f:b->Bool)(l:List b):iw f l=l.all f:=by induction l with|nil=>rfl|cons a l i=>grind[alT]
theorem Al:∀l m:an,Ak l m=decide (l=m):=by intro l;induction l with|nil=>intro m;cases m<;>simp[Ak]|cons a l i=>
 intro m;rcases m with _|⟨b,t⟩;.rfl
 show(bif aw a b then Ak l t else C)=_;by_cases h:a=b<;>simp_all
theorem D3{a:Type}(l:List a)(o:Nat)(v:List a):gG l o v=l.take o++v++l.drop (o+v.length):=by simp[gG,lQ,qx,qI,ef]
theorem Bf{a:Type}(l:List a)(o:Nat)(v:List a)(h:o+v.length<=l.length):(gG l o v).length=l.length:=by grind[D3]
theorem Cu{a:Type}(l:List a)(o:Nat)(v:List a)(h:o+v.length<=l.length)(i:Nat):(gG l o v)[i]?=if o<=i/\i<o+v.length then v[i-o]? else l[i]?:=by
 rw[D3];have t:(l.take o).length=o:=by grind
 grind
theorem CZ(a b:Int):ai a b=decide (a=b):=by
 have k:∀x y,aw x y=decide (x=y):=λx y=>by grind[Kv,BK]
 rcases a with a|a
 . rcases b with b|b;.grind[ai]
   rfl
 cases b<;>simp_all[ai]
theorem Ef(k:gZ)(n:Int):fS k n=k.wrap n:=by
 unfold fS;split
 . rename_i m;rcases h:cM m _ with _|_;.rfl
   have a:m<9223372036854775808:=by simp_all
   unfold IntKind.wrap;have e:(2^IntKind.i64.bits:Int)=18446744073709551616:=by rfl
   have e2:(2^(IntKind.i64.bits-1):Int)=9223372036854775808:=by rfl
   grind
 rfl
theorem fB(a b:Nat):cM a b=decide (a<b):=by grind[Nat.blt_eq]
theorem du(a b:Nat):bV a b=decide (a<=b):=by grind[Nat.le_of_ble_eq_true,rB]
theorem bN(a b:Nat):aw a b=decide (a=b):=by grind[Kv,BK]
theorem Mr(a b:Int):ao a b=decide (a<b):=by
 rcases a with a|a
 . rcases b with b|b;.show cM a b=_;simp[fB]
   rfl
 rcases b with b|b;.show V=_;grind
 show cM b a=_;grind[fB]
structure Pl where
 aW:Nat
 base:Nat
 oB:Nat
 len:Nat
abbrev aZ:=Nat->ah Pl
variable{a x:AV}{cs:Array aB}{ats:Array al}{H H':Heap}{es:List ew}{ms:List kZ}{cap h m D r y:Nat}{S:Nat->Prop}{fz:Nat×Nat}{p:Pl}{kv u v xv zv:aB}{l vs:aD}{xo yo:aH}{P:aM}{w w':aT}{O ψ:aZ}{q:ah (Nat×ew)}{base:ah Addr}{e elem kt t vt xt:al}{fl:gS}
def wu:aB->Bool|.agg _|.tuple _=>C|_=>V
inductive VR(O:aZ):AV->aB->Prop where|top(n:Int):VR O .top (.int .i64 n)|bool(b:Bool):VR O (.bool b) (.bool b)|int(k:gZ)(n:Int):VR O (.int k n) (.int k n)|str(l:List Nat)(s:ByteArray)(h:s.data.toList.map nU=l):VR O (.str l) (.string s)|jV:VR O .jV (.pointer Z)|ptr(id D:Nat)(p:Pl)(h:O id=J p):VR O (.ptr id D) (.pointer (J ⟨p.aW,p.base+D,Z⟩))|bc:VR O .bc (.slice Z 0 0)|sl(id D len:Nat)(c:Option Nat)(esz:Nat)(p:Pl)(ad:Addr)(cap:Nat)(h:O id=J p)(hl:len<=cap)(ht:p.base+D+cap*esz<=p.oB)(hc:∀k,c=J k->cap=k/\D+k*esz<=p.len)(ho:c=Z->p.len<=D+cap*esz)(hr:cap≠0->ad=⟨p.aW,p.base+D,Z⟩)(he:0<esz)(hn:D+len*esz<=p.len):VR O (.sl id D len c esz) (.slice (J ad) len cap)|il:VR O .il (.map Z)|map(r:Nat)(p:Pl)(h:O r=J p):VR O (.map r) (.map (J p.aW))|func(f:bS)(l1 l2:List AV)(c1 c2:Array aB)(h1:l1.length=c1.size)(h2:l2.length=c2.size)(g1:∀(i:Nat)(a:AV)(c:aB),l1[i]?=J a->c1[i]?=J c->VR O a c)(g2:∀(i:Nat)(a:AV)(c:aB),l2[i]?=J a->c2[i]?=J c->VR O a c):VR O (.func f l1 l2) (.func (.func f) c1 c2)|yield(l:Nat)(p:Pl)(h:O l=J p):VR O (.yield l) (.func (.yield p.aW) #[] #[])|nilFunc:VR O .nilFunc .nilFunc|agg(l:List AV)(c:Array aB)(h:l.length=c.size)(hs:∀a,a∈l->a.bj=V)(g:∀(i:Nat)(a:AV)(v:aB),l[i]?=J a->c[i]?=J v->VR O a v):VR O (.agg l) (.agg c)|cw(l:List AV)(c:Array aB)(h:l.length=c.size)(g:∀(i:Nat)(a:AV)(v:aB),l[i]?=J a->c[i]?=J v->VR O a v):VR O (.cw l) (.tuple c)
def aV(b:aZ)(l:aD)(c:List aB):Prop:=l.length=c.length/\∀(i:Nat)(a:AV)(v:aB),l[i]?=J a->c[i]?=J v->VR b a v
def Ext(a b:aZ):Prop:=∀id p,a id=J p->b id=J p
theorem Ext.refl(a:aZ):Ext a a:=λ_ _ h=>h
theorem Ext.trans{a b c:aZ}(h:Ext a b)(k:Ext b c):Ext a c:=λ_ _ e=>k _ _ (h _ _ e)
theorem VR.mono(h:Ext O ψ)(r:VR O a v):VR ψ a v:=by induction r with|top n=>exact .top n|bool b=>exact .bool b|int k n=>exact .int k n|str l s h=>exact .str l s h|jV=>exact .jV|ptr id D p d=>exact .ptr id _ p (h _ _ d)|bc=>exact .bc|sl id D len c z p G cap d e C t A hr u w=>exact .sl id _ _ c _ p _ _ (h _ _ d) e C t A hr u w|il=>exact .il|map r p d=>exact .map r p (h _ _ d)|func f l1 l2 j m o q _ _ E F=>exact .func f l1 l2 j m o q ae ae|yield l p d=>exact .yield l p (h _ _ d)|nilFunc=>exact .nilFunc|agg l c e B _ g=>exact .agg l c e B λi a v x y=>g i a v x y|cw l c e _ g=>exact .cw l c e λi a v x y=>g i a v x y
theorem aV.mono(h:Ext O ψ){c:List aB}(r:aV O l c):aV ψ l c:=⟨r.1,λi a v x y=>(r.2 i a v x y).mono h⟩
theorem aV.nil(a:aZ):aV a [] []:=⟨rfl,aO⟩
theorem aV.cons{c:List aB}(h:VR O a v)(t:aV O l c):aV O (a::l) (v::c):=by
 refine⟨by simp[t.1],λi x y b d=>?_⟩;rcases i with _|i;.grind
 exact t.2 i x y aj aj
theorem aV.cons_inv{c:List aB}(h:aV O (a::l) c):∃v t,c=v::t/\VR O a v/\aV O l t:=by
 rcases c with _|⟨v,t⟩;.have:=h.1;grind
 exact⟨v,t,rfl,h.2 0 a v rfl rfl,by have:=h.1;grind,λi x y b d=>h.2 (i+1) x y aj aj⟩
theorem aV.sT{c:List aB}(h:aV O [] c):c=[]:=by
 rcases c with _|⟨v,t⟩;.rfl
 have:=h.1;grind
theorem aV.append{m:aD}{c d:List aB}(h:aV O l c)(k:aV O m d):aV O (l++m) (c++d):=by
 refine⟨by simp[h.1,k.1],λi a v x y=>?_⟩;by_cases hi:i<l.length;.rw[oF hi]at x;rw[oF (by rw[<-h.1];omega)]at y;exact h.2 i a v x y
 .rw[oG ae]at x;rw[oG (by rw[<-h.1];omega),<-h.1]at y;exact k.2 _ a v x y
theorem aV.take{c:List aB}(h:aV O l c)(n:Nat):aV O (l.take n) (c.take n):=by
 refine⟨by simp[h.1],λi a v x y=>?_⟩;by_cases hi:i<n;.rw[Ew hi]at x y;exact h.2 i a v x y
 grind
theorem aV.drop{c:List aB}(h:aV O l c)(n:Nat):aV O (l.drop n) (c.drop n):=by refine⟨by simp[h.1],λi a v x y=>?_⟩;rw[zO]at x y;exact h.2 _ a v x y
theorem aV.get{c:List aB}(h:aV O l c){i:Nat}(x:l[i]?=J a):∃v,c[i]?=J v/\VR O a v:=by
 obtain⟨hi,_⟩:=List.getElem?_eq_some_iff.1 x;have t:i<c.length:=by rw[<-h.1];omega
 exact⟨_,aP,h.2 i a _ x (eZ t)⟩
theorem aV.Z'{c w:List aB}(h:aV O l c)(k:aV O vs w)(o:Nat):aV O (gG l o vs) (c.take o++w++c.drop (o+w.length)):=by rw[D3,k.1];exact((h.take _).append k).append (h.drop _)
theorem aV.rep{z:aD}{c:List aB}(h:aV O z c)(n:Nat):aV O (kU n z) (List.replicate n c).flatten:=by induction n with|zero=>exact aV.nil O|succ n i=>rw[Rj,List.replicate_succ,List.flatten_cons];exact h.append i
theorem VR.bj(h:VR O a v)(b:a.bj=V):wu v=V:=by cases h<;>first|rfl|assumption|simp[AV.bj]at b
theorem VR.cells(h:VR O a v)(d:a.cells=J l):aV O l v.cells.toList/\(∀x,x∈l->x.bj=V):=by cases h with|top v=>grind[AV.cells]|cw l c j g=>grind[AV.cells]|agg l c j F g=>simp[AV.cells]at d;subst d;exact⟨⟨by grind[Value.cells],λi a v x y=>g i a v x (by grind[Value.cells])⟩,F⟩|bool b=>simp[AV.cells]at d;subst d;exact⟨aV.cons (.bool b) (aV.nil O),by simp[AV.bj]⟩|int k n=>simp[AV.cells]at d;subst d;exact⟨aV.cons (.int k n) (aV.nil O),by simp[AV.bj]⟩|str l s h=>simp[AV.cells]at d;subst d;exact⟨aV.cons (.str l s h) (aV.nil O),by simp[AV.bj]⟩|jV=>simp[AV.cells]at d;subst d;exact⟨aV.cons .jV (aV.nil O),by simp[AV.bj]⟩|ptr id D p e=>simp[AV.cells]at d;subst d;exact⟨aV.cons (.ptr id _ p e) (aV.nil O),by simp[AV.bj]⟩|bc=>simp[AV.cells]at d;subst d;exact⟨aV.cons .bc (aV.nil O),by simp[AV.bj]⟩|sl id D len c z p G cap e j u A E hr w B=>simp[AV.cells]at d;subst d;exact⟨aV.cons (.sl id _ _ c _ p _ _ e j u A E hr w B) (aV.nil O),by simp[AV.bj]⟩|il=>simp[AV.cells]at d;subst d;exact⟨aV.cons .il (aV.nil O),by simp[AV.bj]⟩|map r p e=>simp[AV.cells]at d;subst d;exact⟨aV.cons (.map r p e) (aV.nil O),by simp[AV.bj]⟩|func f l1 l2 m o q t g1 g2=>simp[AV.cells]at d;subst d;exact⟨aV.cons (.func f l1 l2 m o q t g1 g2) (aV.nil O),by simp[AV.bj]⟩|yield l p e=>simp[AV.cells]at d;subst d;exact⟨aV.cons (.yield l p e) (aV.nil O),by simp[AV.bj]⟩|nilFunc=>simp[AV.cells]at d;subst d;exact⟨aV.cons .nilFunc (aV.nil O),by simp[AV.bj]⟩
theorem aV.agg{c:List aB}(h:aV O l c)(s:∀x,x∈l->x.bj=V)(a:Array aB)(b:a.toList=c):VR O (.agg l) (.agg a):=by subst b;exact .agg l a (by simpa using h.1) s λi x v d e=>h.2 i x v d aP
theorem VR.Ac(h:VR O (.agg l) v):∃c,v=.agg c/\aV O l c.toList/\∀x,x∈l->x.bj=V:=by cases h with|agg l c b s g=>exact⟨c,rfl,⟨ae,λi a v x y=>g i a v x aj⟩,s⟩
theorem VR.aKK(h:VR O (.cw l) v):∃c,v=.tuple c/\aV O l c.toList:=by cases h with|cw l c b g=>exact⟨c,rfl,ae,λi a v x y=>g i a v x aj⟩
theorem aV.cw{c:List aB}(h:aV O l c)(a:Array aB)(b:a.toList=c):VR O (.cw l) (.tuple a):=by subst b;exact .cw l a (by simpa using h.1) λi x v d e=>h.2 i x v d aP
theorem WO(h:DE v=J a):VR O a v/\a.bj=V:=by
 unfold DE at h;split at h<;>simp at h<;>subst h;.exact⟨.bool _,rfl⟩
 .exact⟨.int _ _,rfl⟩
 .exact⟨.str _ _ rfl,rfl⟩
 .exact⟨.jV,rfl⟩
 .exact⟨.bc,rfl⟩
 .exact⟨.il,rfl⟩
 .exact⟨.nilFunc,rfl⟩
theorem WQ(h:xx v=J a):VR O a v:=by
 unfold xx at h;split at h
 . rename_i cs;rcases m:cE DE cs.toList with _|l;.grind
   simp[m]at h;subst h;obtain⟨g,d⟩:=Mu m;refine .agg l cs aj ?_ ?_;.intro x f;obtain⟨i,hi⟩:=List.mem_iff_getElem?.1 f;have t:i<cs.toList.length:=aj;obtain⟨b,e,R⟩:=d i _ (eZ t);rw[hi]at R;simp at R;subst R;exact(WO (O:=O) e).2
   .intro i x c f j;obtain⟨b,e,R⟩:=d i c aj;grind[WO]
 grind[WO]
theorem aCg(h:xx v=J a):a≠.top:=by
 intro e;unfold xx at h;split at h;.simp_all
 .unfold DE at h;grind
def gl:List (aD×al):=[([.bool V,.bool V,.bool V,.bool C,.bool C,.bool C,.bool V,.bool C,.bool C,.bool C,.bool V,.bool V,.bool V,.bool C,.bool V,.bool V],261),([.int .i64 0,.int .i64 0,.bool V,.bool V,.bool C,.bool C,.int .i64 2,.int .i64 64,.bool C,.bool C,.bool C,.bool C,.int .i64 2,.int .i64 64,.bool C,.bool C,.bool C,.bool C,.int .i64 2,.int .i64 64,.bool C,.bool C,.bool C,.bool C,.int .i64 1,.int .i64 1,.bool C,.bool C,.bool C,.bool C,.int .i64 1,.int .i64 1,.bool V,.bool V,.bool V,.bool C,.int .i64 1,.int .i64 1,.bool C,.bool C,.bool V,.bool V,.int .i64 1,.int .i64 1,.bool C,.bool V,.bool C,.bool C,.int .i64 2,.int .i64 2,.bool C,.bool C,.bool C,.bool C,.int .i64 1,.int .i64 1,.bool V,.bool V,.bool V,.bool C,.int .i64 1,.int .i64 1,.bool C,.bool C,.bool V,.bool V],326),([.top],3),([.int .u64 1,.int .u64 10,.int .u64 100,.int .u64 1000,.int .u64 10000,.int .u64 100000,.int .u64 1000000,.int .u64 10000000,.int .u64 100000000,.int .u64 1000000000,.int .u64 10000000000,.int .u64 100000000000,.int .u64 1000000000000,.int .u64 10000000000000,.int .u64 100000000000000,.int .u64 1000000000000000,.int .u64 10000000000000000,.int .u64 100000000000000000,.int .u64 1000000000000000000,.int .u64 10000000000000000000],585),([.int .u8 0,.int .u8 1,.int .u8 28,.int .u8 2,.int .u8 29,.int .u8 14,.int .u8 24,.int .u8 3,.int .u8 30,.int .u8 22,.int .u8 20,.int .u8 15,.int .u8 25,.int .u8 17,.int .u8 4,.int .u8 8,.int .u8 31,.int .u8 27,.int .u8 13,.int .u8 23,.int .u8 21,.int .u8 19,.int .u8 16,.int .u8 7,.int .u8 26,.int .u8 12,.int .u8 18,.int .u8 6,.int .u8 11,.int .u8 5,.int .u8 10,.int .u8 9],597),([.int .u8 0,.int .u8 1,.int .u8 56,.int .u8 2,.int .u8 57,.int .u8 49,.int .u8 28,.int .u8 3,.int .u8 61,.int .u8 58,.int .u8 42,.int .u8 50,.int .u8 38,.int .u8 29,.int .u8 17,.int .u8 4,.int .u8 62,.int .u8 47,.int .u8 59,.int .u8 36,.int .u8 45,.int .u8 43,.int .u8 51,.int .u8 22,.int .u8 53,.int .u8 39,.int .u8 33,.int .u8 30,.int .u8 24,.int .u8 18,.int .u8 12,.int .u8 5,.int .u8 63,.int .u8 55,.int .u8 48,.int .u8 27,.int .u8 60,.int .u8 41,.int .u8 37,.int .u8 16,.int .u8 46,.int .u8 35,.int .u8 44,.int .u8 21,.int .u8 52,.int .u8 32,.int .u8 23,.int .u8 11,.int .u8 54,.int .u8 26,.int .u8 40,.int .u8 15,.int .u8 34,.int .u8 20,.int .u8 31,.int .u8 10,.int .u8 25,.int .u8 14,.int .u8 19,.int .u8 9,.int .u8 13,.int .u8 8,.int .u8 7,.int .u8 6],598)]
open Go
def rootOf(H:Heap)(i:Nat):Nat:=match H.get i with|some (.cells _ r _ _)=>r|_=>i
def fJ(H:Heap)(i:Nat):Prop:=∃l r e,H.get i=J (.cells l r .ro e)
def jr(H:Heap)(i:Nat):Prop:=∀l r fl e,H.get i=J (.cells l r fl e)->(H.bh r).1<=i
def wF(a:aZ)(e:ew)(m:kZ):Prop:=VR a e.1 m.key/\VR a e.2.1 m.val/\m.born=e.2.2
def nr(a:aZ)(l:List ew)(m:List kZ):Prop:=l.length=m.length/\∀(i:Nat)(e:ew)(x:kZ),l[i]?=J e->m[i]?=J x->wF a e x
inductive EC(O:aZ):NZ->Target->Prop where|fn(f:bS)(l:List AV)(c:Array aB)(h:aV O l c.toList):EC O (.fn f l) (.fn (.func f) c)|yield(l:Nat)(p:Pl)(h:O l=J p):EC O (.yield l) (.fn (.yield p.aW) #[])|builtin(b:Builtin)(ts:Array al)(t:al)(cs:Array Bool):EC O (.builtin b ts) (.builtin b ts t cs)
structure akZ(O:aZ)(d:Ss)(e:Deferred):Prop where
 target:EC O d.target e.target
 args:aV O d.args e.args.toList
def zH(a:aZ):an->List Deferred->Prop|[],[]=>True|r::l,x::m=>(∃p,a r=J p/\x=⟨.collected p.aW,#[]⟩)/\zH a l m|_,_=>False
def rF(a:aZ)(n:Nat)(t:Tr AV)(c:Array aB):Prop:=c.size=n/\∀i,VR a ((t.get i).getD fR) (c.getD i undef)
structure He(O:aZ)(a:Bm)(r:Loop):Prop where
 state:r.state=a.state
 pending:r.pending=a.pending
 fn:r.fn=a.fn
 tmps:rF O a.n a.tmps r.tmps
 params:r.params.toList=a.params
 assign:r.assign=a.assign
 body:r.body=a.body
 defers:∃p,O a.defers=J p/\r.defers=p.aW
def mn(f:aZ)(w:aT)(o:bQ)(p:Pl):Prop:=match o with|.cells l _ fl e=>∃cs fz e1,w.heap[p.aW]?=J (.cells cs e1 fz)/\cs.size=p.oB/\p.base+p.len<=p.oB/\(∀(i:Nat)(a:AV),l[i]?=J a->∃c,cs[p.base+i]?=J c/\VR f a c)/\(∀a,a∈l->a.bj=V)/\(fl≠.ro->fz=(0,0)/\e1=e)/\(fl=.ex->p.base=0/\p.oB=p.len)|.map es k=>p.base=0/\∃d:Array kZ,w.heap[p.aW]?=J (.map d k)/\nr f es d.toList|.mapIter m s seen D=>p.base=0/\∃g:ah Nat,w.heap[p.aW]?=J (.mapIter g s seen.toArray D)/\(match m with|none=>g=Z|some r=>∃q,f r=J q/\g=J q.aW)|.loop r=>p.base=0/\∃R:Loop,w.heap[p.aW]?=J (.loop R)/\He f r R|.deferred b=>p.base=0/\w.heap[p.aW]?=J (.deferred (bif b then J []else Z))
structure ba(H:Heap):Prop where
 get:∀id o,H.get id=J o->id<H.next
 root:∀id l r fl e,H.get id=J (.cells l r fl e)->r<=id/\id<=(H.bh r).2
 oy:∀id l r fl e,H.get id=J (.cells l r fl e)->∃l' fl' e',H.get r=J (.cells l' r fl' e')dh:∀r f,H.dh.get r=J f->r<H.next/\f.2<H.next
 bn:H.bn<=H.next
structure Stat(O:aZ)(H:Heap)(n:Nat):Prop where
 cq:∀id p,O id=J p->p.aW<n/\(H.get id).isSome
 len:∀id p l r fl e,O id=J p->H.get id=J (.cells l r fl e)->l.length=p.len
 inj:∀i j p q,O i=J p->O j=J q->p.aW=q.aW->¬fJ H i->rootOf H i=rootOf H j
 mono:∀i j p q,O i=J p->O j=J q->p.aW=q.aW->(¬fJ H i\/¬fJ H j)->i<j->p.base+p.len<=q.base+q.len
structure bA(S:Nat->Prop)(O:aZ)(H:Heap)(w:aT):Prop where
 stat:Stat O H w.heap.size
 obj:∀id p o,O id=J p->S (rootOf H id)->jr H id->H.get id=J o->mn O w o p
def rq(o b:bQ):Prop:=(∀l r fl e,o=.cells l r fl e->∃a f,b=.cells a r f e/\a.length=l.length)/\((∀l r fl e,o≠.cells l r fl e)->∀l r fl e,b≠.cells l r fl e)
theorem rq.refl(o:bQ):rq o o:=⟨λl r fl e h=>⟨l,fl,h,rfl⟩,λh=>h⟩
theorem rq.trans{a b c:bQ}(h:rq a b)(k:rq b c):rq a c:=by refine⟨λl r fl e d=>?_,λd=>k.2 (h.2 d)⟩;obtain⟨i,f,g,j⟩:=h.1 l r fl e d;obtain⟨l2,A,n,m⟩:=k.1 i r _ e g;grind
structure Fr(O:aZ)(H:Heap)(w:aT)(ψ:aZ)(H':Heap)(w':aT):Prop where
 ext:Ext O ψ
 size:w.heap.size<=w'.heap.size
 os:w'.os=w.os
 tape:w'.tape=w.tape
 output:w'.output=w.output
 next:H.next<=H'.next
 bn:H'.bn=H.bn
 bK:∀r,r∈H.bK->r∈H'.bK
 cK:∀r,r∈H.cK->r∈H'.cK
 root:∀id,id<H.next->rootOf H' id=rootOf H id
 view:∀id o,id<H.next->rootOf H id<H.bn->rootOf H id∉H'.bK->H.get id=J o->H'.get id=J o/\(jr H id->jr H' id)/\(jr H' id->jr H id)nA:∀b,b<w.heap.size->w'.heap[b]?=w.heap[b]?\/∃id p,O id=J p/\p.aW=b/\¬fJ H id/\(H.bn<=rootOf H id\/rootOf H id∈H'.bK\/rootOf H id∈H'.cK)new:∀id p,ψ id=J p->O id=Z->H.next<=id/\(w.heap.size<=p.aW\/∃j q,O j=J q/\q.aW=p.aW/\¬fJ H j/\rootOf H j=rootOf H' id/\(H.bn<=rootOf H j\/rootOf H j∈H'.cK))ro:∀id,id<H.next->fJ H id->fJ H' id
 keep:∀id o,id<H.next->H.get id=J o->∃o',H'.get id=J o'/\rq o o'
 cover:∀id,H.next<=id->id<H'.next->∃p,ψ id=J p
 mD:∀id p,ψ id=J p->O id=Z->rootOf H' id<H.bn->rootOf H' id∈H'.cK/\∃j q,O j=J q/\rootOf H j=rootOf H' id
 vl:∀r,r∈H'.bK->r∈H.bK\/(r<H.bn/\∃id p,O id=J p/\rootOf H id=r)vF:∀r,r∈H'.cK->r∈H.cK\/(r<H.bn/\∃id p,O id=J p/\rootOf H id=r)
theorem Fr.refl(b:aZ)(H:Heap)(w:aT):Fr b H w b H w where
 ext:=Ext.refl b
 size:=bo _
 os:=rfl
 tape:=rfl
 output:=rfl
 next:=bo _
 bn:=rfl
 bK:=λ_ h=>h
 cK:=λ_ h=>h
 root:=λ_ _=>rfl
 view:=λ_ _ _ _ _ h=>⟨h,λh=>h,λh=>h⟩
 nA:=λ_ _=>.inl rfl
 new:=λid p h a=>by rw[h]at a;simp at a
 ro:=λ_ _ h=>h
 keep:=λ_ o _ h=>⟨o,h,rq.refl o⟩
 cover:=λid h a=>ae
 mD:=λid p h a=>by rw[h]at a;simp at a
 vl:=λ_ h=>.inl h
 vF:=λ_ h=>.inl h
theorem Fr.trans{χ:aZ}{H1 Q:Heap}{Y w2:aT}(h:Fr O H w ψ H1 Y)(k:Fr ψ H1 Y χ Q w2)(y:∀id p,O id=J p->id<H.next)(R:∀id p,ψ id=J p->id<H1.next):Fr O H w χ Q w2 where
 ext:=h.ext.trans k.ext
 size:=gv h.size k.size
 os:=k.os.trans h.os
 tape:=k.tape.trans h.tape
 output:=k.output.trans h.output
 next:=gv h.next k.next
 bn:=k.bn.trans h.bn
 bK:=λr hr=>k.bK r (h.bK r hr)
 cK:=λr hr=>k.cK r (h.cK r hr)
 root:=λid hid=>(k.root id (fj hid h.next)).trans (h.root id hid)
 view:=λid o hid W X M=>by have hr:=h.root id hid;obtain⟨a1,a2,a3⟩:=h.view id o hid W (λz=>X (k.bK _ z)) M;obtain⟨b1,b2,b3⟩:=k.view id o (fj hid h.next) (by rw[hr,h.bn];exact W) (by rw[hr];exact X) a1;exact⟨b1,λx=>b2 (a2 x),λx=>a3 (b3 x)⟩
 nA:=λb T=>by
  rcases k.nA b (fj T h.size)with e|⟨id,p,v,N,F,l⟩
  . rcases h.nA b T with e'|⟨id,p,v,N,F,l⟩;.exact .inl (e.trans e')
    . refine .inr ⟨id,p,v,N,F,?_⟩;rcases l with l|l|l;.exact .inl l
      .exact .inr (.inl (k.bK _ l))
      .exact .inr (.inr (k.cK _ l))
  .cases f:O id with|some q=>
      have:=h.ext id q f;rw[v]at this;obtain rfl:p=q:=by simpa using this
      have hid:=y id p f;rw[h.root id hid,h.bn]at l;exact .inr ⟨id,p,f,N,λz=>F (h.ro id hid z),l⟩|none=>
      obtain⟨_,U⟩:=h.new id p v f;rcases U with U|⟨j,q,u,s,G,I,S⟩;.omega
      . refine .inr ⟨j,q,u,by rw[s];exact N,G,?_⟩;rcases S with S|S;.exact .inl S
        .exact .inr (.inr (k.cK _ S))
 new:=λid p m f=>by cases g:ψ id with
  |some A=>
    have:=k.ext id A g;rw[m]at this;obtain rfl:p=A:=by simpa using this
    obtain⟨n,i⟩:=h.new id p g f;refine⟨n,?_⟩;rcases i with i|⟨j,q,u,s,G,I,S⟩;.exact .inl i
    . refine .inr ⟨j,q,u,s,G,by rw[k.root id (R id p g)];exact I,?_⟩;rcases S with S|S;.exact .inl S
      .exact .inr (k.cK _ S)|none=>
    obtain⟨n,i⟩:=k.new id p m g;refine⟨gv h.next n,?_⟩;rcases i with i|⟨j,q,u,s,G,I,S⟩;.exact .inl (gv h.size i)
    .cases D:O j with|some t=>
        have:=h.ext j t D;rw[u]at this;obtain rfl:q=t:=by simpa using this
        have P:=y j q D;rw[h.root j P]at I;rw[h.root j P,h.bn]at S;exact .inr ⟨j,q,D,s,λz=>G (h.ro j P z),I,S⟩|none=>
        obtain⟨_,K⟩:=h.new j q u D;rcases K with K|⟨j0,q0,qf,VF,E,B,L⟩;.exact .inl (by rw[<-s];exact K)
        . refine .inr ⟨j0,q0,qf,VF.trans s,E,B.trans I,?_⟩;rcases L with L|L;.exact .inl L
          .exact .inr (k.cK _ L)
 ro:=λid hid hr=>k.ro id (fj hid h.next) (h.ro id hid hr)
 keep:=λid o hid M=>by obtain⟨o1,n,l1⟩:=h.keep id o hid M;obtain⟨o2,i,l2⟩:=k.keep id o1 (fj hid h.next) n;exact⟨o2,i,l1.trans l2⟩
 cover:=λid n i=>by
  by_cases bX:id<H1.next;.obtain⟨p,v⟩:=h.cover id n bX;exact⟨p,k.ext _ _ v⟩
  .exact k.cover id ae i
 mD:=λid p m f hr=>by cases g:ψ id with|some A=>have e:=k.root id (R id A g);rw[e]at hr;obtain⟨a,j,q,b,c⟩:=h.mD id A g f hr;rw[e];exact⟨k.cK _ a,j,q,b,c⟩|none=>obtain⟨a,j,q,b,c⟩:=k.mD id p m g (by rw[h.bn];exact hr);refine⟨a,?_⟩;cases D:O j with|some t=>exact⟨j,t,D,by rw[<-h.root j (y j t D)];exact c⟩|none=>obtain⟨_,j',t,b',c'⟩:=h.mD j q b D (by rw[c];exact hr);exact⟨j',t,b',c'.trans c⟩
 vl:=λr hr=>by
  rcases k.vl r hr with x|⟨x,id,p,a,b⟩;.exact h.vl r x
  .rw[h.bn]at x;cases f:O id with|some q=>exact .inr ⟨x,id,q,f,by rw[<-h.root id (y id q f)];exact b⟩|none=>obtain⟨_,j,q,c,d⟩:=h.mD id p a f (by rw[b];exact x);exact .inr ⟨x,j,q,c,d.trans b⟩
 vF:=λr hr=>by
  rcases k.vF r hr with x|⟨x,id,p,a,b⟩;.exact h.vF r x
  .rw[h.bn]at x;cases f:O id with|some q=>exact .inr ⟨x,id,q,f,by rw[<-h.root id (y id q f)];exact b⟩|none=>obtain⟨_,j,q,c,d⟩:=h.mD id p a f (by rw[b];exact x);exact .inr ⟨x,j,q,c,d.trans b⟩
theorem nr.mono(h:Ext O ψ){l:List ew}{m:List kZ}(r:nr O l m):nr ψ l m:=⟨r.1,λi e x a b=>let⟨p,q,s⟩:=r.2 i e x a b;⟨p.mono h,q.mono h,s⟩⟩
theorem EC.mono(h:Ext O ψ){a:NZ}{t:Target}(r:EC O a t):EC ψ a t:=by
 rcases r with⟨f,l,c,d⟩|⟨l,p,e⟩|⟨b,s,t,cs⟩;.exact .fn f l c (d.mono h)
 .exact .yield l p (h _ _ e)
 exact .builtin b s t cs
theorem zH.mono(h:Ext O ψ):∀{l:an}{m:List Deferred},zH O l m->zH ψ l m|[],[],_=>trivial|_::_,_::_,⟨⟨p,a,b⟩,r⟩=>⟨⟨p,h _ _ a,b⟩,r.mono h⟩|[],_::_,r|_::_,[],r=>r
theorem rF.mono(h:Ext O ψ){n:Nat}{t:Tr AV}{c:Array aB}(r:rF O n t c):rF ψ n t c:=⟨r.1,λi=>(r.2 i).mono h⟩
theorem He.mono(h:Ext O ψ){a:Bm}{r:Loop}(k:He O a r):He ψ a r:=⟨k.state,k.pending,k.fn,k.tmps.mono h,k.params,k.assign,k.body,let⟨p,b,e⟩:=k.defers;⟨p,h _ _ b,e⟩⟩
theorem mn.mono(h:Ext O ψ){o:bQ}(g:w'.heap[p.aW]?=w.heap[p.aW]?)(r:mn O w o p):mn ψ w' o p:=by
 rcases o with⟨l,root,fl,e⟩|⟨es,k⟩|⟨m,s,seen,D⟩|a|c;.obtain⟨cs,fz,n,b,d,t,u,v,x,y⟩:=r;exact⟨cs,fz,n,g.trans b,d,t,λi a hi=>let⟨c,z,B⟩:=u i a hi;⟨c,z,B.mono h⟩,v,x,y⟩
 .obtain⟨f,j,b,d⟩:=r;exact⟨f,_,g.trans b,d.mono h⟩
 . obtain⟨f,C,b,d⟩:=r;refine⟨f,C,g.trans b,?_⟩;rcases m with _|r;.omega
   obtain⟨q,A,e⟩:=d;exact⟨q,h _ _ A,e⟩
 .obtain⟨f,R,b,d⟩:=r;exact⟨f,R,g.trans b,d.mono h⟩
 exact⟨r.1,g.trans r.2⟩
def gH(a:aZ)(d:Nat)(p:Pl):aZ:=λi=>if i=d then J p else a i
theorem jK(a:aZ)(i:Nat)(p:Pl):gH a i p i=J p:=by simp[gH]
theorem lC(a:aZ){d i:Nat}(p:Pl)(h:i≠d):gH a d p i=a i:=by grind[gH]
theorem akx{d:Nat}(p:Pl)(h:O d=Z):Ext O (gH O d p):=λi q a=>by grind[lC]
def World.push(w:aT)(o:Obj):aT:={w with heap:=w.heap.push o}
def World.eH(w:aT)(b:Nat)(o:Obj):aT:={w with heap:=w.heap.setIfInBounds b o}
theorem DO(w:aT)(o:Obj):(World.push w o).heap.size=w.heap.size+1:=by simp[World.push]
theorem Ge(w:aT)(o:Obj){b:Nat}(h:b<w.heap.size):(World.push w o).heap[b]?=w.heap[b]?:=by grind[World.push]
theorem xF(w:aT)(o:Obj):(World.push w o).heap[w.heap.size]?=J o:=by show(w.heap.push o)[w.heap.size]?=J o;simp
theorem Cr(w:aT)(b:Nat)(o:Obj):(World.eH w b o).heap.size=w.heap.size:=by simp[World.eH]
theorem Bd(w:aT){b:Nat}(o:Obj)(h:b<w.heap.size):(World.eH w b o).heap[b]?=J o:=by grind[World.eH]
theorem Cq(w:aT){b c:Nat}(o:Obj)(h:c≠b):(World.eH w b o).heap[c]?=w.heap[c]?:=by grind[World.eH]
def more(S:Nat->Prop)(n:Nat):Nat->Prop:=λr=>S r\/n<=r
theorem ba.WH(h:ba H){i:Nat}(n:H.next<=i):H.get i=Z:=by
 rcases e:H.get i with _|o;.rfl
 have:=h.get i o e;omega
theorem Stat.lt{n:Nat}(h:Stat O H n)(a:ba H){i:Nat}(e:O i=J p):i<H.next:=by
 obtain⟨_,s⟩:=h.cq i p e;rcases g:H.get i with _|o;.grind
 exact a.get i o g
theorem Stat.WH{n:Nat}(h:Stat O H n)(a:ba H){i:Nat}(b:H.next<=i):O i=Z:=by
 rcases e:O i with _|p;.rfl
 have:=h.lt a e;omega
theorem qZ{H:Heap}(h:ba H){i:Nat}(d:i<H.next):rootOf H i<H.next:=by
 unfold rootOf;split;.rename_i l r fl e g;have:=(h.root i l r fl e g).1;omega
 omega
theorem mS(H:Heap)(o:bQ):(H.alloc o).get H.next=J o:=Tr.lL _ _ _
theorem nE(H:Heap)(o:bQ){i:Nat}(h:i≠H.next):(H.alloc o).get i=H.get i:=Tr.jF _ _ (Ne.symm h)
theorem aeL(H:Heap)(o:bQ)(r:Nat):(H.alloc o).bh r=H.bh r:=rfl
theorem BS(h:ba H)(a:H.next<=r):H.bh r=(0,r):=by
 unfold Heap.bh;rcases e:H.dh.get r with _|f;.rfl
 have:=(h.dh r f e).1;omega
theorem bA.same(h:bA S O H w)(e:w'.heap=w.heap):bA S O H w':=⟨by rw[e];exact h.stat,λid p o a b c d=>(h.obj id p o a b c d).mono (Ext.refl O) aj⟩
theorem Fr.same(e:w'.heap=w.heap)(a:w'.os=w.os)(c:w'.tape=w.tape)(d:w'.output=w.output):Fr O H w O H w':={Fr.refl O H w with
 size:=aj
 os:=a
 tape:=c
 output:=d
 nA:=λb _=>.inl aj
 new:=λid p h f=>by grind}
theorem xY(i:ba H)(o:bQ)(c:∀l r fl e,o=.cells l r fl e->r=H.next):ba (H.alloc o)where
 get:=λid b h=>by
  show id<H.next+1;by_cases e:id=H.next;.omega
  .rw[nE H o e]at h;have:=i.get id b h;omega
 root:=λid l r fl e h=>by
  rw[aeL];by_cases n:id=H.next;.subst n;rw[mS]at h;have:=c l r fl e (by simpa using h);subst this;rw[BS i (bo _)];exact⟨bo _,bo _⟩
  .rw[nE H o n]at h;exact i.root id l r fl e h
 oy:=λid l r fl e h=>by
  by_cases n:id=H.next
  . subst n;rw[mS]at h;have:=c l r fl e (by simpa using h);subst this;have a:o=.cells l H.next fl e:=by simpa using h
    exact⟨l,fl,e,by rw[mS,a]⟩
  .rw[nE H o n]at h;have hr:=(i.root id l r fl e h).1;have hid:=i.get id _ h;rw[nE H o ae];exact i.oy id l r fl e h
 dh:=λr f h=>by have:=i.dh r f h;exact⟨Nat.lt_succ_of_lt this.1,Nat.lt_succ_of_lt this.2⟩
 bn:=Nat.le_succ_of_le i.bn
theorem Rr(o:bQ){i:Nat}(h:i≠H.next):rootOf (H.alloc o) i=rootOf H i:=by grind[rootOf,nE]
theorem V4(o:bQ){i:Nat}(h:i≠H.next):fJ (H.alloc o) i↔fJ H i:=by grind[fJ,nE]
theorem abI(o:bQ){i:Nat}(h:i≠H.next):jr (H.alloc o) i↔jr H i:=by grind[jr,nE,aeL]
theorem Kn(d:ba H)(s:bA S O H w)(o:bQ)(k:Obj)(p:Pl)(F:p.aW=w.heap.size)(z:∀l r fl e,o=.cells l r fl e->r=H.next/\l.length=p.len)(B:mn O (World.push w k) o p):ba (H.alloc o)/\bA (more S H.next) (gH O H.next p) (H.alloc o) (World.push w k)/\Fr O H w (gH O H.next p) (H.alloc o) (World.push w k):=by
 have A:=s.stat.WH d (bo _);have X:=akx p A;have v:=xY d o λl r fl e h=>(z l r fl e h).1;have N:rootOf (H.alloc o) H.next=H.next:=by grind[rootOf,mS]
 refine⟨v,⟨⟨?_,?_,?_,?_⟩,?_⟩,?_⟩
 . intro id q a;by_cases e:id=H.next;.grind[jK,DO,mS]
   .rw[lC O p e]at a;obtain⟨x,t⟩:=s.stat.cq id q a;grind[DO,nE]
 . intro id q l r fl e a g;by_cases n:id=H.next;.grind[jK,mS]
   .rw[lC O p n]at a;rw[nE H o n]at g;exact s.stat.len id q l r fl e a g
 . intro i j q r a hr m Z;by_cases c:i=H.next
   . subst c;rw[jK]at a;obtain rfl:p=q:=aj;by_cases b:j=H.next;.grind
     .rw[lC O p b]at hr;have:=(s.stat.cq j r hr).1;omega
   . rw[lC O p c]at a;by_cases b:j=H.next;.subst b;rw[jK]at hr;obtain rfl:p=r:=aj;have:=(s.stat.cq i q a).1;omega
     .rw[lC O p b]at hr;rw[Rr o c,Rr o b];exact s.stat.inj i j q r a hr m λh=>Z ((V4 o c).2 h)
 . intro i j q r a hr m Z D;by_cases c:i=H.next;.subst c;rw[jK]at a;obtain rfl:p=q:=aj;rw[lC O p ae]at hr;have:=(s.stat.cq j r hr).1;omega
   . rw[lC O p c]at a;by_cases b:j=H.next;.subst b;rw[jK]at hr;obtain rfl:p=r:=aj;have:=(s.stat.cq i q a).1;omega
     .rw[lC O p b]at hr;refine s.stat.mono i j q r a hr m ?_ D;grind[V4]
 . intro id q f a u y g;by_cases n:id=H.next;.subst n;rw[jK]at a;obtain rfl:p=q:=aj;rw[mS]at g;obtain rfl:o=f:=aj;exact B.mono X rfl
   . rw[lC O p n]at a;rw[nE H o n]at g;have hid:=s.stat.lt d a;rw[Rr o n]at u;have U:S (rootOf H id):=by
      rcases u with h|h;.omega
      .have:=qZ d hid;omega
     refine(s.obj id q f a U ((abI o n).1 y) g).mono X (Ge w k (s.stat.cq id q a).1)
 . refine{ext:=X,size:=by simp[DO],os:=rfl,tape:=rfl,output:=rfl,next:=J' _,bn:=rfl,bK:=λ_ h=>h,cK:=λ_ h=>h,root:=?_,view:=?_,nA:=?_,new:=?_,ro:=?_,keep:=λid f hid g=>⟨f,by grind[nE],rq.refl f⟩,cover:=λid x t=>⟨p,by have E:id<H.next+1:=t;grind[jK]⟩,mD:=?_,vl:=λ_ h=>.inl h,vF:=λ_ h=>.inl h};.grind[Rr]
   .grind[nE,abI]
   .grind[Ge]
   .grind[jK,lC]
   .grind[V4]
   . intro id q a C hr;by_cases n:id=H.next;.subst n;have:=d.bn;omega
     grind[lC]
def bQ.dQ:bQ->Bool|.cells ..=>V|_=>C
theorem qp{i:Nat}{l r f e}(h:H.get i=J (.cells l r f e)):rootOf H i=r:=by grind[rootOf]
theorem yY{i:Nat}{o:bQ}(h:H.get i=J o)(a:o.dQ=C):rootOf H i=i:=by grind[rootOf,bQ.dQ]
theorem oO(H:Heap)(i r:Nat)(o:bQ):(H.dG i r o).get i=J o:=by unfold Heap.dG;cases aw _ i<;>exact Tr.lL _ _ _
theorem nF(H:Heap){d:Nat}(r:Nat)(o:bQ){i:Nat}(h:i≠d):(H.dG d r o).get i=H.get i:=by unfold Heap.dG;cases aw _ d<;>exact Tr.jF _ _ (Ne.symm h)
theorem xr(H:Heap)(i r:Nat)(o:bQ):(H.dG i r o).next=H.next:=by unfold Heap.dG;cases aw _ i<;>rfl
theorem Ea(H:Heap)(i r:Nat)(o:bQ):(H.dG i r o).bn=H.bn:=by unfold Heap.dG;cases aw _ i<;>rfl
theorem BW(H:Heap)(i r:Nat)(o:bQ):(H.dG i r o).cK=H.cK:=by unfold Heap.dG;cases aw _ i<;>rfl
theorem zq(H:Heap)(i r:Nat)(o:bQ):(H.dG i r o).bK=Heap.note H.bn r H.bK:=by unfold Heap.dG;cases aw _ i<;>rfl
theorem HU(H:Heap)(i t:Nat)(o:bQ)(h:r≠t):(H.dG i t o).bh r=H.bh r:=by unfold Heap.dG Heap.bh;cases aw _ i with|true=>rfl|false=>simp only[bg];rw[Tr.jF _ _ (Ne.symm h)];rfl
theorem Lc(H:Heap)(i:Nat)(o:bQ):(H.dG i i o).bh i=H.bh i:=by unfold Heap.dG Heap.bh;rw[Kv rfl];rfl
theorem Pe(H:Heap){i r:Nat}(o:bQ)(h:r≠i):(H.dG i r o).bh r=(i,i):=by grind[Heap.dG,Heap.bh,BK,Tr.lL]
theorem QG{b x:Nat}{l:an}:x∈l->x∈Heap.note b r l:=by grind[Heap.note]
theorem vZ{b x:Nat}{l:an}(h:x∈Heap.note b r l):x∈l\/(x=r/\x<b):=by grind[Heap.note,fB]
theorem FW{b:Nat}(l:an)(h:r<b):r∈Heap.note b r l:=by grind[Heap.note,fB]
theorem ai8(k:ba H)(s:bA S O H w){d:Nat}{a:bQ}(o:bQ)(L:Obj)(hp:O d=J p)(P:H.get d=J a)(dZ:¬fJ H d)(C9:∀l r fl e,a=.cells l r fl e->(H.bh r).1<=d/\(H.bh r).2=d/\∃u b,o=.cells u r b e/\u.length=l.length)(aga:a.dQ=C->o.dQ=C)(ho:mn O (World.eH w p.aW L) o p):ba (H.dG d (rootOf H d) o)/\bA S O (H.dG d (rootOf H d) o) (World.eH w p.aW L)/\Fr O H w O (H.dG d (rootOf H d) o) (World.eH w p.aW L):=by
 obtain⟨root,X⟩:∃root,root=rootOf H d:=⟨_,rfl⟩;rw[<-X];have hid:=k.get d a P;have vN:=(s.stat.cq d p hp).1;have R:∀i,rootOf (H.dG d root o) i=rootOf H i:=λi=>by
   by_cases e:i=d;.subst e;cases c:a.dQ with|true=>cases a<;>simp[bQ.dQ]at c;grind[qp,oO]|false=>grind[yY,oO]
   grind[rootOf,nF]
 have A:∀i,fJ H i->fJ (H.dG d root o) i:=λi h=>by grind[fJ,nF]
 have aOb:∀i,i≠d->fJ (H.dG d root o) i->fJ H i:=λi e h=>by grind[fJ,nF]
 have D:∀i l r fl e,i≠d->H.get i=J (.cells l r fl e)->r=root->¬((H.dG d root o).bh root).1<=i:=by
   intro i l r fl e B Y hr hle;subst hr;have sM:=k.root i l r fl e Y;by_cases Q:r=d;.subst Q;cases c:a.dQ with|true=>cases a<;>simp[bQ.dQ]at c;grind[qp]|false=>obtain⟨u,b,N,hh⟩:=k.oy i l r fl e Y;grind
   grind[Pe,rootOf]
 have SP:∀i,i≠d->jr (H.dG d root o) i->jr H i:=λi B F l r fl e Y=>by
   have K:(H.dG d root o).get i=J (.cells l r fl e):=by grind[nF]
   have:=F l r fl e K;grind[HU]
 refine⟨⟨?_,?_,?_,?_,?_⟩,⟨⟨?_,?_,?_,?_⟩,?_⟩,?_⟩
 . intro i v h;rw[xr];by_cases e:i=d;.omega
   .rw[nF H root o e]at h;exact k.get i v h
 . intro i l r fl e h;have t:∃l0 M e0,H.get i=J (.cells l0 r M e0):=by
     by_cases n:i=d;.subst n;rw[oO]at h;have E:o=.cells l r fl e:=aj;cases c:a.dQ with|true=>cases a<;>simp[bQ.dQ]at c;grind|false=>grind[bQ.dQ]
     grind[nF]
   obtain⟨l0,M,e0,W⟩:=t;obtain⟨U,h2⟩:=k.root i l0 r M e0 W;grind[Lc,Pe,HU]
 . intro i l r fl e h;have back:∀j l r fl e,H.get j=J (.cells l r fl e)->∃u b N,(H.dG d root o).get j=J (.cells u r b N):=by grind[oO,nF]
   have t:∃l0 M e0,H.get i=J (.cells l0 r M e0):=by
     by_cases n:i=d;.subst n;rw[oO]at h;have E:o=.cells l r fl e:=aj;cases c:a.dQ with|true=>cases a<;>simp[bQ.dQ]at c;grind|false=>grind[bQ.dQ]
     grind[nF]
   obtain⟨l0,M,e0,W⟩:=t;obtain⟨l1,nD,e1,U⟩:=k.oy i l0 r M e0 W;grind
 .intro r f h;rw[xr];unfold Heap.dG at h;cases m:aw root d with|true=>rw[m]at h;exact k.dh r f h|false=>
     rw[m]at h;simp only[bg]at h;by_cases hr:r=root;.subst hr;rw[Tr.lL]at h;have:f=(d,d):=aj;simp_all[qZ]
     .rw[Tr.jF _ _ (Ne.symm hr)]at h;exact k.dh r f h
 .rw[xr,Ea];exact k.bn
 .intro i q g;rw[Cr];obtain⟨U,h2⟩:=s.stat.cq i q g;grind[oO,nF]
 . intro i q l r fl e g Y;by_cases n:i=d;.subst n;rw[oO]at Y;have E:o=.cells l r fl e:=aj;cases c:a.dQ with|true=>cases a<;>simp[bQ.dQ]at c;rename_i l0 r0 M e0;obtain⟨_,_,u,b,he,G⟩:=C9 l0 r0 _ e0 rfl;rw[he]at E;obtain⟨rfl,_,_,_⟩:=bQ.cells.inj E;rw[G];exact s.stat.len i q l0 r0 _ e0 g P|false=>grind[bQ.dQ]
   .rw[nF H _ o n]at Y;exact s.stat.len i q l r fl e g Y
 .intro i j q r g hr m z;rw[R,R];exact s.stat.inj i j q r g hr m λh=>z (A i h)
 .intro i j q r g hr m z;exact s.stat.mono i j q r g hr m aj
 . intro i q v g hS F Y;rw[R]at hS;by_cases n:i=d;.grind[oO]
   . have I:=Y;rw[nF H _ o n]at I;have T:q.aW≠p.aW:=by intro m;have hr:=s.stat.inj d i p q hp g m.symm dZ;rw[<-X]at hr;cases AE:v.dQ with|true=>cases v<;>simp[bQ.dQ]at AE;rename_i l r fl e;have sM:=qp I;exact D i l r fl e n I ae (by have:=F l r fl e Y;grind)|false=>have sM:=yY I AE;rw[sM]at hr;cases c:a.dQ with|true=>cases a<;>simp[bQ.dQ]at c;rename_i l0 r0 M e0;have:=qp P;rw[<-X,hr]at this;subst this;obtain⟨u,b,N,hh⟩:=k.oy d l0 i _ e0 P;grind[bQ.dQ]|false=>grind[yY]
     exact(s.obj i q v g hS aP I).mono (Ext.refl O) (Cq w L T)
 . refine{ext:=Ext.refl O,size:=by simp[Cr],os:=rfl,tape:=rfl,output:=rfl,next:=by simp[xr],bn:=Ea ..,bK:=?_,cK:=?_,root:=λi _=>R i,view:=?_,nA:=?_,new:=?_,ro:=λi _ h=>A i h,keep:=?_,cover:=λi U h2=>by grind[xr],mD:=λi q h E=>aj,vl:=?_,vF:=λr hr=>.inl (by grind[BW])};.grind[zq,QG]
   .simp[BW]
   .intro i v lr ht hw Y;rw[zq]at hw;have B:rootOf H i≠root:=λe=>hw (by grind[FW]);have n:i≠d:=λe=>B aj;refine⟨by grind[nF],?_,aP⟩;intro F l r fl e K;rw[nF H _ o n]at K;have hr:r≠root:=λN=>B (by grind[qp]);rw[HU H d _ o hr];exact F l r fl e K
   .grind[zq,FW,Cq]
   .grind
   . intro i v lr Y;by_cases n:i=d
     . subst n;refine⟨o,oO H i _ o,?_⟩;refine⟨λl r fl e he=>?_,λB=>?_⟩;.grind
       . have c:a.dQ=C:=by cases a<;>first|rfl|grind
         grind[bQ.dQ]
     grind[nF,rq.refl]
   .intro r hr;rw[zq]at hr;rcases vZ hr with x|⟨x,y⟩;all_goals grind
theorem yn(H:Heap)(r Y:Nat)(k:Bool)(c:aD)(e:al):(H.hQ r Y k c e).get H.next=J (.cells c r .op e):=Tr.lL _ _ _
theorem lJ(H:Heap)(r Y:Nat)(k:Bool)(c:aD)(e:al){i:Nat}(h:i≠H.next):(H.hQ r Y k c e).get i=H.get i:=Tr.jF _ _ (Ne.symm h)
theorem An(H:Heap)(r Y:Nat)(k:Bool)(c:aD)(e:al):(H.hQ r Y k c e).bh r=(bif k then H.next else Y,H.next):=by simp[Heap.bh,Heap.hQ,Tr.lL]
theorem HT(H:Heap)(o Y:Nat)(k:Bool)(c:aD)(e:al)(h:r≠o):(H.hQ o Y k c e).bh r=H.bh r:=by grind[Heap.bh,Heap.hQ,Tr.jF]
theorem U0(E:ba H)(B:bA S O H w){u:Nat}{t:Nat}(M:O u=J p)(hg:H.get u=J (.cells l t fl e))(rR:fl≠.ro)(Fj:(H.bh t).2=u)(Y:Nat)(B8:Y=(H.bh t).1)(c:aD)(d:Bool)(q:Pl)(hc:c.length=q.len)(h0:w.heap.size<=w'.heap.size)(yE:w'.os=w.os/\w'.tape=w.tape/\w'.output=w.output)(hold:∀b,b<w.heap.size->b≠p.aW->w'.heap[b]?=w.heap[b]?)(hw:(q.aW=p.aW/\p.base+p.len<=q.base+q.len)\/(w.heap.size<=q.aW/\q.aW<w'.heap.size))(agk:d=C->∀cs e1 fz,w.heap[p.aW]?=J (.cells cs e1 fz)->∃qG,w'.heap[p.aW]?=J (.cells qG e1 fz)/\qG.size=cs.size/\∀k,k<p.base+p.len->qG[k]?=cs[k]?)(oj:mn O w' (.cells c t .op e) q):ba (H.hQ t Y d c e)/\bA (more S H.next) (gH O H.next q) (H.hQ t Y d c e) w'/\Fr O H w (gH O H.next q) (H.hQ t Y d c e) w':=by
 have hid:=E.get u _ hg;have vN:=(B.stat.cq u p M).1;have cA:O H.next=Z:=B.stat.WH E (bo _);have lX:=akx q cA;have R:rootOf H u=t:=qp hg;have aw1:t<H.next:=by have:=(E.root u l t fl e hg).1;omega
 have X:¬fJ H u:=by rintro⟨F,G,z,h⟩;rw[hg]at h;simp at h;exact rR h.2.2.1
 have fI:=h0;have VH:q.aW<w'.heap.size:=by
   rcases hw with⟨D,_⟩|⟨_,D⟩;.rw[D];omega
   .exact D
 have Jl:∀i,i≠H.next->rootOf (H.hQ t Y d c e) i=rootOf H i:=λi h=>by unfold rootOf;rw[lJ H t Y d c e h]
 have ZP:rootOf (H.hQ t Y d c e) H.next=t:=qp (yn ..);have DW:∀i,i≠H.next->(fJ (H.hQ t Y d c e) i↔fJ H i):=λi h=>by unfold fJ;rw[lJ H t Y d c e h]
 have lt:∀{i r},O i=J r->i≠H.next:=λh z=>by have:=B.stat.lt E h;omega
 have SP:∀i,i<H.next->jr (H.hQ t Y d c e) i->jr H i/\(rootOf H i=t->H.get i≠Z->(∃l r fl e,H.get i=J (.cells l r fl e))->d=C):=by
   intro i lr N;have hn:i≠H.next:=ae;constructor
   . intro F G m z A;have:=N F G m z (by rw[lJ H t Y d c e hn];exact A);by_cases hr:G=t;.subst hr;rw[An]at this;cases d with|true=>simp at this;omega|false=>simp at this;rw[<-B8];exact this
     .rw[HT H t Y d c e hr]at this;exact this
   . intro hr _⟨F,G,m,z,A⟩;have:=N F G m z (by rw[lJ H t Y d c e hn];exact A);have LP:G=t:=by rw[<-hr,qp A]
     subst LP;rw[An]at this;cases d with|true=>simp at this;omega|false=>rfl
 refine⟨⟨?_,?_,?_,?_,?_⟩,⟨⟨?_,?_,?_,?_⟩,?_⟩,?_⟩
 . intro i o h;show i<H.next+1;by_cases n:i=H.next;.omega
   .rw[lJ H t Y d c e n]at h;have:=E.get i o h;omega
 . intro i F G m z h;by_cases n:i=H.next;.subst n;rw[yn]at h;obtain⟨_,rfl,_,_⟩:=bQ.cells.inj (by simpa using h);rw[An];exact⟨ae,bo _⟩
   . rw[lJ H t Y d c e n]at h;obtain⟨D,W⟩:=E.root i F G m z h;refine⟨D,?_⟩;by_cases hr:G=t;.subst hr;rw[An];have:=E.get i _ h;show i<=H.next;omega
     .rw[HT H t Y d c e hr];exact W
 . intro i F G m z h;by_cases n:i=H.next;.subst n;rw[yn]at h;obtain⟨_,rfl,_,_⟩:=bQ.cells.inj (by simpa using h);rw[lJ H t Y d c e ae];exact E.oy u l t fl e hg
   .rw[lJ H t Y d c e n]at h;have D:=(E.root i F G m z h).1;have W:=E.get i _ h;rw[lJ H t Y d c e ae];exact E.oy i F G m z h
 . intro r f h;show r<H.next+1/\f.2<H.next+1;by_cases hr:r=t
   . subst hr;have h':(H.hQ r Y d c e).dh.get r=J (bif d then H.next else Y,H.next):=Tr.lL _ _ _;rw[h']at h;have:f=(bif d then H.next else Y,H.next):=by simpa using h.symm
     subst this;exact⟨ae,by show H.next<H.next+1;omega⟩
   .have h':(H.hQ t Y d c e).dh.get r=H.dh.get r:=Tr.jF _ _ (Ne.symm hr);rw[h']at h;have:=E.dh r f h;omega
 .exact Nat.le_succ_of_le E.bn
 . intro i r hr;by_cases n:i=H.next
   . subst n;rw[jK]at hr;obtain rfl:q=r:=by simpa using hr
     exact⟨VH,by rw[yn];rfl⟩
   .rw[lC O q n]at hr;obtain⟨D,W⟩:=B.stat.cq i r hr;exact⟨ae,by rw[lJ H t Y d c e n];exact W⟩
 . intro i r F G m z hr A;by_cases n:i=H.next
   . subst n;rw[jK]at hr;obtain rfl:q=r:=by simpa using hr
     rw[yn]at A;obtain⟨rfl,_,_,_⟩:=bQ.cells.inj (by simpa using A);exact hc
   .rw[lC O q n]at hr;rw[lJ H t Y d c e n]at A;exact B.stat.len i r F G m z hr A
 . intro i j r s hr P L dZ;by_cases U:i=H.next
   . subst U;rw[jK]at hr;obtain rfl:q=r:=by simpa using hr
     by_cases K:j=H.next;.subst K;rfl
     . rw[lC O q K]at P;rw[ZP,Jl j K];rcases hw with⟨D,_⟩|⟨D,_⟩;.rw[<-R];exact B.stat.inj u j p s M P (by rw[<-D,L]) X
       .have:=(B.stat.cq j s P).1;omega
   . rw[lC O q U]at hr;have Iw:¬fJ H i:=λh=>dZ ((DW i U).2 h);by_cases K:j=H.next
     . subst K;rw[jK]at P;obtain rfl:q=s:=by simpa using P
       rw[ZP,Jl i U];rcases hw with⟨D,_⟩|⟨D,_⟩;.rw[<-R];exact B.stat.inj i u r p hr M (by rw[L,D]) Iw
       .have:=(B.stat.cq i r hr).1;omega
     .rw[lC O q K]at P;rw[Jl i U,Jl j K];exact B.stat.inj i j r s hr P L Iw
 . intro i j r s hr P L dZ lq;have U:i≠H.next:=by
     intro z;subst z;by_cases K:j=H.next;.omega
     .rw[lC O q K]at P;have:=B.stat.lt E P;omega
   rw[lC O q U]at hr;by_cases K:j=H.next
   . subst K;rw[jK]at P;obtain rfl:q=s:=by simpa using P
     rcases hw with⟨D,W⟩|⟨D,_⟩
     . by_cases Vv:i=u
       . subst Vv;rw[M]at hr;obtain rfl:p=r:=by simpa using hr
         exact W
       . have uD:r.aW=p.aW:=by rw[L,D]
         have T:=(B.stat.inj u i p r M hr uD.symm X).symm;have bX:i<u:=by cases A:H.get i with|none=>have:=(B.stat.cq i r hr).2;rw[A]at this;simp at this|some o=>cases Q:o.dQ with
            |true=>
            cases o<;>simp[bQ.dQ]at Q;rename_i l1 r1 nD e1;have h3:=(E.root i l1 r1 nD e1 A).2;have h4:r1=t:=by rw[<-qp A,T,R]
            rw[h4,Fj]at h3;omega|false=>
            have h4:=yY A Q;rw[h4,R]at T;obtain⟨F,m,z,hh⟩:=E.oy u l t fl e hg;rw[<-T,A]at hh;have:o=.cells F i m z:=by simpa using hh
            rw[this]at Q;simp[bQ.dQ]at Q
         have:=B.stat.mono i u r p hr M uD (.inr X) bX;omega
     .have:=(B.stat.cq i r hr).1;omega
   .rw[lC O q K]at P;exact B.stat.mono i j r s hr P L (dZ.imp (λg h=>g ((DW i U).2 h)) λg h=>g ((DW j K).2 h)) lq
 . intro i r o hr hS N A;by_cases n:i=H.next
   . subst n;rw[jK]at hr;obtain rfl:q=r:=by simpa using hr
     rw[yn]at A;obtain rfl:bQ.cells c t .op e=o:=by simpa using A
     exact oj.mono lX rfl
   . rw[lC O q n]at hr;have I:=A;rw[lJ H t Y d c e n]at I;have lr:=B.stat.lt E hr;rw[Jl i n]at hS;have U':S (rootOf H i):=by
       rcases hS with h|h;.exact h
       .have:=qZ E lr;omega
     obtain⟨Av,hk⟩:=SP i lr N;have PY:=B.obj i r o hr U' Av I;by_cases L:r.aW=p.aW;.have T:=B.stat.inj u i p r M hr L.symm X;rw[R]at T;cases Q:o.dQ with
       |true=>
         cases o<;>simp[bQ.dQ]at Q;rename_i l1 r1 nD e1;have awj:=hk T.symm (by rw[I];simp) ⟨_,_,_,_,I⟩;have hle:r.base+r.len<=p.base+p.len:=by
          by_cases Vv:i=u
          . subst Vv;rw[M]at hr;obtain rfl:p=r:=by simpa using hr
            exact bo _
          . have h7:=(E.root i l1 r1 nD e1 I).2;have h8:r1=t:=by rw[<-qp I,<-T]
            rw[h8,Fj]at h7;exact B.stat.mono i u r p hr M L (.inr X) ae
         obtain⟨ds,gz,ge,g1,g2,g3,g4,g5,g6,g7⟩:=PY;rw[L]at g1;obtain⟨qG,k1,k2,k3⟩:=agk awj _ _ _ g1;refine mn.mono lX (w:=w') rfl ⟨qG,gz,ge,by rw[L];exact k1,by rw[k2];exact g2,g3,?_,g5,g6,g7⟩;intro k a vJ;obtain⟨v,hv,B9⟩:=g4 k a vJ;have hkl:k<r.len:=by have:=(List.getElem?_eq_some_iff.1 vJ).1;have:=B.stat.len i r l1 r1 nD e1 hr I;omega
         exact⟨v,by rw[k3 _ ae];exact hv,B9⟩|false=>
         have h7:=yY I Q;rw[h7]at T;obtain⟨F,m,z,hh⟩:=E.oy u l t fl e hg;rw[T,I]at hh;have:o=.cells F i m z:=by simpa using hh
         rw[this]at Q;simp[bQ.dQ]at Q
     .exact PY.mono lX (hold _ (B.stat.cq i r hr).1 L)
 . refine{ext:=lX,size:=fI,os:=yE.1,tape:=yE.2.1,output:=yE.2.2,next:=J' _,bn:=rfl,bK:=?_,cK:=λr h=>QG h,root:=?_,view:=?_,nA:=?_,new:=?_,ro:=?_,keep:=λi o' lr A=>⟨o',by rw[lJ H t Y d c e ae];exact A,rq.refl o'⟩,cover:=λi D W=>⟨q,by have h3:i<H.next+1:=W;have:i=H.next:=ae;rw[this];exact jK _ _ _⟩,mD:=?_,vl:=?_,vF:=?_};.intro r h;show r∈(bif d then Heap.note H.bn t H.bK else H.bK);cases d with|true=>exact QG h|false=>exact h
   .intro i lr;exact Jl i ae
   . intro i o lr ht hwl A;have hn:i≠H.next:=ae;refine⟨by rw[lJ H t Y d c e hn];exact A,?_,λN=>(SP i lr N).1⟩;intro N F G m z I;rw[lJ H t Y d c e hn]at I;by_cases hr:G=t;.subst hr;rw[An];cases d with|true=>exfalso;apply hwl;rw[qp I];exact FW _ (by grind[qp])|false=>simp only[bg];rw[B8];exact N F G m z I
     .rw[HT H t Y d c e hr];exact N F G m z I
   . intro b L;by_cases z:b=p.aW
     . refine .inr ⟨u,p,M,z.symm,X,?_⟩;rw[R];by_cases ht:t<H.bn;.exact .inr (.inr (FW _ ht))
       omega
     simp_all
   . intro i r hr hφ;by_cases n:i=H.next
     . subst n;rw[jK]at hr;obtain rfl:q=r:=aP;refine⟨bo _,?_⟩;rcases hw with⟨D,_⟩|⟨D,_⟩
       . refine .inr ⟨u,p,M,D.symm,X,ae,?_⟩;rw[R];by_cases ht:t<H.bn;.exact .inr (FW _ ht)
         omega
       omega
     grind[lC]
   .grind
   . intro i r hr hφ bX;by_cases n:i=H.next;.subst n;rw[ZP]at bX|-;exact⟨FW _ bX,u,p,M,R⟩
     grind[lC]
   .intro r hr;have LP:r∈(bif d then Heap.note H.bn t H.bK else H.bK):=hr;cases d with|true=>rcases vZ LP with x|⟨x,y⟩;all_goals grind|false=>exact .inl LP
   . intro r hr;rcases vZ hr with x|⟨x,y⟩;.exact .inl x
     .exact .inr ⟨y,u,p,M,by rw[x];exact R⟩
theorem wM(b o n:Nat):(⟨b,o,Z⟩:Addr).add n=⟨b,o+n,Z⟩:=by simp[Addr.add]
theorem To{b:Nat}(h:w.heap[b]?=J (.cells cs e fz))(o:Nat):w.cell? ⟨b,o,Z⟩=cs[o]?:=by grind[World.cell?]
theorem afc{b:Nat}(h:w.heap[b]?=J (.cells cs e (0,0)))(o:Nat):w.frozen? ⟨b,o,Z⟩=C:=by grind[World.frozen?]
theorem Z2{b:Nat}(h:w.heap[b]?=J (.cells cs e fz)):w.shape? b=J (e,cs.size):=by grind[World.shape?]
theorem aGq{b:Nat}(h:w.heap[b]?=J (.cells cs e fz))(o:Nat):∀(n i:Nat)(a:Array aB),o+i+n<=cs.size->(loadCellsFrom ⟨b,o,Z⟩ i n a).run P w=.ok (a++cs.extract (o+i) (o+i+n)) w:=by intro n;induction n with|zero=>simp_all[loadCellsFrom]|succ n d=>
 intro i a l;have X:o+i<cs.size:=ae;have c:w.cell? ⟨b,o+i,Z⟩=J cs[o+i]:=by rw[To h,np _]
 simp only[loadCellsFrom,wM,Sem.run_bind,run_load,c,Result.andThen_ok];rw[d _ _ ae];congr 1;apply Array.ext';simp only[Array.toList_append,Array.toList_push,Array.toList_extract,kr];have e3:o+i+(n+1)-(o+i)=n+1:=ae;have e4:o+i+(n+1)-(o+i+1)=n:=ae;grind[G5]
theorem Jo{b:Nat}(h:w.heap[b]?=J (.cells cs e fz)){n:Nat}(a:D+n<=cs.size):(loadCells ⟨b,D,Z⟩ n).run P w=.ok (cs.extract D (D+n)) w:=by unfold loadCells;rw[aGq h _ n 0 _ ae];simp
def over(c:Array aB)(o:Nat)(v:List aB):Array aB:=(c.toList.take o++v++c.toList.drop (o+v.length)).toArray
theorem A4(c:Array aB)(o:Nat)(v:List aB)(h:o+v.length<=c.size):(over c o v).size=c.size:=by grind[over]
theorem uU(c:Array aB)(o:Nat)(v:List aB)(h:o+v.length<=c.size)(i:Nat):(over c o v)[i]?=if o<=i/\i<o+v.length then v[i-o]? else c[i]?:=by grind[over]
theorem aGv{b:Nat}(h:w.heap[b]?=J (.cells cs e (0,0))){o:Nat}(a:o<cs.size)(d:wu v=V):(store ⟨b,o,Z⟩ v).run P w=.ok () (w.setCell ⟨b,o,Z⟩ v):=by
 have c:w.cell? ⟨b,o,Z⟩=J cs[o]:=by rw[To h,np a]
 have f:=afc h o;unfold store;cases v<;>simp[wu]at d<;>simp[Sem.run,c,f]
theorem aHb{b:Nat}(h:w.heap[b]?=J (.cells cs e fz))(o:Nat)(v:aB):w.setCell ⟨b,o,Z⟩ v=World.eH w b (.cells (cs.setIfInBounds o v) e fz):=by unfold World.setCell World.eH;congr 1;grind
theorem ZY(w:aT)(b:Nat)(o a:Obj):World.eH (World.eH w b o) b a=World.eH w b a:=by simp[World.eH]
theorem aHa{b:Nat}{o:Obj}(h:w.heap[b]?=J o):World.eH w b o=w:=by
 unfold World.eH;have:w.heap.setIfInBounds b o=w.heap:=by grind
 simp_all
theorem aGw:∀(vs:List aB)(w:aT)(b:Nat)(cs:Array aB)(e:al)(D i:Nat),w.heap[b]?=J (.cells cs e (0,0))->D+i+vs.length<=cs.size->(∀v,v∈vs->wu v=V)->(storeCells ⟨b,D,Z⟩ vs i).run P w=.ok () (World.eH w b (.cells (over cs (D+i) vs) e (0,0))):=by intro vs;induction vs with|nil=>simp_all[over,aHa,storeCells]|cons v vs c=>intro w b cs e D i h l s;have a:=(Array.getElem?_eq_some_iff.1 h).1;have o:D+i<cs.size:=aj;simp only[storeCells,wM,Sem.run_bind];rw[aGv h o aP];simp only[Result.andThen_ok];rw[aHb h];rw[c _ b _ e _ _ (Bd w _ a) aj aP];rw[ZY];congr 3;apply Su;grind[uU]
theorem Nq{b:Nat}(h:w.heap[b]?=J (.cells cs e (0,0))){vs:List aB}(n:D+vs.length<=cs.size)(s:∀v,v∈vs->wu v=V):(storeCells ⟨b,D,Z⟩ vs).run P w=.ok () (World.eH w b (.cells (over cs D vs) e (0,0))):=aGw vs w b cs e D 0 h ae s
theorem dA{d:TypeDesc}(h:P.underlying t=J d)(w:aT):(underlying t).run P w=.ok d w:=run_underlying h w
theorem Cp{i:TypeInfo}(h:P.info? t=J i)(w:aT):(typeInfo t).run P w=.ok i w:=by simp[typeInfo,h]
theorem mf{t n:Nat}(h:bC P t=J n)(w:aT):(sizeOf t).run P w=.ok n w:=by cases hi:P.info? t<;>simp_all[bC,sizeOf,Cp]
theorem Ru{b:Bool}(h:AM.isAgg P t=J b)(w:aT):(Go.isAgg t).run P w=.ok b w:=by
 unfold AM.isAgg at h;rcases u:P.underlying t with _|d;.grind
 cases d<;>simp[u]at h<;>subst h<;>simp[Go.isAgg,dA u]
theorem Gt{z:AV}(h:zB P t=J z)(w:aT):∃v,(zeroValue t).run P w=.ok v w/\VR O z v:=by
 unfold zB at h;rcases hi:P.info? t with _|i;.grind
 cases a:i.zero<;>simp_all[zeroValue,Cp,WQ]
def ir(S:Nat->Prop)(d:aZ)(H:Heap)(w:aT)(c:aZ)(a:Heap)(b:aT):Prop:=ba a/\bA (more S H.next) c a b/\Fr d H w c a b
section
variable{P:aM}{S:Nat->Prop}{O:aZ}{H:Heap}{w:aT}
theorem bA.more(i:ba H)(s:bA S O H w):bA (AM.more S H.next) O H w:=⟨s.stat,λid p o a b c d=>s.obj id p o a (by
 rcases b with h|h;.omega
 .have:=qZ i (s.stat.lt i a);omega) c d⟩
theorem ir.refl(h:ba H)(s:bA S O H w):ir S O H w O H w:=⟨h,s.more h,Fr.refl O H w⟩
theorem bA.up{T:Nat->Prop}(s:bA S O H w)(h:∀r,T r->S r):bA T O H w:=⟨s.stat,λid p o a b=>s.obj id p o a (h _ b)⟩
theorem KD{i:Nat}(h:H.cellsOf i=J l):∃r fl e,H.get i=J (.cells l r fl e)/\(H.bh r).1<=i:=by grind[Heap.cellsOf,du]
theorem alS{i:Nat}{l r f e}(g:H.get i=J (.cells l r f e))(h:(H.bh r).1<=i):jr H i:=by intro c d a b D;grind
theorem CO(s:bA S O H w){i:Nat}(b:O i=J p)(c:S (rootOf H i))(h:H.get i=J (.cells l r fl e))(a:(H.bh r).1<=i):mn O w (.cells l r fl e) p/\l.length=p.len:=⟨s.obj i p _ b c (alS h a) h,s.stat.len i p l r fl e b h⟩
theorem mn.slice(h:mn O w (.cells l r fl e) p)(g:l.length=p.len){n:Nat}(i:D+n<=l.length):∃cs fz e1,w.heap[p.aW]?=J (.cells cs e1 fz)/\p.base+D+n<=cs.size/\aV O ((l.drop D).take n) (cs.extract (p.base+D) (p.base+D+n)).toList/\(∀x,x∈(l.drop D).take n->x.bj=V):=by obtain⟨cs,fz,e1,a,c,d,f,b,_,_⟩:=h;refine⟨cs,fz,e1,a,ae,⟨aj,?_⟩,λx j=>b x aj⟩;grind
theorem ahv(t:bA S O H w){i n:Nat}(s:O i=J p)(j:S (rootOf H i))(h:H.load i D n=J l):∃cs:Array aB,(loadCells ⟨p.aW,p.base+D,Z⟩ n).run P w=.ok cs w/\aV O l cs.toList/\(∀x,x∈l->x.bj=V):=by
 unfold Heap.load at h;rcases c:H.cellsOf i with _|m;.grind
 simp only[c,cU,du,ef,qx,qI]at h;by_cases a:D+n<=m.length;.obtain rfl:(m.drop D).take n=l:=aj;obtain⟨r,fl,e,k,v⟩:=KD c;obtain⟨q,o⟩:=CO t s j k v;obtain⟨cs,fz,e1,b,d,f,g⟩:=q.slice o a;exact⟨_,Jo b d,f,g⟩
 grind
theorem aht(s:bA S O H w){i:Nat}(o:O i=J p)(g:S (rootOf H i))(h:AM.loadVar P H t i D=J a):∃v,(Go.loadVar t ⟨p.aW,p.base+D,Z⟩).run P w=.ok v w/\VR O a v:=by
 unfold AM.loadVar at h;rcases d:AM.isAgg P t with _|b;.grind
 cases b with|true=>
 simp only[d]at h;rcases z:bC P t with _|n;.grind
 simp only[z,cU,jE]at h;obtain⟨l,k,rfl⟩:=h;obtain⟨cs,hr,f,A⟩:=ahv (P:=P) s o g k;exact⟨_,by simp_all[Go.loadVar,Ru,mf],f.agg A cs rfl⟩|false=>
 simp only[d]at h;rcases j:H.cellsOf i with _|m;.grind
 simp only[j,cU,xw]at h;obtain⟨r,fl,e,x,f⟩:=KD j;obtain⟨y,k⟩:=CO s o g x f;obtain⟨cs,fz,e1,q,B,F,u,G,_,_⟩:=y;obtain⟨c,E,hr⟩:=u _ a h;exact⟨c,by simp[Go.loadVar,Ru d,To q,E],hr⟩
theorem aOl(h:fl≠.ro):fl.wr=V:=by cases fl<;>first|rfl|grind
theorem NB(z:ba H)(s:bA S O H w){d:Nat}{f:List aB}(c:O d=J p)(u:S (rootOf H d))(h:H.store d D vs=J H')(v:aV O vs f)(Q:∀x,x∈vs->x.bj=V):∃w',(storeCells ⟨p.aW,p.base+D,Z⟩ f).run P w=.ok () w'/\ba H'/\bA S O H' w'/\Fr O H w O H' w':=by
 unfold Heap.store at h;split at h
 . rename_i l r fl e g;simp only[du,bN,ef]at h;by_cases y:((H.bh r).1<=d/\(H.bh r).2=d/\D+vs.length<=l.length)/\fl≠.ro
   . obtain⟨⟨m,G,o⟩,R⟩:=y;have q:H.dG d r (.cells (gG l D vs) r fl e)=H':=by grind
     obtain⟨A,M⟩:=CO s c u g m;have n:=v.1;obtain⟨cs,fz,e1,g1,g2,g3,g4,g5,g6,g7⟩:=A;obtain⟨rfl,rfl⟩:=g6 R;have k:¬fJ H d:=by rintro⟨T,U,F,K⟩;grind
     have I:∀x,x∈f->wu x=V:=by intro x j;obtain⟨i,L⟩:=List.mem_iff_getElem?.1 j;have t:i<vs.length:=aj;exact(v.2 i _ _ (eZ t) L).bj aP
     have B:=qp g;refine⟨_,Nq g1 ae I,?_⟩;rw[<-q,<-B];refine ai8 z s _ _ c g k ?_ (λh=>by grind[bQ.dQ]) ?_;.grind[Bf]
     . have N:=(s.stat.cq d p c).1;refine⟨_,_,_,Bd w _ N,?_,g3,?_,?_,λ_=>⟨rfl,rfl⟩,g7⟩;.grind[A4]
       . intro i a b;rw[Cu l _ vs o]at b;rw[uU _ _ _ ae];by_cases E:D<=i/\i<D+vs.length;.rw[if_pos E]at b;obtain⟨x,j,hr⟩:=v.get b;grind
         grind
       grind[D3]
   grind[gS.wr]
 grind
theorem aJQ(g:ba H)(s:bA S O H w){i:Nat}(j:O i=J p)(f:S (rootOf H i))(h:AM.storeVar P H t i D a=J H')(k:VR O a v):∃w',(Go.storeVar t ⟨p.aW,p.base+D,Z⟩ v).run P w=.ok () w'/\ba H'/\bA S O H' w'/\Fr O H w O H' w':=by
 unfold AM.storeVar at h;rcases z:bC P t with _|n;.grind
 rcases c:a.cells with _|vs;.grind
 simp only[z,c,cU,bN,ef]at h;by_cases d:vs.length=n
 . simp only[d,eu,aL]at h;obtain⟨b,e⟩:=k.cells c;obtain⟨w',m,l⟩:=NB (P:=P) g s j f h b e;have I:v.cells.size=n:=by rw[<-d,b.1];rfl
   simp_all[Go.storeVar,mf]
 grind
theorem QJ(d:ba H)(s:bA S O H w)(l:aD)(f:gS)(e:al)(c:Array aB)(h:aV O l c.toList)(j:∀x,x∈l->x.bj=V):∃p:Pl,p.aW=w.heap.size/\p.base=0/\p.oB=c.size/\p.len=l.length/\(newRow e c).run P w=.ok ⟨p.aW,0,Z⟩ (World.push w (.cells c e))/\ir S O H w (gH O H.next p) (H.cO l f e) (World.push w (.cells c e)):=by
 have g:=by simpa using h.1
 refine⟨⟨_,0,_,_⟩,rfl,rfl,rfl,rfl,?_,?_⟩;.rfl
 . refine Kn d s _ _ _ rfl ?_ ?_;.grind
   .refine⟨c,_,_,xF w _,rfl,aj,?_,j,λ_=>⟨rfl,rfl⟩,λ_=>⟨rfl,g.symm⟩⟩;intro i a b;obtain⟨v,k,m⟩:=h.get b;grind
theorem Tz(u o e t:Nat):u<=(Question.appendCap u o e).cut t:=by simp[Question.cut]
theorem aib(u o e:Nat):(Question.appendCap u o e).forced=C:=rfl
theorem ahR(u o:Nat)(h:o<u):Builtin.nextslicecap u o<=2*u+192:=by grind[Builtin.nextslicecap,Builtin.growBy]
theorem ajG{y t:al}{d:TypeDesc}{s:Nat}{G j n:Nat}{e:Array aB}(h:ats[0]?=J t)(u:P.underlying t=J (.slice elem))(f:bC P elem=J s)(c:ats[1]?=J xt)(g:P.underlying xt=J d)(x:∀k,d≠.int k)(i:(Builtin.lenOf xv).run P w=.ok n w)(o:(oE s n xv).run P w=.ok e w)(l:G+n<=j)(b:(match base with|some a=>storeCells (a.add (G*s)) e.toList|none=>pure ()).run P w=.ok () w'):(s8 ats y #[.slice base G j,xv]).run P w=.ok (.slice base (G+n) j) w':=by
 rcases base with _|a;.simp at b;subst b;simp[s8,h,c,dA u,mf f,dA g,i,o,l]
 simp[s8,h,c,dA u,mf f,dA g,i,o,l,b]
theorem aju{u b:Nat}(g:cap<=2*u+192)(h:u*b<=bF)(a:1<=u):¬(cap*b>2^48):=by have D:u*b<=1099511627776:=h;have c:cap*b<=(194*u)*b:=ml _ ae;grind
theorem run_append_grow{ty s:al}{d:TypeDesc}{i:TypeInfo}{eG jn n:Nat}{old e:Array aB}(a:ats[0]?=J s)(u:P.underlying s=J (.slice elem))(j:P.info? elem=J i)(z:i.zero=J zv)(b:ats[1]?=J xt)(g:P.underlying xt=J d)(x:∀k,d≠.int k)(l:(Builtin.lenOf xv).run P w=.ok n w)(m:(oE i.size n xv).run P w.drew=.ok e w.drew)(Y:¬eG+n<=jn)(o:(oE i.size eG (.slice base eG jn)).run P w.drew=.ok old w.drew)(t:(eG+n)*i.bytes<=bF)(h:eG+n<=bF):∃c,eG+n<=c/\(s8 ats ty #[.slice base eG jn,xv]).run P w=.ok (.slice (J ⟨w.heap.size,0,Z⟩) (eG+n) c) (World.push w.drew (.cells (old++e++nR zv.cells (c-(eG+n))) elem)):=by
 refine⟨_,Tz (eG+n) jn elem (w.tape w.drawn (.appendCap (eG+n) jn elem)),?_⟩;have f:bC P elem=J i.size:=by grind[bC]
 have T:¬((9223372036854775807:Int)<((eG:Int)+(n:Int))):=by have:eG+n<=1099511627776:=h;omega
 have y:¬(2^48<Builtin.nextslicecap (eG+n) jn*i.bytes):=aju (ahR _ _ ae) t ae;simp[s8,a,b,dA u,mf f,dA g,l,Y,Cp j,T,y,m,o,zeroValue,z,newRow,newObj,Sem.run,World.push,aib];rfl
theorem aGn{t s:al}{k:gZ}{i:TypeInfo}{e j n:Nat}(d:ats[0]?=J s)(u:P.underlying s=J (.slice elem))(m:P.info? elem=J i)(v:i.zero=J zv)(g:ats[1]?=J xt)(l:P.underlying xt=J (.int k))(q:n*i.bytes<=bF)(W:n<=bF)(Y:e+n<=j)(L:i.size≠0)(G:(match base with|some a=>storeCells (a.add (e*i.size)) (nR zv.cells n).toList|none=>pure ()).run P w=.ok () w'):(s8 ats t #[.slice base e j,.int .i64 (.ofNat n)]).run P w=.ok (.slice base (e+n) j) w':=by
 have f:bC P elem=J i.size:=by grind[bC]
 have p:IntKind.i64.wrap (dI n)=dI n:=by rw[<-Ef];have:n<=1099511627776:=W;show(bif cM n 9223372036854775808 then dI n else _)=_;grind[fB]
 have o:IntKind.i64.wrap (n:Int)=(n:Int):=p;have c:¬((n:Int)<0):=ae;have b:¬((281474976710656:Int)<(n:Int)*(i.bytes:Int)):=by have r:n*i.bytes<=1099511627776:=q;omega
 have F:(zeroValue elem).run P w=.ok zv w:=by simp_all[zeroValue,Cp]
 have z:n*i.size=0->n=0:=λh=>(Nat.mul_eq_zero.1 h).resolve_right L;rcases base with _|a;.simp at G;subst G;simp[s8,d,g,dA u,mf f,dA l,asInt,asIntOf,o,c,Cp m,b,Y,F]
 simp[s8,d,g,dA u,mf f,dA l,asInt,asIntOf,o,c,Cp m,b,Y,F];by_cases x:n*i.size=0<;>simp_all[nR]
theorem ajH{ty s:al}{k:gZ}{i:TypeInfo}{eG jn n:Nat}{old:Array aB}(b:ats[0]?=J s)(u:P.underlying s=J (.slice elem))(j:P.info? elem=J i)(p:i.zero=J zv)(d:ats[1]?=J xt)(g:P.underlying xt=J (.int k))(Y:¬eG+n<=jn)(L:i.size≠0)(o:(oE i.size eG (.slice base eG jn)).run P w.drew=.ok old w.drew)(t:(eG+n)*i.bytes<=bF)(l:eG+n<=bF):∃c,eG+n<=c/\(s8 ats ty #[.slice base eG jn,.int .i64 (.ofNat n)]).run P w=.ok (.slice (J ⟨w.heap.size,0,Z⟩) (eG+n) c) (World.push w.drew (.cells (old++nR zv.cells n++nR zv.cells (c-(eG+n))) elem)):=by
 refine⟨_,Tz _ jn elem (w.tape w.drawn (.appendCap (eG+n) jn elem)),?_⟩;have f:bC P elem=J i.size:=by grind[bC]
 have v:eG+n<=1099511627776:=l;have m:IntKind.i64.wrap (dI n)=dI n:=by rw[<-Ef];show(bif cM n _ then dI n else _)=_;grind[fB]
 have q:IntKind.i64.wrap (n:Int)=(n:Int):=m;have a:=ae;have F:¬((281474976710656:Int)<(n:Int)*(i.bytes:Int)):=by have r:(eG+n)*i.bytes<=1099511627776:=t;grind
 have T:¬((9223372036854775807:Int)<((eG:Int)+(n:Int))):=ae;have y:¬(2^48<Builtin.nextslicecap _ jn*i.bytes):=aju (ahR _ _ ae) t ae;have z:¬(n*i.size=0)\/n=0:=by grind[Nat.mul_eq_zero]
 simp[s8,b,d,dA u,mf f,dA g,asInt,asIntOf,q,a,Cp j,F,Y,T,y,o,zeroValue,p,newRow,newObj,Sem.run,World.push,aib];rcases z with h|h;.rw[if_neg h];rfl
 . subst h;have e:nR zv.cells 0=#[]:=by simp[nR]
   rw[e,Array.empty_append];simp;rfl
theorem ir.drew(h:ir S O H w.drew ψ H' w'):ir S O H w ψ H' w':=⟨h.1,h.2.1,⟨h.2.2.ext,h.2.2.size,h.2.2.os,h.2.2.tape,h.2.2.output,h.2.2.next,h.2.2.bn,h.2.2.bK,h.2.2.cK,h.2.2.root,h.2.2.view,h.2.2.nA,h.2.2.new,h.2.2.ro,h.2.2.keep,h.2.2.cover,h.2.2.mD,h.2.2.vl,h.2.2.vF⟩⟩
theorem bA.drew(h:bA S O H w):bA S O H w.drew:=h.same rfl
theorem akV{z:aD}(c:aV O z zv.cells.toList)(n:Nat):aV O (kU n z) (nR zv.cells n).toList:=by
 have l:z.length=zv.cells.size:=by simpa using c.1
 refine⟨by grind[Jh,nR],λi a v b h=>?_⟩;have hi:i<n*z.length:=by grind[Jh]
 rw[ZM n z i hi]at b;have t:i<n*zv.cells.size:=aj;have r:0<zv.cells.size:=by grind
 simp only[nR,Array.toList_map,lE,Array.toList_range]at h;rw[List.getElem?_range t]at h;simp only[iE,xU]at h;have m:i%zv.cells.size<zv.cells.size:=Nat.mod_lt _ r;rw[getElem!_pos zv.cells _ m]at h;refine c.2 (i%z.length) a v b ?_;grind
theorem abp(z:Array aB)(n:Nat):(nR z n).size=n*z.size:=by simp[nR]
theorem Rl{z:aD}(h:∀x,x∈z->x.bj=V)(n:Nat):∀x,x∈kU n z->x.bj=V:=by induction n<;>grind[Rk,Rj]
theorem aGo{b i l e:Nat}{w:aT}(h:(loadCells ⟨b,i,Z⟩ (l*e)).run P w=.ok cs w):(oE e l (.slice (J ⟨b,i,Z⟩) l cap)).run P w=.ok cs w:=by grind[oE]
theorem abT{i:TypeInfo}(I:ba H)(u:bA S O H w)(hS:∀r,S r){A:Sem aB}{s:AV}{sv:aB}{f:aD}{d:Nat}{t:Array aB}{r:AV}(L9:zv.cells.size=i.size)(h:nz H elem i.size i.bytes s f d=J (r,H'))(jy:VR O s sv)(hx:aV O f t.toList)(jg:∀x,x∈f->x.bj=V)(j:f.length=d*i.size)(lY:∀base G M w',sv=.slice base G M->G+d<=M->(match base with|some a=>storeCells (a.add (G*i.size)) t.toList|none=>pure ()).run P w=.ok () w'->d*i.bytes<=bF->d<=bF->A.run P w=.ok (.slice base (G+d) M) w')(PM:∀base G M old,sv=.slice base G M->¬G+d<=M->(oE i.size G (.slice base G M)).run P w.drew=.ok old w.drew->(G+d)*i.bytes<=bF->G+d<=bF->∃c,G+d<=c/\A.run P w=.ok (.slice (J ⟨w.heap.size,0,Z⟩) (G+d) c) (World.push w.drew (.cells (old++t++nR zv.cells (c-(G+d))) elem))):∃ψ v' w',A.run P w=.ok v' w'/\VR ψ r v'/\ir S O H w ψ H' w':=by
 obtain⟨z,avT⟩:∃z,z=i.size:=⟨_,rfl⟩;rw[<-avT]at h j lY PM L9;have Qf:t.size=d*z:=by rw[<-j];simpa using hx.1.symm
 unfold nz at h;simp only[bN,du,ef,qx,qI,lQ]at h;by_cases PJ:z=0;.grind
 have avS:0<z:=Nat.pos_of_ne_zero PJ;simp only[PJ,mO,bg]at h;have fresh:∀(old:Array aB)(E:aD)(m c:Nat),aV O E old.toList->(∀x,x∈E->x.bj=V)->old.size=m*z->m+d<=c->∃q:Pl,q.aW=w.heap.size/\q.base=0/\q.len=(E++f).length/\(∀ψ,ψ H.next=J q->VR ψ (.sl H.next 0 (m+d) Z z) (.slice (J ⟨w.heap.size,0,Z⟩) (m+d) c))/\(∀root,mn O (World.push w.drew (.cells (old++t++nR zv.cells (c-(m+d))) elem)) (.cells (E++f) root .op elem) q):=by
  intro old E m c K yE X B;have VQ:(old++t++nR zv.cells (c-(m+d))).size=c*z:=by simp only[Array.size_append,abp,X,Qf,L9];rw[<-xT,<-xT];grind
  have aNf:(E++f).length=(m+d)*z:=by rw[db,j,show E.length=old.size from by simpa using K.1,X,<-xT]
  have hle:(m+d)*z<=c*z:=ml _ B;refine⟨⟨w.heap.size,0,c*z,(E++f).length⟩,rfl,rfl,rfl,?_,?_⟩;.intro ψ hψ;refine .sl H.next 0 (m+d) Z z _ _ c hψ B aO (λk hk=>aj) (λ_=>?_) (λ_=>rfl) avS ?_;all_goals grind
  . intro root;refine⟨_,(0,0),_,xF w.drew _,VQ,?_,?_,?_,λ_=>⟨rfl,rfl⟩,λh=>aj⟩;.grind
    .intro k a ha;have lU:=K.append hx;obtain⟨v,hv,hr⟩:=lU.get ha;grind
    grind
 cases jy with
 |bc=>
  simp only at h;by_cases mz:d=0;.subst mz;simp at h;obtain⟨rfl,rfl⟩:=h;refine⟨O,.slice Z 0 0,w,?_,.bc,ir.refl I u⟩;simp_all
  . simp only[mz,mO,bg]at h;by_cases qP:d*i.bytes<=bF/\d<=bF;.have:(decide (d.mul i.bytes<=bF)&&decide (d<=bF))=V:=aj;rw[this]at h;simp at h;obtain⟨rfl,rfl⟩:=h;obtain⟨c,B,N⟩:=PM Z 0 0 #[] rfl ae (by rfl) aj ae;obtain⟨q,T,h2,h3,h4,U⟩:=fresh #[] [] 0 c (aV.nil O) aO aO B;simp only[dk]at h3 U;have yp:=Kn I u.drew (.cells f H.next .op elem) _ q T (λl r fl e hh=>by grind) (U H.next);refine⟨gH O H.next q,_,_,N,?_,ir.drew yp⟩;grind[jK]
    grind|sl id D len cap e p L g y hl ht B K hr w7 om=>
  simp only at h;by_cases Fc:(e=z/\(len+d)*i.bytes<=bF)/\len+d<=bF
  . obtain⟨⟨rfl,tH⟩,VN⟩:=Fc;have:(decide (e=e)&&(decide ((len.add d).mul i.bytes<=bF)&&decide (len.add d<=bF)))=V:=by grind
    rw[this]at h;simp only[aL]at h;have mV:d*i.bytes<=bF:=gv (ml _ ae) tH;by_cases mz:d=0
    . subst mz;simp at h;obtain⟨rfl,rfl⟩:=h;have Fz:t=#[]:=by grind
      subst Fz;refine⟨O,.slice (J L) (len+0) g,w,?_,?_,ir.refl I u⟩;.exact lY _ len g w rfl ae (by rfl) mV ae
      .exact .sl id D len cap e p L g y hl ht B K hr w7 om
    .simp only[mz,mO,bg]at h;cases hg:H.get id with|none=>grind|some o=>cases o with|map _ _|mapIter _ _ _ _|loop _|deferred _=>grind|cells l root fl e0=>
      simp only[hg]at h;by_cases B8:(H.bh root).1<=id
      . simp only[B8,eu,aL]at h;obtain⟨je,xb⟩:=CO u y (hS _) hg B8;have tG:g≠0->L=⟨p.aW,p.base+D,Z⟩:=hr;obtain⟨cs,fz,e1,lV,iR,Vf,Vg⟩:=je.slice xb (D:=D) (n:=len*e) ae;have Fe:cs.size=p.oB:=by obtain⟨qG,UW,_,g1,g2,_⟩:=je;grind
        have hold:∃old:Array aB,(oE e len (.slice (J L) len g)).run P w.drew=.ok old w.drew/\aV O ((l.drop D).take (len*e)) old.toList/\old.size=len*e:=by
         by_cases lW:g=0;.have xa:len=0:=ae;subst xa;simp[oE,loadCells,loadCellsFrom,aV.nil]
         .rw[tG lW];refine⟨cs.extract (p.base+D) (p.base+D+len*e),?_,Vf,aj⟩;exact aGo (Jo (w:=w.drew) lV iR)
        obtain⟨old,W,Iu,VB⟩:=hold;have P8:∀{F:Heap},H.store id (D+len*e) f=J F->len+d<=g->∃w',A.run P w=.ok (.slice (J L) (len+d) g) w'/\ir S O H w O F w':=by intro F R Q;have Iw:=tG ae;obtain⟨w',kn,k1,k2,k3⟩:=NB (P:=P) I u y (hS _) R hx jg;refine⟨w',lY _ len g w' rfl Q ?_ mV ae,k1,k2.up λr _=>hS r,k3⟩;grind[wM]
        cases cap with|some c=>
         obtain⟨rfl,qL⟩:=B c rfl;simp only at h;by_cases Q:len+d<=g;.have:decide (len.add d<=g)=V:=lS Q;rw[this]at h;simp only[aL,jE]at h;obtain⟨F,R,heq⟩:=h;obtain⟨rfl,rfl⟩:AV.sl id D (len.add d) (J g) e=r/\F=H':=aj;obtain⟨w',kn,VE⟩:=P8 R Q;refine⟨O,_,w',kn,?_,VE⟩;refine .sl id D (len+d) (J g) e p L g y Q ht B K hr w7 ?_;have:(len+d)*e<=g*e:=ml _ Q;omega
         .have:decide (len.add d<=g)=C:=wS Q;rw[this]at h;simp only[bg,xU,Kc]at h;obtain⟨rfl,rfl⟩:=h;obtain⟨c',uE,N⟩:=PM _ len g old rfl Q W tH VN;obtain⟨q,T,h2,h3,h4,U⟩:=fresh old _ len c' Iu Vg VB uE;have yp:=Kn I u.drew (.cells ((l.drop D).take (len*e)++f) H.next .op elem) _ q T (λl r fl e hh=>by grind) (U H.next);exact⟨gH O H.next q,_,_,N,h4 _ (jK ..),ir.drew yp⟩|none=>
         have AE:=K rfl;simp only at h;by_cases lr:D+len*e+d*e<=l.length
         . have:decide (((D.add (len.mul e))).add (d.mul e)<=l.length)=V:=lS lr;rw[this]at h;simp only[aL,jE]at h;obtain⟨F,R,heq⟩:=h;obtain⟨rfl,rfl⟩:AV.sl id D (len.add d) Z e=r/\F=H':=aj;have Q:len+d<=g:=by have:(len+d)*e<=g*e:=aj;grind[Nat.le_of_mul_le_mul_right]
           obtain⟨w',kn,VE⟩:=P8 R Q;refine⟨O,_,w',kn,?_,VE⟩;refine .sl id D (len+d) Z e p L g y Q ht B K hr w7 ?_;grind
         . have:decide (((D.add (len.mul e))).add (d.mul e)<=l.length)=C:=wS lr;rw[this]at h;simp only[bg]at h;by_cases hw3:(fl≠.ro/\(H.bh root).2=id)/\e0=elem
           . obtain⟨⟨rR,Fj⟩,rfl⟩:=hw3;have:(fl.wr&&(decide ((H.bh root).snd=id)&&decide (e0=e0)))=V:=by grind
             rw[this]at h;simp only[aL,xU,Kc]at h;obtain⟨rfl,rfl⟩:=h;have qL:((l.drop D).take (len*e)++f).length=(len+d)*e:=by rw[db,j,show((l.drop D).take (len*e)).length=old.size from by simpa using Iu.1,VB,<-xT]
             by_cases Q:len+d<=g;.
              have Iw:=tG ae;obtain⟨qG,UW,e',g1,g2,g3,g4,g5,g6,g7⟩:=je;rw[lV]at g1;obtain⟨rfl,rfl,rfl⟩:=Obj.cells.inj (br g1);obtain⟨rfl,rfl⟩:=g6 rR;have gM:p.base+D+(len+d)*e<=cs.size:=by have:(len+d)*e<=g*e:=ml _ Q;omega
              have ID:∀x,x∈t.toList->wu x=V:=by intro x nL;obtain⟨k,hk⟩:=List.mem_iff_getElem?.1 nL;have kA:k<f.length:=aj;exact(hx.2 k _ _ (eZ kA) hk).bj (jg _ (G7 kA))
              have aNv:t.toList.length=d*e:=ae;have hmul:(len+d)*e=len*e+d*e:=xT _ _ _;have R:=Nq (P:=P) lV (D:=p.base+D+len*e) (vs:=t.toList) ae ID;have N:=lY _ len g _ rfl Q (by simp only;rw[Iw,wM];omega) mV ae;have qe:=U0 (w':=World.eH w p.aW (.cells (over cs (p.base+D+len*e) t.toList) e1 (0,0))) I u y hg rR Fj (H.bh root).1 rfl ((l.drop D).take (len*e)++f) (decide (D+len*e<l.length)) ⟨p.aW,p.base+D,p.oB,((l.drop D).take (len*e)++f).length⟩ rfl (by simp[Cr]) ⟨rfl,rfl,rfl⟩ (λb _ h=>Cq w _ h) (.inl ⟨rfl,?_⟩) (λhk Y e1 Pu h=>?_) ?_
              . rw[fB]at*;refine⟨gH O H.next ⟨p.aW,p.base+D,p.oB,((l.drop D).take (len*e)++f).length⟩,_,_,N,?_,qe⟩;rw[Iw];refine .sl H.next 0 (len+d) Z e ⟨p.aW,p.base+D,p.oB,((l.drop D).take (len*e)++f).length⟩ ⟨p.aW,p.base+D,Z⟩ g (jK ..) Q ?_ (λk hk=>aj) (λ_=>?_) (λ_=>rfl) w7 ?_;.omega
                .show((l.drop D).take (len*e)++f).length<=0+g*e;rw[qL];have:(len+d)*e<=g*e:=ml _ Q;omega
                grind
              .grind
              .rw[lV]at h;obtain⟨rfl,rfl,rfl⟩:=Obj.cells.inj (br h);refine⟨_,Bd w _ (u.stat.cq id p y).1,A4 _ _ _ ae,λk hkl=>?_⟩;have uC:¬(D+len*e<l.length):=aj;rw[uU _ _ _ ae,if_neg ae]
              . refine⟨over cs (p.base+D+len*e) t.toList,(0,0),_,Bd w _ (u.stat.cq id p y).1,?_,?_,?_,?_,λ_=>⟨rfl,rfl⟩,λh=>aj⟩;.grind[A4]
                .grind
                . intro k a ha;have hkl:k<(len+d)*e:=aj;have It:((l.drop D).take (len*e)).length=len*e:=aj;show∃c,(over cs (p.base+D+len*e) t.toList)[p.base+D+k]?=J c/\_;rw[uU _ _ _ ae];by_cases uK:k<len*e;.rw[oF ae,Ew uK,zO]at ha;grind
                  .rw[oG ae,It]at ha;obtain⟨v,hv,B9⟩:=hx.get ha;refine⟨v,?_,B9⟩;rw[if_pos ae,show p.base+D+k-(p.base+D+len*e)=k-len*e from ae];omega
                grind
             .obtain⟨c',uE,N⟩:=PM _ len g old rfl Q W tH VN;obtain⟨q,T,h2,h3,h4,U⟩:=fresh old _ len c' Iu Vg VB uE;have qe:=U0 (w':=World.push w.drew (.cells (old++t++nR zv.cells (c'-(len+d))) e0)) I u.drew y hg rR Fj (H.bh root).1 rfl ((l.drop D).take (len*e)++f) (decide (D+len*e<l.length)) q h3.symm (by simp[DO]) ⟨rfl,rfl,rfl⟩ (λb hb _=>Ge _ _ hb) (.inr ⟨by rw[T];simp,by rw[T,DO];simp⟩) (λ_ Y e1 Pu h=>⟨Y,(Ge _ _ (u.stat.cq id p y).1).trans h,rfl,λ_ _=>rfl⟩) (U root);rw[fB];exact⟨gH O H.next q,_,_,N,h4 _ (jK ..),ir.drew qe⟩
           grind[gS.wr]
      grind
  grind|_=>simp at h
end
def jc(P:aM)(a:aZ):Prop:=∀g,g<P.globals.size->∃p,a g=J p/\p.aW=g/\p.base=0
theorem jc.mono(h:Ext O ψ)(g:jc P O):jc P ψ:=λi hi=>let⟨p,a,b⟩:=g i hi;⟨p,h _ _ a,b⟩
structure Reads(ρ:aH->aB):Prop where
 const:∀v,ρ (.const v)=v
 aq:∀g,ρ (.global g)=.pointer (J ⟨g,0,Z⟩)func:∀f,ρ (.func f)=.func (.func f) #[] #[]
def eX(b:aZ)(m:Tr AV)(a:aH->aB)(x:aH):Prop:=∀t,x=.tmp t->VR b ((m.get t).getD fR) (a x)
section
variable{P:aM}{S:Nat->Prop}{O:aZ}{H:Heap}{w:aT}{tm:Tr AV}{ρ:aH->aB}
theorem fL(d:jc P O)(r:Reads ρ){x:aH}(o:eX O tm ρ x)(h:bu P tm x=J a):VR O a (ρ x)/\a≠.top:=by
 rcases x with t|v|g|f;.have j:=o t rfl;grind[bu]
 .simp only[bu]at h;rw[r.const];grind[WQ,aCg]
 . simp only[bu,fB]at h;by_cases b:g<P.globals.size;.obtain⟨p,c,e,i⟩:=d g b;rw[r.aq];have:=VR.ptr g 0 p c;grind
   grind
 simp[bu]at h;subst h;rw[r.func];exact⟨.func f [] [] _ _ rfl rfl aO aO,aO⟩
theorem ML(g:jc P O)(r:Reads ρ):∀{l:List aH}{S:aD},(∀x,x∈l->eX O tm ρ x)->cE (bu P tm) l=J S->aV O S (l.map ρ):=by intro l;induction l with|nil=>simp[QE,aV.nil]|cons x l i=>
 intro S o h;rw[QD]at h;rcases b:bu P tm x with _|a;.grind
 rcases c:cE (bu P tm) l with _|t;.grind
 simp[b,c]at h;subst h;exact aV.cons (fL g r aj b).1 aj
theorem MN{s:aD}{c:Array aB}(h:qo P t s D=J a)(d:aV O s c.toList)(j:∀x,x∈s->x.bj=V):∃v,(∀w:aT,(part t c D).run P w=.ok v w)/\VR O a v:=by
 unfold qo at h;rcases f:AM.isAgg P t with _|b;.grind
 cases b with
 |true=>
 rcases z:bC P t with _|n;.grind
 simp only[z,cU,du,ef,qx,qI]at h;by_cases l:D+n<=s.length
 . have e:AV.agg ((s.drop D).take n)=a:=by grind
   subst e;refine⟨.agg (c.extract D (D+n)),λw=>by simp_all[part,Ru,mf],?_⟩;have:=(d.drop D).take n;refine this.agg aj _ ?_;simp_all
 grind|false=>simp only[f,xw]at h;obtain⟨v,g,i⟩:=d.get h;simp_all[part,Ru]
theorem Tf{a b:ByteArray}{l m:an}(h:a.data.toList.map nU=l)(c:b.data.toList.map nU=m):(a.toList==b.toList)=Ak l m:=by
 rw[Al,ByteArray.toList_eq,ByteArray.toList_eq];rw[Bool.eq_iff_iff];constructor;.grind
 . have i:∀(x y:List _),x.map nU=y.map nU->x=y:=by intro x;induction x with|nil=>simp_all|cons a x e=>intro y d;cases y<;>grind[UInt8.toNat_inj]
   grind
theorem apu{e:Nat}(I:∀{t:al}{x y:AV}{b:Bool}{u v:aB},mQ P e t x y=J b->VR O x u->VR O y v->∀d,e<=d->∀w:aT,(Op.equalIn d t u v).run P w=.ok b w){j k:aD}{m n:Array aB}(G:aV O j m.toList)(H:aV O k n.toList)(l:∀x,x∈j->x.bj=V)(B:∀x,x∈k->x.bj=V)(d:Nat)(F:e<=d)(w:aT):∀(s:List Field)(c r:Bool),oN (λc(f:Field)=>bif c then(bif f.name== "_"then J V else(qo P f.type j f.offset).bind λa=>(qo P f.type k f.offset).bind λb=>mQ P e f.type a b)else J C) s c=J r->(c=C->r=C)/\(c=V->(Op.eqFields d m n s).run P w=.ok r w):=by intro s;induction s with|nil=>simp[H6,Op.eqFields]|cons f s i=>
 intro c r h;rw[H4]at h;rcases c with _|_;.grind
 by_cases A:f.name= "_";.grind[Op.eqFields]
 . have L:(f.name== "_")=C:=aj;simp only[L,bg]at h;rcases o:qo P f.type j f.offset with _|a;.grind
   rcases p:qo P f.type k f.offset with _|b;.grind
   simp only[o,p,cU]at h;rcases z:mQ P e f.type a b with _|q;.grind
   simp only[z,cU]at h;obtain⟨u,Q,E⟩:=MN o G l;obtain⟨v,D,M⟩:=MN p H B;have g:=I z E M d F w;cases q with|true=>have:=(i V r h).2 rfl;simp[Op.eqFields,A,Q,D,g,this]|false=>have:=(i C r h).1 rfl;subst this;simp[Op.eqFields,A,Q,D,g]
set_option maxHeartbeats 1600000 in theorem T7:∀(f:Nat){t:al}{x y:AV}{b:Bool}{u v:aB},mQ P f t x y=J b->VR O x u->VR O y v->∀d,f<=d->∀w:aT,(Op.equalIn d t u v).run P w=.ok b w:=by intro f;induction f with|zero=>simp[mQ]|succ f p=>
 intro t x y b u v h a c d hd w;obtain⟨d,rfl⟩:∃g,d=g+1:=⟨d-1,ae⟩;have q:f<=d:=ae;have e:mQ P (f+1) t x y=HH P (mQ P f) t x y:=rfl;rw[e]at h;unfold HH at h;split at h;.rename_i j;cases a;cases c;simp at h;subst h;simp[Op.equalIn,dA j]
 .rename_i j;cases a;cases c;split at h<;>simp at h;rename_i k;subst k;subst h;rw[CZ];simp[Op.equalIn,dA j];rfl
 .rename_i j;cases a with|str _ r e1=>cases c with|str _ z e2=>simp at h;subst h;rw[<-Tf e1 e2,<-beq_toListBytes];simp[Op.equalIn,dA j]
 .rename_i i A B j;obtain⟨l,rfl,n,s⟩:=a.Ac;obtain⟨m,rfl,o,D⟩:=c.Ac;grind[Program.fieldsOf,run_equalIn_struct,apu]
 iterate 3·rename_i j;cases a;cases c;simp at h;subst h;simp[Op.equalIn,dA j]
 grind
theorem ax2{o:BinOp}{k:gZ}{a b:Int}{r:AV}(h:IG P o k a b=J r)(t:al):∃v,(∀w:aT,(binOp o t (.int k a) (.int k b)).run P w=.ok v w)/\VR O r v:=by
 unfold IG at h;split at h;.simp at h;subst h;exact⟨_,λw=>by simp[binOp,Op.intArith];rfl,by rw[Ef];exact .int k _⟩
 .simp at h;subst h;exact⟨_,λw=>by simp[binOp,Op.intArith];rfl,by rw[Ef];exact .int k _⟩
 .simp at h;subst h;exact⟨_,λw=>by simp[binOp,Op.intArith];rfl,by rw[Ef];exact .int k _⟩
 .obtain⟨n,c⟩:∃n,∀w,(Op.intBits .and k a b).run P w=.ok (.int k n) w:=⟨_,λw=>by rfl⟩;rw[c _]at h;simp at h;subst h;exact⟨_,λw=>by grind[binOp],.int k n⟩
 .simp at h;subst h;refine⟨.bool (a==b),λw=>by simp[binOp,Op.intCmp],?_⟩;rw[CZ];exact .bool _
 .simp at h;subst h;refine⟨.bool (a !=b),λw=>by simp[binOp,Op.intCmp],?_⟩;rw[CZ];exact .bool _
 .simp at h;subst h;refine⟨.bool (a<b),λw=>by simp[binOp,Op.intCmp],?_⟩;rw[Mr];exact .bool _
 .simp at h;subst h;refine⟨.bool (a<=b),λw=>by simp[binOp,Op.intCmp],?_⟩;rw[Mr,<-decide_not,decide_eq_decide.2 (Int.not_lt)];exact .bool _
 .simp at h;subst h;refine⟨.bool (b<a),λw=>by simp[binOp,Op.intCmp],?_⟩;rw[Mr];exact .bool _
 .simp at h;subst h;refine⟨.bool (b<=a),λw=>by simp[binOp,Op.intCmp],?_⟩;rw[Mr,<-decide_not,decide_eq_decide.2 (Int.not_lt)];exact .bool _
 grind
theorem Nv{s:ByteArray}{l:an}(h:s.data.toList.map nU=l):s.size=l.length:=by subst h;simp_all
theorem aJY{o:BinOp}{a b:an}{r:AV}{u v:ByteArray}(h:RO o a b=J r)(c:u.data.toList.map nU=a)(d:v.data.toList.map nU=b)(t:al):∃x,(∀w:aT,(binOp o t (.string u) (.string v)).run P w=.ok x w)/\VR O r x:=by
 have e:=Tf c d;unfold RO at h;split at h
 . rw[du,ef,ef,lQ]at h;by_cases l:a.length+b.length<=1000000000
   . have:decide (a.length.add _<=1000000000)=V:=lS l;rw[this]at h;simp at h;subst h;have f:=Nv c;have g:=Nv d;refine⟨.string (u++v),λw=>?_,.str _ _ ?_⟩
     . have:¬(((u.size+v.size:Nat):Int)>IntKind.i64.max):=by
        have:IntKind.i64.max=9223372036854775807:=by rfl
        omega
       simp_all[binOp,Op.stringOp]
     simp_all
   grind
 .simp at h;subst h;exact⟨_,λw=>by rfl,by rw[e];exact .bool _⟩
 .simp at h;subst h;exact⟨_,λw=>by rfl,by rw[e];exact .bool _⟩
 grind
theorem aGu{o:BinOp}{k y c:gZ}{a b n:Int}{d:aT}(h:(Op.shift o k a y b).run P default=.ok (.int c n) d):∀w:aT,(Op.shift o k a y b).run P w=.ok (.int c n) w:=by
 unfold Op.shift at*;split at h;.simp_all[runtimePanic]
 .cases o<;>simp at h|-<;>grind
theorem binOp_eql(i:∀k a c b,u=.int k a->v=.int c b->False)(s:∀a b,u=.string a->v=.string b->False)(f:∀k a,u=.float k a->False)(h:∀k a b,u=.complex k a b->False):binOp .eql t u v=(do pure (.bool (<-Op.equal t u v)):Sem aB):=by simp_all[binOp]
theorem binOp_neq(i:∀k a c b,u=.int k a->v=.int c b->False)(s:∀a b,u=.string a->v=.string b->False)(f:∀k a,u=.float k a->False)(h:∀k a b,u=.complex k a b->False):binOp .neq t u v=(do pure (.bool (!(<-Op.equal t u v))):Sem aB):=by simp_all[binOp]
theorem afo{o:BinOp}(h:o≠.eql)(a:o≠.neq)(w:aT):(eqGuard o t xo yo u v).run P w=.ok () w:=by simp[eqGuard]
theorem Px{o:BinOp}(h:u≠.nilIface)(e:∀a b,u=.agg a->v=.agg b->P.eqGuardType P.depth t=C)(w:aT):(eqGuard o t xo yo u v).run P w=.ok () w:=by
 by_cases c:o=.eql;.subst c;unfold eqGuard;simp;split<;>simp_all
 . by_cases d:o=.neq;.subst d;unfold eqGuard;simp;split<;>simp_all
   grind[afo]
set_option maxHeartbeats 1600000 in theorem amz{o:BinOp}{y r:AV}(h:Ag P o t xo yo x y=J r)(d:VR O x u)(f:VR O y v)(I:x≠.top)(g:y≠.top):∃z,(∀w:aT,((do eqGuard o t xo yo u v;binOp o t u v:Sem aB)).run P w=.ok z w)/\VR O r z:=by
 have fin:∀{z},(∀w:aT,(eqGuard o t xo yo u v).run P w=.ok () w)->(∀w:aT,(binOp o t u v).run P w=.ok z w)->∀w:aT,((do eqGuard o t xo yo u v;binOp o t u v:Sem aB)).run P w=.ok z w:=λn p w=>aP;have m:∀k a,u=.float k a->False:=λk a e=>by subst e;cases d
 have l:∀k a b,u=.complex k a b->False:=λk a b e=>by subst e;cases d
 unfold Ag at h;split at h
 . cases d;cases f;split at h;.simp at h;subst h;exact⟨_,fin (afo aO aO) (λw=>by grind[binOp,aGu]),.int _ _⟩
   grind
 .cases d;cases f;simp_all[ax2,Px]
 .cases d with|str _ A e1=>cases f with|str _ B e2=>obtain⟨z,n,p⟩:=aJY (P:=P) (O:=O) h e1 e2 t;grind[Px]
 . have hi:∀k a i b,u=.int k a->v=.int i b->False:=λk a i b e1 e2=>by subst e1;cases d<;>cases f<;>first|exact I rfl|exact g rfl|grind
   have s:∀a b,u=.string a->v=.string b->False:=λa b e1 e2=>by subst e1;cases d<;>cases f<;>first|exact I rfl|exact g rfl|grind
   obtain⟨Q,b,j,hr⟩:As P t xo yo x y=V/\∃b,mQ P 50 t x y=J b/\r=.bool b:=by
     revert h;generalize As P t xo yo x y=c;rcases c with _|_;.grind
     cases q:mQ P 50 t x y<;>simp_all
   subst hr;refine⟨_,fin (Px ?_ ?_) (λw=>?_),.bool _⟩;.intro e1;subst e1;cases d
   . intro a c e1 e2;subst e1;subst e2;cases d<;>first|exact absurd rfl I|skip
     cases f<;>first|exact absurd rfl g|skip
     grind[As]
   .rw[binOp_eql hi s m l];have:=T7 50 j d f Op.maxDepth gD w;simp_all[Op.equal]
 . have hi:∀k a i b,u=.int k a->v=.int i b->False:=λk a i b e1 e2=>by subst e1;cases d<;>cases f<;>first|exact I rfl|exact g rfl|grind
   have s:∀a b,u=.string a->v=.string b->False:=λa b e1 e2=>by subst e1;cases d<;>cases f<;>first|exact I rfl|exact g rfl|grind
   obtain⟨Q,b,j,hr⟩:As P t xo yo x y=V/\∃b,mQ P 50 t x y=J b/\r=.bool (!b):=by
     revert h;generalize As P t xo yo x y=c;rcases c with _|_;.grind
     cases q:mQ P 50 t x y<;>simp_all
   subst hr;refine⟨_,fin (Px ?_ ?_) (λw=>?_),.bool _⟩;.intro e1;subst e1;cases d
   . intro a c e1 e2;subst e1;subst e2;cases d<;>first|exact absurd rfl I|skip
     cases f<;>first|exact absurd rfl g|skip
     grind[As]
   .rw[binOp_neq hi s m l];have:=T7 50 j d f Op.maxDepth gD w;simp_all[Op.equal]
 grind
end
def pX(P:aM)(a:aZ)(A:Sem aB)(r:AV):Prop:=∃v,(∀w:aT,A.run P w=.ok v w)/\VR a r v
section
variable{P:aM}{S:Nat->Prop}{O:aZ}{H:Heap}{w:aT}{tm:Tr AV}{ρ:aH->aB}
theorem aKP{o:UnOp}{r:AV}(h:RW o x=J r)(a:VR O x u):pX P O (Op.unary o u) r:=by
 unfold RW at h;split at h;.cases a;simp at h;subst h;rename_i k n;refine⟨_,λw=>by rfl,?_⟩;rw[Ef];exact .int k _
 .cases a;simp at h;subst h;exact⟨_,λw=>by rfl,.bool _⟩
 grind
theorem aDn(c:Array aB)(o:Nat)(v:aB)(s:List aB)(h:o+(s.length+1)<=c.size):over (c.setIfInBounds o v) (o+1) s=over c o (v::s):=by apply Su;grind[uU]
theorem atD:∀(l:List aB)(k:Nat)(cells:Array aB)(D:Nat),D+k+l.length<=cells.size->(l.zipIdx k).foldl (λcs(p:aB×Nat)=>cs.setIfInBounds (D+p.2) p.1) cells=over cells (D+k) l:=by intro l;induction l with|nil=>intro k cells D h;apply Su;simp_all[uU,if_neg]|cons v l i=>intro k cells D h;rw[List.zipIdx_cons,xS];rw[i _ _ _ aj,show D+(k+1)=D+k+1 from rfl,aDn _ _ _ _ ae]
theorem atE(v e:Array aB)(o:Nat)(h:o+v.size<=e.size):v.zipIdx.foldl (λcs(c,j)=>cs.setIfInBounds (o+j) c) e=over e o v.toList:=by have:=atD _ 0 _ _ ae;grind[Array.toList_zipIdx]
theorem UC(l f:Nat->ah (Nat×Nat)):∀(e:List (Nat×AV))(s:List (Nat×aB))(cs:aD)(c:Array aB)(r:aD),(∀i x,l i=J x->f i=J x)->e.length=s.length->(∀(i:Nat)(p:Nat×AV)(q:Nat×aB),e[i]?=J p->s[i]?=J q->p.1=q.1/\VR O p.2 q.2)->aV O cs c.toList->(∀x,x∈cs->x.bj=V)->Ao l e cs=J r->∃d,Instr.fill f c s=J d/\aV O r d.toList/\(∀x,x∈r->x.bj=V)/\r.length=cs.length:=by intro e;induction e with|nil=>intro s cs c r P z j g m h;obtain rfl:s=[]:=aj;unfold Ao at h;rw[H6]at h;obtain rfl:cs=r:=aj;exact⟨c,rfl,g,m,rfl⟩|cons p e D=>intro s cs c r P z j g m h;cases s with|nil=>grind|cons q s=>obtain⟨e1,k⟩:=j 0 p q rfl rfl;obtain⟨K,v⟩:=q;simp only at e1 k;replace h:((l p.1).bind λo=>p.2.cells.bind λvs=>bif aw (eL vs) o.2&&bV (im o.1 o.2) (eL cs)then J (gG cs o.1 vs)else Z).bind (Ao l e)=J r:=h;cases B:l p.1 with|none=>grind|some o=>cases L:p.2.cells with|none=>grind|some vs=>
 obtain⟨u,N⟩:=k.cells L;have M:vs.length=v.cells.size:=by simpa using u.1
 have F:cs.length=c.size:=by simpa using g.1
 simp only[B,L,cU,bN,du,ef]at h;by_cases n:vs.length=o.2
 . by_cases t:o.1+o.2<=cs.length;.have e2:decide (o.1.add o.2<=cs.length)=V:=lS t;rw[e2,lS n]at h;simp only[zC,aL,cU]at h;have A:=g.Z' u o.1;have Y:o.1+v.cells.size<=c.size:=ae;obtain⟨d,I,H,w,y⟩:=D s _ (over c o.1 v.cells.toList) r P aj (λi a b E G=>j (i+1) a b aj aj) (by grind[over]) (by grind[D3]) h;grind[Bf,Instr.fill,atE]
   grind
 grind
theorem asY{f:Nat}{i:Array Field}{d:Field}{s:aD}{r:AV}(l:P.underlying t=J (.struct i))(k:i[f]?=J d)(e:VR O (.agg s) v)(h:qo P d.type s d.offset=J r):pX P O (Instr.field t v f) r:=by obtain⟨c,rfl,b,j⟩:=e.Ac;obtain⟨u,g,a⟩:=MN h b j;exact⟨u,λw=>by simp_all[Instr.field,dA,asAgg],a⟩
theorem asQ{i:Nat}{r:AV}(d:VR O (.cw vs) v)(h:oW vs i=J r):pX P O (Instr.extract v i) r:=by obtain⟨c,rfl,b⟩:=d.aKK;rw[xw]at h;obtain⟨u,e,a⟩:=b.get h;exact⟨u,λw=>by simp_all[Instr.extract],a⟩
theorem aJZ{s:ByteArray}{l:an}(h:s.data.toList.map nU=l){i b:Nat}(a:l[i]?=J b):∃c:UInt8,s[i]?=J c/\c.toNat=b:=by
 subst h;rcases d:s.data.toList[i]? with _|c;.grind
 simp[d]at a;refine⟨c,?_,a⟩;obtain⟨hi,e⟩:=List.getElem?_eq_some_iff.1 d;have t:=by show i<s.data.size;omega
 rw[getElem?_pos s i t];congr 1
end
section
variable{P:aM}{S:Nat->Prop}{O:aZ}{H:Heap}{w:aT}
theorem IH{k:gZ}{i:Nat}(h:VR O (.int k (.ofNat i)) v):v=.int k (.ofNat i):=by cases h;rfl
theorem aNC{l:Nat}{k:gZ}{i n:Nat}{s:aD}{r:AV}(m:P.underlying t=J (.array l elem))(z:bC P elem=J n)(g:i<l)(f:VR O (.agg s) v)(h:qo P elem s (jD i n)=J r):pX P O (Instr.index t v (.int k (.ofNat i))) r:=by obtain⟨c,rfl,e,j⟩:=f.Ac;obtain⟨u,b,d⟩:=MN h e j;refine⟨u,λw=>?_,d⟩;have Q:=b w;have a:(part elem c (i*n)).run P w=.ok u w:=Q;simp_all[Instr.index,asIntOf,dA,mf]
theorem axQ{k:gZ}{i b:Nat}{s:an}(u:P.underlying t=J .string)(d:VR O (.str s) v)(h:oW s i=J b):pX P O (Instr.index t v (.int k (.ofNat i))) (.int .u8 (.ofNat b)):=by cases d with|str _ x e=>rw[xw]at h;obtain⟨c,f,a⟩:=aJZ e h;subst a;exact⟨.int .u8 (.ofNat c.toNat),λw=>by simp_all[Instr.index,asIntOf,dA],.int _ _⟩
theorem asW{s:al}{f n a:Nat}{i:Array Field}{d:Field}(u:P.underlying s=J (.struct i))(c:i[f]?=J d)(z:bC P d.type=J (n+1))(b:VR O (.ptr a D) v):pX P O (Instr.fieldAt s v f) (.ptr a (im D d.offset)):=by cases b with|ptr _ _ p h=>refine⟨.pointer (J ⟨p.aW,p.base+(D+d.offset),Z⟩),λw=>?_,.ptr a _ p h⟩;simp_all[Instr.fieldAt,dA,Instr.sureAddr,fieldPlace,mf,wM,By]
theorem axM{l n d i:Nat}{k:gZ}(u:P.underlying t=J (.array l elem))(z:bC P elem=J n)(h:i<l)(b:VR O (.ptr d D) v):pX P O (Instr.indexAt t v (.int k (.ofNat i))) (.ptr d (im D (jD i n))):=by cases b with|ptr _ _ p a=>refine⟨.pointer (J ⟨p.aW,p.base+(D+i*n),Z⟩),λw=>?_,.ptr d _ p a⟩;simp[Instr.indexAt,asIntOf,dA u,Instr.sureAddr,mf z,wM,By,h]
theorem axO{l e d i:Nat}{c:ah Nat}{k:gZ}(u:P.underlying t=J (.slice elem))(z:bC P elem=J e)(h:i<l)(b:VR O (.sl d D l c e) v):pX P O (Instr.indexAt t v (.int k (.ofNat i))) (.ptr d (im D (jD i e))):=by cases b with|sl _ _ _ _ _ p q cap a j m f o hr g n=>have G:=hr ae;subst G;refine⟨.pointer (J ⟨p.aW,p.base+(D+i*e),Z⟩),λw=>?_,.ptr d _ p a⟩;simp[Instr.indexAt,asIntOf,dA u,mf z,wM,By,h]
theorem Hu(h:mN x y=J r)(a:VR O x v):r<=y/\∀c,∀w:aT,(Instr.sliceBound v y c).run P w=.ok r w:=by
 unfold mN at h;split at h;.rw[du]at h;cases a;rename_i n;by_cases l:n<=y<;>simp_all[Instr.sliceBound,asIntOf]
 grind
def qy(b:aZ):ah AV->ah aB->Prop|none,Z=>True|some a,J v=>VR b a v|_,_=>False
theorem ack{b:AV}{z:Nat}(a:mN b y=J h)(c:h<=z):mN b z=J h:=by unfold mN at a|-;split at a<;>grind[du]
theorem S9{l:Nat}{o:ah AV}{t:ah aB}(x:qy O o t)(b:fc o h 0=J l):(t=Z/\l=0)\/∃u,t=J u/\∀c,∀w:aT,(Instr.sliceBound u h c).run P w=.ok l w:=by
 rcases o with _|a;.grind[qy,fc]
 rcases t with _|u;.grind[qy]
 exact .inr ⟨u,rfl,(Hu (show mN a _=J l from b) x).2⟩
theorem acn{isSlice:Bool}{e l:Nat}{o i:ah AV}{t s:ah aB}(x:qy O o t)(B:qy O i s)(a:fc i y e=J h)(c:fc o h 0=J l)(d:h<=cap):∀w:aT,(Instr.sliceBounds isSlice e cap t s Z).run P w=.ok (l,h,cap) w:=by
 intro w;rcases i with _|b;.cases s with|some v=>grind[qy]|none=>simp[fc]at a;subst a;rcases S9 (P:=P) x c with⟨rfl,rfl⟩|⟨u,rfl,f⟩<;>simp_all[Instr.sliceBounds]
 rcases s with _|v;.grind[qy]
 have f3:=(Hu (P:=P) (ack (show mN b y=J h from a) d) B).2;rcases S9 (P:=P) x c with⟨rfl,rfl⟩|⟨u,rfl,f⟩;all_goals simp_all[Instr.sliceBounds]
theorem acm{isSlice:Bool}{e l:Nat}{o i:ah AV}{x:AV}{t s:ah aB}{a:aB}(k:qy O o t)(B:qy O i s)(I:VR O x a)(g:i≠Z)(c:mN x y=J m)(d:fc i m e=J h)(f:fc o h 0=J l)(j:m<=cap):∀w:aT,(Instr.sliceBounds isSlice e cap t s (J a)).run P w=.ok (l,h,m) w:=by
 have e2:=(Hu (P:=P) (ack c j) I).2;intro w;rcases i with _|b;.grind
 rcases s with _|v;.grind[qy]
 have f2:=(Hu (P:=P) (show mN b m=J h from d) B).2;rcases S9 (P:=P) k f with⟨rfl,rfl⟩|⟨u,rfl,n⟩<;>simp_all[Instr.sliceBounds]
theorem Ty{i e:Nat}{a:Addr}(j:O i=J p)(t:p.base+D+cap*e<=p.oB)(o:cap≠0->a=⟨p.aW,p.base+D,Z⟩)(d:0<e){l:Nat}(g:l<=h)(f:h<=m)(b:m<=cap)(n:D+h*e<=p.len)(c:ah Nat)(u:∀k,c=J k->m-l=k/\D+m*e<=p.len)(A:c=Z->p.len<=D+m*e):∃r:Addr,(if m=l then a else a.add (l*e))=r/\VR O (.sl i (im D (jD l e)) (Nat.sub h l) c e) (.slice (J r) (h-l) (m-l)):=by
 have e1:(D+l*e)+(m-l)*e=D+m*e:=by rw[By,<-xT];grind
 have e2:(D+l*e)+(h-l)*e=D+h*e:=by rw[By,<-xT];grind
 have e3:m*e<=cap*e:=ml _ b;refine⟨_,rfl,?_⟩;.refine .sl i (D+l*e) (h-l) c e p _ (m-l) j ae ?_ ?_ ?_ ?_ d ?_<;>grind[wM]
theorem ahp(s:bA S O H w){i:Nat}(a:O i=J p)(h:H.cellsOf i=J l):l.length=p.len:=by obtain⟨r,fl,e,g,_⟩:=KD h;exact s.stat.len i p l r fl e a g
set_option maxHeartbeats 1600000 in theorem aHU(hs:bA S O H w){F A f:ah AV}{r:AV}{X W G:ah aB}(h:pQ P H t x F A f=J r)(hv:VR O x v)(xc:qy O F X)(B2:qy O A W)(Ip:qy O f G)(hS:∀id D,x=.ptr id D->S (rootOf H id)):∃z,(Instr.sliceAt t v X W G).run P w=.ok z w/\VR O r z:=by
 unfold pQ at h;have his:f=Z\/A≠Z:=by cases f<;>grind
 have hmn:f=Z->G=Z:=λe=>by grind[qy]
 have hms:∀m,f=J m->∃mv,G=J mv/\VR O m mv:=λm e=>by subst e;cases G<;>grind[qy]
 have d:sliceB P H t x F A f=J r:=by grind
 clear h;have M:∀(i:Bool)(len cap y m a b:Nat),fc f y y=J m->(f=Z->y=cap)->fc A m len=J b->fc F b 0=J a->m<=cap->b<=m->∀w:aT,(Instr.sliceBounds i len cap X W G).run P w=.ok (a,b,m) w:=by intro i len cap y m a b h0 hy E g B hbm;cases aNc:f<;>grind[fc,acn,acm]
 unfold sliceB at d;split at d;.
  rename_i elem K;cases hv;rcases u:bC P elem with _|n;.grind
  simp only[u,cU]at d;cases B:fc f 0 0 with|none=>grind|some m=>cases o:fc A m 0 with|none=>grind|some b=>cases j:fc F b 0 with|none=>grind|some a=>
  simp[B,o,j]at d;subst d;have zer:∀{x:ah AV}{xv:ah aB}{q z:Nat},qy O x xv->fc x q q=J z->z<=q:=by intro x xv q z hx u;cases x with|none=>grind[fc]|some y=>cases xv with|none=>grind[qy]|some yv=>exact(Hu (P:=P) (show mN y q=J z from u) hx).1
  have m0:m=0:=aj;subst m0;have b0:b=0:=aj;subst b0;have a0:a=0:=aj;subst a0;have:=M V 0 0 0 0 0 0 B (λ_=>rfl) o j (bo _) (bo _) w;exact⟨.slice Z 0 0,by simp[Instr.sliceAt,dA K,Instr.slice,this,mf u],.bc⟩
 .rename_i elem id D len c s K;cases hv with|sl _ _ _ _ _ p ib cap T hl U hc ho hr R hn=>obtain⟨uF,lY⟩:=hc c rfl;subst uF;cases u:bC P elem with|none=>grind|some n=>
  simp only[u,cU,bN]at d;by_cases cA:n=s;.subst cA;simp only[eu,aL]at d;cases B:fc f cap cap with|none=>grind|some m=>cases o:fc A m len with|none=>grind|some b=>cases j:fc F b 0 with|none=>grind|some a=>
   simp only[B,o,j,cU,du]at d;by_cases E:a<=b
   . by_cases g:b<=m
     . simp[E,g]at d;subst d;have I:m<=cap:=by cases f with|none=>grind[fc]|some q=>cases G with|none=>grind|some qv=>exact(Hu (P:=P) (show mN q cap=J m from B) Ip).1
       have L:=M V len cap cap m a b B (λ_=>rfl) o j I g w;have k1:m*n<=cap*n:=ml _ I;have k2:b*n<=m*n:=ml _ g;obtain⟨q,g1,g2⟩:=Ty T U hr R E g I ae (J (m-a)) (λk hk=>⟨aj,ae⟩) aO;refine⟨_,?_,g2⟩;simp only[Instr.sliceAt,Sem.run_bind,dA K,Result.andThen_ok,Instr.slice,L,mf u,Sem.run_pure,<-g1];grind
     grind
   grind
  grind
 .rename_i elem id D len s K;cases hv with|sl _ _ _ _ _ p ib cap T hl U hc ho hr R hn=>have jR:=ho rfl;have N:∀k,D+k*s<=p.len->k<=cap:=λk hk=>Nat.le_of_mul_le_mul_right (show k*s<=cap*s by omega) R;cases u:bC P elem with|none=>grind|some n=>
  simp only[u,cU,bN]at d;by_cases cA:n=s;.subst cA;simp only[eu,aL]at d;cases f with
  |some q=>simp only at d;obtain⟨mv,rfl,vL⟩:=hms q rfl;have awb:A≠Z:=aj;cases B:mN q bF with|none=>grind|some m=>cases o:fc A m len with|none=>grind|some b=>cases j:fc F b 0 with|none=>grind|some a=>cases Y:H.cellsOf id with|none=>grind|some l=>
       have xb:=ahp hs T Y;simp only[B,o,j,Y,cU,du,ef]at d;by_cases h0:D+m*n<=l.length
       . have e0:decide (im D (jD m n)<=l.length)=V:=lS h0;rw[e0]at d;by_cases g:b<=m
         . by_cases E:a<=b;.simp[E,g]at d;subst d;have I:=N m ae;have L:=acm (P:=P) (isSlice:=V) (cap:=cap) xc B2 vL awb B o j I w;have k2:b*n<=m*n:=ml _ g;obtain⟨q',g1,g2⟩:=Ty T U hr R E g I ae (J (m-a)) (λk hk=>⟨aj,ae⟩) aO;refine⟨_,?_,g2⟩;simp only[Instr.sliceAt,Sem.run_bind,dA K,Result.andThen_ok,Instr.slice,L,mf u,Sem.run_pure,<-g1];grind
           grind
         grind
       grind|none=>rw[hmn rfl];simp only at d;cases o:fc A bF len with|none=>grind|some b=>cases j:fc F b 0 with|none=>grind|some a=>
   simp only[o,j,cU,du]at d;by_cases E:a<=b
   . rw[lS E]at d;simp only[aL]at d;have key:b<=cap->D+b*n<=p.len->r=.sl id (im D (jD a n)) (Nat.sub b a) Z n->∃z,(Instr.sliceAt t (.slice (J ib) len cap) X W Z).run P w=.ok z w/\VR O r z:=by intro Q hbl hre;subst hre;have L:=acn (P:=P) (isSlice:=V) xc B2 o j Q w;obtain⟨q',g1,g2⟩:=Ty T U hr R E Q (bo cap) hbl Z aO (λ_=>ae);refine⟨_,?_,g2⟩;simp only[Instr.sliceAt,Sem.run_bind,dA K,Result.andThen_ok,Instr.slice,L,mf u,Sem.run_pure,<-g1];grind
     by_cases g:b<=len;.simp[g]at d;have k2:b*n<=len*n:=ml _ g;grind
     .cases Y:H.cellsOf id<;>grind[ahp,ef]
   grind
  grind
 grind
theorem NL{b:AV}(h:VR O a u)(k:VR O b v):VR O (.cw [a,b]) (.tuple #[u,v]):=aV.cw (aV.cons h (aV.cons k (aV.nil O))) _ rfl
theorem aKJ{b c:AV}{x:aB}(h:VR O a u)(k:VR O b v)(m:VR O c x):VR O (.cw [a,b,c]) (.tuple #[u,v,x]):=aV.cw (aV.cons h (aV.cons k (aV.cons m (aV.nil O)))) _ rfl
theorem akp(h:VR O a u):VR O (.cw [a]) (.tuple #[u]):=aV.cw (aV.cons h (aV.nil O)) _ rfl
theorem aGG{d:TypeDesc}{k c:aB}{b:Bool}(u:P.underlying t=J d)(h:Instr.sameNow d k c=J b):∀w:aT,(Op.equal t k c).run P w=.ok b w:=by
 intro w;obtain⟨n,a⟩:∃n,Op.maxDepth=n+1:=⟨9999,rfl⟩;unfold Instr.sameNow at h;split at h
 . split at h;.rename_i e;subst e;simp at h;subst h;unfold Op.equal;rw[a];simp[Op.equalIn,dA u]
   grind
 .simp at h;subst h;unfold Op.equal;rw[a];simp[Op.equalIn,dA u]
 .simp at h;subst h;unfold Op.equal;rw[a];simp[Op.equalIn,dA u]
 grind
theorem atd{d:TypeDesc}{k:aB}(u:P.underlying t=J d):∀(es:List kZ)(i:Nat)(r:ah (Nat×aB)),Instr.findNow d k es i=J r->∀w:aT,(Instr.findAsking t k es i).run P w=.ok r w:=by intro es;induction es with|nil=>simp[Instr.findNow,Instr.findAsking]|cons e es a=>
 intro i r h w;unfold Instr.findNow at h;rcases s:Instr.sameNow d k e.key with _|b;.grind
 have:=aGG u s w;cases b<;>simp_all[Instr.findAsking]
theorem aeO{d:TypeDesc}{k:aB}{e:List kZ}{r:ah (Nat×aB)}(u:P.underlying t=J d)(h:∀w:aT,(Instr.findAsking t k e).run P w=.ok r w):∀w:aT,(Instr.findKey t k e).run P w=.ok r w:=by cases f:Instr.findNow d k e 0<;>simp_all[Instr.findKey,dA,atd]
theorem ata{k:AV}(s:VR O k kv):∀(es:List ew)(ms:List kZ)(i:Nat)(r:ah (Nat×ew)),nr O es ms->oM P t k es i=J r->(r=Z/\∀w:aT,(Instr.findAsking t kv ms i).run P w=.ok Z w)\/∃j e m,r=J (i+j,e)/\es[j]?=J e/\ms[j]?=J m/\∀w:aT,(Instr.findAsking t kv ms i).run P w=.ok (J (i+j,m.val)) w:=by intro es;induction es with
 |nil=>
 intro ms i r c h;have:ms=[]:=by have:=c.1;grind
 have:r=Z:=by have d:J _=J r:=h;grind
 simp_all[Instr.findAsking]|cons e es u=>
 intro ms i r c h;rcases ms with _|⟨m,ms⟩;.have:=c.1;grind
 have l:=c.2 0 e m rfl rfl;have D:nr O es ms:=⟨by have:=c.1;grind,λj a b y z=>c.2 (j+1) a b aj aj⟩;have d:((mQ P 50 t k e.1).bind λb=>bif b then J (J (i,e))else oM P t k es (i+1))=J r:=h;rcases f:mQ P 50 t k e.1 with _|b;.grind
 have q:∀w,(Op.equal t kv _).run P w=.ok b w:=λw=>T7 50 f s l.1 _ gD w;cases b with|true=>simp[f]at d;right;exact⟨0,e,m,aj,rfl,rfl,λw=>by simp_all[Instr.findAsking]⟩|false=>
 simp[f]at d;rcases u ms (i+1) r D d with⟨n,o⟩|⟨j,g,v,n,o,x,p⟩;.simp_all[Instr.findAsking]
 . refine .inr ⟨j+1,g,v,?_,aj,aj,λw=>?_⟩;.grind
   .have:=p w;simp[Instr.findAsking,q,this];omega
theorem ayY:∀(b:Nat){t:al}{k:AV}{v:aB}{empty:Bool},Qr P b t k=V->VR O k v->∀d,b<=d->∀w:aT,(Instr.checkKey empty d t v).run P w=.ok () w:=by intro b;induction b with|zero=>simp[Qr]|succ b s=>
 intro t k v e h r d hd w;obtain⟨d,rfl⟩:∃o,d=o+1:=⟨d-1,ae⟩;have g:yL P (Qr P b) t k=V:=h;unfold yL at g;split at g;.simp_all[Instr.checkKey,dA]
 .simp_all[Instr.checkKey,dA]
 .simp_all[Instr.checkKey,dA]
 .rename_i i cs z;obtain⟨c,rfl,q,x⟩:=r.Ac;simp only[Instr.checkKey,Sem.run_bind,dA z,Result.andThen_ok];rw[rI]at g;rw[<-Array.forIn_toList];generalize i.toList=l at g;induction l with|nil=>rfl|cons f l m=>
  simp only[kY,iC]at g;have A:=m g.2;by_cases B:f.name= "_";.grind
  . have j:=g.1;have n:(f.name== "_")=C:=aj;rw[n]at j;rcases p:qo P f.type cs f.offset with _|a;.grind
    simp[p]at j;obtain⟨u,y,Q⟩:=MN p q x;have:=s (empty:=e) j Q d ae w;simp_all
 grind
theorem bytes_inj{u v:ByteArray}{l:an}(h:u.data.toList.map nU=l)(a:v.data.toList.map nU=l):u=v:=by have b:=Tf h a;grind[Al,ByteArray.toList_eq,ByteArray.ext,Array.toList_inj]
theorem ajL{b:AV}(c:VR O a u)(d:VR O b v)(h:zd a b=V):u=v/\∀n,Instr.sameBits n u v=V:=by
 unfold zd at h;split at h;.cases c;cases d;grind[Instr.sameBits]
 .cases c;cases d;grind[CZ,Instr.sameBits]
 .rw[Al,mw]at h;subst h;cases c with|str _ s e1=>cases d with|str _ e e2=>have:=bytes_inj e1 e2;grind[Instr.sameBits,beq_toListBytes]
 grind
theorem aGF:∀(b s:aD)(a vs:List aB),aV O b a->aV O s vs->b.length=s.length->(List.zip b s).all (λp=>zd p.1 p.2)=V->a=vs/\∀n,(a.zip vs).all (λp=>Instr.sameBits n p.1 p.2)=V:=by intro b;induction b with
 |nil=>intro s a vs c d l _;cases s with|cons=>grind|nil=>rw[c.sT,d.sT];simp_all
 |cons x b j=>
 intro s a vs c d l h;rcases s with _|⟨y,s⟩;.grind
 obtain⟨u,a,rfl,e,f⟩:=c.cons_inv;obtain⟨v,vs,rfl,g,i⟩:=d.cons_inv;simp only[List.zip_cons_cons,kY,iC]at h;obtain⟨e1,e2⟩:=ajL e g h.1;obtain⟨e3,e4⟩:=j s a vs f i aj h.2;simp_all
theorem sameKey_eq{b:AV}(f:VR O a u)(g:VR O b v)(h:sameKey a b=V):u=v/\Instr.sameBits 10000 u v=V:=by
 unfold sameKey at h;split at h;.obtain⟨c,rfl,e,_⟩:=f.Ac;obtain⟨d,rfl,hd,_⟩:=g.Ac;rw[iC,bN,mw,ef,ef,rI]at h;obtain⟨e1,e2⟩:=aGF _ _ _ _ e hd h.1 h.2;simp_all[Instr.sameBits]
 grind[ajL]
theorem sR{c:Nat}(h:H.jT r=J (es,c)):H.get r=J (.map es c):=by grind[Heap.jT]
theorem AT(s:bA S O H w){c:Nat}(f:O r=J p)(b:S (rootOf H r))(g:H.get r=J (.map es c)):∃a:Array kZ,w.heap[p.aW]?=J (.map a c)/\nr O es a.toList/\p.base=0:=by have d:jr H r:=λl m fl e h=>aj;obtain⟨i,a,j,k⟩:=s.obj r p _ f b d g;grind
theorem yZ{b:Nat}{o:Obj}(h:w.heap[b]?=J o)(a:∀c e f,o≠.cells c e f):(getObj b).run P w=.ok o w:=by grind[getObj,Sem.run]
theorem Jq{b:Nat}{o o':Obj}(h:w.heap[b]?=J o)(a:∀c e f,o≠.cells c e f):(setObj b o').run P w=.ok () (World.eH w b o'):=by unfold setObj;unfold Sem.run;rw[h];cases o<;>first|rfl|grind
theorem vd{b c:Nat}{e:Array kZ}(h:w.heap[b]?=J (.map e c)):(getObj b).run P w=.ok (.map e c) w:=by grind[yZ]
theorem DX{b c:Nat}{e:Array kZ}{o:Obj}(h:w.heap[b]?=J (.map e c)):(setObj b o).run P w=.ok () (World.eH w b o):=by grind[Jq]
theorem aET(H:Heap)(r:Nat)(o:bQ):H.put r r o=H.dG r r o:=by simp[Heap.dG]
theorem Re(i:ba H)(s:bA S O H w){b o:bQ}(a:Obj)(e:O r=J p)(g:H.get r=J b)(h:b.dQ=C)(c:o.dQ=C)(d:mn O (World.eH w p.aW a) o p):ba (H.put r r o)/\bA S O (H.put r r o) (World.eH w p.aW a)/\Fr O H w O (H.put r r o) (World.eH w p.aW a):=by have hr:=yY g h;grind[fJ,bQ.dQ,ai8,aET]
theorem Rz(w:aT){b:Nat}(h:b<w.heap.size)(o:Obj):(World.eH w b o).heap[b]?=J o:=by show(w.heap.setIfInBounds b o)[b]?=J o;grind
theorem DP(i:ba H)(s:bA S O H w){e:List ew}{c b:Nat}(a:Array kZ)(h:O r=J p)(g:H.get r=J (.map es c))(d:p.base=0)(f:nr O e a.toList):ba (H.put r r (.map e b))/\bA S O (H.put r r (.map e b)) (World.eH w p.aW (.map a b))/\Fr O H w O (H.put r r (.map e b)) (World.eH w p.aW (.map a b)):=Re i s _ h g rfl rfl ⟨d,a,Rz w (s.stat.cq r p h).1 _,f⟩
theorem Pg{d:TypeDesc}{k:AV}{r:ah (Nat×ew)}(u:P.underlying t=J d)(i:VR O k kv)(g:nr O es ms)(h:oM P t k es 0=J r):(r=Z/\∀w:aT,(Instr.findKey t kv ms).run P w=.ok Z w)\/∃j e m,r=J (j,e)/\es[j]?=J e/\ms[j]?=J m/\wF O e m/\∀w:aT,(Instr.findKey t kv ms).run P w=.ok (J (j,m.val)) w:=by
 rcases ata i es ms 0 r g h with⟨a,b⟩|⟨j,e,m,a,b,c,f⟩;.grind[aeO]
 .simp only[jM]at a f;exact .inr ⟨j,e,m,a,b,c,g.2 j e m b c,aeO u f⟩
theorem Qq{k:AV}(h:ql P t k=V):∃d,P.underlying t=J d:=by have a:yL P _ t k=V:=h;unfold yL at a;grind
theorem Mf{k:AV}{empty:Bool}(h:ql P t k=V)(a:VR O k kv)(w:aT):(Instr.checkKey empty 10000 t kv).run P w=.ok () w:=ayY 5 h a 10000 ae w
def AR(P:aM)(a t:al)(s:List ew)(k:AV)(o:Bool):ah AV:=(oM P a k s 0).bind λ|some (_,e)=>J (bif o then .cw [e.2.1,.bool V]else e.2.1)|none=>(zB P t).bind λz=>J (bif o then .cw [z,.bool C]else z)
theorem Wl{a:al}{arr:Array kZ}{k r:AV}{mv:aB}{o:Bool}(v:P.underlying t=J (.map kt a))(p:(∃b c,mv=.map (J b)/\w.heap[b]?=J (.map arr c))\/(mv=.map Z/\arr=#[]))(y:nr O es arr.toList)(n:VR O k kv)(l:ql P kt k=V)(h:AR P kt a es k o=J r):∃z,(Instr.lookup t mv kv o).run P w=.ok z w/\VR O r z:=by
 obtain⟨d,hd⟩:=Qq l;have Y:=λe=>Mf (empty:=e) l n w;unfold AR at h;rcases s:oM P kt k es 0 with _|q;.grind
 simp only[s,cU]at h;rcases Pg hd n y s with⟨rfl,g⟩|⟨j,e,m,rfl,g,D,i,x⟩
 . rcases u:zB P a with _|z;.grind
   simp[u]at h;obtain⟨zv,A,B⟩:=Gt (O:=O) u w;refine⟨if o then .tuple #[zv,.bool C]else zv,?_,?_⟩
   . rcases p with⟨b,c,rfl,f⟩|⟨rfl,rfl⟩;.simp[Instr.lookup,dA v,vd f,Y,g w,A]
     simp_all[Instr.lookup,dA]
   . subst h;cases o;.grind
     .exact NL B (.bool _)
 . simp at h;refine⟨if o then .tuple #[m.val,.bool V]else m.val,?_,?_⟩
   . rcases p with⟨b,c,rfl,f⟩|⟨rfl,rfl⟩;.simp[Instr.lookup,dA v,vd f,Y,x w]
     grind
   . subst h;cases o;.exact i.2.1
     .exact NL i.2.1 (.bool _)
theorem nr.append(h:nr O es ms){e:ew}{m:kZ}(k:wF O e m):nr O (es++[e]) (ms++[m]):=by
 refine⟨by simp[h.1],λi a b d c=>?_⟩;by_cases hi:i<es.length;.rw[oF hi]at d;rw[oF (by rw[<-h.1];omega)]at c;exact h.2 i a b d c
 .rw[oG (by rw[<-h.1];omega),<-h.1]at c;grind
theorem ahJ{a:Type}(l:List a)(i:Nat)(x:a)(h:i<l.length):v7 l i x=l.set i x:=by grind[v7,lQ,qx,qI,List.set_eq_take_append_cons_drop]
theorem nr.set(h:nr O es ms){i:Nat}{e:ew}{m:kZ}(k:wF O e m):nr O (es.set i e) (ms.set i m):=by
 refine⟨by simp[h.1],λj a b c d=>?_⟩;rw[List.getElem?_set]at c d;by_cases l:i=j;.grind
 .rw[if_neg l]at c d;exact h.2 j a b c d
theorem ab3(s:Array kZ)(i:Nat)(f:kZ->kZ){m:kZ}(h:s.toList[i]?=J m):(s.modify i f).toList=s.toList.set i (f m):=by apply List.ext_getElem?;grind
theorem aK0(z:ba H)(u:bA S O H w){c:Nat}{k:AV}(B:P.underlying t=J (.map kt vt))(s:O r=J p)(F:S (rootOf H r))(o:H.get r=J (.map es c))(f:VR O k kv)(y:ql P kt k=V)(A:VR O x xv)(h:oM P kt k es 0=J q):(q=Z/\∃w',(Instr.mapUpdate t (.map (J p.aW)) kv xv).run P w=.ok () w'/\ba (H.put r r (.map (cQ es [(k,x,c)]) (eU c)))/\bA S O (H.put r r (.map (cQ es [(k,x,c)]) (eU c))) w'/\Fr O H w O (H.put r r (.map (cQ es [(k,x,c)]) (eU c))) w')\/∃i e,q=J (i,e)/\(sameKey e.1 k=V->∃w',(Instr.mapUpdate t (.map (J p.aW)) kv xv).run P w=.ok () w'/\ba (H.put r r (.map (v7 es i (e.1,x,e.2.2)) c))/\bA S O (H.put r r (.map (v7 es i (e.1,x,e.2.2)) c)) w'/\Fr O H w O (H.put r r (.map (v7 es i (e.1,x,e.2.2)) c)) w'):=by
 obtain⟨d,hd⟩:=Qq y;obtain⟨a,b,n,v⟩:=AT u s F o;have Y:=Mf (empty:=C) y f w;rcases Pg hd f n h with⟨rfl,g⟩|⟨j,e,m,rfl,g,D,l,E⟩
 . left;refine⟨rfl,_,?_,DP z u (a.push {key:=kv,val:=xv,born:=c}) s o v ?_⟩;.simp[Instr.mapUpdate,dA B,vd b,Y,g w,DX b]
   .rw[lQ,Array.toList_push];exact n.append ⟨f,A,rfl⟩
 . right;refine⟨j,e,rfl,λQ=>?_⟩;obtain⟨e1,e2⟩:=sameKey_eq l.1 f Q;have G:=(List.getElem?_eq_some_iff.1 g).1;have X:a[j]?=J m:=aj;refine⟨_,?_,DP z u (a.modify j λe=>{e with key:=kv,val:=xv}) s o v ?_⟩;.simp[Instr.mapUpdate,dA B,vd b,Y,E w,DX b,X,Instr.keyThatStays,e2]
   .rw[ahJ _ _ _ G,ab3 _ _ _ D];exact n.set ⟨by rw[<-e1];exact l.1,A,l.2.2⟩
theorem aBe(s:Array kZ)(i:Nat)(f:kZ->kZ){m:kZ}(h:s.toList[i]?=J m)(a:f m=m):s.modify i f=s:=aj
theorem apr(A:ba H)(s:bA S O H w){c:Nat}{k:AV}(B:P.underlying t=J (.map kt vt))(o:O r=J p)(G:S (rootOf H r))(n:H.get r=J (.map es c))(f:VR O k kv)(y:ql P kt k=V)(h:oM P kt k es 0=J q):(q=Z/\∀z,zB P vt=J z->∃u w',(Instr.mapEntry t (.map (J p.aW)) kv).run P w=.ok u w'/\VR O (.cw [z,ix c]) u/\ba (H.put r r (.map (cQ es [(k,z,c)]) (eU c)))/\bA S O (H.put r r (.map (cQ es [(k,z,c)]) (eU c))) w'/\Fr O H w O (H.put r r (.map (cQ es [(k,z,c)]) (eU c))) w')\/∃i e,q=J (i,e)/\(sameKey e.1 k=V->∃u w',(Instr.mapEntry t (.map (J p.aW)) kv).run P w=.ok u w'/\VR O (.cw [e.2.1,ix e.2.2]) u/\ba (H.put r r (.map es c))/\bA S O (H.put r r (.map es c)) w'/\Fr O H w O (H.put r r (.map es c)) w'):=by
 obtain⟨d,hd⟩:=Qq y;obtain⟨a,b,l,x⟩:=AT s o G n;have Y:=Mf (empty:=C) y f w;rcases Pg hd f l h with⟨rfl,v⟩|⟨j,e,m,rfl,v,E,g,F⟩
 . left;refine⟨rfl,λz K=>?_⟩;obtain⟨zv,L,D⟩:=Gt K w;refine⟨.tuple #[zv,goInt c],_,?_,NL D (.int _ _),DP A s (a.push {key:=kv,val:=zv,born:=c}) o n x ?_⟩;.simp[Instr.mapEntry,dA B,vd b,Y,v w,DX b,L]
   .rw[lQ,Array.toList_push];exact l.append ⟨f,D,rfl⟩
 .right;refine⟨j,e,rfl,λQ=>?_⟩;obtain⟨e1,e2⟩:=sameKey_eq g.1 f Q;have X:a[j]?=J m:=aj;refine⟨.tuple #[m.val,goInt _],_,?_,NL g.2.1 (by rw[<-g.2.2];exact .int _ _),DP A s _ o n x l⟩;have I:a.modify j (λe=>{e with key:=kv})=a:=aBe _ _ _ E (by rw[<-e1]);simp[Instr.mapEntry,dA B,vd b,Y,F w,DX b,X,Instr.keyThatStays,e2,I]
theorem aoV(K:ba H)(B:bA S O H w){ty:al}{c:Nat}{k:AV}(u:ats[0]?=J t)(D:P.underlying t=J (.map kt vt))(A:O r=J p)(G:S (rootOf H r))(y:H.get r=J (.map es c))(z:VR O k kv)(x:ql P kt k=V)(h:oM P kt k es 0=J q):∃w',(Builtin.delete_ ats ty #[.map (J p.aW),kv]).run P w=.ok (.tuple #[]) w'/\(∀s,s=(match q with|some (i,_)=>cQ (xK i es) (Aj (eU i) es)|none=>es)->ba (H.put r r (.map s c))/\bA S O (H.put r r (.map s c)) w'/\Fr O H w O (H.put r r (.map s c)) w'):=by
 obtain⟨d,hd⟩:=Qq x;obtain⟨f,l,n,I⟩:=AT B A G y;have Y:=λe=>Mf (empty:=e) x z w;rcases Pg hd z n h with⟨rfl,v⟩|⟨j,e,m,rfl,v,M,N,F⟩
 . refine⟨World.eH w p.aW (.map f c),?_,λs R=>?_⟩;.simp[Builtin.delete_,u,dA D,vd l,Y,v w,DX l]
   grind[DP]
 . refine⟨World.eH w p.aW (.map (f.eraseIdxIfInBounds j) c),?_,λs R=>?_⟩;.simp[Builtin.delete_,u,dA D,vd l,Y,F w,DX l]
   . subst R;refine DP K B _ A y I ?_;have L:j<f.size:=aj;simp only[lQ,qx,qI];rw[Array.eraseIdxIfInBounds,dif_pos L,Array.toList_eraseIdx,List.eraseIdx_eq_take_drop_succ];refine⟨by simp[n.1],λi a b g o=>?_⟩;have t1:(es.take j).length=j:=aj;have t2:(f.toList.take j).length=j:=aj;by_cases E:i<j;.rw[oF ae,Ew E]at g;rw[oF ae,Ew E]at o;exact n.2 i a b g o
     .rw[oG ae,t1,zO]at g;rw[oG ae,t2,zO]at o;exact n.2 _ a b g o
theorem am1{o:Nat}:∀(es:List ew)(ms:List kZ)(i:Nat)(q:Nat×ew),nr O es ms->Ow o es i=J q->∃j e m,q=(i+j,e)/\es[j]?=J e/\ms[j]?=J m/\wF O e m/\ms.findIdx? (λe=>(e.born:Int)==(o:Int))=J j:=by intro es;induction es with|nil=>intro ms i q d h;exact absurd (show(Z:ah (Nat×ew))=J q from h) aO|cons e es n=>
 intro ms i q d h;rcases ms with _|⟨m,ms⟩;.have:=d.1;grind
 have g:=d.2 0 e m rfl rfl;have D:nr O es ms:=⟨by have:=d.1;grind,λj a b v f=>d.2 (j+1) a b aj aj⟩;have c:(bif aw e.2.2 o then J (i,e)else Ow o es (i+1))=J q:=h;rw[bN]at c;by_cases f:e.2.2=o;.rw[lS f]at c;simp at c;refine⟨0,e,m,c.symm,rfl,rfl,g,?_⟩;rw[List.findIdx?_cons,g.2.2,f];simp
 . rw[wS f]at c;simp at c;obtain⟨j,k,p,r,s,t,l,u⟩:=n ms (i+1) q D c;refine⟨j+1,k,p,aj,aj,aj,l,?_⟩;have A:((m.born:Int)==(o:Int))=C:=by rw[g.2.2,beq_eq_false_iff_ne];omega
   grind
theorem apo(z:ba H)(s:bA S O H w){c b:Nat}{kk:gZ}{q:Nat×ew}(l:O r=J p)(v:S (rootOf H r))(k:H.get r=J (.map es c))(B:VR O x xv)(h:Ow b es 0=J q):∃w',(Instr.entryStore t (.map (J p.aW)) (.int kk (.ofNat b)) xv).run P w=.ok () w'/\ba (H.put r r (.map (v7 es q.1 (q.2.1,x,q.2.2.2)) c))/\bA S O (H.put r r (.map (v7 es q.1 (q.2.1,x,q.2.2.2)) c)) w'/\Fr O H w O (H.put r r (.map (v7 es q.1 (q.2.1,x,q.2.2.2)) c)) w':=by
 obtain⟨a,g,i,y⟩:=AT s l v k;obtain⟨j,e,m,rfl,n,o,f,u⟩:=am1 es a.toList 0 q i h;have A:j<es.length:=(List.getElem?_eq_some_iff.1 n).1;have d:a.findIdx? (λe=>(e.born:Int)==(b:Int))=J j:=by rw[<-List.findIdx?_toArray,Array.toArray_toList]at u;omega
 refine⟨_,?_,DP z s (a.modify j λe=>{e with val:=xv}) l k y ?_⟩;.simp[Instr.entryStore,vd g,asInt,asIntOf,d,DX g]
 .simp only[jM];rw[ahJ _ _ _ A,ab3 _ _ _ o];exact i.set ⟨f.1,B,f.2.2⟩
theorem Mx(h:ba H)(s:bA S O H w)(o:bQ)(a:Obj)(c:o.dQ=C)(b:mn O (World.push w a) o ⟨w.heap.size,0,0,0⟩):(newObj a).run P w=.ok w.heap.size (World.push w a)/\gH O H.next ⟨w.heap.size,0,0,0⟩ H.next=J ⟨w.heap.size,0,0,0⟩/\ir S O H w (gH O H.next ⟨w.heap.size,0,0,0⟩) (H.alloc o) (World.push w a):=by refine⟨by rfl,jK _ _ _,Kn h s o a _ rfl ?_ b⟩;grind[bQ.dQ]
theorem aFc(i:ba H)(s:bA S O H w)(j:P.underlying t=J (.map kt vt))(b:VR O .il v):∃u ψ w',(Instr.range t v).run P w=.ok u w'/\VR ψ (.ptr H.next 0) u/\ir S O H w ψ (H.alloc (.mapIter Z 0 [] 0)) w':=by cases b;obtain⟨c,h,a⟩:=Mx (P:=P) i s (.mapIter Z 0 [] 0) (.mapIter Z 0 #[] 0) rfl ⟨rfl,Z,xF w _,rfl⟩;exact⟨.pointer (J ⟨w.heap.size,0,Z⟩),_,_,by simp_all[Instr.range,dA],.ptr _ 0 _ h,a⟩
theorem aFb(i:ba H)(s:bA S O H w){c:Nat}(j:P.underlying t=J (.map kt vt))(h:O r=J p)(e:S (rootOf H r))(g:H.get r=J (.map es c)):∃u ψ w',(Instr.range t (.map (J p.aW))).run P w=.ok u w'/\VR ψ (.ptr H.next 0) u/\ir S O H w ψ (H.alloc (.mapIter (J r) c [] c)) w':=by obtain⟨a,f,m,l⟩:=AT s h e g;obtain⟨k,b,d⟩:=Mx (P:=P) i s (.mapIter (J r) c [] c) (.mapIter (J p.aW) c #[] c) rfl ⟨rfl,J p.aW,xF w _,p,h,rfl⟩;exact⟨.pointer (J ⟨w.heap.size,0,Z⟩),_,_,by simp[Instr.range,dA j,vd f,World.push],.ptr _ 0 _ b,d⟩
theorem MM(s:bA S O H w){o:bQ}(b:O r=J p)(a:S (rootOf H r))(g:H.get r=J o)(c:o.dQ=C):mn O w o p:=s.obj r p o b a (λl d fl e h=>by grind[bQ.dQ]) g
theorem aBK(s:bA S O H w){ty:al}{a c:Nat}{l:an}(f:O r=J p)(e:S (rootOf H r))(g:H.get r=J (.mapIter Z a l c)):∃u,(Instr.next (.pointer (J ⟨p.aW,p.base+0,Z⟩)) C ty).run P w=.ok u w/\VR O (.cw [.bool C]) u:=by obtain⟨h,m,b,d⟩:=MM s f e g rfl;have j:m=Z:=d;subst j;refine⟨.tuple #[.bool C],?_,akp (.bool C)⟩;rw[h];simp[Instr.next,yZ b]
theorem aAa{n:an}:∀(es:List ew)(ms:List kZ),nr O es ms->nr O (Dx n es) (ms.filter λe=>!(n.toArray.contains e.born)):=by intro es;induction es with
 | nil => intro ms h;have:ms=[]:=by have:=h.1;grind
          subst this;exact h|cons e es g=>
   intro ms h;rcases ms with _|⟨m,ms⟩;.have:=h.1;grind
   have d:=h.2 0 e m rfl rfl;have D:nr O es ms:=⟨by have:=h.1;grind,λj a b f c=>h.2 (j+1) a b aj aj⟩;have k:Dx n (e::es)=bif iw (λs=>!(aw s e.2.2)) n then e::Dx n es else Dx n es:=rfl;have v:iw (λs=>!(aw s e.2.2)) n=!(n.toArray.contains m.born):=by rw[rI,d.2.2,List.contains_toArray,List.contains_eq_any_beq,List.all_eq_not_any_not];grind[bN]
   rw[k,v,zN];rcases c:(!(n.toArray.contains m.born))with _|_;.grind
   simp only[aL,if_true];have:=g ms D;refine⟨by simp[this.1],λi a b f c=>?_⟩;rcases i with _|i;.grind
   exact this.2 i a b aj aj
theorem aAc{a:Array kZ}{seen:an}{c:Nat}(h:nr O es a.toList)(l:∀e,e∈es->e.2.2<c):(∀m,m∈a->m.born<c)/\nr O (Dx seen es) (a.filter λe=>!(seen.toArray.contains e.born)).toList:=by
 refine⟨λm d=>?_,by grind[aAa]⟩;obtain⟨i,hi⟩:=Array.mem_iff_getElem?.1 d;have t:a.toList[i]?=J m:=aj;have b:i<es.length:=by rw[h.1];grind
 have:=h.2 i _ m (eZ b) t;rw[this.2.2];grind
theorem aBI(K:ba H)(i:bA S O H w){A:al}{c:Nat}{s:an}{q:Pl}(t:O r=J p)(F:S (rootOf H r))(n:H.get r=J (.mapIter (J m) c s c))(g:O m=J q)(D:S (rootOf H m))(B:H.get m=J (.map es c))(U:∀e,e∈es->e.2.2<c):(Dx s es=[]->∃u w',(Instr.next (.pointer (J ⟨p.aW,p.base+0,Z⟩)) C A).run P w=.ok u w'/\VR O (.cw [.bool C]) u/\(w'=w\/w'=w.drew))/\(∀e,Dx s es=[e]->∃u w',(Instr.next (.pointer (J ⟨p.aW,p.base+0,Z⟩)) C A).run P w=.ok u w'/\VR O (.cw [.bool V,e.1,e.2.1]) u/\ba (H.put r r (.mapIter (J m) c (cQ s [e.2.2]) c))/\bA S O (H.put r r (.mapIter (J m) c (cQ s [e.2.2]) c)) w'/\Fr O H w O (H.put r r (.mapIter (J m) c (cQ s [e.2.2]) c)) w'):=by
 obtain⟨d,Y,f,E⟩:=MM i t F n rfl;obtain⟨N,G,rfl⟩:=E;rw[g]at G;obtain rfl:q=N:=aj;obtain⟨a,k,I,W⟩:=AT i g D B;obtain⟨f1,f2⟩:=aAc (seen:=s) I U;have Q:¬((!s.toArray.isEmpty&&!a.isEmpty&&a.all λe=>decide (e.born>=c))=V):=by
   intro o;simp only[iC]at o;obtain⟨⟨_,g2⟩,g3⟩:=o;have T:a.size≠0:=by grind
   have R:a[0]'ae∈a:=Array.getElem_mem _;grind
 obtain⟨left,L⟩:∃left,left=a.filter λe=>!(s.toArray.contains e.born):=⟨_,rfl⟩;rw[<-L]at f2;have M:∀m,m∈left->m.born<c:=λm X=>f1 m aj;have h:(left.filter λe=>decide (e.born<c))=left:=by grind[Array.filter_eq_self]
 have z:(left.filter λe=>decide (e.born>=c))=#[]:=by grind[Array.filter_eq_empty_iff]
 have j:(!s.toArray.isEmpty&&!a.isEmpty&&a.all λe=>decide (e.born>=c))=C:=aj;constructor
 . intro l;rw[l]at f2;have v:left=#[]:=by have:=f2.1;grind
   refine⟨.tuple #[.bool C],w,?_,akp (.bool C),.inl rfl⟩;rw[d];simp only[Instr.next,jM,Sem.run_bind,yZ f aO,Result.andThen_ok,vd k,j,<-L,v];simp[Question.forced]
 . intro e l;rw[l]at f2;obtain⟨x,y⟩:∃x,left=#[x]:=by have:=f2.1;grind[Array.size_eq_one_iff]
   have b:wF O e x:=f2.2 0 e x rfl aj;refine⟨.tuple #[.bool V,x.key,x.val],World.eH w p.aW (.mapIter (J q.aW) c (s.toArray.push x.born) c),?_,aKJ (.bool V) b.1 b.2.1,Re K i _ t n rfl rfl ⟨d,J q.aW,?_,q,g,rfl⟩⟩;.rw[d];rw[y]at h z;simp only[Instr.next,jM,Sem.run_bind,yZ f aO,Result.andThen_ok,vd k,j,<-L,y,h,z];simp[Question.forced,Jq f]
   .rw[lQ,<-b.2.2];grind[Rz]
theorem aJJ(g:bA S O H w){c a s:Nat}{e:ew}{q:Pl}(o:O r=J p)(l:S (rootOf H r))(n:H.get r=J (.mapIter (J m) a [s] c))(f:O m=J q)(i:S (rootOf H m))(L:H.get m=J (.map [e] c))(R:e.2.2=s):∃u,(Instr.entry (.pointer (J ⟨p.aW,p.base+0,Z⟩))).run P w=.ok u w/\VR O (.cw [e.1,e.2.1]) u:=by
 obtain⟨j,E,y,k⟩:=MM g o l n rfl;obtain⟨v,A,rfl⟩:=k;rw[f]at A;obtain rfl:q=v:=aj;obtain⟨b,z,d,B⟩:=AT g f i L;obtain⟨x,t⟩:∃x,b=#[x]:=by have:=d.1;grind[Array.size_eq_one_iff]
 subst t;have h:wF O e x:=d.2 0 e x rfl rfl;refine⟨.tuple #[x.key,x.val],?_,NL h.1 h.2.1⟩;rw[j];have D:(x.born==s)=V:=by rw[h.2.2,R];simp
 simp_all[Instr.entry,yZ]
end
end Go.AM
