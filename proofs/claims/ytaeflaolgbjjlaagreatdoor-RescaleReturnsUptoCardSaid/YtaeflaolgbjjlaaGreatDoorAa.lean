/- Proved: the abstract machine and the value machine, and laws of the first one (a part of the proof of RescaleReturnsUptoCardSaid, whose theorem stands in the last text): they hold for every program that the texts behind them run. -/
import GoSem.Step
import Derived.Calls
import Derived.Laws.Entries
import Derived.Laws.StructEq
import Derived.Laws.RangeString
import Derived.Laws.BytesString
import Derived.RunT
import Derived.Orders
import Derived.Shelf.Strings.Search2
import Derived.Shelf.Small.Strs
import Derived.Test.YtaeflaolgbjjlaaGreatDoorProg
import Derived.KernelRfl
import Derived.Lib.SlicesCompact
import Derived.ReadAgain
import Derived.OpenShut
import Derived.LaidSub
import Derived.Shelf.Sort.Plain
import Derived.Shelf.Slices.CompactI
import Derived.Shelf.Spec.SlicesInsert
import Derived.Lib.AppendZerosOnto
import Derived.Shelf.Slices.In.SortNone
import Derived.WalkKit
import Derived.ProofKit
import Derived.Deep.DeepHandedRow
import Derived.Lib.LaidTab
open Option renaming some->J,none->Z
open Bool renaming true->V,false->C
open Go renaming TypeId->an,Oper->aB,Value->aC,Program->aG,Operand->aK,World->aW,Code->bF,FuncId->bV,IntKind->fN,MapEntry->kJ,ResultVar->oy
open Go.Builtin renaming zeroCells->nF,firstCells->oq,append_->sP
open Go.Region renaming binds->tU
open Int renaming ofNat->di,add->jP
open List renaming rec->iQ,replicate->lW,range->tO
open Nat renaming beq->aw,ble->br,blt->cm,succ->fg,add->gW,mul->iR
open UInt8 renaming toNat->ka
noncomputable section
set_option linter.all false
theorem ab{p:Prop}(h:p:=by omega):p:=h
theorem aO{p:Prop}(h:p:=by simp):p:=h
theorem ai{p:Prop}(h:p:=by grind):p:=h
theorem aT{p:Prop}(h:p:=by simp_all):p:=h
theorem eY{p:Prop}(h:p:=by decide):p:=h
theorem aN{p:Prop}(h:p:=by kernel_rfl):p:=h
theorem aR:type_of%@cond_true:=@cond_true
theorem bt:type_of%@Option.some.inj:=@Option.some.inj
theorem bJ:type_of%@Nat.le_refl:=@Nat.le_refl
theorem bS:type_of%@cond_false:=@cond_false
def cF:=@eq_false
theorem cQ:type_of%@Option.bind_some:=@Option.bind_some
def dw:=@List.mem_of_getElem?
theorem dD:type_of%@List.getElem?_eq_getElem:=@List.getElem?_eq_getElem
theorem dE:type_of%@List.length_cons:=@List.length_cons
def dM:=@decide_true
theorem eG:type_of%@List.map_nil:=@List.map_nil
theorem fS:type_of%@List.map_cons:=@List.map_cons
def fX:=@Nat.le_trans
theorem fZ:type_of%@List.length_map:=@List.length_map
theorem gi:type_of%@Nat.lt_of_lt_of_le:=@Nat.lt_of_lt_of_le
theorem gD:type_of%@Bool.and_eq_true:=@Bool.and_eq_true
def gE:=@List.length_nil
def gF:=@Option.map_some
theorem gJ:type_of%@List.length_append:=@List.length_append
theorem gK:type_of%@List.mem_cons_self:=@List.mem_cons_self
def gY:=@congrArg
theorem gZ:type_of%@decide_eq_true_eq:=@decide_eq_true_eq
def il:=@Prod.mk.inj
def iT:=@eq_true
theorem iZ:type_of%@Nat.zero_add:=@Nat.zero_add
theorem ja:type_of%@Option.map_eq_some_iff:=@Option.map_eq_some_iff
theorem jo:type_of%@List.getElem?_map:=@List.getElem?_map
def jF:=@List.nil_append
theorem jQ:type_of%@List.append_nil:=@List.append_nil
def kG:=@List.mem_cons_of_mem
def kM:=@decide_false
theorem lf:type_of%@decide_eq_true:=@decide_eq_true
def lC:=@List.cons_append
def lD:=@Nat.mul_le_mul_right
def lX:=@Nat.zero_le
theorem mz:type_of%@List.getElem?_append_left:=@List.getElem?_append_left
def mA:=@List.not_mem_nil
def mT:=@of_eq_true
theorem mX:type_of%@Array.getElem?_eq_getElem:=@Array.getElem?_eq_getElem
def nG:=@List.all_nil
theorem nH:type_of%@Nat.ble_eq_true_of_le:=@Nat.ble_eq_true_of_le
theorem ov:type_of%@List.getElem?_append_right:=@List.getElem?_append_right
def oS:=@Classical.em
def oT:=@List.all_cons
def oU:=@List.sizeOf_lt_of_mem
theorem pM:type_of%@Nat.beq_refl:=@Nat.beq_refl
theorem qa:type_of%@List.length_take:=@List.length_take
theorem qb:type_of%@List.map_append:=@List.map_append
theorem qj:type_of%@decide_eq_false_iff_not:=@decide_eq_false_iff_not
def qR:=@Nat.mul_le_mul
def qU:=@Option.isNone_none
def qV:=@Option.map_none
def rT:=@Option.isNone_some
def rU:=@Option.isSome_none
theorem sS:type_of%@List.getElem?_drop:=@List.getElem?_drop
theorem tM:type_of%@List.append_assoc:=@List.append_assoc
theorem tN:type_of%@List.filter_cons:=@List.filter_cons
theorem tQ:type_of%@Nat.add_zero:=@Nat.add_zero
def tT:=@Option.bind_assoc
def vu:=@of_decide_eq_true
theorem vR:type_of%@Bool.false_or:=@Bool.false_or
def vU:=@Bool.not_false
def vY:=@Int.ofNat_eq_natCast
theorem v7:type_of%@List.getElem?_take_of_lt:=@List.getElem?_take_of_lt
theorem v8:type_of%@List.length_replicate:=@List.length_replicate
def xi:=@Bool.and_self
def xj:=@Bool.and_true
def xk:=@Bool.not_true
theorem xp:type_of%@List.drop_zero:=@List.drop_zero
theorem xq:type_of%@List.getElem?_eq_none:=@List.getElem?_eq_none
theorem xr:type_of%@Nat.add_assoc:=@Nat.add_assoc
theorem xu:type_of%@Nat.add_mul:=@Nat.add_mul
def xw:=@Option.some.injEq
theorem xK:type_of%@decide_eq_false:=@decide_eq_false
theorem yU:type_of%@Bool.or_eq_true:=@Bool.or_eq_true
def yV:=@Bool.true_and
theorem y9:type_of%@List.any_cons:=@List.any_cons
def zd:=@List.drop_append
theorem AH:type_of%@List.all_eq_true:=@List.all_eq_true
theorem AI:type_of%@List.foldl_cons:=@List.foldl_cons
theorem AJ:type_of%@List.getElem?_cons_succ:=@List.getElem?_cons_succ
theorem AK:type_of%@List.mem_append:=@List.mem_append
theorem AL:type_of%@List.take_length:=@List.take_length
theorem B5:type_of%@List.flatMap_cons:=@List.flatMap_cons
theorem B6:type_of%@List.mem_singleton:=@List.mem_singleton
theorem DL:type_of%@List.drop_drop:=@List.drop_drop
theorem DM:type_of%@List.drop_eq_getElem_cons:=@List.drop_eq_getElem_cons
theorem DN:type_of%@List.getElem?_range:=@List.getElem?_range
theorem DO:type_of%@List.tail_drop:=@List.tail_drop
theorem DP:type_of%@Nat.zero_mul:=@Nat.zero_mul
def DS:=@Option.getD_some
theorem Gq:type_of%@Array.getD_eq_getD_getElem?:=@Array.getD_eq_getD_getElem?
def Gr:=@Bool.false_eq_true
def Gs:=@Bool.not_not
def Gt:=@Classical.byContradiction
def Gz:=@List.ext_getElem?
theorem GA:type_of%@List.getElem_mem:=@List.getElem_mem
theorem GB:type_of%@List.head?_drop:=@List.head?_drop
theorem GC:type_of%@List.take_append_drop:=@List.take_append_drop
def GD:=@List.take_of_length_le
def GI:=@Nat.lt_succ_self
def Jx:=@List.append_of_mem
theorem Jy:type_of%@List.length_drop:=@List.length_drop
def Jz:=@List.mem_append_left
def JA:=@Nat.le_succ
def Nj:=@Bool.not_eq_true'
theorem Nk:type_of%@Bool.or_eq_false_iff:=@Bool.or_eq_false_iff
def Nl:=@Bool.true_or
def Np:=@List.length_filter_le
def Nq:=@List.mem_cons
def Nr:=@Nat.lt_of_le_of_lt
def Ns:=@Nat.not_lt_zero
def Nv:=@Prod.mk.injEq
def Rx:=@Array.ext_getElem?
def RB:=@List.length_singleton
def RC:=@List.mem_append_right
def RD:=@List.mem_of_mem_drop
def RE:=@List.mem_of_mem_take
def RF:=@List.take_append
def RH:=@Option.isSome_some
def ZS:=@List.eq_nil_of_length_eq_zero
namespace Go
abbrev aD:=List Nat
abbrev cE:=List Int
abbrev ah:=Option.{0}
end Go
namespace Go.AM
inductive Pos where|e|o(p:Pos)|i(p:Pos)
def xe(f:Nat):Nat->Pos:=Nat.rec (λ_=>.e) (λ_ i n=>Bool.rec (Bool.rec (.i (i (Nat.pred (Nat.div n 2)))) (.o (i (Nat.div n 2))) (aw (Nat.mod n 2) 1)) .e (aw n 0)) f
def toPos(n:Nat):Pos:=xe (fg n) n
inductive Tr(α:Type)where|nil|node(l:Tr α)(v:Option α)(r:Tr α)
def Bb{a:Type}(t:Tr a):Pos->ah a:=Tr.rec (λ_=>Z) (λ_ v _ gl gr p=>Pos.rec v (λp _=>gl p) (λp _=>gr p) p) t
def CZ{a:Type}(p:Pos)(x:a):Tr a->Tr a:=Pos.rec (λt=>Tr.rec (.node .nil (J x) .nil) (λl _ r _ _=>.node l (J x) r) t) (λ_ i t=>Tr.rec (.node (i .nil) Z .nil) (λl v r _ _=>.node (i l) v r) t) (λ_ i t=>Tr.rec (.node .nil Z (i .nil)) (λl v r _ _=>.node l v (i r)) t) p
def Tr.get{a:Type}(t:Tr a)(n:Nat):ah a:=Bb t (toPos n)
def Tr.ins{a:Type}(t:Tr a)(n:Nat)(x:a):Tr a:=CZ (toPos n) x t
def eM{a:Type}(l:List a):Nat:=iQ 0 (λ_ _ i=>fg i) l
def dF{b:Type}(l m:List b):List b:=iQ m (λa _ i=>a::i) l
def zw{a:Type}(n:Nat):List a->List a:=Nat.rec (λl=>l) (λ_ i l=>iQ [] (λ_ t _=>i t) l) n
def vL{b:Type}(n:Nat):List b->List b:=Nat.rec (λ_=>[]) (λ_ i l=>iQ [] (λa t _=>a::i t) l) n
def oM{b:Type}(l:List b)(n:Nat):ah b:=iQ Z (λa _ _=>J a) (zw n l)
def ym{b c:Type}(f:b->c)(l:List b):List c:=iQ [] (λa _ i=>f a::i) l
def cu{c d:Type}(f:c->ah d)(l:List c):ah (List d):=iQ (J []) (λa _ i=>(f a).bind λb=>i.bind λt=>J (b::t)) l
def fO{d c:Type}(f:c->d->c)(l:List d):c->c:=iQ (λb=>b) (λa _ i b=>i (f b a)) l
def nL{d c:Type}(f:c->d->ah c)(l:List d):c->ah c:=iQ (λb=>J b) (λa _ i b=>(f b a).bind i) l
def jA{a:Type}(n:Nat)(z:List a):List a:=Nat.rec [] (λ_ i=>dF z i) n
def kY{b:Type}(f:b->Bool)(l:List b):Bool:=iQ V (λa _ i=>bif f a then i else C) l
def xM(l:aD):aD->Bool:=iQ (λm=>iQ V (λ_ _ _=>C) m) (λa _ i m=>iQ C (λb t _=>bif aw a b then i t else C) m) l
def fL{a:Type}(l:List a)(o:Nat)(v:List a):List a:=dF (vL o l) (dF v (zw (gW o (eM v)) l))
def vp{a:Type}(l:List a)(i:Nat)(x:a):List a:=dF (vL i l) (x::zw (fg i) l)
def aj:Int->Int->Bool|.ofNat a,.ofNat b=>aw a b|.negSucc a,.negSucc b=>aw a b|_,_=>C
def aA:Int->Int->Bool|.ofNat a,.ofNat b=>cm a b|.negSucc _,.ofNat _=>V|.ofNat _,.negSucc _=>C|.negSucc a,.negSucc b=>cm b a
def EN:Int->ah Nat|.ofNat n=>J n|.negSucc _=>Z
def dI(k:fN)(n:Int):Int:=match k,n with|.i64,.ofNat m=>bif cm m 9223372036854775808 then n else k.wrap n|_,_=>k.wrap n
end Go.AM
namespace Go.AM
variable{α:Type}
inductive AV where|top|bool(b:Bool)|int(k:fN)(n:Int)|str(s:List Nat)|ptr(id off:Nat)|eN|sl(id off len:Nat)(cap:Option Nat)(esz:Nat)|bC|map(r:Nat)|fR|func(f:bV)(first captured:List AV)|yield(l:Nat)|nilFunc|agg(l:List AV)|cM(l:List AV)
abbrev aJ:=List AV
def fo:AV:=.cM []
def AV.aV:AV->Bool|.agg _|.cM _=>C|_=>V
def AV.cells:AV->ah aJ|.agg l=>J l|.cM _|.top=>Z|v=>J [v]
inductive Nh where|fn(f:bV)(captured:List AV)|yield(l:Nat)|builtin(b:Builtin)(argTypes:Array an)
structure Rv where
 target:Nh
 args:aJ
structure AA where
 state:LoopState
 pending:ah bF
 fn:bV
 n:Nat
 tmps:Tr AV
 params:List Tmp
 assign:bF
 body:bF
 defers:Nat
abbrev eF:=AV×AV×Nat
inductive fM where|ro|ex|op
def fM.wr:fM->Bool|.ro=>C|_=>V
inductive b9 where|cells(l:List AV)(root:Nat)(fl:fM)(e:an)|map(es:List eF)(clock:Nat)|mapIter(m:Option Nat)(since:Nat)(seen:List Nat)(Du:Nat)|loop(l:AA)|deferred(b:Bool)
structure Heap where
 tr:Tr b9
 dp:Tr (Nat×Nat)next:Nat
 bu:Nat
 bT:aD
 cG:aD
namespace Heap
def get(H:Heap)(i:Nat):ah b9:=H.tr.get i
def bn(H:Heap)(r:Nat):Nat×Nat:=(H.dp.get r).getD (0,r)
def alloc(H:Heap)(o:b9):Heap:={H with tr:=H.tr.ins H.next o,next:=fg H.next}
def cP(H:Heap)(l:aJ)(f:fM)(e:an):Heap:=H.alloc (.cells l H.next f e)
def note(b r:Nat)(l:aD):aD:=bif cm r b then r::l else l
def put(H:Heap)(i r:Nat)(o:b9):Heap:={H with tr:=H.tr.ins i o,bT:=note H.bu r H.bT}
def dJ(H:Heap)(i r:Nat)(o:b9):Heap:=bif aw r i then H.put i r o else{H.put i r o with dp:=(H.put i r o).dp.ins r (i,i)}
def gM(H:Heap)(r f:Nat)(g:Bool)(c:aJ)(e:an):Heap:={tr:=H.tr.ins H.next (.cells c r .op e),dp:=H.dp.ins r (bif g then H.next else f,H.next),next:=fg H.next,bu:=H.bu,bT:=bif g then note H.bu r H.bT else H.bT,cG:=note H.bu r H.cG}
def cellsOf(H:Heap)(i:Nat):ah aJ:=match H.get i with|some (.cells l root _ _)=>bif br (H.bn root).1 i then J l else Z|_=>Z
def load(H:Heap)(i o n:Nat):ah aJ:=(H.cellsOf i).bind λl=>bif br (gW o n) (eM l)then J (vL n (zw o l))else Z
def store(H:Heap)(i o:Nat)(v:aJ):ah Heap:=match H.get i with
 |some (.cells l root f e)=>let m:=H.bn root
 bif br m.1 i&&(aw m.2 i&&(br (gW o (eM v)) (eM l)&&f.wr))then J (H.dJ i root (.cells (fL l o v) root f e))else Z|_=>Z
def jL(H:Heap)(r:Nat):ah (List eF×Nat):=match H.get r with|some (.map e c)=>J (e,c)|_=>Z
end Heap
def C8:aC->ah AV|.bool b=>J (.bool b)|.int k n=>J (.int k n)|.string s=>J (.str (s.data.toList.map ka))|.pointer Z=>J .eN|.slice Z 0 0=>J .bC|.map Z=>J .fR|.nilFunc=>J .nilFunc|_=>Z
def wU:aC->ah AV|.agg c=>(cu C8 c.toList).map .agg|v=>C8 v
structure cD where
 fn:bV
 n:Nat
 tmps:Tr AV
 todo:List Item
 defers:aD
 mode:FrameMode
 roundOf:ah Nat
def cD.tmp(f:cD)(t:Nat):AV:=(f.tmps.get t).getD fo
inductive Out where|ret(v:AV)(H:Heap)
def Kt{a:Type}(n:Nat)(k:Nat->a):a:=Nat.rec (k 0) (λm _=>k (fg m)) n
theorem Tx(n:Nat)(k:Nat->α):Kt n k=k n:=by cases n<;>rfl
def Tw{b c:Type}(l:List c)(k:List c->b):b:=iQ (k []) (λa l _=>k (a::l)) l
theorem ass{a:Type}(l:List a)(k:List a->α):Tw l k=k l:=by cases l<;>rfl
def Ku{a b:Type}(t:Tr b)(k:Tr b->a):a:=Tr.rec (k .nil) (λl v r _ _=>k (.node l v r)) t
theorem Oz{a:Type}(t:Tr a)(k:Tr a->α):Ku t k=k t:=by cases t<;>rfl
def MX{a:Type}(k:Heap->a)(H:Heap):a:=Heap.rec (λt d next u b c=>Ku t λt=>Ku d λd=>Kt next λnext=>Kt u λu=>Tw b λb=>Tw c λc=>k ⟨t,d,next,u,b,c⟩) H
theorem aiV(k:Heap->α)(H:Heap):MX k H=k H:=by cases H;simp only[MX,Tx,ass,Oz]
def cD.uG(f:cD)(x:List Item):cD:=cD.rec (λfn n t _ d m ro=>⟨fn,n,t,x,d,m,ro⟩) f
def cD.QR(f:cD)(x:FrameMode):cD:=cD.rec (λfn n t todo d _ ro=>⟨fn,n,t,todo,d,x,ro⟩) f
def cD.QQ(f:cD)(x:aD):cD:=cD.rec (λfn n t todo _ m ro=>⟨fn,n,t,todo,x,m,ro⟩) f
abbrev Rec:=cD->Heap->ah Out
abbrev cg:=bV->aJ->Heap->ah (ah (AV×Heap))
section
variable(P:aG)
def isAgg(t:an):ah Bool:=match P.underlying t with|some (.struct _)|some (.array _ _)=>J V|some _=>J C|none=>Z
def aZ(t:an):ah Nat:=(P.info? t).map (·.size)
def yT(t:an):ah AV:=(P.info? t).bind λi=>i.zero.bind wU
def lV(t:an):ah aJ:=(yT P t).bind AV.cells
def bB(m:Tr AV):aK->ah AV
 |.tmp t=>match(m.get t).getD fo with|.top=>Z|v=>J v
 |.const v=>wU v|.global g=>bif cm g P.globals.size then J (.ptr g 0)else Z|.func f=>J (.func f [] [])
def pB(t:an)(c:aJ)(o:Nat):ah AV:=match isAgg P t with|some V=>(aZ P t).bind λn=>bif br (gW o n) (eM c)then J (.agg (vL n (zw o c)))else Z|some C=>oM c o|none=>Z
def loadVar(H:Heap)(t:an)(i o:Nat):ah AV:=match isAgg P t with|some V=>(aZ P t).bind λn=>(H.load i o n).map .agg|some C=>(H.cellsOf i).bind λl=>oM l o|none=>Z
def storeVar(H:Heap)(t:an)(i o:Nat)(v:AV):ah Heap:=(aZ P t).bind λn=>v.cells.bind λs=>bif aw (eM s) n then H.store i o s else Z
def zG(l:Nat->ah (Nat×Nat))(s:List (Nat×AV)):aJ->ah aJ:=nL (λcells p=>(l p.1).bind λo=>p.2.cells.bind λv=>bif aw (eM v) o.2&&br (gW o.1 o.2) (eM cells)then J (fL cells o.1 v)else Z) s
def Hf(h:an->AV->AV->ah Bool)(t:an)(x y:AV):ah Bool:=match P.underlying t,x,y with|some .bool,.bool a,.bool b=>J (a==b)|some (.int _),.int k a,.int d b=>if k=d then J (aj a b)else Z|some .string,.str a,.str b=>J (xM a b)|some (.struct i),.agg s,.agg e=>bif P.stoodInHeld t then Z else nL (λc(f:Field)=>bif c then(bif f.name== "_"then J V else(pB P f.type s f.offset).bind λa=>(pB P f.type e f.offset).bind λb=>h f.type a b)else J C) i.toList V|some (.pointer _),.eN,.eN=>J V|some (.pointer _),.eN,.ptr _ _|some (.pointer _),.ptr _ _,.eN=>J C|some (.slice _),.bC,.bC=>J V|some (.slice _),.bC,.sl ..|some (.slice _),.sl ..,.bC=>J C|_,_,_=>Z
def mI(f:Nat):an->AV->AV->ah Bool:=Nat.rec (λ_ _ _=>Z) (λ_ i=>Hf P i) f
def hJ(n:Nat):AV:=.int .i64 (.ofNat n)
def Il(o:BinOp)(k:fN)(a b:Int):ah AV:=match o with
 |.add=>J (.int k (dI k (jP a b)))|.sub=>J (.int k (dI k (Int.sub a b)))|.mul=>J (.int k (dI k (Int.mul a b)))|.quo=>bif aj b 0 then Z else J (.int k (dI k (a.tdiv b)))|.rem=>bif aj b 0 then Z else J (.int k (a.tmod b))|.and|.xor=>match(Op.intBits o k a b).run P default with|.ok (.int k n) _=>J (.int k n)|_=>Z
 |.eql=>J (.bool (aj a b))|.neq=>J (.bool (!(aj a b)))|.lss=>J (.bool (aA a b))|.leq=>J (.bool (!(aA b a)))|.gtr=>J (.bool (aA b a))|.geq=>J (.bool (!(aA a b)))|_=>Z
def Bw(a:aD):aD->Bool:=iQ (λb=>iQ C (λ_ _ _=>V) b) (λx _ i b=>iQ C (λy t _=>bif cm x y then V else bif cm y x then C else i t) b) a
def Q9(o:BinOp)(a b:aD):ah AV:=match o with|.add=>bif br (gW (eM a) (eM b)) 1000000000 then J (.str (dF a b))else Z|.eql=>J (.bool (xM a b))|.neq=>J (.bool (!(xM a b)))|.lss=>J (.bool (Bw a b))|.gtr=>J (.bool (!(Bw a b||xM a b)))|_=>Z
def zI(t:an)(o a:aK)(x y:AV):Bool:=match x,y with|.agg _,.agg _=>!P.eqGuardType P.depth t|_,_=>V
def xG(op:BinOp)(t:an)(o c:aK)(x y:AV):ah AV:=match op,x,y with
 |.shr,.int k a,.int e b=>match(Op.shift op k a e b).run P default with|.ok (.int k n) _=>J (.int k n)|_=>Z
 |op,.int k a,.int d b=>if k=d then Il P op k a b else Z|op,.str a,.str b=>Q9 op a b|.eql,x,y=>bif zI P t o c x y then(mI P 50 t x y).map .bool else Z|.neq,x,y=>bif zI P t o c x y then(mI P 50 t x y).map λb=>.bool (!b)else Z|_,_,_=>Z
def Rj(o:UnOp)(x:AV):ah AV:=match o,x with|.neg,.int k n=>J (.int k (dI k (Int.sub 0 n)))|.not,.bool b=>J (.bool (!b))|_,_=>Z
def nv:AV->ah Nat|.bC=>J 0|.sl _ _ n _ _=>J n|_=>Z
def qA:AV->ah Nat|.str s=>J (eM s)|v=>nv v
def qo(H:Heap)(z n:Nat):AV->ah aJ|.bC=>J []|.sl id o _ _ e=>bif aw n 0 then J []else bif aw e z then H.load id o (iR n z)else Z|.str s=>bif aw z 1 then J (ym (λ(b:Nat)=>AV.int .u8 (.ofNat b)) (vL n s))else Z|_=>Z
def bl:Nat:=1099511627776
def nd(H:Heap)(m:an)(z b:Nat)(s:AV)(w:aJ)(n:Nat):ah (AV×Heap):=bif aw z 0 then Z else match s with
 |.bC=>bif aw n 0 then J (.bC,H)else bif br (iR n b) bl&&br n bl then J (.sl H.next 0 n Z z,H.cP w .op m)else Z|.sl id o len p e=>bif aw e z&&(br (iR (gW len n) b) bl&&br (gW len n) bl)then bif aw n 0 then J (s,H)else match H.get id with
 |some (.cells l root d e0)=>let f:=H.bn root
 bif br f.1 id then let a:=gW o (iR len z)
 let fresh:ah (AV×Heap):=J (.sl H.next 0 (gW len n) Z z,H.cP (dF (vL (iR len z) (zw o l)) w) .op m)
 match p with
 |some c=>bif br (gW len n) c then(H.store id a w).map λH=>(.sl id o (gW len n) p z,H)else fresh|none=>bif br (gW a (iR n z)) (eM l)then(H.store id a w).map λH=>(.sl id o (gW len n) Z z,H)else bif d.wr&&(aw f.2 id&&aw e0 m)then let cells:=dF (vL (iR len z) (zw o l)) w
 let g:=cm a (eM l)
 J (.sl H.next 0 (gW len n) Z z,H.gM root f.1 g cells m)else Z else Z|_=>Z else Z|_=>Z
def oF(t:an)(k:AV)(s:List eF):Nat->ah (ah (Nat×eF)):=iQ (λ_=>J Z) (λe _ h i=>(mI P 50 t k e.1).bind λb=>bif b then J (J (i,e))else h (fg i)) s
def Br(h:an->AV->Bool)(t:an)(k:AV):Bool:=match P.underlying t,k with|some .bool,.bool _|some (.int _),.int _ _|some .string,.str _=>V|some (.struct i),.agg c=>kY (λ(f:Field)=>f.name== "_"||(match pB P f.type c f.offset with|some v=>h f.type v|none=>C)) i.toList|_,_=>C
def It(f:Nat):an->AV->Bool:=Nat.rec (λ_ _=>C) (λ_ i=>Br P i) f
def pW(t:an)(k:AV):Bool:=It P 5 t k
def yE:AV->AV->Bool|.bool a,.bool b=>a==b|.int j a,.int k b=>j==k&&aj a b|.str a,.str b=>xM a b|_,_=>C
def sameKey:AV->AV->Bool|.agg a,.agg b=>aw (eM a) (eM b)&&kY (λ(p:AV×AV)=>yE p.1 p.2) (List.zip a b)|x,y=>yE x y
def NJ(b:Nat)(l:List eF):Nat->ah (Nat×eF):=iQ (λ_=>Z) (λ(e:eF)_ h i=>bif aw e.2.2 b then J (i,e)else h (fg i)) l
def C3(n:aD)(l:List eF):List eF:=iQ [] (λ(e:eF)_ i=>bif kY (λs=>!(aw s e.2.2)) n then e::i else i) l
def mC(x:AV)(y:Nat):ah Nat:=match x with|.int _ (.ofNat n)=>bif br n y then J n else Z|_=>Z
def eX(x:ah AV)(y d:Nat):ah Nat:=match x with|some v=>mC v y|none=>J d
def sliceB(H:Heap)(t:an)(x:AV)(b i d:ah AV):ah AV:=match P.underlying t,x with|some (.slice a),.bC=>(aZ P a).bind λ_=>(eX d 0 0).bind λm=>(eX i m 0).bind λh=>(eX b h 0).bind λ_=>J .bC|some (.slice a),.sl id o len (J c) e=>(aZ P a).bind λn=>bif aw n e then(eX d c c).bind λm=>(eX i m len).bind λh=>(eX b h 0).bind λl=>bif br l h&&br h m then J (.sl id (gW o (iR l e)) (Nat.sub h l) (J (Nat.sub m l)) e)else Z else Z|some (.slice a),.sl id o len Z e=>(aZ P a).bind λn=>bif aw n e then match d with|some m=>(mC m bl).bind λm=>(eX i m len).bind λh=>(eX b h 0).bind λl=>(H.cellsOf id).bind λc=>bif br (gW o (iR m e)) (eM c)&&(br h m&&br l h)then J (.sl id (gW o (iR l e)) (Nat.sub h l) (J (Nat.sub m l)) e)else Z|none=>(eX i bl len).bind λh=>(eX b h 0).bind λl=>bif br l h then bif br h len then J (.sl id (gW o (iR l e)) (Nat.sub h l) Z e)else(H.cellsOf id).bind λc=>bif br (gW o (iR h e)) (eM c)then J (.sl id (gW o (iR l e)) (Nat.sub h l) Z e)else Z else Z else Z|_,_=>Z
def pD(H:Heap)(t:an)(x:AV)(l h m:ah AV):ah AV:=match m,h with|some _,Z=>Z|_,_=>sliceB P H t x l h m
inductive fh where|val(v:AV)(H:Heap)|call(fr:cD)(H:Heap)
def im(H:Heap)(b:Builtin)(t:Array an)(h:aJ):ah (AV×Heap):=match b,h with
 |.append,[s,x]=>match t[0]?.bind P.underlying with
  |some (.slice e)=>match P.info? e with|some i=>(lV P e).bind λz=>bif aw (eM z) i.size then match t[1]?.bind P.underlying with
  |some (.int _)=>match x with|.int .i64 (.ofNat n)=>bif br n bl then nd H e i.size i.bytes s (jA n z) n else Z|_=>Z
  |some _=>(qA x).bind λn=>(qo H i.size n x).bind λw=>nd H e i.size i.bytes s w n|none=>Z else Z|none=>Z
  |_=>Z
 |.len,[x]=>match t[0]?.bind P.underlying with
  |some (.array n _)=>J (hJ n,H)|some (.pointer a)=>match P.underlying a with|some (.array n _)=>J (hJ n,H)|_=>Z
  |some .string=>match x with|.str s=>J (hJ (eM s),H)|_=>Z
  |some (.slice _)=>(nv x).map λn=>(hJ n,H)|some (.map _ _)=>match x with|.fR=>J (hJ 0,H)|.map r=>(H.jL r).map λm=>(hJ (eM m.1),H)|_=>Z
  |_=>Z
 |.cap,[x]=>match t[0]?.bind P.underlying,x with|some (.slice _),.bC=>J (hJ 0,H)|some (.slice _),.sl _ _ _ (J c) _=>J (hJ c,H)|_,_=>Z
 |.copy,[d,s]=>match t[0]?.bind P.underlying with
  |some (.slice e)=>(aZ P e).bind λf=>(qA s).bind λa=>(nv d).bind λc=>let n:=Nat.min a c
  (qo H f n s).bind λcells=>match d with|.sl id o _ _ _=>bif aw n 0 then J (hJ 0,H)else(H.store id o cells).map λH=>(hJ n,H)|_=>J (hJ n,H)
  |_=>Z
 |.max,x::rest=>(nL (λx y=>match x,y with|.int k a,.int _ b=>J (.int k (bif aA a b then b else a))|_,_=>Z) rest x).map λv=>(v,H)|.min,x::rest=>(nL (λx y=>match x,y with|.int k a,.int _ b=>J (.int k (bif aA b a then b else a))|_,_=>Z) rest x).map λv=>(v,H)|.clear,[x]=>match t[0]?.bind P.underlying,x with|some _,.fR|some _,.bC=>J (fo,H)|some _,.map r=>(H.jL r).map λm=>(fo,H.put r r (.map [] m.2))|some (.slice e),.sl id o n _ f=>bif aw n 0 then J (fo,H)else(lV P e).bind λz=>bif aw (eM z) f then(H.store id o (jA n z)).map λH=>(fo,H)else Z|_,_=>Z
 |.delete,[m,k]=>match t[0]?.bind P.underlying with
  |some (.map j _)=>bif pW P j k then match m with
  |.fR=>J (fo,H)|.map r=>(H.jL r).bind λg=>(oF P j k g.1 0).map λ|some (i,_)=>(fo,H.put r r (.map (dF (vL i g.1) (zw (fg i) g.1)) g.2))|none=>(fo,H.put r r (.map g.1 g.2))
  |_=>Z else Z|_=>Z
 |_,_=>Z
def wx(f:bV)(r:aJ):ah cD:=(P.funcs[f]?).bind λfn=>fn.body.bind λb=>bif br (eM r) fn.ntmps then J {fn:=f,n:=fn.ntmps,tmps:=(fO (λ(p:Tr AV×Nat)a=>(p.1.ins p.2 a,fg p.2)) r (Tr.nil,0)).1,todo:=[.code b],defers:=[],mode:=.run,roundOf:=Z}else Z
variable(ak:cg)
def xI(f:bV)(a:aJ)(H:Heap):ah fh:=match ak f a H with|some r=>r.map λv=>.val v.1 v.2|none=>(wx P f a).map λfr=>.call fr H
def ur(t:Nh)(a:aJ)(H:Heap):ah fh:=match t with|.builtin b s=>(im P H b s a).map λv=>.val v.1 v.2|.fn f c=>xI P ak f (dF a c) H|.yield l=>match H.get l with|some (.loop r)=>bif aw (eM a) (eM r.params)then J (.call {fn:=r.fn,n:=r.n,tmps:=fO (λt(p:Tmp×AV)=>bif cm p.1 r.n then t.ins p.1 p.2 else t) (List.zip r.params a) r.tmps,todo:=[.code r.assign,.beginRound,.code r.body],defers:=[],mode:=.run,roundOf:=J l} H)else Z|_=>Z
def yA(t:Tr AV)(c:Call):ah Rv:=(cu (bB P t) c.args.toList).bind λargs=>match c.callee with|.builtin b=>J {target:=.builtin b c.argTypes,args}|.invoke ..=>Z|.value f=>(bB P t f).bind λ|.func f first a=>J {target:=.fn f a,args:=dF first args}|.yield l=>J {target:=.yield l,args}|_=>Z
def eZ(H:Heap)(v:ah AV):ah fh:=v.map λv=>.val v H
def DF(t:Tr AV)(H:Heap)(x:aK):ah fh:=eZ H (bB P t x)
def B2(t:Tr AV)(H:Heap)(c:aK)(a:aK)(b:aK):ah fh:=match bB P t c with|some (.bool V)=>eZ H (bB P t a)|some (.bool C)=>eZ H (bB P t b)|_=>Z
def Ge(t:Tr AV)(H:Heap)(e:an):ah fh:=(lV P e).map λz=>.val (.ptr H.next 0) (H.cP z .ex e)
def Gg(t:Tr AV)(H:Heap)(e:an)(x:aK):ah fh:=(bB P t x).bind λv=>v.cells.map λs=>.val (.ptr H.next 0) (H.cP s .ex e)
def DB(b:Tr AV)(H:Heap)(t:an)(a:Array (Nat×aK)):ah fh:=(lV P t).bind λz=>(cu (λ(p:Nat×aK)=>(bB P b p.2).map λv=>(p.1,v)) a.toList).bind λs=>match P.underlying t with|some (.struct e)=>(cu (λ(f:Field)=>(aZ P f.type).map λn=>(f.offset,n)) e.toList).bind λl=>eZ H ((zG (λi=>oM l i) s z).map .agg)|some (.array _ m)=>(aZ P m).bind λn=>eZ H ((zG (λi=>J (iR i n,n)) s z).map .agg)|_=>Z
def Gh(m:Tr AV)(H:Heap)(t:an)(l:Nat)(a:Array (Nat×aK)):ah fh:=match P.underlying t with|some (.slice e)=>(aZ P e).bind λn=>bif aw n 0||!(br (iR l n) 16777216)then Z else(cu (λ(p:Nat×aK)=>(bB P m p.2).map λv=>(p.1,v)) a.toList).bind λs=>(bif aw l 0 then J []else lV P e).bind λz=>bif !(aw l 0||aw (eM z) n)then Z else(zG (λi=>J (iR i n,n)) s (jA l z)).map λcells=>.val (.sl H.next 0 l (J l) n) (H.cP cells .ex e)|_=>Z
def Gk(m:Tr AV)(H:Heap)(t:an)(a:aK):ah fh:=match bB P m a with|some (.ptr id o)=>eZ H (loadVar P H t id o)|_=>Z
def DH(m:Tr AV)(H:Heap)(t:an)(a:aK)(x:aK):ah fh:=match bB P m a with|some (.ptr id o)=>(bB P m x).bind λv=>(storeVar P H t id o v).map λH=>.val fo H|_=>Z
def DG(t:Tr AV)(H:Heap)(x:aK):ah fh:=match bB P t x with|some (.ptr id o)=>eZ H (J (.ptr id o))|some (.func f a b)=>eZ H (J (.func f a b))|some (.yield l)=>eZ H (J (.yield l))|_=>Z
def Gf(m:Tr AV)(H:Heap)(o:BinOp)(t:an)(x:aK)(y:aK):ah fh:=(bB P m x).bind λa=>(bB P m y).bind λb=>eZ H (xG P o t x y a b)
def Gp(t:Tr AV)(H:Heap)(o:UnOp)(x:aK):ah fh:=(bB P t x).bind λa=>eZ H (Rj o a)
def Gi(t:Tr AV)(H:Heap)(r:an)(d:an)(x:aK):ah fh:=(bB P t x).bind λv=>match P.underlying r,P.underlying d,v with
 |some _,J (.int k),.int _ n=>eZ H (J (.int k (dI k n)))|some .string,J (.slice e),.str s=>match P.underlying e with|some (.int .u8)=>J (.val (.sl H.next 0 (eM s) Z 1) (H.cP (ym (λ(b:Nat)=>AV.int .u8 (.ofNat b)) s) .ro e))|_=>Z
 |_,_,_=>Z
def Gl(t:Tr AV)(H:Heap)(f:bV)(i:Array aK)(c:Array aK):ah fh:=(cu (bB P t) i.toList).bind λa=>(cu (bB P t) c.toList).bind λb=>eZ H (J (.func f a b))
def Gm(m:Tr AV)(H:Heap)(t:an)(r:ah aK):ah fh:=match r with|none=>J (.val (.map H.next) (H.alloc (.map [] 0)))|some x=>match P.underlying t,bB P m x with|some (.map _ _),J (.int _ _)=>J (.val (.map H.next) (H.alloc (.map [] 0)))|_,_=>Z
def Gn(m:Tr AV)(H:Heap)(t:an)(l:aK)(c:aK):ah fh:=match P.underlying t with
 |some (.slice e)=>match P.info? e,bB P m l,bB P m c with|some i,J (.int _ (.ofNat l)),J (.int _ (.ofNat c))=>bif !(aw i.size 0)&&(br l c&&(br (iR c i.bytes) bl&&br c bl))then(bif aw c 0 then J []else lV P e).bind λz=>bif aw c 0||aw (eM z) i.size then J (.val (.sl H.next 0 l (J c) i.size) (H.cP (jA c z) .ex e))else Z else Z|_,_,_=>Z
 |_=>Z
def Nd(m:Tr AV)(H:Heap)(t:an)(x:aK)(l:ah aK)(h:ah aK)(a:ah aK):ah fh:=(bB P m x).bind λv=>(match l with|some x=>(bB P m x).map J|none=>J Z).bind λl=>(match h with|some x=>(bB P m x).map J|none=>J Z).bind λh=>(match a with|some x=>(bB P m x).map J|none=>J Z).bind λa=>eZ H (pD P H t v l h a)
def DC(t:Tr AV)(H:Heap)(s:an)(x:aK)(f:Nat):ah fh:=match P.underlying s with
 |some (.struct i)=>(i[f]?).bind λd=>(aZ P d.type).bind λn=>match n,bB P t x with|fg _,J (.ptr id o)=>eZ H (J (.ptr id (gW o d.offset)))|_,_=>Z
 |_=>Z
def Gj(m:Tr AV)(H:Heap)(t:an)(x:aK)(f:Nat):ah fh:=match P.underlying t with
 |some (.struct i)=>(i[f]?).bind λd=>match bB P m x with|some (.agg c)=>eZ H (pB P d.type c d.offset)|_=>Z
 |_=>Z
def B0(m:Tr AV)(H:Heap)(t:an)(x:aK)(i:aK):ah fh:=match bB P m i with
 |some (.int _ (.ofNat i))=>match P.underlying t,bB P m x with|some (.array len e),J (.ptr id o)=>(aZ P e).bind λn=>bif cm i len then eZ H (J (.ptr id (gW o (iR i n))))else Z|some (.slice e),J (.sl id o len _ s)=>(aZ P e).bind λn=>bif cm i len&&aw n s then eZ H (J (.ptr id (gW o (iR i s))))else Z|_,_=>Z
 |_=>Z
def DD(m:Tr AV)(H:Heap)(t:an)(x:aK)(i:aK):ah fh:=match bB P m i with
 |some (.int _ (.ofNat i))=>match P.underlying t,bB P m x with|some (.array len e),J (.agg c)=>(aZ P e).bind λn=>bif cm i len then eZ H (pB P e c (iR i n))else Z|some .string,J (.str s)=>eZ H ((oM s i).map λb=>.int .u8 (.ofNat b))|_,_=>Z
 |_=>Z
def B1(m:Tr AV)(H:Heap)(t:an)(x:aK)(k:aK)(o:Bool):ah fh:=match P.underlying t with|some (.map a b)=>(match bB P m x with|some .fR=>J []|some (.map r)=>(H.jL r).map Prod.fst|_=>Z).bind λs=>(bB P m k).bind λk=>bif pW P a k then(oF P a k s 0).bind λ|some (_,e)=>eZ H (J (bif o then .cM [e.2.1,.bool V]else e.2.1))|none=>(yT P b).bind λz=>eZ H (J (bif o then .cM [z,.bool C]else z))else Z|_=>Z
def DE(a:Tr AV)(H:Heap)(t:an)(m:aK)(k:aK)(x:aK):ah fh:=match P.underlying t,bB P a m with|some (.map b _),J (.map r)=>(H.jL r).bind λo=>(bB P a k).bind λk=>(bB P a x).bind λx=>bif pW P b k then(oF P b k o.1 0).bind λ|some (i,e)=>bif sameKey e.1 k then J (.val fo (H.put r r (.map (vp o.1 i (e.1,x,e.2.2)) o.2)))else Z|none=>J (.val fo (H.put r r (.map (dF o.1 [(k,x,o.2)]) (fg o.2))))else Z|_,_=>Z
def Js(b:Tr AV)(H:Heap)(t:an)(m:aK)(k:aK):ah fh:=match P.underlying t,bB P b m with|some (.map a c),J (.map r)=>(H.jL r).bind λo=>(bB P b k).bind λk=>bif pW P a k then(oF P a k o.1 0).bind λ|some (_,e)=>bif sameKey e.1 k then J (.val (.cM [e.2.1,hJ e.2.2]) (H.put r r (.map o.1 o.2)))else Z|none=>(yT P c).map λz=>.val (.cM [z,hJ o.2]) (H.put r r (.map (dF o.1 [(k,z,o.2)]) (fg o.2)))else Z|_,_=>Z
def Rp(t:Tr AV)(H:Heap)(m:aK)(s:aK)(x:aK):ah fh:=match bB P t m,bB P t s with|some (.map r),J (.int _ (.ofNat b))=>(H.jL r).bind λo=>(bB P t x).bind λx=>(NJ b o.1 0).map λi=>.val fo (H.put r r (.map (vp o.1 i.1 (i.2.1,x,i.2.2.2)) o.2))|_,_=>Z
def Rr(a:Tr AV)(H:Heap)(t:an)(x:aK):ah fh:=match P.underlying t,bB P a x with|some (.map _ _),J .fR=>J (.val (.ptr H.next 0) (H.alloc (.mapIter Z 0 [] 0)))|some (.map _ _),J (.map m)=>(H.jL m).map λo=>.val (.ptr H.next 0) (H.alloc (.mapIter (J m) o.2 [] o.2))|_,_=>Z
def Rq(t:Tr AV)(H:Heap)(i:aK):ah fh:=match bB P t i with
 |some (.ptr r 0)=>match H.get r with|some (.mapIter Z _ _ _)=>eZ H (J (.cM [.bool C]))|some (.mapIter (J m) s seen l)=>(H.jL m).bind λo=>bif aw o.2 s&&(aw l s&&kY (λ(e:eF)=>cm e.2.2 s) o.1)then match C3 seen o.1 with|[]=>eZ H (J (.cM [.bool C]))|[e]=>J (.val (.cM [.bool V,e.1,e.2.1]) (H.put r r (.mapIter (J m) s (dF seen [e.2.2]) l)))|_=>Z else Z|_=>Z
 |_=>Z
def Ro(t:Tr AV)(H:Heap)(i:aK):ah fh:=match bB P t i with
 |some (.ptr r 0)=>match H.get r with
  |some (.mapIter (J m) _ seen D)=>(H.jL m).bind λo=>bif aw o.2 D then match seen with
  |[s]=>match o.1 with|[e]=>bif aw e.2.2 s then eZ H (J (.cM [e.1,e.2.1]))else Z|_=>Z
  |_=>Z else Z|_=>Z
 |_=>Z
def Jr(m:Tr AV)(H:Heap)(t:aK)(i:Nat):ah fh:=match bB P m t with|some (.cM v)=>eZ H (oM v i)|_=>Z
def BZ(t:Tr AV)(H:Heap)(c:Call):ah fh:=(yA P t c).bind λd=>ur P ak d.target d.args H
def dX(d:Tr AV)(H:Heap)(o:aB):ah fh:=match o.op with|.move x|.assign x=>DF P d H x|.pick c a b=>B2 P d H c a b|.alloc e=>Ge P d H e|.box e x=>Gg P d H e x|.build t parts=>DB P d H t parts|.buildSlice t len parts=>Gh P d H t len parts|.load t a=>Gk P d H t a|.store t a x=>DH P d H t a x|.nilCheck x=>DG P d H x|.binOp op t x y _=>Gf P d H op t x y|.unOp op _ x=>Gp P d H op x|.convert src g x=>Gi P d H src g x|.makeFunc (.func f) first p=>Gl P d H f first p|.makeMap t r=>Gm P d H t r|.makeSlice t l c=>Gn P d H t l c|.slice t x lo j n=>Nd P d H t x lo j n|.fieldAddr s x f=>DC P d H s x f|.field t x f=>Gj P d H t x f|.indexAddr t x i=>B0 P d H t x i|.index t x i=>DD P d H t x i|.lookup t x k ok=>B1 P d H t x k ok|.mapUpdate t m k x|.insert t m k x=>DE P d H t m k x|.mapEntry t m k=>Js P d H t m k|.entryStore _ m s x=>Rp P d H m s x|.range t x=>Rr P d H t x|.next h C=>Rq P d H h|.entry h=>Ro P d H h|.extract t i=>Jr P d H t i|.call c=>BZ P ak d H c|_=>Z
def sL(f:cD)(d:ah Tmp)(v:AV):ah cD:=match d with|some d=>cD.rec (λfn n t todo e m ro=>bif cm d n then Ku (t.ins d v) λt=>J ⟨fn,n,t,todo,e,m,ro⟩else Z) f|none=>J f
theorem Dq(f:cD)(d:ah Tmp)(v:AV):sL f d v=match d with|some d=>bif cm d f.n then J {f with tmps:=f.tmps.ins d v}else Z|none=>J f:=by cases d with|none=>rfl|some d=>simp only[sL,Oz]
def vP(p:Array aB)(t:Tr AV)(o:aB):ah Bool:=match o.guard with|none=>J V|some (j,w)=>match(p[j]?).bind (·.dst)with
 |some d=>match t.get d with|some (.bool b)=>J (b==w)|some .top=>Z|_=>J C
 |none=>J C
def DY(a:List aB):Tr Nat×Nat:=fO (λ(p:Tr Nat×Nat)(o:aB)=>(p.1.ins p.2 (fO (λs(e:Edge)=>bif tU .any e then Nat.lor s (Nat.lor (Nat.shiftLeft 1 e.on) ((p.1.get e.on).getD 0))else s) o.after.toList 0),fg p.2)) a (Tr.nil,0)
def before(a:Tr Nat)(i j:Nat):Bool:=aw (Nat.mod (Nat.shiftRight ((a.get j).getD 0) i) 2) 1
def tied(a:Tr Nat)(i j:Nat):Bool:=before a i j||before a j i
def nY:Op->Bool|.move _|.assign _|.pick ..|.build ..|.nilCheck _|.unOp ..|.makeInterface ..|.makeFunc ..|.fieldAddr ..|.field ..|.indexAddr ..|.index ..|.typeAssert ..|.extract ..=>V|.binOp ..=>V|_=>C
def wZ:Op->Bool|.load ..|.lookup ..|.slice ..|.alloc _|.box ..|.buildSlice ..|.makeMap ..|.makeSlice ..=>V|.call {callee:=.builtin .len,..}|.call {callee:=.builtin .cap,..}=>V|_=>C
def Jd(s:List aB)(j:Nat):Bool:=let a:=(DY s).1
 (fO (λ(p:Bool×Nat)(o:aB)=>(p.1&&(nY o.op||wZ o.op||aw p.2 j||tied a p.2 j),fg p.2)) s (V,0)).1
def qK(o:List aB)(i j:Nat):Bool:=tied (DY o).1 i j
def tmpsOf(o:aB):List Tmp:=fO (λa x=>match x with|.tmp t=>t::a|_=>a) o.op.operands.toList []
def ajf(s:List aB):ah (Tr Nat):=(nL (λ(p:Tr Nat×Nat)(o:aB)=>match o.dst with|none=>J (p.1,fg p.2)|some t=>match p.1.get t with|none=>J (p.1.ins t p.2,fg p.2)|some _=>Z) s (Tr.nil,0)).map Prod.fst
def vD(s:List aB):Bool:=match ajf s with|none=>C|some w=>let a:=(DY s).1
 (fO (λ(p:Bool×Nat)(o:aB)=>(p.1&&(kY (λ(e:Edge)=>!(tU .any e)||cm e.on p.2) o.after.toList&&(match o.guard with|none=>V|some (g,_)=>before a g p.2&&(match oM s g with|some q=>q.dst.isSome|none=>C))&&kY (λt=>match w.get t with|none=>V|some k=>aw k p.2||tied a k p.2) (tmpsOf o)),fg p.2)) s (V,0)).1
def sK(H:Heap)(i:Nat):ah Nat:=match H.get i with|some (.cells _ root _ _)=>J root|_=>Z
inductive Touch where|rd|wr|look(t:an)(k:AV)|entry(t:an)(k:AV)
def FQ(t:an)(k:AV):Bool:=match P.underlying t with|some (.map a _)=>(match mI P 50 a k k with|some V=>V|_=>C)|_=>C
def eA(b:Tr AV)(H:Heap)(o:aB):ah (List (Touch×Nat)):=match o.op with
 |.alloc _|.box ..|.buildSlice ..|.makeMap ..|.makeSlice ..=>J []|.load _ a=>match bB P b a with|some (.ptr id _)=>(sK H id).map λr=>[(.rd,r)]|_=>Z
 |.store _ a _=>match bB P b a with|some (.ptr id _)=>(sK H id).map λr=>[(.wr,r)]|_=>Z
 |.lookup t m k C=>match bB P b m,bB P b k with|some (.map r),J k=>J [(bif FQ P t k then .look t k else .rd,r)]|some .fR,_=>J []|_,_=>Z
 |.lookup _ m _ V=>match bB P b m with|some (.map r)=>J [(.rd,r)]|some .fR=>J []|_=>Z
 |.mapEntry t m k=>match bB P b m,bB P b k with|some (.map r),J k=>J [(.entry t k,r)]|_,_=>Z
 |.slice _ x _ _ _=>match bB P b x with|some (.sl id _ _ _ _)=>(sK H id).map λr=>[(.rd,r)]|some (.str _)|some .bC=>J []|_=>Z
 |.call {callee:=.builtin .len,args,..}=>match args.toList with
  |[x]=>match bB P b x with|some (.map r)=>J [(.rd,r)]|some _=>J []|none=>Z
  |_=>Z
 |.call {callee:=.builtin .cap,..}=>J []|_=>Z
structure jn where reads:ah (List (Touch×Nat))writes:aD
def By(x:Nat)(l:aD):Bool:=!(kY (λy=>!(aw x y)) l)
def clear(w:aD)(r:ah (List (Touch×Nat))):Bool:=match w,r with|[],_=>V|_,Z=>C|w,J l=>kY (λt=>!(By t.2 w)) l
def PT(a b:jn):Bool:=match a.reads,b.reads with|some [(.look t k,r)],J [(.entry e c,d)]=>aw r d&&(aw t e&&sameKey k c)|_,_=>C
def apart(a b:jn):Bool:=(clear a.writes b.reads&&clear b.writes a.reads&&kY (λx=>!(By x b.writes)) a.writes)||PT a b
inductive AN where|next(fr:cD)(H:Heap)
inductive B7 where|val(v:AV)(H:Heap)
def ff(r:Rec)(t:Tr AV)(H:Heap)(o:aB):ah B7:=(dX P ak t H o).bind λ|.val v H=>J (.val v H)|.call c H=>(r c H).bind λ|.ret v H=>J (.val v H)
def A2(r:Rec)(p:Array aB)(f:cD)(H:Heap)(o:aB):ah AN:=(vP p f.tmps o).bind λw=>bif w then(ff P ak r f.tmps H o).bind λ|.val v H=>(sL f o.dst v).map λf=>MX (λH=>.next f H) H else(sL f o.dst fo).map λf=>MX (λH=>.next f H) H
theorem J3(r:Rec)(p:Array aB)(f:cD)(H:Heap)(o:aB):A2 P ak r p f H o=(vP p f.tmps o).bind λw=>bif w then(ff P ak r f.tmps H o).bind λ|.val v H=>(sL f o.dst v).map λf=>.next f H else(sL f o.dst fo).map λf=>.next f H:=by unfold A2;simp only[aiV]
def Am(r:Rec)(p:Array aB)(l:List aB):cD->Heap->ah AN:=iQ (λfr H=>J (.next fr H)) (λo _ i fr H=>(A2 P ak r p fr H o).bind λ|.next fr H=>i fr H) l
def Heap.resume(a H:Heap):Heap:={H with bu:=a.bu,bT:=fO (λl r=>Heap.note a.bu r l) H.bT a.bT,cG:=fO (λl r=>Heap.note a.bu r l) H.cG a.cG}
def Heap.fresh(H:Heap):Heap:={H with bu:=H.next,bT:=[],cG:=[]}
def rk(p:Array aB)(o:aB)(j:Nat)(d:jn)(H:Heap):Bool:=match H.cG with|[]=>V|_=>Jd p.toList j&&(!(wZ o.op)&&(match d.reads with|none=>V|some _=>C))
def sI(o:aB)(H:Heap):Bool:=bif wZ o.op then(match H.bT,H.cG with|[],[]=>V|_,_=>C)else V
def within(d:jn):Bool:=match d.reads with|none=>V|some l=>kY (λr=>By r (ym (λ(t:Touch×Nat)=>t.2) l)) d.writes
def vG(r:Rec)(p:Array aB)(l:List aB):Nat->List (Nat×jn)->cD->Heap->ah AN:=iQ (λ_ _ fr H=>J (.next fr H)) (λo _ i j g fr H=>(vP p fr.tmps o).bind λw=>bif !w then(sL fr o.dst fo).bind λfr=>i (fg j) g fr H else(ff P ak r fr.tmps H.fresh o).bind λ
 |.val v a=>(sL fr o.dst v).bind λf=>bif nY o.op then i (fg j) g f H else let gu:jn:=⟨eA P fr.tmps H o,a.bT⟩
 bif kY (λ(e:Nat×jn)=>apart e.2 gu||qK p.toList e.1 j) g&&(rk p o j gu a&&(sI o a&&within gu))then MX (λH=>i (fg j) ((j,gu)::g) f H) (H.resume a)else Z) l
def IT(n:Func)(f:cD)(H:Heap):ah AV:=(cu (λ|.tmp t=>J (f.tmp t)|.cell a t=>match f.tmp a with|.ptr id o=>loadVar P H t id o|_=>Z) n.results.toList).map λ|[v]=>v|s=>.cM s
def afn:List Item->ah bF|[]=>Z|_=>J .ret
def wj(e:Rec)(f:cD)(H:Heap):ah Out:=match f.roundOf with|none=>e (f.QR (.returning)) H|some l=>match H.get l with
 |some (.loop r)=>let j:ah bF:=afn f.todo
 J (.ret (.bool j.isNone) (H.put l l (.loop {r with state:=(match j with|none=>.ready|some _=>.done),pending:=j})))|_=>Z
def xD(r:Rec)(f:cD)(H:Heap)(c:aK)(a:bF)(S:bF)(k:List Item):ah Out:=match bB P f.tmps c with|some (.bool V)=>r (f.uG (.code a::k)) H|some (.bool C)=>r (f.uG (.code S::k)) H|_=>Z
def xE(e:Rec)(f:cD)(H:Heap)(i:Nat)(k:List Item):ah Out:=match exitTo i k with|some k=>e (f.uG (k)) H|none=>match f.roundOf with|none=>Z|some l=>match H.get l with|some (.loop r)=>J (.ret (.bool C) (H.put l l (.loop {r with state:=.done,pending:=J (.exit i)})))|_=>Z
def xF(r:Rec)(f:cD)(H:Heap)(o:Array aB)(d:Bool)(k:List Item):ah Out:=let f:=(f.uG (k))
 (bif d then(bif vD o.toList then vG P ak r o o.toList 0 [] f H else Z)else Am P ak r o o.toList f H).bind λ|.next f H=>r f H
def JM(e:Rec)(d:cD)(H:Heap)(f:aK)(p:Array Tmp)(s:bF)(b:bF)(k:List Item):ah Out:=match bB P d.tmps f with
 |some (.func g first a)=>let h:ah (Nat×aD×Heap):=match d.roundOf with
  |some l=>match H.get l with|some (.loop r)=>J (r.defers,[],H)|_=>Z
  |none=>J (H.next,[H.next],H.alloc (.deferred V))
 h.bind λm=>let l:=m.2.2.next
  let H:=m.2.2.alloc (.loop {state:=.ready,pending:=Z,fn:=d.fn,n:=d.n,tmps:=d.tmps,params:=p.toList,assign:=s,body:=b,defers:=m.1})
  let d:=((d.uG (k)).QQ (dF m.2.1 d.defers))
  match xI P ak g (dF (dF first [.yield l]) a) H with
  |some (.call c H)=>(e c H).bind λ|.ret _ H=>match H.get l with
   |some (.loop r)=>match r.state with|.busy=>Z|_=>let H:=H.put l l (.loop {r with state:=.exhausted})
   match r.pending with|some c=>e (d.uG (.code c::k)) H|none=>e d H
   |_=>Z
  |_=>Z
 |_=>Z
def AX(e:Rec)(f:cD)(H:Heap)(k:List Item):ah Out:=match f.roundOf with
 |some l=>match H.get l with
  |some (.loop r)=>match r.state with|.ready=>e (f.uG (k)) (H.put l l (.loop {r with state:=.busy}))|_=>Z
  |_=>Z
 |none=>Z
def uN(r:Rec)(d:cD)(H:Heap):ah Out:=match d.todo with|[]|.code .ret::_=>wj r d H|.code .skip::k|.code (.label _)::k|.inBlock _::k|.inScope _::k=>r (d.uG (k)) H|.code (.seq a b)::k=>r (d.uG (.code a::.code b::k)) H|.code (.cond c e S)::k=>xD P r d H c e S k|.code (.block id b)::k=>r (d.uG (.code b::.inBlock id::k)) H|.code (.loop b)::k|.inLoop b::k=>r (d.uG (.code b::.inLoop b::k)) H|.code (.scope b)::k=>r (d.uG (.code b::.inScope b::k)) H|.code (.exit id)::k=>xE r d H id k|.code (.region _ o w)::k=>xF P ak r d H o w k|.code (.rangeFunc f p s b)::k=>JM P ak r d H f p s b k|.beginRound::k=>AX r d H k|_=>Z
def D0(e:Rec)(a:cD)(H:Heap):ah Out:=match a.roundOf with|some _=>Z|none=>match a.defers with
 |r::d=>match H.get r with|some (.deferred V)=>e (a.QQ d) (H.put r r (.deferred C))|_=>Z
 |[]=>(Kt a.fn λf=>P.funcs[f]?).bind λfn=>(IT P fn a H).map λv=>.ret v H
def body(r:Rec)(f:cD)(H:Heap):ah Out:=match f.mode with|.run=>uN P ak r f H|.returning=>D0 P r f H|_=>Z
def run(n:Nat):Rec:=Nat.rec (λ_ _=>Z) (λ_ i=>body P ak i) n
end
end Go.AM
namespace Go.VM
open Go Go.AM
inductive DV where|bool(b:Bool)|int(k:fN)(n:Int)|str(s:List Nat)|nl|ay(l:List DV)(e:an)(esz:Nat)|ptr(id off:Nat)|eN|map(r:Nat)|fR|func(f:bV)(first captured:List DV)|dT(l:Nat)|cV(id off len:Nat)(e:an)(esz:Nat)|nilFunc|agg(l:List DV)|jk
abbrev aq:=List DV
mutual
def DV.gS (e : an) : DV -> Bool
  | .ay l e1 _ => !(aw e1 e) && jl e l
  | .agg l => jl e l
  | .func _ a b => jl e a && jl e b
  | _ => V
def jl (e : an) : aq -> Bool
  | [] => V
  | d :: t => d.gS e && jl e t
end
inductive aM where|no|any|ty(e:an)|ex(e:an)|full(e:an)
inductive SV where|dv(d:DV)(o:aM)|tp(l:List (DV×aM))|lp(s off:Nat)|ev(d:DV)|sr(t:Nat)|se(t i off:Nat)|gr(id off:Nat)|hd(n:Nat)|dd
abbrev cT:=List (Nat×SV)
structure LB where
 cells:aq
 own:List (Nat×aM)
abbrev dV:=List (Nat×LB)
def DV.aV:DV->Bool|.agg _=>C|_=>V
def DV.flat:DV->aq|.agg l=>l|v=>[v]
abbrev kX:=DV×DV×Nat
structure ZU where
 state:LoopState
 pending:ah bF
 fn:bV
 n:Nat
 sl:cT
 params:List Tmp
 assign:bF
 body:bF
inductive GO where|box(b:LB)|map(es:List kX)(clock:Nat)|loop(l:ZU)
structure GH where
 next:Nat
 sE:List (Nat×GO)
def look{a:Type}(l:List (Nat×a))(n:Nat):ah a:=match l with|[]=>Z|(m,x)::t=>bif aw m n then J x else look t n
def put{a:Type}(l:List (Nat×a))(n:Nat)(x:a):List (Nat×a):=match l with|[]=>[(n,x)]|(m,y)::t=>bif aw m n then(n,x)::t else(m,y)::put t n x
def GH.get(g:GH)(i:Nat):ah GO:=look g.sE i
def GH.set(g:GH)(i:Nat)(o:GO):GH:={g with sE:=put g.sE i o}
def GH.alloc(g:GH)(o:GO):GH:={next:=g.next+1,sE:=put g.sE g.next o}
def GH.empty:GH:={next:=0,sE:=[]}
structure St where
 fn:bV
 n:Nat
 sl:cT
 lb:dV
 g:GH
def NI:AV->ah DV|.bool b=>J (.bool b)|.int k n=>J (.int k n)|.str s=>J (.str s)|.eN=>J .eN|.bC=>J .nl|.fR=>J .fR|.nilFunc=>J .nilFunc|_=>Z
def AW:aJ->ah aq|[]=>J []|a::t=>(NI a).bind λd=>(AW t).bind λl=>J (d::l)
def AU:AV->ah DV|.agg l=>(AW l).map .agg|v=>NI v
def Cp:SV->ah DV|.dv d _=>J d|_=>Z
def tC(d:DV):aM:=match d with|.nl=>.any|_=>.no
section
variable(P:aG)(ao:Nat->ah aq)
def cI(t:an):ah DV:=(yT P t).bind AU
def cR(s:St):aK->ah SV|.tmp t=>(match look s.sl t with|some .dd=>Z|r=>r)|.const v=>(wU v).bind λa=>(AU a).map λd=>.dv d (tC d)|.global g=>(ao g).map λl=>.ev (.agg l)|.func f=>J (.dv (.func f [] []) .no)
def bj(s:St)(x:aK):ah DV:=(cR ao s x).bind Cp
def kU(t:an)(c:aq)(o:Nat):ah DV:=match AM.isAgg P t with|some V=>(aZ P t).bind λn=>bif br (o+n) c.length then J (.agg ((c.drop o).take n))else Z|some C=>c[o]?|none=>Z
def km(c:aq)(o:Nat)(v:aq):aq:=c.take o++v++c.drop (o+v.length)
def A7(l:Nat->ah (Nat×Nat)):List (Nat×DV)->aq->ah aq|[],cells=>J cells|p::t,cells=>(l p.1).bind λo=>bif aw p.2.flat.length o.2&&br (o.1+o.2) cells.length then A7 l t (km cells o.1 p.2.flat)else Z
def zD(h:an->DV->DV->ah Bool)(t:an)(x y:DV):ah Bool:=match P.underlying t,x,y with|some .bool,.bool a,.bool b=>J (a==b)|some (.int _),.int k a,.int d b=>if k=d then J (aj a b)else Z|some .string,.str a,.str b=>J (xM a b)|some (.struct i),.agg s,.agg e=>bif P.stoodInHeld t then Z else nL (λc(f:Field)=>bif c then(bif f.name== "_"then J V else(kU P f.type s f.offset).bind λa=>(kU P f.type e f.offset).bind λb=>h f.type a b)else J C) i.toList V|some (.slice _),.nl,.nl=>J V|some (.slice _),.nl,.ay ..|some (.slice _),.ay ..,.nl|some (.slice _),.nl,.cV ..|some (.slice _),.cV ..,.nl=>J C|some (.pointer _),.eN,.eN=>J V|some (.pointer _),.eN,.ptr ..|some (.pointer _),.ptr ..,.eN=>J C|_,_,_=>Z
def gv(f:Nat):an->DV->DV->ah Bool:=Nat.rec (λ_ _ _=>Z) (λ_ i=>zD P i) f
def KA(t:an)(x y:DV):Bool:=match x,y with|.agg _,.agg _=>!P.eqGuardType P.depth t|_,_=>V
def afd(k:fN)(a:Int)(y:fN)(b:Int):ah AV:=match(Op.shift .shr k a y b).run P default with|.ok (.int k n) _=>J (.int k n)|_=>Z
def gG(op:BinOp)(t:an)(x y:DV):ah DV:=match op,x,y with|.shr,.int k a,.int d b=>(afd P k a d b).bind AU|.shr,_,_=>Z|op,.int k a,.int c b=>if k=c then(Il P op k a b).bind AU else Z|op,.str a,.str b=>(Q9 op a b).bind AU|.eql,x,y=>bif KA P t x y then(gv P 50 t x y).map .bool else Z|.neq,x,y=>bif KA P t x y then(gv P 50 t x y).map λb=>.bool (!b)else Z|_,_,_=>Z
def Ji(o:UnOp)(x:DV):ah DV:=match o,x with|.neg,.int k n=>J (.int k (dI k (Int.sub 0 n)))|.not,.bool b=>J (.bool (!b))|_,_=>Z
inductive iF where|none|len|ref|take|copy
def iF.join:iF->iF->iF|.none,u|u,.none=>u|.len,.len=>.len|.len,.ref|.ref,.len|.ref,.ref=>.ref|.take,_|_,.take=>.take|_,_=>.copy
def pV(d:Tmp):aK->Bool|.tmp t=>aw t d|_=>C
def ZB(k:bV->Nat)(d:Tmp)(o:Op):iF:=match o with|.assign x=>bif pV d x then .take else .none|.store _ a x=>bif pV d x then .take else bif pV d a then .copy else .none|.indexAddr _ x i=>bif pV d x then .ref else bif pV d i then .copy else .none|.call {callee:=.builtin .len,args,..}=>bif args.toList.any (pV d)then .len else .none|.call {callee:=.builtin .append,args,..}=>(match args.toList with|x::l=>bif pV d x then .take else bif l.any (pV d)then .copy else .none|[]=>.none)|.call {callee:=.value (.func f),args,..}=>(match args.toList with|x::l=>bif pV d x&&aw (k f) 1||aw (k f) 3&&(pV d x||l.any (pV d))then .ref else bif pV d x&&aw (k f) 2 then .take else bif pV d x||l.any (pV d)then .copy else .none|[]=>.none)|o=>bif o.operands.toList.any (pV d)then .copy else .none
def Jk(f:bV->Nat)(l:List aB)(d:Tmp):iF:=match l with|[]=>.none|o::t=>iF.join (ZB f d o.op) (Jk f t d)
def Gb(f:bV->Nat)(c:aD)(l:List aB)(d:Tmp):iF:=bif c.any (aw d)then .copy else Jk f l d
def n7:aM->aM|.ex e=>.ty e|o=>o
def share:SV->SV|.dv d o=>.dv d (n7 o)|.tp _=>.dd|v=>v
def leave:SV->SV|.dv d (.ex _)=>.dv .jk .no|.dv d _=>.dv d .no|.tp _=>.dd|v=>v
def aQ(f:SV->SV)(s:St)(x:aK):St:=match x with
 |.tmp t=>match look s.sl t with|some v=>{s with sl:=put s.sl t (f v)}|none=>s
 |_=>s
def pr(s:Nat):SV->SV|.sr t=>bif aw t s then .dd else .sr t|.se t i o=>bif aw t s then .dd else .se t i o|v=>v
def ij(l:cT)(s:Nat):cT:=l.map λx=>(x.1,pr s x.2)
def FI(d:Nat):SV->Bool|.sr s|.se s _ _=>aw s d|_=>C
def aH(s:St)(d:ah Tmp)(v:SV):ah St:=match d with|none=>J s|some d=>bif cm d s.n&&!(FI d v)then J {s with sl:=put (ij s.sl d) d v}else Z
def vl(s:Nat):SV->SV|.lp t o=>bif aw t s then .dd else .lp t o|v=>v
def Ee(l:cT)(s:Nat):cT:=l.map λx=>(x.1,vl s x.2)
def C5(a:Bool)(s:St)(d:ah Tmp)(c:aq):ah St:=match d with|none=>Z|some d=>bif cm d s.n then(bif a then J {s with sl:=put (ij s.sl d) d (.dv (.ptr s.g.next 0) .no),g:=s.g.alloc (.box ⟨c,[]⟩)}else J {s with sl:=put (ij (Ee s.sl d) d) d (.lp d 0),lb:=put s.lb d ⟨c,[]⟩})else Z
def pq:SV->SV|.gr _ _=>.dd|v=>v
def cK(s:cT):cT:=s.map λx=>(x.1,pq x.2)
def iC(l:aq)(i:Nat)(v:DV):aq:=l.take i++v::l.drop (i+1)
def mQ:DV->ah Nat|.nl=>J 0|.ay l _ _=>J l.length|.cV _ _ n _ _=>J n|_=>Z
def ew(b:LB)(o:Nat):aM:=match b.cells[o]? with|some .nl=>.any|_=>(look b.own o).getD .no
def cW(l:List (Nat×aM))(o n:Nat):List (Nat×aM):=l.filter λx=>cm x.1 o||br (o+n) x.1
def oP(u:iF)(b:LB)(o:Nat)(d:DV)(w:aM):SV×LB:=match u,w with|.take,.ex e=>(.dv d (.ex e),{cells:=iC b.cells o .jk,own:=cW b.own o 1})|.take,.ty e=>(.dv d (.ty e),{b with own:=cW b.own o 1})|.take,.any=>(.dv d .any,b)|.take,_=>(.dv d .no,b)|.len,.ex e=>(match mQ d with|some n=>(.hd n,b)|none=>(.dv d .no,{b with own:=(o,.ty e)::cW b.own o 1}))|_,.ex e=>(.dv d .no,{b with own:=(o,.ty e)::cW b.own o 1})|_,_=>(.dv d .no,b)
def fD(u:iF)(t:an)(b:LB)(o:Nat):ah (SV×LB):=match AM.isAgg P t with|some V=>(aZ P t).bind λn=>bif br (o+n) b.cells.length then J (.dv (.agg ((b.cells.drop o).take n)) .no,{b with own:=b.own.map λx=>(x.1,n7 x.2)})else Z|some C=>(b.cells[o]?).map λd=>oP u b o d (ew b o)|none=>Z
def mn(f:Nat)(v:DV)(o:aM):List (Nat×aM):=match v.aV,o with|true,.ty e=>[(f,.ty e)]|true,.ex e=>[(f,.ex e)]|_,_=>[]
def yK(t:an)(b:LB)(f:Nat)(v:DV)(o:aM):ah LB:=(aZ P t).bind λn=>bif aw v.flat.length n&&br (f+n) b.cells.length then J {cells:=km b.cells f v.flat,own:=mn f v o++cW b.own f n}else Z
def findD(t:an)(k:DV):List kX->Nat->ah (ah (Nat×kX))|[],_=>J Z|e::l,i=>(gv P 50 t k e.1).bind λb=>bif b then J (J (i,e))else findD t k l (i+1)
def C0(t:an)(k:DV):Bool:=match P.underlying t,k with|some .bool,.bool _|some (.int _),.int _ _|some .string,.str _=>V|_,_=>C
def sC(t:an)(k:DV):Bool:=match P.underlying t,k with
 |some (.struct i),.agg c=>i.toList.all λf=>match kU P f.type c f.offset with|some v=>C0 P f.type v|none=>C
 |_,_=>C0 P t k
def PS:DV->ah aq|.nl=>J []|.ay l _ _=>J l|_=>Z
def wR(e:Nat):DV->ah aq|.str s=>bif aw e 1 then J (s.map λb=>.int .u8 (.ofNat b))else Z|v=>PS v
def goN(n:Nat):DV:=.int .i64 (.ofNat n)
def nI(x:ah DV)(y d:Nat):ah Nat:=match x with|some (.int _ (.ofNat n))=>bif br n y then J n else Z|some _=>Z|none=>J d
def n8(t:an)(x:DV)(o i b:ah DV):ah (DV×aM):=match P.underlying t,x with|some (.slice a),.nl=>bif b.isSome&&i.isNone then Z else(aZ P a).bind λ_=>(nI b 0 0).bind λ_=>(nI i 0 0).bind λh=>(nI o h 0).bind λ_=>J (.nl,.any)|some (.slice a),.ay c e s=>(aZ P a).bind λn=>bif aw n s&&aw e a then match b with|none=>(nI i c.length c.length).bind λh=>bif i.isNone||br h bl then(nI o h 0).map λl=>(.ay ((c.take h).drop l) e s,.no)else Z|some _=>match i with|none=>Z|some _=>(nI b c.length 0).bind λm=>bif br m bl then(nI i m 0).bind λh=>(nI o h 0).map λl=>(.ay ((c.take h).drop l) e s,bif aw h m then .full a else .no)else Z else Z|some (.slice a),.cV id f len e s=>(aZ P a).bind λn=>bif aw n s&&(aw e a&&b.isNone)then(nI i len len).bind λh=>bif i.isNone||br h bl then(nI o h 0).map λl=>(.cV id (f+l*s) (h-l) e s,.no)else Z else Z|_,_=>Z
def fB(m:an)(s b:Nat)(d:DV)(o:aM)(n:aq):ah (DV×aM):=bif aw s 0 then Z else match d with|.nl=>bif br (n.length*b) bl&&br n.length bl then(match n with|[]=>J (.nl,.any)|_=>J (.ay n m s,.ex m))else Z|.ay l e0 e=>bif aw e s&&aw e0 m&&(br ((l.length+n.length)*b) bl&&br (l.length+n.length) bl)then(match n with|[]=>J (.ay l e0 e,o)|_=>match o with|.ty e1=>bif aw e1 m then J (.ay (l++n) m s,.ty m)else Z|.ex e1=>bif aw e1 m then J (.ay (l++n) m s,.ex m)else Z|.full e1=>bif aw e1 m then J (.ay (l++n) m s,.ex m)else Z|_=>Z)else Z|_=>Z
def CA(g:aD):ah Tmp->Bool|some d=>g.any (aw d)|none=>C
def qH(g:aD)(s:ah Tmp)(d:DV)(o:aM)(n:aq):Bool:=match d,o,n with|.ay [] _ _,.full _,_::_=>CA g s|_,_,_=>C
def np(t:St)(s:Nat):ah (aq×an×Nat):=match look t.sl s with|some (.dv (.ay l e n) (.ex _))=>J (l,e,n)|_=>Z
def reshape(e:DV)(s:aq):ah DV:=match e,s with|.agg _,s=>J (.agg s)|_,[c]=>bif c.aV then J c else Z|_,_=>Z
def Ea(s:St)(i o:Nat):ah DV:=match s.g.get i with|some (.box b)=>(match b.cells[o]?,ew b o with|some d,.ex _=>J d|_,_=>Z)|_=>Z
def zp(t:St)(x:aK):ah DV:=(cR ao t x).bind λ|.dv d _=>J d|.sr s=>(np t s).map λy=>.ay y.1 y.2.1 y.2.2|.gr id o=>Ea t id o|_=>Z
def dB(T:bV->Nat)(K S:aD)(E:List aB)(h:St)(o:aB):ah St:=match o.op with
 |.move x=>(cR ao h x).bind λv=>match o.dst with|none=>J h|some d=>(match v with|.tp _=>aH (aQ leave h x) (J d) v|.dv dd F=>(match Gb T S E d,F,x with|.take,.ex _,_=>(aH h (J d) v).map λh=>aQ (λ_=>.sr d) h x|.take,_,_=>aH (aQ leave h x) (J d) v|.len,.ex _,_=>(mQ dd).bind λn=>aH h (J d) (.hd n)|.ref,.ex _,.tmp t=>aH h (J d) (.sr t)|_,.any,_=>aH h (J d) v|_,_,_=>aH (aQ share h x) (J d) (.dv dd .no))|v=>aH h (J d) v)
 |.assign x=>(cR ao h x).bind λv=>aH (aQ leave h x) o.dst v|.pick c a b=>match bj ao h c with|some (.bool c)=>bif c then(bj ao h a).bind λv=>aH h o.dst (.dv v .no)else(bj ao h b).bind λv=>aH h o.dst (.dv v .no)|_=>Z
 |.alloc e=>(cI P e).bind λz=>C5 (match o.dst with|some d=>K.any (aw d)|none=>C) h o.dst z.flat|.box _ x=>(bj ao h x).bind λv=>C5 (match o.dst with|some d=>K.any (aw d)|none=>C) h o.dst v.flat|.build t parts=>(cI P t).bind λz=>(cu (λ(p:Nat×aK)=>(bj ao h p.2).map λv=>(p.1,v)) parts.toList).bind λR=>match P.underlying t with|some (.struct w)=>(cu (λ(f:Field)=>(aZ P f.type).map λn=>(f.offset,n)) w.toList).bind λG=>(A7 (λi=>oM G i) R z.flat).bind λl=>aH h o.dst (.dv (.agg l) .no)|_=>Z
 |.buildSlice t len parts=>match P.underlying t with|some (.slice j)=>(aZ P j).bind λn=>bif aw n 0||!(br (len*n) 16777216)then Z else(cu (λ(p:Nat×aK)=>(bj ao h p.2).map λv=>(p.1,v)) parts.toList).bind λR=>(cI P j).bind λz=>bif aw z.flat.length n then(nL (λ(l:aq)(p:Nat×DV)=>bif cm p.1 l.length&&(aw p.2.flat.length n&&(p.2.aV==z.aV))then J (iC l p.1 p.2)else Z) R (lW len z)).bind λl=>aH h o.dst (.dv (.ay l j n) (bif aw len 0&&CA K o.dst then .full j else .ex j))else Z|_=>Z
 |.load t a=>let u:=match o.dst with|some d=>Gb T S E d|none=>.none
  match cR ao h a with
  |some (.lp s q)=>(look h.lb s).bind λb=>(fD P u t b q).bind λr=>aH {h with lb:=put h.lb s r.2} o.dst r.1|some (.ev d)=>match AM.isAgg P t with|some V=>(aZ P t).bind λn=>bif !d.aV&&aw d.flat.length n then aH h o.dst (.dv d .no)else Z|some C=>bif d.aV then aH h o.dst (.dv d .no)else Z|none=>Z
  |some (.se s i q)=>(np h s).bind λx=>(x.1[i]?).bind λd=>(kU P t d.flat q).bind λd=>aH h o.dst (.dv d .no)|some (.dv (.ptr id q) _)=>match h.g.get id with|some (.box b)=>(match u,ew b q,AM.isAgg P t with|.ref,.ex _,J C=>bif cm q b.cells.length then aH h o.dst (.gr id q)else Z|_,_,_=>(fD P u t b q).bind λr=>aH {h with g:=h.g.set id (.box r.2)} o.dst r.1)|_=>Z
  |_=>Z
 |.store t a x=>(cR ao h x).bind λv=>match v with
  |.dv d F=>match cR ao h a with
   |some (.lp s q)=>(look h.lb s).bind λb=>(yK P t b q d F).bind λb=>aH {aQ leave h x with sl:=cK (aQ leave h x).sl,lb:=put h.lb s b} o.dst (.tp [])|some (.dv (.ptr id q) _)=>match h.g.get id with|some (.box b)=>(yK P t b q d F).bind λb=>aH {aQ leave h x with sl:=cK (aQ leave h x).sl,g:=h.g.set id (.box b)} o.dst (.tp [])|_=>Z
   |some (.se s i q)=>(np (aQ share h x) s).bind λy=>(y.1[i]?).bind λel=>(aZ P t).bind λn=>bif aw d.flat.length n&&br (q+n) el.flat.length then(reshape el (km el.flat q d.flat)).bind λN=>aH {aQ share h x with sl:=put (cK (aQ share h x).sl) s (.dv (.ay (iC y.1 i N) y.2.1 y.2.2) (.ex y.2.1))} o.dst (.tp [])else Z|_=>Z
  |_=>Z
 |.nilCheck x=>(cR ao h x).bind λv=>match v with|.lp s _=>(look h.lb s).bind λ_=>aH h o.dst v|.ev _|.se ..=>aH h o.dst v|.dv (.ptr id q) _=>aH h o.dst (.dv (.ptr id q) .no)|_=>Z
 |.binOp op t x y _=>(bj ao h x).bind λa=>(bj ao h y).bind λb=>(gG P op t a b).bind λv=>aH h o.dst (.dv v .no)|.unOp op _ x=>(bj ao h x).bind λa=>(Ji op a).bind λv=>aH h o.dst (.dv v .no)|.convert src M x=>(bj ao h x).bind λv=>match P.underlying src,P.underlying M,v with|some _,J (.int k),.int _ n=>aH h o.dst (.dv (.int k (dI k n)) .no)|some .string,J (.slice e),.str s=>(match P.underlying e with|some (.int .u8)=>aH h o.dst (.dv (.ay (s.map λb=>.int .u8 (.ofNat b)) e 1) .no)|_=>Z)|_,_,_=>Z
 |.makeFunc (.func f) first D=>(cu (bj ao h) first.toList).bind λa=>(cu (bj ao h) D.toList).bind λb=>aH h o.dst (.dv (.func f a b) .no)|.makeMap _ Z=>aH {h with g:=h.g.alloc (.map [] 0)} o.dst (.dv (.map h.g.next) .no)|.makeSlice t l c=>match P.underlying t,bj ao h l,bj ao h c with
  |some (.slice j),J (.int _ (.ofNat n)),J (.int _ (.ofNat m))=>match P.info? j,cI P j with|some i,J z=>bif !(aw i.size 0)&&aw n m&&aw z.flat.length i.size&&br (m*i.bytes) bl&&br m bl&&CA K o.dst then aH {h with g:=h.g.alloc (.box ⟨(lW n z).flatMap DV.flat,[(((lW n z).flatMap DV.flat).length,.full j)]⟩)} o.dst (.dv (.cV h.g.next 0 n j i.size) .no)else Z|_,_=>Z
  |_,_,_=>Z
 |.slice t x lo O Q=>(bj ao h x).bind λv=>(match lo with|some x=>(bj ao h x).map J|none=>J Z).bind λlo=>(match O with|some x=>(bj ao h x).map J|none=>J Z).bind λO=>(match Q with|some x=>(bj ao h x).map J|none=>J Z).bind λQ=>(n8 P t v lo O Q).bind λr=>aH h o.dst (.dv r.1 r.2)|.fieldAddr s x f=>match P.underlying s with
  |some (.struct w)=>(w[f]?).bind λI=>(aZ P I.type).bind λn=>match n,cR ao h x with|fg _,J (.lp b q)=>(look h.lb b).bind λ_=>aH h o.dst (.lp b (q+I.offset))|fg _,J (.dv (.ptr id q) _)=>aH h o.dst (.dv (.ptr id (q+I.offset)) .no)|fg _,J (.se s i q)=>aH h o.dst (.se s i (q+I.offset))|fg _,J (.ev (.agg l))=>(kU P I.type l I.offset).bind λd=>aH h o.dst (.ev d)|_,_=>Z
  |_=>Z
 |.indexAddr t x i=>match bj ao h i with
  |some (.int _ (.ofNat i))=>match P.underlying t,cR ao h x with|some (.slice j),J (.dv (.ay l e A) F)=>(aZ P j).bind λn=>bif aw n A&&aw e j then(match F,x with|.ex _,.tmp s=>bif cm i l.length then aH h o.dst (.se s i 0)else Z|_,_=>(l[i]?).bind λd=>aH h o.dst (.ev d))else Z|some (.slice j),J (.dv (.cV id q len e A) _)=>(aZ P j).bind λn=>bif aw n A&&aw e j&&cm i len then aH h o.dst (.dv (.ptr id (q+i*A)) .no)else Z|some (.slice j),J (.sr s)=>(np h s).bind λy=>(aZ P j).bind λn=>bif aw n y.2.2&&(aw y.2.1 j&&cm i y.1.length)then aH h o.dst (.se s i 0)else Z|some (.array len j),J (.ev (.agg l))=>(aZ P j).bind λn=>bif cm i len then(kU P j l (i*n)).bind λd=>aH h o.dst (.ev d)else Z|some (.array len j),J (.lp s q)=>(aZ P j).bind λn=>bif cm i len then(look h.lb s).bind λ_=>aH h o.dst (.lp s (q+i*n))else Z|_,_=>Z
  |_=>Z
 |.index t x i=>match bj ao h i with
  |some (.int _ (.ofNat i))=>match P.underlying t,bj ao h x with|some .string,J (.str s)=>(s[i]?).bind λb=>aH h o.dst (.dv (.int .u8 (.ofNat b)) .no)|_,_=>Z
  |_=>Z
 |.lookup t x k ok=>match P.underlying t,bj ao h x with
  |some (.map L U),J (.map r)=>match h.g.get r with|some (.map H _)=>(bj ao h k).bind λk=>bif sC P L k then(findD P L k H 0).bind λ|some (_,e)=>aH h o.dst (bif ok then .tp [(e.2.1,.no),(.bool V,.no)]else .dv e.2.1 .no)|none=>(cI P U).bind λz=>aH h o.dst (bif ok then .tp [(z,.no),(.bool C,.no)]else .dv z .no)else Z|_=>Z
  |_,_=>Z
 |.mapUpdate t m k x=>match P.underlying t,bj ao h m with
  |some (.map L _),J (.map r)=>match h.g.get r with|some (.map H c)=>(bj ao h k).bind λk=>(bj ao h x).bind λx=>bif sC P L k then(findD P L k H 0).bind λ|some (i,e)=>bif k.aV then aH {h with sl:=cK h.sl,g:=h.g.set r (.map (H.take i++(e.1,x,e.2.2)::H.drop (i+1)) c)} o.dst (.tp [])else Z|none=>aH {h with sl:=cK h.sl,g:=h.g.set r (.map (H++[(k,x,c)]) (c+1))} o.dst (.tp [])else Z|_=>Z
  |_,_=>Z
 |.extract t i=>match t with
  |.tmp s=>match look h.sl s with|some (.tp l)=>(l[i]?).bind λx=>aH {h with sl:=put h.sl s (.tp (l.take i++(match x.2 with|.ex _=>(DV.jk,aM.no)|_=>(x.1,.no))::l.drop (i+1)))} o.dst (.dv x.1 x.2)|_=>Z
  |_=>Z
 |.call c=>match c.callee with
  |.builtin .len=>match c.args.toList with
   |[x]=>(cR ao h x).bind λv=>match c.argTypes[0]?.bind P.underlying,v with|some (.array n _),.dv _ _=>aH h o.dst (.dv (goN n) .no)|some .string,.dv (.str s) _=>aH h o.dst (.dv (goN s.length) .no)|some (.slice _),.dv d _=>(mQ d).bind λn=>aH h o.dst (.dv (goN n) .no)|some (.slice _),.hd n=>aH h o.dst (.dv (goN n) .no)|some (.slice _),.sr s=>(np h s).bind λy=>aH h o.dst (.dv (goN y.1.length) .no)|some (.slice _),.gr id q=>(Ea h id q).bind λd=>(mQ d).bind λn=>aH h o.dst (.dv (goN n) .no)|_,_=>Z
   |_=>Z
  |.builtin .append=>match c.args.toList with
   |[s,x]=>match c.argTypes[0]?.bind P.underlying,c.argTypes[1]?.bind P.underlying with
    |some (.slice j),J (.slice _)|some (.slice j),J .string=>match P.info? j,cI P j,cR ao h s,bj ao h x with|some i,J z,J (.dv d F),J v=>bif aw z.flat.length i.size then(wR i.size v).bind λB=>bif B.all (λy=>aw y.flat.length i.size)then bif qH K o.dst d F B then(fB j i.size i.bytes d F B).bind λ_=>aH {aQ leave h s with sl:=cK (aQ leave h s).sl,g:=h.g.alloc (.box ⟨B.flatMap DV.flat,[((B.flatMap DV.flat).length,.full j)]⟩)} o.dst (.dv (.cV h.g.next 0 B.length j i.size) .no)else(fB j i.size i.bytes d F B).bind λr=>bif o.dst.isSome then aH {aQ leave h s with sl:=cK (aQ leave h s).sl} o.dst (.dv r.1 r.2)else Z else Z else Z|_,_,_,_=>Z
    |_,_=>Z
   |_=>Z
  |.builtin .clear=>match c.args.toList with
   |[x]=>match c.argTypes[0]?.bind P.underlying with|some (.slice j)=>((bj ao h x).bind λ|.nl=>aH h o.dst (.tp [])|.cV id q n _ A=>(match h.g.get id,cI P j with|some (.box b),J z=>bif br (q+n*A) b.cells.length&&aw z.flat.length A then aH {h with sl:=cK h.sl,g:=h.g.set id (.box {cells:=km b.cells q ((lW n z).flatMap DV.flat),own:=cW b.own q (n*A)})} o.dst (.tp [])else Z|_,_=>Z)|_=>Z)|_=>Z
   |_=>Z
  |.builtin .min=>(cu (bj ao h) c.args.toList).bind λ|[.int k a,.int _ b]=>aH h o.dst (.dv (.int k (bif aA b a then b else a)) .no)|_=>Z
  |.builtin .max=>(cu (bj ao h) c.args.toList).bind λ|[.int k a,.int _ b]=>aH h o.dst (.dv (.int k (bif aA a b then b else a)) .no)|_=>Z
  |_=>Z
 |_=>Z
end
mutual
def DV.pure : DV -> Bool
  | .ptr .. | .map _ | .dT _ | .jk | .cV .. => C
  | .ay l _ _ => cA l
  | .agg l => cA l
  | .func _ a b => cA a && cA b
  | _ => V
def cA : aq -> Bool
  | [] => V
  | d :: t => d.pure && cA t
end
def SV.pure:SV->Bool|.dv d _=>d.pure|.tp l=>l.all λx=>x.1.pure|_=>C
mutual
def DV.plain : DV -> Bool
  | .bool _ | .int .. | .str _ | .nl | .eN | .fR | .nilFunc => V
  | .agg l => Md l
  | _ => C
def Md : aq -> Bool
  | [] => V
  | d :: t => d.plain && Md t
end
def SV.plain:SV->Bool|.dv d _=>d.plain|.tp l=>l.all λx=>x.1.plain|_=>C
def aM.yh:aM->Bool|.no=>V|_=>C
inductive eB where|fJ(st:St)|ext(id:Nat)(st:St)|rt(st:St)
inductive B4 where|call(f:bV)(args:List DV)(ow:aM)(g:GH)|loop(b:bF)(st:St)(rd:Option Nat)|dT(l:Nat)(args:List DV)(g:GH)
inductive bh where|val(v:SV)(g:GH)|out(o:eB)
abbrev dR:=B4->ah bh
structure bR where
 ao:Nat->ah aq
 iK:bV->aq->ah (ah SV)eQ:bV->Bool
 s8:bV->aD
 zt:bV->aD
 qJ:bV->Bool
 Ay:bV->Bool
 fk:bV->Nat
 pU:bV->DV->aq->ah (DV×SV)live:bV->Nat->aD
 keep:bV->Nat->aD
def lO(l:cT):cT:=l.map λx=>(x.1,match x.2 with|.dv d .no=>.dv d .no|.dv d .any=>.dv d .any|.ev d=>.ev d|_=>.dd)
def CJ:bF->Nat|.region id _ _=>id|.seq a _=>CJ a|.block _ b|.loop b|.scope b=>CJ b|_=>0
def ahL:SV->aD|.lp s _=>[s]|_=>[]
def mask(l:aD)(t:St):St:=let sl:=l.filterMap λs=>(look t.sl s).map λv=>(s,v)
 {t with sl:=sl,lb:=(sl.flatMap λx=>ahL x.2).eraseDups.filterMap λs=>(look t.lb s).map λb=>(s,b)}
def handsOn:Op->List aK|.move _|.assign _|.store ..|.load ..|.fieldAddr ..|.indexAddr ..|.nilCheck _|.binOp ..|.unOp ..|.extract ..|.index ..|.call {callee:=.builtin _,..}=>[]|o=>o.operands.toList
inductive Kd where|no|rd|wr
def Kd.apart:Kd->Kd->Bool|.no,_|_,.no=>V|.rd,.rd=>V|_,_=>C
def kindOf(c:bR)(s:St)(o:Op):Kd:=bif nY o then .no else match o with|.alloc _|.box ..|.buildSlice ..|.makeMap ..|.makeSlice ..=>.no|.load ..|.lookup ..|.slice ..|.convert ..=>.rd|.call {callee:=.builtin .len,..}|.call {callee:=.builtin .max,..}|.call {callee:=.builtin .min,..}|.call {callee:=.builtin .append,..}=>.rd|.call {callee:=.value (.func f),..}=>bif c.eQ f&&!(aw (c.fk f) 1||aw (c.fk f) 2)then .rd else .wr|_=>.wr
def isApp:Op->Bool|.call {callee:=.builtin .append,..}=>V|_=>C
def Lq(c:bR)(s:St)(o:Op):Bool:=match o with|.call {callee:=.value _,..}=>(match kindOf c s o with|.wr=>V|_=>C)|_=>C
def nk(c:bR)(s:St)(o:List aB):Bool:=vD o&&o.zipIdx.all λx=>!(isApp x.1.op||Lq c s x.1.op)||Jd o x.2
inductive Kx where|s(k:Kd)|pt(t:Option Nat)(g:GH)(w:Bool)
def jy(c:bR)(s:St)(o:Op):Kx:=match o with|.load _ a=>(match cR c.ao s a with|some (.dv (.ptr id _) _)=>.pt (J id) s.g C|_=>.s (kindOf c s o))|.store _ a _=>(match cR c.ao s a with|some (.dv (.ptr id _) _)=>.pt (J id) s.g V|some (.se ..)|some (.lp ..)=>.pt Z s.g V|_=>.s (kindOf c s o))|o=>.s (kindOf c s o)
def Kx.kd:Kx->Kd|.s k=>k|.pt _ _ w=>bif w then .wr else .rd
def Kx.xP:Kx->Kx->Bool|.pt t g _,.pt (J id) _ _=>(g.get id).isSome&&(match t with|some x=>!(aw x id)|none=>V)|_,_=>C
def Kx.apart(a b:Kx):Bool:=Kd.apart a.kd b.kd||(Kx.xP a b||Kx.xP b a)
def Iy(o:List aB)(l:List (Nat×Kx))(j:Nat)(k:Kx):Bool:=l.all λe=>Kx.apart e.2 k||qK o e.1 j
section
variable(P:aG)(cf:bR)(rec:dR)
def yR(p:Array aB)(s:St)(o:aB):ah Bool:=match o.guard with|none=>J V|some (j,w)=>match(p[j]?).bind (·.dst)with
 |some d=>match look s.sl d with|some (.dv (.bool b) _)=>J (b==w)|some (.tp [])=>J C|_=>Z
 |none=>J C
def xd(l:List (DV×aM))(j:Nat)(x:DV×aM):DV×aM:=match x.1,x.2 with|.ay d e n,.ty e1=>bif aw e e1&&(jl e d&&l.zipIdx.all λy=>aw y.2 j||y.1.1.gS e)then(.ay d e n,.ex e)else x|_,_=>x
def qJ(t:Bool):SV->SV|.tp l=>bif t then .tp (l.zipIdx.map λx=>xd l x.2 x.1)else .tp l|v=>v
def kb{b:Type}(f:bV)(a:aq)(o:aM)(g:GH)(k:SV->GH->ah b):ah b:=bif cf.eQ f then(bif cA a then(rec (.call f a o .empty)).bind λ|.val v _=>bif v.pure then k (qJ (cf.qJ f&&o.yh) v) g else Z|_=>Z else Z)else(rec (.call f a o g)).bind λ|.val v g=>k v g|_=>Z
def Py(t:St)(f:bV)(x:aK)(S:aq):ah (St×SV):=(cR cf.ao t x).bind λv=>let a:=λ(s:Nat)=>match look t.sl s with|some (.dv d (.ex e))=>(cf.pU f d S).map λr=>({t with sl:=put (ij t.sl s) s (match r.1 with|.jk=>.dv .jk .no|d=>.dv d (.ex e))},r.2)|_=>Z
 match v with|.dv .nl _=>(cf.pU f .nl S).map λr=>(t,r.2)|.dv _ (.ex _)=>(match x with|.tmp s=>a s|_=>Z)|.sr s=>a s|.gr id o=>(match t.g.get id with|some (.box b)=>(match b.cells[o]?,ew b o with|some d,.ex e=>(cf.pU f d S).map λr=>({t with g:=t.g.set id (.box {cells:=iC b.cells o r.1,own:=(match r.1 with|.jk=>cW b.own o 1|_=>b.own)})},r.2)|_,_=>Z)|_=>Z)|_=>Z
def qh(s:St)(o:Op)(i:aK)(a:List aK):ah (St×SV):=(bj cf.ao s i).bind λv=>match v with
 |.func h first c=>bif aw (cf.fk h) 1 then match first,c,a with|[],[],x::b=>(cu (bj cf.ao (b.foldl (aQ share) s)) b).bind λS=>Py cf (b.foldl (aQ share) s) h x S|_,_,_=>Z else bif aw (cf.fk h) 2 then match first,a with|[],x::b=>(match cR cf.ao s x with|some (.dv d w)=>(cu (bj cf.ao ((handsOn o).foldl (aQ share) (aQ leave s x))) b).bind λS=>kb cf rec h (d::(S++c)) w ((handsOn o).foldl (aQ share) (aQ leave s x)).g λv g=>J ({((handsOn o).foldl (aQ share) (aQ leave s x))with g:=g},v)|_=>Z)|_,_=>Z else bif aw (cf.fk h) 3 then bif cf.eQ h then(cu (zp cf.ao s) a).bind λS=>kb cf rec h (first++S++c) .no s.g λv _=>bif v.plain then J (s,v)else Z else Z else(cu (bj cf.ao ((handsOn o).foldl (aQ share) s)) a).bind λS=>kb cf rec h (first++S++c) .no ((handsOn o).foldl (aQ share) s).g λv g=>J ({((handsOn o).foldl (aQ share) s)with g:=g},v)|.dT l=>(cu (bj cf.ao ((handsOn o).foldl (aQ share) s)) a).bind λS=>(rec (.dT l S ((handsOn o).foldl (aQ share) s).g)).bind λ|.val v g=>J ({((handsOn o).foldl (aQ share) s)with g:=g},v)|_=>Z
 |_=>Z
def dH(g c:aD)(l:List aB)(s:St)(o:aB):ah St:=match o.op with|.call {callee:=.value f,args,..}=>(qh cf rec s o.op f args.toList).bind λr=>aH {r.1 with sl:=cK r.1.sl} o.dst r.2|_=>dB P cf.ao cf.fk g c l ((handsOn o.op).foldl (aQ share) s) o
def jN(s c:aD)(d:Bool)(p:Array aB):List aB->Nat->List (Nat×Kx)->St->ah St|[],_,_,st=>J st|o::l,j,g,st=>(yR p st o).bind λw=>bif w then bif !d||Iy p.toList g j (jy cf st o.op)then(dH P cf rec s c l st o).bind λt=>jN s c d p l (j+1) (bif d then(j,jy cf st o.op)::g else g) t else Z else(aH st o.dst (.tp [])).bind λst=>jN s c d p l (j+1) g st
def fF(k:eB->ah bh):bh->ah bh|.out o=>k o|.val ..=>Z
variable(rd:ah Nat)
def Ak(g:GH):Bool:=match rd with|none=>V|some l=>(match g.get l with|some (.loop _)=>V|_=>C)
def exec:bF->St->(eB->ah bh)->ah bh
 |.skip,st,k|.label _,st,k=>k (.fJ st)|.seq a b,st,k=>exec a st λ|.fJ st=>exec b st k|.ext i st=>k (.ext i st)|.rt st=>k (.rt st)
 |.cond c a b,st,k=>match bj cf.ao st c with|some (.bool x)=>bif x then exec a st k else exec b st k|_=>Z
 |.block id b,st,k=>exec b st λ|.fJ st=>k (.fJ st)|.ext i st=>bif aw i id then k (.fJ st)else k (.ext i st)|.rt st=>k (.rt st)
 |.loop b,st,k=>(rec (.loop b (mask (cf.live st.fn (CJ b)) st) rd)).bind (fF k)|.scope b,st,k=>exec b st k|.exit id,st,k=>k (.ext id st)|.ret,st,k=>k (.rt st)|.region id o d,st,k=>bif !d||nk cf st o.toList then(jN P cf rec (cf.s8 st.fn) (cf.zt st.fn) d o o.toList 0 [] st).bind λt=>k (.fJ (mask (cf.keep st.fn id) t))else Z|.rangeFunc f m X b,st,k=>match bj cf.ao st f with
  |some (.func h first p)=>bif(cf.iK h (first++[.dT st.g.next]++p)).isSome||!(Ak rd st.g)then Z else(rec (.call h (first++[.dT st.g.next]++p) .no (st.g.alloc (.loop {state:=.ready,pending:=Z,fn:=st.fn,n:=st.n,sl:=lO st.sl,params:=m.toList,assign:=X,body:=b})))).bind λ
   |.val _ g=>(match g.get st.g.next with|some (.loop r)=>(match r.state with|.busy=>Z|_=>let s:={st with sl:=cK st.sl,g:=g.set st.g.next (.loop {r with state:=.exhausted})}
   (match r.pending with|none=>k (.fJ s)|some .ret=>k (.rt s)|some (.exit id)=>k (.ext id s)|_=>Z))|_=>Z)|_=>Z
  |_=>Z
 |.goto _,_,_|.refuse _,_,_=>Z
def uE(s:St)(t:Tmp):ah ((DV×aM)×St):=match look s.sl t with|some (.dv d o)=>J ((d,o),{s with sl:=put s.sl t (leave (.dv d o))})|_=>Z
def IS(c:St):oy->ah ((DV×aM)×St)|.tmp t=>uE c t|.cell a t=>match look c.sl a with|some (.lp s o)=>(look c.lb s).bind λb=>(fD P .take t b o).bind λr=>(aH {c with lb:=put c.lb s r.2} (J a) r.1).bind λc=>uE c a|some (.dv (.ptr id o) _)=>(match c.g.get id with|some (.box b)=>(fD P .take t b o).bind λr=>(aH {c with g:=c.g.set id (.box r.2)} (J a) r.1).bind λc=>uE c a|_=>Z)|_=>Z
def sZ:List oy->St->ah (List (DV×aM)×St)|[],st=>J ([],st)|r::l,st=>(IS P st r).bind λx=>(sZ l x.2).bind λy=>J (x.1::y.1,y.2)
def vF:oy->Tmp|.tmp t=>t|.cell a _=>a
def yp:aD->Bool|[]=>V|x::l=>!(l.any (aw x))&&yp l
def C':List (DV×aM)->SV|[x]=>.dv x.1 x.2|l=>.tp l
def w7(b:LB)(o l e:Nat)(a:Bool):aq:=(tO l).map λi=>bif a then .agg ((b.cells.drop (o+i*e)).take e)else((b.cells.drop (o+i*e)).headD .nl)
def isFull(e:an):aM->Bool|.full t=>aw t e|_=>C
def yN(g:GH):DV->ah DV|.cV id o len e s=>(match g.get id,AM.isAgg P e with|some (.box b),J a=>bif br (o+len*s) b.cells.length&&br 1 s&&(a||aw s 1)&&b.own.any (λx=>isFull e x.2)then J (.ay (w7 b o len s a) e s)else Z|_,_=>Z)|d=>J d
def ZA(g:GH):DV->ah DV|.agg l=>(cu (yN P g) l).map .agg|d=>yN P g d
def Az:bh->ah bh|.val (.dv d _) g=>(ZA P g d).map λd=>.val (.dv d .no) {g with sE:=[]}|.val (.tp l) g=>(cu (λ(x:DV×aM)=>(ZA P g x.1).map λd=>(d,aM.no)) l).map λl=>.val (.tp l) {g with sE:=[]}|_=>Z
def xQ(f:Func)(s:St):ah bh:=bif yp (f.results.toList.map vF)then(sZ P f.results.toList s).map λy=>.val (C' y.1) y.2.g else Z
def tX:Nat->aM->aq->cT|_,_,[]=>[]|i,o,d::t=>(i,.dv d o)::tX (i+1) .no t
def BU:List Tmp->aq->cT->cT|p::a,d::s,sl=>BU a s (put sl p (.dv d .no))|_,_,sl=>sl
def wz(l:Nat)(s:St)(p:ah bF):ah bh:=match s.g.get l with|some (.loop r)=>J (.val (.dv (.bool p.isNone) .no) (s.g.set l (.loop {r with state:=(match p with|none=>.ready|some _=>.done),pending:=p})))|_=>Z
def vw:aM->Bool|.ex _|.any=>V|_=>C
def yQ:B4->ah bh
 |.call f args w g=>match cf.iK f args with|some r=>bif aw (cf.fk f) 2&&!vw w then Z else r.map λv=>.val v g|none=>(P.funcs[f]?).bind λfn=>fn.body.bind λb=>bif br args.length fn.ntmps then exec P cf rec Z b {fn:=f,n:=fn.ntmps,sl:=tX 0 w args,lb:=[],g:=g} λ|.fJ st|.rt st=>bif cf.Ay f then(xQ P fn st).bind (Az P)else xQ P fn st|.ext ..=>Z else Z
 |.loop b st rd=>exec P cf rec rd b st λ|.fJ st=>rec (.loop b (mask (cf.live st.fn (CJ b)) st) rd)|o=>J (.out o)
 |.dT l args g=>match g.get l with|some (.loop r)=>bif aw args.length r.params.length&&r.params.all (λp=>cm p r.n)then exec P cf rec (J l) r.assign {fn:=r.fn,n:=r.n,sl:=BU r.params args r.sl,lb:=[],g:=g} λ|.fJ st=>(match st.g.get l with|some (.loop r1)=>(match r1.state with|.ready=>exec P cf rec (J l) r.body {st with sl:=cK st.sl,g:=st.g.set l (.loop {r1 with state:=.busy})} λo=>(match o with|.fJ st=>wz l st Z|.rt st=>wz l st (J .ret)|.ext id st=>wz l st (J (.exit id)))|_=>Z)|_=>Z)|_=>Z else Z|_=>Z
end
def Jn(P:aG)(c:bR):Nat->dR|0=>λ_=>Z|n+1=>yQ P c (Jn P c n)
end Go.VM
namespace Go.AM
theorem AY{a b:Nat}(h:a≠b):aw a b=C:=by grind[Nat.eq_of_beq_eq_true]
theorem JO{a b:Nat}(h:a=b):aw a b=V:=by simp_all
theorem aKd(f:Nat):xe f 0=.e:=by cases f<;>rfl
theorem aKc(f n:Nat)(a:n≠0)(h:n%2=1):xe (f+1) n=.o (xe f (n/2)):=by have e:xe (f+1) n=@Bool.rec (λ_=>Pos) (@Bool.rec (λ_=>Pos) _ (.o (xe f (n/2))) (aw (n%2) 1)) .e _:=rfl;simp_all[AY]
theorem aKa(f n:Nat)(a:n≠0)(h:n%2≠1):xe (f+1) n=.i (xe f (n/2-1)):=by have e:xe (f+1) n=@Bool.rec (λ_=>Pos) (@Bool.rec (λ_=>Pos) (.i (xe f (n/2-1))) _ (aw (n%2) 1)) .e _:=rfl;simp_all[AY]
theorem aKb:∀(f g n m:Nat),n<f->m<g->xe f n=xe g m->n=m:=by intro f;induction f with|zero=>omega|succ f i=>intro g n m b a h;cases g<;>grind[aKd,aKc,aKa]
theorem aKe{n m:Nat}(h:toPos n=toPos m):n=m:=aKb _ _ n m (GI n) (GI m) h
theorem adz{a:Type}(x:a):∀(p q:Pos)(t:Tr a),(p=q->Bb (CZ p x t) q=J x)/\(p≠q->Bb (CZ p x t) q=Bb t q):=by intro p;induction p with
 |e=>intro q t;cases t<;>cases q<;>simp[CZ,Bb]|o p h=>
 intro q t;rcases t with _|⟨l,v,r⟩;.cases q<;>simp_all[CZ,Bb]
 cases q<;>simp_all[CZ,Bb]|i p h=>
 intro q t;rcases t with _|⟨l,v,r⟩;.cases q<;>simp_all[CZ,Bb]
 cases q<;>simp_all[CZ,Bb]
theorem Tr.lh{a:Type}(t:Tr a)(n:Nat)(x:a):(t.ins n x).get n=J x:=(adz x _ _ t).1 rfl
theorem Tr.jr{a:Type}(t:Tr a){n m:Nat}(x:a)(h:n≠m):(t.ins n x).get m=t.get m:=(adz x _ _ t).2 λe=>h (aKe e)
theorem Tr.get_nil{a:Type}(n:Nat):(Tr.nil:Tr a).get n=Z:=by rfl
theorem dS{a:Type}(l:List a):eM l=l.length:=by induction l<;>grind[eM]
theorem kZ{a:Type}(l m:List a):dF l m=l++m:=by induction l<;>grind[dF]
theorem ql{b:Type}(n:Nat):∀l:List b,zw n l=l.drop n:=by induction n with|zero=>intro l;rfl|succ n i=>intro l;cases l with|nil=>rfl|cons a l=>exact i l
theorem pI{a:Type}(n:Nat):∀l:List a,vL n l=l.take n:=by induction n with|zero=>intro l;rfl|succ n i=>intro l;cases l<;>simp_all[vL]
theorem wT{a:Type}(l:List a)(n:Nat):oM l n=l[n]?:=by
 unfold oM;rw[ql];have:l[n]?=(l.drop n)[0]?:=by simp
 rw[this];cases l.drop n<;>rfl
theorem Ac{a b:Type}(f:a->b)(l:List a):ym f l=l.map f:=by induction l<;>grind[ym]
theorem EZ{a b:Type}(f:a->ah b):cu f []=J []:=rfl
theorem PX{c d:Type}(f:c->ah d)(a:c)(l:List c):cu f (a::l)=(f a).bind λb=>(cu f l).bind λt=>J (b::t):=rfl
theorem E3{c d:Type}{f:c->ah d}:∀{l:List c}{r:List d},cu f l=J r->l.length=r.length/\∀(i:Nat)(a:c),l[i]?=J a->∃b,f a=J b/\r[i]?=J b:=by intro l;induction l with|nil=>simp[EZ]|cons a l j=>
 intro r h;rw[PX]at h;rcases e:f a with _|b;.grind
 cases g:cu f l<;>grind
theorem pc{d c:Type}(f:c->d->c):∀(l:List d)(b:c),fO f l b=l.foldl f b:=by intro l;induction l with|nil=>intro b;rfl|cons a l i=>intro b;exact i _
theorem Hu{c a:Type}(f:a->c->ah a)(b:a):nL f [] b=J b:=rfl
theorem Ht{c d:Type}(f:d->c->ah d)(a:c)(l:List c)(b:d):nL f (a::l) b=(f b a).bind (nL f l):=rfl
theorem QF{a:Type}(z:List a):jA 0 z=[]:=rfl
theorem YH{a:Type}(n:Nat)(z:List a):jA (n+1) z=z++jA n z:=by grind[jA,kZ]
theorem FJ{a:Type}(n:Nat)(z:List a):(jA n z).length=n*z.length:=by induction n<;>grind[QF,YH]
theorem YG{a:Type}(n:Nat)(z:List a)(i:Nat)(h:i<n*z.length):(jA n z)[i]?=z[i%z.length]?:=by induction n generalizing i<;>grind[YH,Nat.mod_eq_of_lt,ov,Nat.mod_eq_sub_mod]
theorem akp{b:Type}(f:b->Bool)(a:b)(l:List b):kY f (a::l)=(f a&&kY f l):=by simp[kY]
theorem qf{b:Type}(f:b->Bool)(l:List b):kY f l=l.all f:=by induction l with|nil=>rfl|cons a l i=>grind[akp]
theorem xN:∀l m:aD,xM l m=decide (l=m):=by intro l;induction l with|nil=>intro m;cases m<;>simp[xM]|cons a l i=>
 intro m;rcases m with _|⟨b,t⟩;.rfl
 show(bif aw a b then xM l t else C)=_;by_cases h:a=b<;>simp_all
theorem Dt{a:Type}(l:List a)(o:Nat)(v:List a):fL l o v=l.take o++v++l.drop (o+v.length):=by simp[fL,kZ,pI,ql,dS]
theorem yJ{a:Type}(l:List a)(o:Nat)(v:List a)(h:o+v.length<=l.length):(fL l o v).length=l.length:=by grind[Dt]
theorem yI{a:Type}(l:List a)(o:Nat)(v:List a)(h:o+v.length<=l.length)(i:Nat):(fL l o v)[i]?=if o<=i/\i<o+v.length then v[i-o]? else l[i]?:=by
 rw[Dt];have t:(l.take o).length=o:=by grind
 grind
theorem zC(a b:Int):aj a b=decide (a=b):=by
 have k:∀x y,aw x y=decide (x=y):=λx y=>by grind[JO,AY]
 rcases a with a|a
 . rcases b with b|b;.grind[aj]
   rfl
 cases b<;>simp_all[aj]
theorem BY(k:fN)(n:Int):dI k n=k.wrap n:=by
 unfold dI;split
 . rename_i m;rcases h:cm m _ with _|_;.rfl
   have a:m<9223372036854775808:=by simp_all
   unfold IntKind.wrap;have e:(2^IntKind.i64.bits:Int)=18446744073709551616:=by rfl
   have e2:(2^(IntKind.i64.bits-1):Int)=9223372036854775808:=by rfl
   grind
 rfl
theorem eK(a b:Nat):cm a b=decide (a<b):=by grind[Nat.blt_eq]
theorem dg(a b:Nat):br a b=decide (a<=b):=by grind[Nat.le_of_ble_eq_true,nH]
theorem bE(a b:Nat):aw a b=decide (a=b):=by grind[JO,AY]
theorem Iz(a b:Int):aA a b=decide (a<b):=by
 rcases a with a|a
 . rcases b with b|b;.show cm a b=_;simp[eK]
   rfl
 rcases b with b|b;.show V=_;grind
 show cm b a=_;grind[eK]
structure Pl where
 aY:Nat
 base:Nat
 oc:Nat
 len:Nat
abbrev bc:=Nat->ah Pl
variable{a k x:AV}{cs:Array aC}{ats:Array an}{H H':Heap}{es:List eF}{ms:List kJ}{cap h I r y:Nat}{S:Nat->Prop}{fz:Nat×Nat}{p:Pl}{kv u v xv zv:aC}{P:aG}{l vs:aJ}{xo yo:aK}{w w':aW}{q:ah (Nat×eF)}{hi:ah AV}{base:ah Addr}{e elem kt t vt xt:an}{φ ψ:bc}{fl:fM}{m:kJ}
def vH:aC->Bool|.agg _|.tuple _=>C|_=>V
inductive VR(φ:bc):AV->aC->Prop where|top(n:Int):VR φ .top (.int .i64 n)|bool(b:Bool):VR φ (.bool b) (.bool b)|int(k:fN)(n:Int):VR φ (.int k n) (.int k n)|str(l:List Nat)(s:ByteArray)(h:s.data.toList.map ka=l):VR φ (.str l) (.string s)|eN:VR φ .eN (.pointer Z)|ptr(id I:Nat)(p:Pl)(h:φ id=J p):VR φ (.ptr id I) (.pointer (J ⟨p.aY,p.base+I,Z⟩))|bC:VR φ .bC (.slice Z 0 0)|sl(id I len:Nat)(c:Option Nat)(esz:Nat)(p:Pl)(ad:Addr)(cap:Nat)(h:φ id=J p)(hl:len<=cap)(ht:p.base+I+cap*esz<=p.oc)(hc:∀k,c=J k->cap=k/\I+k*esz<=p.len)(ho:c=Z->p.len<=I+cap*esz)(hr:cap≠0->ad=⟨p.aY,p.base+I,Z⟩)(he:0<esz)(hn:I+len*esz<=p.len):VR φ (.sl id I len c esz) (.slice (J ad) len cap)|fR:VR φ .fR (.map Z)|map(r:Nat)(p:Pl)(h:φ r=J p):VR φ (.map r) (.map (J p.aY))|func(f:bV)(l1 l2:List AV)(c1 c2:Array aC)(h1:l1.length=c1.size)(h2:l2.length=c2.size)(g1:∀(i:Nat)(a:AV)(c:aC),l1[i]?=J a->c1[i]?=J c->VR φ a c)(g2:∀(i:Nat)(a:AV)(c:aC),l2[i]?=J a->c2[i]?=J c->VR φ a c):VR φ (.func f l1 l2) (.func (.func f) c1 c2)|yield(l:Nat)(p:Pl)(h:φ l=J p):VR φ (.yield l) (.func (.yield p.aY) #[] #[])|nilFunc:VR φ .nilFunc .nilFunc|agg(l:List AV)(c:Array aC)(h:l.length=c.size)(hs:∀a,a∈l->a.aV=V)(g:∀(i:Nat)(a:AV)(v:aC),l[i]?=J a->c[i]?=J v->VR φ a v):VR φ (.agg l) (.agg c)|cM(l:List AV)(c:Array aC)(h:l.length=c.size)(g:∀(i:Nat)(a:AV)(v:aC),l[i]?=J a->c[i]?=J v->VR φ a v):VR φ (.cM l) (.tuple c)
def ba(b:bc)(l:aJ)(c:List aC):Prop:=l.length=c.length/\∀(i:Nat)(a:AV)(v:aC),l[i]?=J a->c[i]?=J v->VR b a v
def Ext(a b:bc):Prop:=∀id p,a id=J p->b id=J p
theorem Ext.refl(a:bc):Ext a a:=λ_ _ h=>h
theorem Ext.trans{a b c:bc}(h:Ext a b)(k:Ext b c):Ext a c:=λ_ _ e=>k _ _ (h _ _ e)
theorem VR.mono(h:Ext φ ψ)(r:VR φ a v):VR ψ a v:=by induction r with|top n=>exact .top n|bool b=>exact .bool b|int k n=>exact .int k n|str l s h=>exact .str l s h|eN=>exact .eN|ptr id I p d=>exact .ptr id _ p (h _ _ d)|bC=>exact .bC|sl id I len c z p T cap d e D t A hr u w=>exact .sl id _ _ c _ p _ _ (h _ _ d) e D t A hr u w|fR=>exact .fR|map r p d=>exact .map r p (h _ _ d)|func f l1 l2 j m o q _ _ E F=>exact .func f l1 l2 j m o q ab ab|yield l p d=>exact .yield l p (h _ _ d)|nilFunc=>exact .nilFunc|agg l c e B _ g=>exact .agg l c e B λi a v x y=>g i a v x y|cM l c e _ g=>exact .cM l c e λi a v x y=>g i a v x y
theorem ba.mono(h:Ext φ ψ){c:List aC}(r:ba φ l c):ba ψ l c:=⟨r.1,λi a v x y=>(r.2 i a v x y).mono h⟩
theorem ba.nil(a:bc):ba a [] []:=⟨rfl,aO⟩
theorem ba.cons{c:List aC}(h:VR φ a v)(t:ba φ l c):ba φ (a::l) (v::c):=by
 refine⟨by simp[t.1],λi x y b d=>?_⟩;rcases i with _|i;.grind
 exact t.2 i x y ai ai
theorem ba.cons_inv{c:List aC}(h:ba φ (a::l) c):∃v t,c=v::t/\VR φ a v/\ba φ l t:=by
 rcases c with _|⟨v,t⟩;.have:=h.1;grind
 exact⟨v,t,rfl,h.2 0 a v rfl rfl,by have:=h.1;grind,λi x y b d=>h.2 (i+1) x y ai ai⟩
theorem ba.rG{c:List aC}(h:ba φ [] c):c=[]:=by
 rcases c with _|⟨v,t⟩;.rfl
 have:=h.1;grind
theorem ba.append{m:aJ}{c d:List aC}(h:ba φ l c)(k:ba φ m d):ba φ (l++m) (c++d):=by
 refine⟨by simp[h.1,k.1],λi a v x y=>?_⟩;by_cases hi:i<l.length;.rw[mz hi]at x;rw[mz (by rw[<-h.1];omega)]at y;exact h.2 i a v x y
 .rw[ov ab]at x;rw[ov (by rw[<-h.1];omega),<-h.1]at y;exact k.2 _ a v x y
theorem ba.take{c:List aC}(h:ba φ l c)(n:Nat):ba φ (l.take n) (c.take n):=by
 refine⟨by simp[h.1],λi a v x y=>?_⟩;by_cases hi:i<n;.rw[v7 hi]at x y;exact h.2 i a v x y
 grind
theorem ba.drop{c:List aC}(h:ba φ l c)(n:Nat):ba φ (l.drop n) (c.drop n):=by refine⟨by simp[h.1],λi a v x y=>?_⟩;rw[sS]at x y;exact h.2 _ a v x y
theorem ba.get{c:List aC}(h:ba φ l c){i:Nat}(x:l[i]?=J a):∃v,c[i]?=J v/\VR φ a v:=by
 obtain⟨hi,_⟩:=List.getElem?_eq_some_iff.1 x;have H:i<c.length:=by rw[<-h.1];omega
 exact⟨_,aT,h.2 i a _ x (dD H)⟩
theorem ba.Y1{c w:List aC}(h:ba φ l c)(k:ba φ vs w)(o:Nat):ba φ (fL l o vs) (c.take o++w++c.drop (o+w.length)):=by rw[Dt,k.1];exact((h.take _).append k).append (h.drop _)
theorem VR.aV(h:VR φ a v)(b:a.aV=V):vH v=V:=by cases h<;>first|rfl|assumption|simp[AV.aV]at b
theorem VR.cells(h:VR φ a v)(d:a.cells=J l):ba φ l v.cells.toList/\(∀x,x∈l->x.aV=V):=by cases h with|top v=>grind[AV.cells]|cM l c j g=>grind[AV.cells]|agg l c j E g=>simp[AV.cells]at d;subst d;exact⟨⟨by grind[Value.cells],λi a v x y=>g i a v x (by grind[Value.cells])⟩,E⟩|bool b=>simp[AV.cells]at d;subst d;exact⟨ba.cons (.bool b) (ba.nil φ),by simp[AV.aV]⟩|int k n=>simp[AV.cells]at d;subst d;exact⟨ba.cons (.int k n) (ba.nil φ),by simp[AV.aV]⟩|str l s h=>simp[AV.cells]at d;subst d;exact⟨ba.cons (.str l s h) (ba.nil φ),by simp[AV.aV]⟩|eN=>simp[AV.cells]at d;subst d;exact⟨ba.cons .eN (ba.nil φ),by simp[AV.aV]⟩|ptr id I p e=>simp[AV.cells]at d;subst d;exact⟨ba.cons (.ptr id _ p e) (ba.nil φ),by simp[AV.aV]⟩|bC=>simp[AV.cells]at d;subst d;exact⟨ba.cons .bC (ba.nil φ),by simp[AV.aV]⟩|sl id I len c z p T cap e j u A D hr w B=>simp[AV.cells]at d;subst d;exact⟨ba.cons (.sl id _ _ c _ p _ _ e j u A D hr w B) (ba.nil φ),by simp[AV.aV]⟩|fR=>simp[AV.cells]at d;subst d;exact⟨ba.cons .fR (ba.nil φ),by simp[AV.aV]⟩|map r p e=>simp[AV.cells]at d;subst d;exact⟨ba.cons (.map r p e) (ba.nil φ),by simp[AV.aV]⟩|func f l1 l2 m o q t g1 g2=>simp[AV.cells]at d;subst d;exact⟨ba.cons (.func f l1 l2 m o q t g1 g2) (ba.nil φ),by simp[AV.aV]⟩|yield l p e=>simp[AV.cells]at d;subst d;exact⟨ba.cons (.yield l p e) (ba.nil φ),by simp[AV.aV]⟩|nilFunc=>simp[AV.cells]at d;subst d;exact⟨ba.cons .nilFunc (ba.nil φ),by simp[AV.aV]⟩
theorem ba.agg{c:List aC}(h:ba φ l c)(s:∀x,x∈l->x.aV=V)(a:Array aC)(b:a.toList=c):VR φ (.agg l) (.agg a):=by subst b;exact .agg l a (by simpa using h.1) s λi x v d e=>h.2 i x v d aT
theorem VR.xA(h:VR φ (.agg l) v):∃c,v=.agg c/\ba φ l c.toList/\∀x,x∈l->x.aV=V:=by cases h with|agg l c b s g=>exact⟨c,rfl,⟨ab,λi a v x y=>g i a v x ai⟩,s⟩
theorem VR.aKk(h:VR φ (.cM l) v):∃c,v=.tuple c/\ba φ l c.toList:=by cases h with|cM l c b g=>exact⟨c,rfl,ab,λi a v x y=>g i a v x ai⟩
theorem ba.cM{c:List aC}(h:ba φ l c)(a:Array aC)(b:a.toList=c):VR φ (.cM l) (.tuple a):=by subst b;exact .cM l a (by simpa using h.1) λi x v d e=>h.2 i x v d aT
theorem Vk(h:C8 v=J a):VR φ a v/\a.aV=V:=by
 unfold C8 at h;split at h<;>simp at h<;>subst h;.exact⟨.bool _,rfl⟩
 .exact⟨.int _ _,rfl⟩
 .exact⟨.str _ _ rfl,rfl⟩
 .exact⟨.eN,rfl⟩
 .exact⟨.bC,rfl⟩
 .exact⟨.fR,rfl⟩
 .exact⟨.nilFunc,rfl⟩
theorem Vl(h:wU v=J a):VR φ a v:=by
 unfold wU at h;split at h
 . rename_i cs;rcases m:cu C8 cs.toList with _|l;.grind
   simp[m]at h;subst h;obtain⟨g,d⟩:=E3 m;refine .agg l cs ai ?_ ?_;.intro x f;obtain⟨i,hi⟩:=List.mem_iff_getElem?.1 f;have H:i<cs.toList.length:=ai;obtain⟨b,e,j⟩:=d i _ (dD H);rw[hi]at j;simp at j;subst j;exact(Vk (φ:=φ) e).2
   .intro i x c f k;obtain⟨b,e,j⟩:=d i c ai;grind[Vk]
 grind[Vk]
theorem aC4(h:wU v=J a):a≠.top:=by
 intro e;unfold wU at h;split at h;.simp_all
 .unfold C8 at h;grind
def gl:List (aJ×an):=[([.bool V,.bool V,.bool V,.bool C,.bool C,.bool C,.bool V,.bool C,.bool C,.bool C,.bool V,.bool V,.bool V,.bool C,.bool V,.bool V],309),([.int .i64 0,.int .i64 0,.bool V,.bool V,.bool C,.bool C,.int .i64 2,.int .i64 64,.bool C,.bool C,.bool C,.bool C,.int .i64 2,.int .i64 64,.bool C,.bool C,.bool C,.bool C,.int .i64 2,.int .i64 64,.bool C,.bool C,.bool C,.bool C,.int .i64 1,.int .i64 1,.bool C,.bool C,.bool C,.bool C,.int .i64 1,.int .i64 1,.bool V,.bool V,.bool V,.bool C,.int .i64 1,.int .i64 1,.bool C,.bool C,.bool V,.bool V,.int .i64 1,.int .i64 1,.bool C,.bool V,.bool C,.bool C,.int .i64 2,.int .i64 2,.bool C,.bool C,.bool C,.bool C,.int .i64 1,.int .i64 1,.bool V,.bool V,.bool V,.bool C,.int .i64 1,.int .i64 1,.bool C,.bool C,.bool V,.bool V],334),([.top],3),([.int .u64 1,.int .u64 10,.int .u64 100,.int .u64 1000,.int .u64 10000,.int .u64 100000,.int .u64 1000000,.int .u64 10000000,.int .u64 100000000,.int .u64 1000000000,.int .u64 10000000000,.int .u64 100000000000,.int .u64 1000000000000,.int .u64 10000000000000,.int .u64 100000000000000,.int .u64 1000000000000000,.int .u64 10000000000000000,.int .u64 100000000000000000,.int .u64 1000000000000000000,.int .u64 10000000000000000000],665),([.int .u8 0,.int .u8 1,.int .u8 28,.int .u8 2,.int .u8 29,.int .u8 14,.int .u8 24,.int .u8 3,.int .u8 30,.int .u8 22,.int .u8 20,.int .u8 15,.int .u8 25,.int .u8 17,.int .u8 4,.int .u8 8,.int .u8 31,.int .u8 27,.int .u8 13,.int .u8 23,.int .u8 21,.int .u8 19,.int .u8 16,.int .u8 7,.int .u8 26,.int .u8 12,.int .u8 18,.int .u8 6,.int .u8 11,.int .u8 5,.int .u8 10,.int .u8 9],671),([.int .u8 0,.int .u8 1,.int .u8 56,.int .u8 2,.int .u8 57,.int .u8 49,.int .u8 28,.int .u8 3,.int .u8 61,.int .u8 58,.int .u8 42,.int .u8 50,.int .u8 38,.int .u8 29,.int .u8 17,.int .u8 4,.int .u8 62,.int .u8 47,.int .u8 59,.int .u8 36,.int .u8 45,.int .u8 43,.int .u8 51,.int .u8 22,.int .u8 53,.int .u8 39,.int .u8 33,.int .u8 30,.int .u8 24,.int .u8 18,.int .u8 12,.int .u8 5,.int .u8 63,.int .u8 55,.int .u8 48,.int .u8 27,.int .u8 60,.int .u8 41,.int .u8 37,.int .u8 16,.int .u8 46,.int .u8 35,.int .u8 44,.int .u8 21,.int .u8 52,.int .u8 32,.int .u8 23,.int .u8 11,.int .u8 54,.int .u8 26,.int .u8 40,.int .u8 15,.int .u8 34,.int .u8 20,.int .u8 31,.int .u8 10,.int .u8 25,.int .u8 14,.int .u8 19,.int .u8 9,.int .u8 13,.int .u8 8,.int .u8 7,.int .u8 6],672)]
open Go
def rootOf(H:Heap)(i:Nat):Nat:=match H.get i with|some (.cells _ r _ _)=>r|_=>i
def fI(H:Heap)(i:Nat):Prop:=∃l r e,H.get i=J (.cells l r .ro e)
def jb(H:Heap)(i:Nat):Prop:=∀l r fl e,H.get i=J (.cells l r fl e)->(H.bn r).1<=i
def vW(a:bc)(e:eF)(m:kJ):Prop:=VR a e.1 m.key/\VR a e.2.1 m.val/\m.born=e.2.2
def mZ(a:bc)(l:List eF)(m:List kJ):Prop:=l.length=m.length/\∀(i:Nat)(e:eF)(x:kJ),l[i]?=J e->m[i]?=J x->vW a e x
inductive DW(φ:bc):Nh->Target->Prop where|fn(f:bV)(l:List AV)(c:Array aC)(h:ba φ l c.toList):DW φ (.fn f l) (.fn (.func f) c)|yield(l:Nat)(p:Pl)(h:φ l=J p):DW φ (.yield l) (.fn (.yield p.aY) #[])|builtin(b:Builtin)(ts:Array an)(t:an)(cs:Array Bool):DW φ (.builtin b ts) (.builtin b ts t cs)
structure ajs(φ:bc)(d:Rv)(e:Deferred):Prop where
 target:DW φ d.target e.target
 args:ba φ d.args e.args.toList
def yX(a:bc):aD->List Deferred->Prop|[],[]=>True|r::l,x::m=>(∃p,a r=J p/\x=⟨.collected p.aY,#[]⟩)/\yX a l m|_,_=>False
def qW(a:bc)(n:Nat)(t:Tr AV)(c:Array aC):Prop:=c.size=n/\∀i,VR a ((t.get i).getD fo) (c.getD i undef)
structure GG(φ:bc)(a:AA)(r:Loop):Prop where
 state:r.state=a.state
 pending:r.pending=a.pending
 fn:r.fn=a.fn
 tmps:qW φ a.n a.tmps r.tmps
 params:r.params.toList=a.params
 assign:r.assign=a.assign
 body:r.body=a.body
 defers:∃p,φ a.defers=J p/\r.defers=p.aY
def lY(f:bc)(w:aW)(o:b9)(p:Pl):Prop:=match o with|.cells l _ fl e=>∃cs fz e1,w.heap[p.aY]?=J (.cells cs e1 fz)/\cs.size=p.oc/\p.base+p.len<=p.oc/\(∀(i:Nat)(a:AV),l[i]?=J a->∃c,cs[p.base+i]?=J c/\VR f a c)/\(∀a,a∈l->a.aV=V)/\(fl≠.ro->fz=(0,0)/\e1=e)/\(fl=.ex->p.base=0/\p.oc=p.len)|.map es k=>p.base=0/\∃d:Array kJ,w.heap[p.aY]?=J (.map d k)/\mZ f es d.toList|.mapIter m s seen D=>p.base=0/\∃g:ah Nat,w.heap[p.aY]?=J (.mapIter g s seen.toArray D)/\(match m with|none=>g=Z|some r=>∃q,f r=J q/\g=J q.aY)|.loop r=>p.base=0/\∃R:Loop,w.heap[p.aY]?=J (.loop R)/\GG f r R|.deferred b=>p.base=0/\w.heap[p.aY]?=J (.deferred (bif b then J []else Z))
structure bg(H:Heap):Prop where
 get:∀id o,H.get id=J o->id<H.next
 root:∀id l r fl e,H.get id=J (.cells l r fl e)->r<=id/\id<=(H.bn r).2
 nZ:∀id l r fl e,H.get id=J (.cells l r fl e)->∃l' fl' e',H.get r=J (.cells l' r fl' e')dp:∀r f,H.dp.get r=J f->r<H.next/\f.2<H.next
 bu:H.bu<=H.next
structure Stat(φ:bc)(H:Heap)(n:Nat):Prop where
 cw:∀id p,φ id=J p->p.aY<n/\(H.get id).isSome
 len:∀id p l r fl e,φ id=J p->H.get id=J (.cells l r fl e)->l.length=p.len
 inj:∀i j p q,φ i=J p->φ j=J q->p.aY=q.aY->¬fI H i->rootOf H i=rootOf H j
 mono:∀i j p q,φ i=J p->φ j=J q->p.aY=q.aY->(¬fI H i\/¬fI H j)->i<j->p.base+p.len<=q.base+q.len
structure bM(S:Nat->Prop)(φ:bc)(H:Heap)(w:aW):Prop where
 stat:Stat φ H w.heap.size
 obj:∀id p o,φ id=J p->S (rootOf H id)->jb H id->H.get id=J o->lY φ w o p
def qO(o b:b9):Prop:=(∀l r fl e,o=.cells l r fl e->∃a f,b=.cells a r f e/\a.length=l.length)/\((∀l r fl e,o≠.cells l r fl e)->∀l r fl e,b≠.cells l r fl e)
theorem qO.refl(o:b9):qO o o:=⟨λl r fl e h=>⟨l,fl,h,rfl⟩,λh=>h⟩
theorem qO.trans{a b c:b9}(h:qO a b)(k:qO b c):qO a c:=by refine⟨λl r fl e d=>?_,λd=>k.2 (h.2 d)⟩;obtain⟨i,f,g,j⟩:=h.1 l r fl e d;obtain⟨l2,x,n,m⟩:=k.1 i r _ e g;grind
structure Fr(φ:bc)(H:Heap)(w:aW)(ψ:bc)(H':Heap)(w':aW):Prop where
 ext:Ext φ ψ
 size:w.heap.size<=w'.heap.size
 os:w'.os=w.os
 tape:w'.tape=w.tape
 output:w'.output=w.output
 next:H.next<=H'.next
 bu:H'.bu=H.bu
 bT:∀r,r∈H.bT->r∈H'.bT
 cG:∀r,r∈H.cG->r∈H'.cG
 root:∀id,id<H.next->rootOf H' id=rootOf H id
 view:∀id o,id<H.next->rootOf H id<H.bu->rootOf H id∉H'.bT->H.get id=J o->H'.get id=J o/\(jb H id->jb H' id)/\(jb H' id->jb H id)nh:∀b,b<w.heap.size->w'.heap[b]?=w.heap[b]?\/∃id p,φ id=J p/\p.aY=b/\¬fI H id/\(H.bu<=rootOf H id\/rootOf H id∈H'.bT\/rootOf H id∈H'.cG)new:∀id p,ψ id=J p->φ id=Z->H.next<=id/\(w.heap.size<=p.aY\/∃j q,φ j=J q/\q.aY=p.aY/\¬fI H j/\rootOf H j=rootOf H' id/\(H.bu<=rootOf H j\/rootOf H j∈H'.cG))ro:∀id,id<H.next->fI H id->fI H' id
 keep:∀id o,id<H.next->H.get id=J o->∃o',H'.get id=J o'/\qO o o'
 cover:∀id,H.next<=id->id<H'.next->∃p,ψ id=J p
 mi:∀id p,ψ id=J p->φ id=Z->rootOf H' id<H.bu->rootOf H' id∈H'.cG/\∃j q,φ j=J q/\rootOf H j=rootOf H' id
 uK:∀r,r∈H'.bT->r∈H.bT\/(r<H.bu/\∃id p,φ id=J p/\rootOf H id=r)uT:∀r,r∈H'.cG->r∈H.cG\/(r<H.bu/\∃id p,φ id=J p/\rootOf H id=r)
theorem Fr.refl(b:bc)(H:Heap)(w:aW):Fr b H w b H w where
 ext:=Ext.refl b
 size:=bJ _
 os:=rfl
 tape:=rfl
 output:=rfl
 next:=bJ _
 bu:=rfl
 bT:=λ_ h=>h
 cG:=λ_ h=>h
 root:=λ_ _=>rfl
 view:=λ_ _ _ _ _ h=>⟨h,λh=>h,λh=>h⟩
 nh:=λ_ _=>.inl rfl
 new:=λid p h a=>by rw[h]at a;simp at a
 ro:=λ_ _ h=>h
 keep:=λ_ o _ h=>⟨o,h,qO.refl o⟩
 cover:=λid h a=>ab
 mi:=λid p h a=>by rw[h]at a;simp at a
 uK:=λ_ h=>.inl h
 uT:=λ_ h=>.inl h
theorem Fr.trans{χ:bc}{H1 N:Heap}{Y w2:aW}(h:Fr φ H w ψ H1 Y)(k:Fr ψ H1 Y χ N w2)(z:∀id p,φ id=J p->id<H.next)(Q:∀id p,ψ id=J p->id<H1.next):Fr φ H w χ N w2 where
 ext:=h.ext.trans k.ext
 size:=fX h.size k.size
 os:=k.os.trans h.os
 tape:=k.tape.trans h.tape
 output:=k.output.trans h.output
 next:=fX h.next k.next
 bu:=k.bu.trans h.bu
 bT:=λr hr=>k.bT r (h.bT r hr)
 cG:=λr hr=>k.cG r (h.cG r hr)
 root:=λid hid=>(k.root id (gi hid h.next)).trans (h.root id hid)
 view:=λid o hid U X L=>by have hr:=h.root id hid;obtain⟨a1,a2,a3⟩:=h.view id o hid U (λA=>X (k.bT _ A)) L;obtain⟨b1,b2,b3⟩:=k.view id o (gi hid h.next) (by rw[hr,h.bu];exact U) (by rw[hr];exact X) a1;exact⟨b1,λx=>b2 (a2 x),λx=>a3 (b3 x)⟩
 nh:=λb R=>by
  rcases k.nh b (gi R h.size)with e|⟨id,p,v,D,G,l⟩
  . rcases h.nh b R with e'|⟨id,p,v,D,G,l⟩;.exact .inl (e.trans e')
    . refine .inr ⟨id,p,v,D,G,?_⟩;rcases l with l|l|l;.exact .inl l
      .exact .inr (.inl (k.bT _ l))
      .exact .inr (.inr (k.cG _ l))
  .cases f:φ id with|some q=>
      have:=h.ext id q f;rw[v]at this;obtain rfl:p=q:=by simpa using this
      have hid:=z id p f;rw[h.root id hid,h.bu]at l;exact .inr ⟨id,p,f,D,λA=>G (h.ro id hid A),l⟩|none=>
      obtain⟨_,T⟩:=h.new id p v f;rcases T with T|⟨j,q,u,s,y,P,S⟩;.omega
      . refine .inr ⟨j,q,u,by rw[s];exact D,y,?_⟩;rcases S with S|S;.exact .inl S
        .exact .inr (.inr (k.cG _ S))
 new:=λid p m f=>by cases g:ψ id with
  |some B=>
    have:=k.ext id B g;rw[m]at this;obtain rfl:p=B:=by simpa using this
    obtain⟨n,i⟩:=h.new id p g f;refine⟨n,?_⟩;rcases i with i|⟨j,q,u,s,y,P,S⟩;.exact .inl i
    . refine .inr ⟨j,q,u,s,y,by rw[k.root id (Q id p g)];exact P,?_⟩;rcases S with S|S;.exact .inl S
      .exact .inr (k.cG _ S)|none=>
    obtain⟨n,i⟩:=k.new id p m g;refine⟨fX h.next n,?_⟩;rcases i with i|⟨j,q,u,s,y,P,S⟩;.exact .inl (fX h.size i)
    .cases W:φ j with|some t=>
        have:=h.ext j t W;rw[u]at this;obtain rfl:q=t:=by simpa using this
        have O:=z j q W;rw[h.root j O]at P;rw[h.root j O,h.bu]at S;exact .inr ⟨j,q,W,s,λA=>y (h.ro j O A),P,S⟩|none=>
        obtain⟨_,I⟩:=h.new j q u W;rcases I with I|⟨j0,q0,Bj,M,E,F,K⟩;.exact .inl (by rw[<-s];exact I)
        . refine .inr ⟨j0,q0,Bj,M.trans s,E,F.trans P,?_⟩;rcases K with K|K;.exact .inl K
          .exact .inr (k.cG _ K)
 ro:=λid hid hr=>k.ro id (gi hid h.next) (h.ro id hid hr)
 keep:=λid o hid L=>by obtain⟨o1,n,l1⟩:=h.keep id o hid L;obtain⟨o2,i,l2⟩:=k.keep id o1 (gi hid h.next) n;exact⟨o2,i,l1.trans l2⟩
 cover:=λid n i=>by
  by_cases bU:id<H1.next;.obtain⟨p,v⟩:=h.cover id n bU;exact⟨p,k.ext _ _ v⟩
  .exact k.cover id ab i
 mi:=λid p m f hr=>by cases g:ψ id with|some B=>have e:=k.root id (Q id B g);rw[e]at hr;obtain⟨a,j,q,b,c⟩:=h.mi id B g f hr;rw[e];exact⟨k.cG _ a,j,q,b,c⟩|none=>obtain⟨a,j,q,b,c⟩:=k.mi id p m g (by rw[h.bu];exact hr);refine⟨a,?_⟩;cases W:φ j with|some t=>exact⟨j,t,W,by rw[<-h.root j (z j t W)];exact c⟩|none=>obtain⟨_,j',t,b',c'⟩:=h.mi j q b W (by rw[c];exact hr);exact⟨j',t,b',c'.trans c⟩
 uK:=λr hr=>by
  rcases k.uK r hr with x|⟨x,id,p,a,b⟩;.exact h.uK r x
  .rw[h.bu]at x;cases f:φ id with|some q=>exact .inr ⟨x,id,q,f,by rw[<-h.root id (z id q f)];exact b⟩|none=>obtain⟨_,j,q,c,d⟩:=h.mi id p a f (by rw[b];exact x);exact .inr ⟨x,j,q,c,d.trans b⟩
 uT:=λr hr=>by
  rcases k.uT r hr with x|⟨x,id,p,a,b⟩;.exact h.uT r x
  .rw[h.bu]at x;cases f:φ id with|some q=>exact .inr ⟨x,id,q,f,by rw[<-h.root id (z id q f)];exact b⟩|none=>obtain⟨_,j,q,c,d⟩:=h.mi id p a f (by rw[b];exact x);exact .inr ⟨x,j,q,c,d.trans b⟩
theorem mZ.mono(h:Ext φ ψ){l:List eF}{m:List kJ}(r:mZ φ l m):mZ ψ l m:=⟨r.1,λi e x a b=>let⟨p,q,s⟩:=r.2 i e x a b;⟨p.mono h,q.mono h,s⟩⟩
theorem DW.mono(h:Ext φ ψ){a:Nh}{t:Target}(r:DW φ a t):DW ψ a t:=by
 rcases r with⟨f,l,c,d⟩|⟨l,p,e⟩|⟨b,s,t,cs⟩;.exact .fn f l c (d.mono h)
 .exact .yield l p (h _ _ e)
 exact .builtin b s t cs
theorem yX.mono(h:Ext φ ψ):∀{l:aD}{m:List Deferred},yX φ l m->yX ψ l m|[],[],_=>trivial|_::_,_::_,⟨⟨p,a,b⟩,r⟩=>⟨⟨p,h _ _ a,b⟩,r.mono h⟩|[],_::_,r|_::_,[],r=>r
theorem qW.mono(h:Ext φ ψ){n:Nat}{t:Tr AV}{c:Array aC}(r:qW φ n t c):qW ψ n t c:=⟨r.1,λi=>(r.2 i).mono h⟩
theorem GG.mono(h:Ext φ ψ){a:AA}{r:Loop}(k:GG φ a r):GG ψ a r:=⟨k.state,k.pending,k.fn,k.tmps.mono h,k.params,k.assign,k.body,let⟨p,b,e⟩:=k.defers;⟨p,h _ _ b,e⟩⟩
theorem lY.mono(h:Ext φ ψ){o:b9}(g:w'.heap[p.aY]?=w.heap[p.aY]?)(r:lY φ w o p):lY ψ w' o p:=by
 rcases o with⟨l,root,fl,e⟩|⟨es,k⟩|⟨m,s,seen,E⟩|a|c;.obtain⟨cs,fz,n,b,d,t,u,v,x,y⟩:=r;exact⟨cs,fz,n,g.trans b,d,t,λi a hi=>let⟨c,z,B⟩:=u i a hi;⟨c,z,B.mono h⟩,v,x,y⟩
 .obtain⟨f,j,b,d⟩:=r;exact⟨f,_,g.trans b,d.mono h⟩
 . obtain⟨f,D,b,d⟩:=r;refine⟨f,D,g.trans b,?_⟩;rcases m with _|r;.omega
   obtain⟨q,A,e⟩:=d;exact⟨q,h _ _ A,e⟩
 .obtain⟨f,R,b,d⟩:=r;exact⟨f,R,g.trans b,d.mono h⟩
 exact⟨r.1,g.trans r.2⟩
def fp(a:bc)(d:Nat)(p:Pl):bc:=λi=>if i=d then J p else a i
theorem jD(a:bc)(i:Nat)(p:Pl):fp a i p i=J p:=by simp[fp]
theorem kW(a:bc){d i:Nat}(p:Pl)(h:i≠d):fp a d p i=a i:=by grind[fp]
theorem ai6{d:Nat}(p:Pl)(h:φ d=Z):Ext φ (fp φ d p):=λi q a=>by grind[kW]
def World.push(w:aW)(o:Obj):aW:={w with heap:=w.heap.push o}
def World.eU(w:aW)(b:Nat)(o:Obj):aW:={w with heap:=w.heap.setIfInBounds b o}
theorem Dg(w:aW)(o:Obj):(World.push w o).heap.size=w.heap.size+1:=by simp[World.push]
theorem FA(w:aW)(o:Obj){b:Nat}(h:b<w.heap.size):(World.push w o).heap[b]?=w.heap[b]?:=by grind[World.push]
theorem wX(w:aW)(o:Obj):(World.push w o).heap[w.heap.size]?=J o:=by show(w.heap.push o)[w.heap.size]?=J o;simp
theorem BT(w:aW)(b:Nat)(o:Obj):(World.eU w b o).heap.size=w.heap.size:=by simp[World.eU]
theorem Aq(w:aW){b:Nat}(o:Obj)(h:b<w.heap.size):(World.eU w b o).heap[b]?=J o:=by grind[World.eU]
theorem BS(w:aW){b c:Nat}(o:Obj)(h:c≠b):(World.eU w b o).heap[c]?=w.heap[c]?:=by grind[World.eU]
def more(S:Nat->Prop)(n:Nat):Nat->Prop:=λr=>S r\/n<=r
theorem bg.Vb(h:bg H){i:Nat}(n:H.next<=i):H.get i=Z:=by
 rcases e:H.get i with _|o;.rfl
 have:=h.get i o e;omega
theorem Stat.lt{n:Nat}(h:Stat φ H n)(a:bg H){i:Nat}(e:φ i=J p):i<H.next:=by
 obtain⟨_,s⟩:=h.cw i p e;rcases g:H.get i with _|o;.grind
 exact a.get i o g
theorem Stat.Vb{n:Nat}(h:Stat φ H n)(a:bg H){i:Nat}(b:H.next<=i):φ i=Z:=by
 rcases e:φ i with _|p;.rfl
 have:=h.lt a e;omega
theorem qG{H:Heap}(h:bg H){i:Nat}(d:i<H.next):rootOf H i<H.next:=by
 unfold rootOf;split;.rename_i l r fl e g;have:=(h.root i l r fl e g).1;omega
 omega
theorem me(H:Heap)(o:b9):(H.alloc o).get H.next=J o:=Tr.lh _ _ _
theorem nq(H:Heap)(o:b9){i:Nat}(h:i≠H.next):(H.alloc o).get i=H.get i:=Tr.jr _ _ (Ne.symm h)
theorem acU(H:Heap)(o:b9)(r:Nat):(H.alloc o).bn r=H.bn r:=rfl
theorem A6(h:bg H)(a:H.next<=r):H.bn r=(0,r):=by
 unfold Heap.bn;rcases e:H.dp.get r with _|f;.rfl
 have:=(h.dp r f e).1;omega
theorem bM.same(h:bM S φ H w)(e:w'.heap=w.heap):bM S φ H w':=⟨by rw[e];exact h.stat,λid p o a b c d=>(h.obj id p o a b c d).mono (Ext.refl φ) ai⟩
theorem Fr.same(e:w'.heap=w.heap)(a:w'.os=w.os)(c:w'.tape=w.tape)(d:w'.output=w.output):Fr φ H w φ H w':={Fr.refl φ H w with
 size:=ai
 os:=a
 tape:=c
 output:=d
 nh:=λb _=>.inl ai
 new:=λid p h f=>by grind}
theorem we(i:bg H)(o:b9)(c:∀l r fl e,o=.cells l r fl e->r=H.next):bg (H.alloc o)where
 get:=λid b h=>by
  show id<H.next+1;by_cases e:id=H.next;.omega
  .rw[nq H o e]at h;have:=i.get id b h;omega
 root:=λid l r fl e h=>by
  rw[acU];by_cases n:id=H.next;.subst n;rw[me]at h;have:=c l r fl e (by simpa using h);subst this;rw[A6 i (bJ _)];exact⟨bJ _,bJ _⟩
  .rw[nq H o n]at h;exact i.root id l r fl e h
 nZ:=λid l r fl e h=>by
  by_cases n:id=H.next
  . subst n;rw[me]at h;have:=c l r fl e (by simpa using h);subst this;have a:o=.cells l H.next fl e:=by simpa using h
    exact⟨l,fl,e,by rw[me,a]⟩
  .rw[nq H o n]at h;have hr:=(i.root id l r fl e h).1;have hid:=i.get id _ h;rw[nq H o ab];exact i.nZ id l r fl e h
 dp:=λr f h=>by have:=i.dp r f h;exact⟨Nat.lt_succ_of_lt this.1,Nat.lt_succ_of_lt this.2⟩
 bu:=Nat.le_succ_of_le i.bu
theorem QL(o:b9){i:Nat}(h:i≠H.next):rootOf (H.alloc o) i=rootOf H i:=by grind[rootOf,nq]
theorem UC(o:b9){i:Nat}(h:i≠H.next):fI (H.alloc o) i↔fI H i:=by grind[fI,nq]
theorem Z3(o:b9){i:Nat}(h:i≠H.next):jb (H.alloc o) i↔jb H i:=by grind[jb,nq,acU]
theorem JJ(d:bg H)(s:bM S φ H w)(o:b9)(O:Obj)(p:Pl)(G:p.aY=w.heap.size)(A:∀l r fl e,o=.cells l r fl e->r=H.next/\l.length=p.len)(D:lY φ (World.push w O) o p):bg (H.alloc o)/\bM (more S H.next) (fp φ H.next p) (H.alloc o) (World.push w O)/\Fr φ H w (fp φ H.next p) (H.alloc o) (World.push w O):=by
 have B:=s.stat.Vb d (bJ _);have m:=ai6 p B;have x:=we d o λl r fl e h=>(A l r fl e h).1;have M:rootOf (H.alloc o) H.next=H.next:=by grind[rootOf,me]
 refine⟨x,⟨⟨?_,?_,?_,?_⟩,?_⟩,?_⟩
 . intro id q a;by_cases e:id=H.next;.grind[jD,Dg,me]
   .rw[kW φ p e]at a;obtain⟨y,u⟩:=s.stat.cw id q a;grind[Dg,nq]
 . intro id q l r fl e a g;by_cases n:id=H.next;.grind[jD,me]
   .rw[kW φ p n]at a;rw[nq H o n]at g;exact s.stat.len id q l r fl e a g
 . intro i j q r a hr k t;by_cases c:i=H.next
   . subst c;rw[jD]at a;obtain rfl:p=q:=ai;by_cases b:j=H.next;.grind
     .rw[kW φ p b]at hr;have:=(s.stat.cw j r hr).1;omega
   . rw[kW φ p c]at a;by_cases b:j=H.next;.subst b;rw[jD]at hr;obtain rfl:p=r:=ai;have:=(s.stat.cw i q a).1;omega
     .rw[kW φ p b]at hr;rw[QL o c,QL o b];exact s.stat.inj i j q r a hr k λh=>t ((UC o c).2 h)
 . intro i j q r a hr k t P;by_cases c:i=H.next;.subst c;rw[jD]at a;obtain rfl:p=q:=ai;rw[kW φ p ab]at hr;have:=(s.stat.cw j r hr).1;omega
   . rw[kW φ p c]at a;by_cases b:j=H.next;.subst b;rw[jD]at hr;obtain rfl:p=r:=ai;have:=(s.stat.cw i q a).1;omega
     .rw[kW φ p b]at hr;refine s.stat.mono i j q r a hr k ?_ P;grind[UC]
 . intro id q f a v z g;by_cases n:id=H.next;.subst n;rw[jD]at a;obtain rfl:p=q:=ai;rw[me]at g;obtain rfl:o=f:=ai;exact D.mono m rfl
   . rw[kW φ p n]at a;rw[nq H o n]at g;have hid:=s.stat.lt d a;rw[QL o n]at v;have T:S (rootOf H id):=by
      rcases v with h|h;.omega
      .have:=qG d hid;omega
     refine(s.obj id q f a T ((Z3 o n).1 z) g).mono m (FA w O (s.stat.cw id q a).1)
 . refine{ext:=m,size:=by simp[Dg],os:=rfl,tape:=rfl,output:=rfl,next:=JA _,bu:=rfl,bT:=λ_ h=>h,cG:=λ_ h=>h,root:=?_,view:=?_,nh:=?_,new:=?_,ro:=?_,keep:=λid f hid g=>⟨f,by grind[nq],qO.refl f⟩,cover:=λid y u=>⟨p,by have F:id<H.next+1:=u;grind[jD]⟩,mi:=?_,uK:=λ_ h=>.inl h,uT:=λ_ h=>.inl h};.grind[QL]
   .grind[nq,Z3]
   .grind[FA]
   .grind[jD,kW]
   .grind[UC]
   . intro id q a E hr;by_cases n:id=H.next;.subst n;have:=d.bu;omega
     grind[kW]
def b9.eu:b9->Bool|.cells ..=>V|_=>C
theorem pY{i:Nat}{l r f e}(h:H.get i=J (.cells l r f e)):rootOf H i=r:=by grind[rootOf]
theorem yC{i:Nat}{o:b9}(h:H.get i=J o)(a:o.eu=C):rootOf H i=i:=by grind[rootOf,b9.eu]
theorem nM(H:Heap)(i r:Nat)(o:b9):(H.dJ i r o).get i=J o:=by unfold Heap.dJ;cases aw _ i<;>exact Tr.lh _ _ _
theorem nr(H:Heap){d:Nat}(r:Nat)(o:b9){i:Nat}(h:i≠d):(H.dJ d r o).get i=H.get i:=by unfold Heap.dJ;cases aw _ d<;>exact Tr.jr _ _ (Ne.symm h)
theorem wS(H:Heap)(i r:Nat)(o:b9):(H.dJ i r o).next=H.next:=by unfold Heap.dJ;cases aw _ i<;>rfl
theorem BW(H:Heap)(i r:Nat)(o:b9):(H.dJ i r o).bu=H.bu:=by unfold Heap.dJ;cases aw _ i<;>rfl
theorem xV(H:Heap)(i r:Nat)(o:b9):(H.dJ i r o).cG=H.cG:=by unfold Heap.dJ;cases aw _ i<;>rfl
theorem xh(H:Heap)(i r:Nat)(o:b9):(H.dJ i r o).bT=Heap.note H.bu r H.bT:=by unfold Heap.dJ;cases aw _ i<;>rfl
theorem Hp(H:Heap)(i t:Nat)(o:b9)(h:r≠t):(H.dJ i t o).bn r=H.bn r:=by unfold Heap.dJ Heap.bn;cases aw _ i with|true=>rfl|false=>simp only[bS];rw[Tr.jr _ _ (Ne.symm h)];rfl
theorem Ed(H:Heap)(i:Nat)(o:b9):(H.dJ i i o).bn i=H.bn i:=by unfold Heap.dJ Heap.bn;rw[JO rfl];rfl
theorem On(H:Heap){i r:Nat}(o:b9)(h:r≠i):(H.dJ i r o).bn r=(i,i):=by grind[Heap.dJ,Heap.bn,AY,Tr.lh]
theorem PZ{b x:Nat}{l:aD}:x∈l->x∈Heap.note b r l:=by grind[Heap.note]
theorem vn{b x:Nat}{l:aD}(h:x∈Heap.note b r l):x∈l\/(x=r/\x<b):=by grind[Heap.note,eK]
theorem Fg{b:Nat}(l:aD)(h:r<b):r∈Heap.note b r l:=by grind[Heap.note,eK]
theorem ahE(m:bg H)(u:bM S φ H w){d:Nat}{a:b9}(o:b9)(O:Obj)(hp:φ d=J p)(P:H.get d=J a)(eC:¬fI H d)(CH:∀l r fl e,a=.cells l r fl e->(H.bn r).1<=d/\(H.bn r).2=d/\∃z b,o=.cells z r b e/\z.length=l.length)(aep:a.eu=C->o.eu=C)(ho:lY φ (World.eU w p.aY O) o p):bg (H.dJ d (rootOf H d) o)/\bM S φ (H.dJ d (rootOf H d) o) (World.eU w p.aY O)/\Fr φ H w φ (H.dJ d (rootOf H d) o) (World.eU w p.aY O):=by
 obtain⟨root,X⟩:∃root,root=rootOf H d:=⟨_,rfl⟩;rw[<-X];have hid:=m.get d a P;have vd:=(u.stat.cw d p hp).1;have Q:∀i,rootOf (H.dJ d root o) i=rootOf H i:=λi=>by
   by_cases e:i=d;.subst e;cases c:a.eu with|true=>cases a<;>simp[b9.eu]at c;grind[pY,nM]|false=>grind[yC,nM]
   grind[rootOf,nr]
 have B:∀i,fI H i->fI (H.dJ d root o) i:=λi h=>by grind[fI,nr]
 have aNa:∀i,i≠d->fI (H.dJ d root o) i->fI H i:=λi e h=>by grind[fI,nr]
 have F:∀i l r fl e,i≠d->H.get i=J (.cells l r fl e)->r=root->¬((H.dJ d root o).bn root).1<=i:=by
   intro i l r fl e D g hr hle;subst hr;have sw:=m.root i l r fl e g;by_cases R:r=d;.subst R;cases c:a.eu with|true=>cases a<;>simp[b9.eu]at c;grind[pY]|false=>obtain⟨z,b,N,hh⟩:=m.nZ i l r fl e g;grind
   grind[On,rootOf]
 have RR:∀i,i≠d->jb (H.dJ d root o) i->jb H i:=λi D I l r fl e g=>by
   have M:(H.dJ d root o).get i=J (.cells l r fl e):=by grind[nr]
   have:=I l r fl e M;grind[Hp]
 refine⟨⟨?_,?_,?_,?_,?_⟩,⟨⟨?_,?_,?_,?_⟩,?_⟩,?_⟩
 . intro i A h;rw[wS];by_cases e:i=d;.omega
   .rw[nr H root o e]at h;exact m.get i A h
 . intro i l r fl e h;have v:∃l0 s e0,H.get i=J (.cells l0 r s e0):=by
     by_cases n:i=d;.subst n;rw[nM]at h;have G:o=.cells l r fl e:=ai;cases c:a.eu with|true=>cases a<;>simp[b9.eu]at c;grind|false=>grind[b9.eu]
     grind[nr]
   obtain⟨l0,s,e0,W⟩:=v;obtain⟨U,h2⟩:=m.root i l0 r s e0 W;grind[Ed,On,Hp]
 . intro i l r fl e h;have back:∀j l r fl e,H.get j=J (.cells l r fl e)->∃z b N,(H.dJ d root o).get j=J (.cells z r b N):=by grind[nM,nr]
   have v:∃l0 s e0,H.get i=J (.cells l0 r s e0):=by
     by_cases n:i=d;.subst n;rw[nM]at h;have G:o=.cells l r fl e:=ai;cases c:a.eu with|true=>cases a<;>simp[b9.eu]at c;grind|false=>grind[b9.eu]
     grind[nr]
   obtain⟨l0,s,e0,W⟩:=v;obtain⟨l1,mJ,e1,U⟩:=m.nZ i l0 r s e0 W;grind
 .intro r f h;rw[wS];unfold Heap.dJ at h;cases t:aw root d with|true=>rw[t]at h;exact m.dp r f h|false=>
     rw[t]at h;simp only[bS]at h;by_cases hr:r=root;.subst hr;rw[Tr.lh]at h;have:f=(d,d):=ai;simp_all[qG]
     .rw[Tr.jr _ _ (Ne.symm hr)]at h;exact m.dp r f h
 .rw[wS,BW];exact m.bu
 .intro i q k;rw[BT];obtain⟨U,h2⟩:=u.stat.cw i q k;grind[nM,nr]
 . intro i q l r fl e k g;by_cases n:i=d;.subst n;rw[nM]at g;have G:o=.cells l r fl e:=ai;cases c:a.eu with|true=>cases a<;>simp[b9.eu]at c;rename_i l0 Y s e0;obtain⟨_,_,z,b,he,K⟩:=CH l0 Y _ e0 rfl;rw[he]at G;obtain⟨rfl,_,_,_⟩:=b9.cells.inj G;rw[K];exact u.stat.len i q l0 Y _ e0 k P|false=>grind[b9.eu]
   .rw[nr H _ o n]at g;exact u.stat.len i q l r fl e k g
 .intro i j q r k hr t E;rw[Q,Q];exact u.stat.inj i j q r k hr t λh=>E (B i h)
 .intro i j q r k hr t E;exact u.stat.mono i j q r k hr t ai
 . intro i q A k hS I g;rw[Q]at hS;by_cases n:i=d;.grind[nM]
   . have L:=g;rw[nr H _ o n]at L;have T:q.aY≠p.aY:=by intro t;have hr:=u.stat.inj d i p q hp k t.symm eC;rw[<-X]at hr;cases wK:A.eu with|true=>cases A<;>simp[b9.eu]at wK;rename_i l r fl e;have sw:=pY L;exact F i l r fl e n L ab (by have:=I l r fl e g;grind)|false=>have sw:=yC L wK;rw[sw]at hr;cases c:a.eu with|true=>cases a<;>simp[b9.eu]at c;rename_i l0 Y s e0;have:=pY P;rw[<-X,hr]at this;subst this;obtain⟨z,b,N,hh⟩:=m.nZ d l0 i _ e0 P;grind[b9.eu]|false=>grind[yC]
     exact(u.obj i q A k hS aT L).mono (Ext.refl φ) (BS w O T)
 . refine{ext:=Ext.refl φ,size:=by simp[BT],os:=rfl,tape:=rfl,output:=rfl,next:=by simp[wS],bu:=BW ..,bT:=?_,cG:=?_,root:=λi _=>Q i,view:=?_,nh:=?_,new:=?_,ro:=λi _ h=>B i h,keep:=?_,cover:=λi U h2=>by grind[wS],mi:=λi q h G=>ai,uK:=?_,uT:=λr hr=>.inl (by grind[xV])};.grind[xh,PZ]
   .simp[xV]
   .intro i A ju ht hw g;rw[xh]at hw;have D:rootOf H i≠root:=λe=>hw (by grind[Fg]);have n:i≠d:=λe=>D ai;refine⟨by grind[nr],?_,aT⟩;intro I l r fl e M;rw[nr H _ o n]at M;have hr:r≠root:=λN=>D (by grind[pY]);rw[Hp H d _ o hr];exact I l r fl e M
   .grind[xh,Fg,BS]
   .grind
   . intro i A ju g;by_cases n:i=d
     . subst n;refine⟨o,nM H i _ o,?_⟩;refine⟨λl r fl e he=>?_,λD=>?_⟩;.grind
       . have c:a.eu=C:=by cases a<;>first|rfl|grind
         grind[b9.eu]
     grind[nr,qO.refl]
   .intro r hr;rw[xh]at hr;rcases vn hr with x|⟨x,y⟩;all_goals grind
theorem xU(H:Heap)(r f:Nat)(k:Bool)(c:aJ)(e:an):(H.gM r f k c e).get H.next=J (.cells c r .op e):=Tr.lh _ _ _
theorem lg(H:Heap)(r f:Nat)(k:Bool)(c:aJ)(e:an){i:Nat}(h:i≠H.next):(H.gM r f k c e).get i=H.get i:=Tr.jr _ _ (Ne.symm h)
theorem zF(H:Heap)(r f:Nat)(k:Bool)(c:aJ)(e:an):(H.gM r f k c e).bn r=(bif k then H.next else f,H.next):=by simp[Heap.bn,Heap.gM,Tr.lh]
theorem Ho(H:Heap)(o f:Nat)(k:Bool)(c:aJ)(e:an)(h:r≠o):(H.gM o f k c e).bn r=H.bn r:=by grind[Heap.bn,Heap.gM,Tr.jr]
theorem TD(F:bg H)(D:bM S φ H w){z:Nat}{t:Nat}(O:φ z=J p)(Y:H.get z=J (.cells l t fl e))(nN:fl≠.ro)(Eu:(H.bn t).2=z)(n:Nat)(Bo:n=(H.bn t).1)(c:aJ)(d:Bool)(q:Pl)(hc:c.length=q.len)(h0:w.heap.size<=w'.heap.size)(u7:w'.os=w.os/\w'.tape=w.tape/\w'.output=w.output)(hold:∀b,b<w.heap.size->b≠p.aY->w'.heap[b]?=w.heap[b]?)(hw:(q.aY=p.aY/\p.base+p.len<=q.base+q.len)\/(w.heap.size<=q.aY/\q.aY<w'.heap.size))(aew:d=C->∀cs e1 fz,w.heap[p.aY]?=J (.cells cs e1 fz)->∃rf,w'.heap[p.aY]?=J (.cells rf e1 fz)/\rf.size=cs.size/\∀k,k<p.base+p.len->rf[k]?=cs[k]?)(mf:lY φ w' (.cells c t .op e) q):bg (H.gM t n d c e)/\bM (more S H.next) (fp φ H.next q) (H.gM t n d c e) w'/\Fr φ H w (fp φ H.next q) (H.gM t n d c e) w':=by
 have hid:=F.get z _ Y;have vd:=(D.stat.cw z p O).1;have cB:φ H.next=Z:=D.stat.Vb F (bJ _);have lJ:=ai6 q cB;have R:rootOf H z=t:=pY Y;have avR:t<H.next:=by have:=(F.root z l t fl e Y).1;omega
 have X:¬fI H z:=by rintro⟨G,I,A,h⟩;rw[Y]at h;simp at h;exact nN h.2.2.1
 have fH:=h0;have Ug:q.aY<w'.heap.size:=by
   rcases hw with⟨E,_⟩|⟨_,E⟩;.rw[E];omega
   .exact E
 have IW:∀i,i≠H.next->rootOf (H.gM t n d c e) i=rootOf H i:=λi h=>by unfold rootOf;rw[lg H t n d c e h]
 have YI:rootOf (H.gM t n d c e) H.next=t:=pY (xU ..);have Dl:∀i,i≠H.next->(fI (H.gM t n d c e) i↔fI H i):=λi h=>by unfold fI;rw[lg H t n d c e h]
 have lt:∀{i r},φ i=J r->i≠H.next:=λh A=>by have:=D.stat.lt F h;omega
 have RR:∀i,i<H.next->jb (H.gM t n d c e) i->jb H i/\(rootOf H i=t->H.get i≠Z->(∃l r fl e,H.get i=J (.cells l r fl e))->d=C):=by
   intro i ju P;have hn:i≠H.next:=ab;constructor
   . intro G I m A B;have:=P G I m A (by rw[lg H t n d c e hn];exact B);by_cases hr:I=t;.subst hr;rw[zF]at this;cases d with|true=>simp at this;omega|false=>simp at this;rw[<-Bo];exact this
     .rw[Ho H t n d c e hr]at this;exact this
   . intro hr _⟨G,I,m,A,B⟩;have:=P G I m A (by rw[lg H t n d c e hn];exact B);have K7:I=t:=by rw[<-hr,pY B]
     subst K7;rw[zF]at this;cases d with|true=>simp at this;omega|false=>rfl
 refine⟨⟨?_,?_,?_,?_,?_⟩,⟨⟨?_,?_,?_,?_⟩,?_⟩,?_⟩
 . intro i o h;show i<H.next+1;by_cases u:i=H.next;.omega
   .rw[lg H t n d c e u]at h;have:=F.get i o h;omega
 . intro i G I m A h;by_cases u:i=H.next;.subst u;rw[xU]at h;obtain⟨_,rfl,_,_⟩:=b9.cells.inj (by simpa using h);rw[zF];exact⟨ab,bJ _⟩
   . rw[lg H t n d c e u]at h;obtain⟨E,W⟩:=F.root i G I m A h;refine⟨E,?_⟩;by_cases hr:I=t;.subst hr;rw[zF];have:=F.get i _ h;show i<=H.next;omega
     .rw[Ho H t n d c e hr];exact W
 . intro i G I m A h;by_cases u:i=H.next;.subst u;rw[xU]at h;obtain⟨_,rfl,_,_⟩:=b9.cells.inj (by simpa using h);rw[lg H t n d c e ab];exact F.nZ z l t fl e Y
   .rw[lg H t n d c e u]at h;have E:=(F.root i G I m A h).1;have W:=F.get i _ h;rw[lg H t n d c e ab];exact F.nZ i G I m A h
 . intro r f h;show r<H.next+1/\f.2<H.next+1;by_cases hr:r=t
   . subst hr;have h':(H.gM r n d c e).dp.get r=J (bif d then H.next else n,H.next):=Tr.lh _ _ _;rw[h']at h;have:f=(bif d then H.next else n,H.next):=by simpa using h.symm
     subst this;exact⟨ab,by show H.next<H.next+1;omega⟩
   .have h':(H.gM t n d c e).dp.get r=H.dp.get r:=Tr.jr _ _ (Ne.symm hr);rw[h']at h;have:=F.dp r f h;omega
 .exact Nat.le_succ_of_le F.bu
 . intro i r hr;by_cases u:i=H.next
   . subst u;rw[jD]at hr;obtain rfl:q=r:=by simpa using hr
     exact⟨Ug,by rw[xU];rfl⟩
   .rw[kW φ q u]at hr;obtain⟨E,W⟩:=D.stat.cw i r hr;exact⟨ab,by rw[lg H t n d c e u];exact W⟩
 . intro i r G I m A hr B;by_cases u:i=H.next
   . subst u;rw[jD]at hr;obtain rfl:q=r:=by simpa using hr
     rw[xU]at B;obtain⟨rfl,_,_,_⟩:=b9.cells.inj (by simpa using B);exact hc
   .rw[kW φ q u]at hr;rw[lg H t n d c e u]at B;exact D.stat.len i r G I m A hr B
 . intro i j r s hr K N eC;by_cases U:i=H.next
   . subst U;rw[jD]at hr;obtain rfl:q=r:=by simpa using hr
     by_cases M:j=H.next;.subst M;rfl
     . rw[kW φ q M]at K;rw[YI,IW j M];rcases hw with⟨E,_⟩|⟨E,_⟩;.rw[<-R];exact D.stat.inj z j p s O K (by rw[<-E,N]) X
       .have:=(D.stat.cw j s K).1;omega
   . rw[kW φ q U]at hr;have H9:¬fI H i:=λh=>eC ((Dl i U).2 h);by_cases M:j=H.next
     . subst M;rw[jD]at K;obtain rfl:q=s:=by simpa using K
       rw[YI,IW i U];rcases hw with⟨E,_⟩|⟨E,_⟩;.rw[<-R];exact D.stat.inj i z r p hr O (by rw[N,E]) H9
       .have:=(D.stat.cw i r hr).1;omega
     .rw[kW φ q M]at K;rw[IW i U,IW j M];exact D.stat.inj i j r s hr K N H9
 . intro i j r s hr K N eC kP;have U:i≠H.next:=by
     intro A;subst A;by_cases M:j=H.next;.omega
     .rw[kW φ q M]at K;have:=D.stat.lt F K;omega
   rw[kW φ q U]at hr;by_cases M:j=H.next
   . subst M;rw[jD]at K;obtain rfl:q=s:=by simpa using K
     rcases hw with⟨E,W⟩|⟨E,_⟩
     . by_cases KQ:i=z
       . subst KQ;rw[O]at hr;obtain rfl:p=r:=by simpa using hr
         exact W
       . have uh:r.aY=p.aY:=by rw[N,E]
         have T:=(D.stat.inj z i p r O hr uh.symm X).symm;have bU:i<z:=by cases B:H.get i with|none=>have:=(D.stat.cw i r hr).2;rw[B]at this;simp at this|some o=>cases Q:o.eu with
            |true=>
            cases o<;>simp[b9.eu]at Q;rename_i l1 r1 mJ e1;have h3:=(F.root i l1 r1 mJ e1 B).2;have h4:r1=t:=by rw[<-pY B,T,R]
            rw[h4,Eu]at h3;omega|false=>
            have h4:=yC B Q;rw[h4,R]at T;obtain⟨G,m,A,hh⟩:=F.nZ z l t fl e Y;rw[<-T,B]at hh;have:o=.cells G i m A:=by simpa using hh
            rw[this]at Q;simp[b9.eu]at Q
         have:=D.stat.mono i z r p hr O uh (.inr X) bU;omega
     .have:=(D.stat.cw i r hr).1;omega
   .rw[kW φ q M]at K;exact D.stat.mono i j r s hr K N (eC.imp (λg h=>g ((Dl i U).2 h)) λg h=>g ((Dl j M).2 h)) kP
 . intro i r o hr hS P B;by_cases u:i=H.next
   . subst u;rw[jD]at hr;obtain rfl:q=r:=by simpa using hr
     rw[xU]at B;obtain rfl:b9.cells c t .op e=o:=by simpa using B
     exact mf.mono lJ rfl
   . rw[kW φ q u]at hr;have L:=B;rw[lg H t n d c e u]at L;have ju:=D.stat.lt F hr;rw[IW i u]at hS;have TK:S (rootOf H i):=by
       rcases hS with h|h;.exact h
       .have:=qG F ju;omega
     obtain⟨wA,hk⟩:=RR i ju P;have O2:=D.obj i r o hr TK wA L;by_cases N:r.aY=p.aY;.have T:=D.stat.inj z i p r O hr N.symm X;rw[R]at T;cases Q:o.eu with
       |true=>
         cases o<;>simp[b9.eu]at Q;rename_i l1 r1 mJ e1;have au6:=hk T.symm (by rw[L];simp) ⟨_,_,_,_,L⟩;have hle:r.base+r.len<=p.base+p.len:=by
          by_cases KQ:i=z
          . subst KQ;rw[O]at hr;obtain rfl:p=r:=by simpa using hr
            exact bJ _
          . have h7:=(F.root i l1 r1 mJ e1 L).2;have h8:r1=t:=by rw[<-pY L,<-T]
            rw[h8,Eu]at h7;exact D.stat.mono i z r p hr O N (.inr X) ab
         obtain⟨ds,gz,ge,g1,g2,g3,g4,g5,g6,g7⟩:=O2;rw[N]at g1;obtain⟨rf,k1,k2,k3⟩:=aew au6 _ _ _ g1;refine lY.mono lJ (w:=w') rfl ⟨rf,gz,ge,by rw[N];exact k1,by rw[k2];exact g2,g3,?_,g5,g6,g7⟩;intro k a uX;obtain⟨v,hv,EI⟩:=g4 k a uX;have zR:k<r.len:=by have:=(List.getElem?_eq_some_iff.1 uX).1;have:=D.stat.len i r l1 r1 mJ e1 hr L;omega
         exact⟨v,by rw[k3 _ ab];exact hv,EI⟩|false=>
         have h7:=yC L Q;rw[h7]at T;obtain⟨G,m,A,hh⟩:=F.nZ z l t fl e Y;rw[T,L]at hh;have:o=.cells G i m A:=by simpa using hh
         rw[this]at Q;simp[b9.eu]at Q
     .exact O2.mono lJ (hold _ (D.stat.cw i r hr).1 N)
 . refine{ext:=lJ,size:=fH,os:=u7.1,tape:=u7.2.1,output:=u7.2.2,next:=JA _,bu:=rfl,bT:=?_,cG:=λr h=>PZ h,root:=?_,view:=?_,nh:=?_,new:=?_,ro:=?_,keep:=λi o' ju B=>⟨o',by rw[lg H t n d c e ab];exact B,qO.refl o'⟩,cover:=λi E W=>⟨q,by have h3:i<H.next+1:=W;have:i=H.next:=ab;rw[this];exact jD _ _ _⟩,mi:=?_,uK:=?_,uT:=?_};.intro r h;show r∈(bif d then Heap.note H.bu t H.bT else H.bT);cases d with|true=>exact PZ h|false=>exact h
   .intro i ju;exact IW i ab
   . intro i o ju ht Ur B;have hn:i≠H.next:=ab;refine⟨by rw[lg H t n d c e hn];exact B,?_,λP=>(RR i ju P).1⟩;intro P G I m A L;rw[lg H t n d c e hn]at L;by_cases hr:I=t;.subst hr;rw[zF];cases d with|true=>exfalso;apply Ur;rw[pY L];exact Fg _ (by grind[pY])|false=>simp only[bS];rw[Bo];exact P G I m A L
     .rw[Ho H t n d c e hr];exact P G I m A L
   . intro b N;by_cases A:b=p.aY
     . refine .inr ⟨z,p,O,A.symm,X,?_⟩;rw[R];by_cases ht:t<H.bu;.exact .inr (.inr (Fg _ ht))
       omega
     simp_all
   . intro i r hr hφ;by_cases u:i=H.next
     . subst u;rw[jD]at hr;obtain rfl:q=r:=aT;refine⟨bJ _,?_⟩;rcases hw with⟨E,_⟩|⟨E,_⟩
       . refine .inr ⟨z,p,O,E.symm,X,ab,?_⟩;rw[R];by_cases ht:t<H.bu;.exact .inr (Fg _ ht)
         omega
       omega
     grind[kW]
   .grind
   . intro i r hr hφ bU;by_cases u:i=H.next;.subst u;rw[YI]at bU|-;exact⟨Fg _ bU,z,p,O,R⟩
     grind[kW]
   .intro r hr;have K7:r∈(bif d then Heap.note H.bu t H.bT else H.bT):=hr;cases d with|true=>rcases vn K7 with x|⟨x,y⟩;all_goals grind|false=>exact .inl K7
   . intro r hr;rcases vn hr with x|⟨x,y⟩;.exact .inl x
     .exact .inr ⟨y,z,p,O,by rw[x];exact R⟩
theorem wc(b o n:Nat):(⟨b,o,Z⟩:Addr).add n=⟨b,o+n,Z⟩:=by simp[Addr.add]
theorem Si{b:Nat}(h:w.heap[b]?=J (.cells cs e fz))(o:Nat):w.cell? ⟨b,o,Z⟩=cs[o]?:=by grind[World.cell?]
theorem adr{b:Nat}(h:w.heap[b]?=J (.cells cs e (0,0)))(o:Nat):w.frozen? ⟨b,o,Z⟩=C:=by grind[World.frozen?]
theorem YU{b:Nat}(h:w.heap[b]?=J (.cells cs e fz)):w.shape? b=J (e,cs.size):=by grind[World.shape?]
theorem aGX{b:Nat}(h:w.heap[b]?=J (.cells cs e fz))(o:Nat):∀(n i:Nat)(a:Array aC),o+i+n<=cs.size->(loadCellsFrom ⟨b,o,Z⟩ i n a).run P w=.ok (a++cs.extract (o+i) (o+i+n)) w:=by intro n;induction n with|zero=>simp_all[loadCellsFrom]|succ n d=>
 intro i a l;have U:o+i<cs.size:=ab;have c:w.cell? ⟨b,o+i,Z⟩=J cs[o+i]:=by rw[Si h,mX _]
 simp only[loadCellsFrom,wc,Sem.run_bind,run_load,c,Result.andThen_ok];rw[d _ _ ab];congr 1;apply Array.ext';simp only[Array.toList_append,Array.toList_push,Array.toList_extract,tM];have e3:o+i+(n+1)-(o+i)=n+1:=ab;have e4:o+i+(n+1)-(o+i+1)=n:=ab;grind[DM]
theorem I3{b:Nat}(h:w.heap[b]?=J (.cells cs e fz)){n:Nat}(a:I+n<=cs.size):(loadCells ⟨b,I,Z⟩ n).run P w=.ok (cs.extract I (I+n)) w:=by unfold loadCells;rw[aGX h _ n 0 _ ab];simp
def over(c:Array aC)(o:Nat)(v:List aC):Array aC:=(c.toList.take o++v++c.toList.drop (o+v.length)).toArray
theorem Ai(c:Array aC)(o:Nat)(v:List aC)(h:o+v.length<=c.size):(over c o v).size=c.size:=by grind[over]
theorem uz(c:Array aC)(o:Nat)(v:List aC)(h:o+v.length<=c.size)(i:Nat):(over c o v)[i]?=if o<=i/\i<o+v.length then v[i-o]? else c[i]?:=by grind[over]
theorem aG2{b:Nat}(h:w.heap[b]?=J (.cells cs e (0,0))){o:Nat}(a:o<cs.size)(d:vH v=V):(store ⟨b,o,Z⟩ v).run P w=.ok () (w.setCell ⟨b,o,Z⟩ v):=by
 have c:w.cell? ⟨b,o,Z⟩=J cs[o]:=by rw[Si h,mX a]
 have f:=adr h o;unfold store;cases v<;>simp[vH]at d<;>simp[Sem.run,c,f]
theorem aHG{b:Nat}(h:w.heap[b]?=J (.cells cs e fz))(o:Nat)(v:aC):w.setCell ⟨b,o,Z⟩ v=World.eU w b (.cells (cs.setIfInBounds o v) e fz):=by unfold World.setCell World.eU;congr 1;grind
theorem YR(w:aW)(b:Nat)(o a:Obj):World.eU (World.eU w b o) b a=World.eU w b a:=by simp[World.eU]
theorem aHF{b:Nat}{o:Obj}(h:w.heap[b]?=J o):World.eU w b o=w:=by
 unfold World.eU;have:w.heap.setIfInBounds b o=w.heap:=by grind
 simp_all
theorem aG3:∀(vs:List aC)(w:aW)(b:Nat)(cs:Array aC)(e:an)(I i:Nat),w.heap[b]?=J (.cells cs e (0,0))->I+i+vs.length<=cs.size->(∀v,v∈vs->vH v=V)->(storeCells ⟨b,I,Z⟩ vs i).run P w=.ok () (World.eU w b (.cells (over cs (I+i) vs) e (0,0))):=by intro vs;induction vs with|nil=>simp_all[over,aHF,storeCells]|cons v vs c=>intro w b cs e I i h l s;have a:=(Array.getElem?_eq_some_iff.1 h).1;have o:I+i<cs.size:=ai;simp only[storeCells,wc,Sem.run_bind];rw[aG2 h o aT];simp only[Result.andThen_ok];rw[aHG h];rw[c _ b _ e _ _ (Aq w _ a) ai aT];rw[YR];congr 3;apply Rx;grind[uz]
theorem MA{b:Nat}(h:w.heap[b]?=J (.cells cs e (0,0))){vs:List aC}(n:I+vs.length<=cs.size)(s:∀v,v∈vs->vH v=V):(storeCells ⟨b,I,Z⟩ vs).run P w=.ok () (World.eU w b (.cells (over cs I vs) e (0,0))):=aG3 vs w b cs e I 0 h ab s
theorem dC{d:TypeDesc}(h:P.underlying t=J d)(w:aW):(underlying t).run P w=.ok d w:=run_underlying h w
theorem BQ{i:TypeInfo}(h:P.info? t=J i)(w:aW):(typeInfo t).run P w=.ok i w:=by simp[typeInfo,h]
theorem lR{t n:Nat}(h:aZ P t=J n)(w:aW):(sizeOf t).run P w=.ok n w:=by cases hi:P.info? t<;>simp_all[aZ,sizeOf,BQ]
theorem QO{b:Bool}(h:AM.isAgg P t=J b)(w:aW):(Go.isAgg t).run P w=.ok b w:=by
 unfold AM.isAgg at h;rcases u:P.underlying t with _|d;.grind
 cases d<;>simp[u]at h<;>subst h<;>simp[Go.isAgg,dC u]
theorem FO{z:AV}(h:yT P t=J z)(w:aW):∃v,(zeroValue t).run P w=.ok v w/\VR φ z v:=by
 unfold yT at h;rcases hi:P.info? t with _|i;.grind
 cases a:i.zero<;>simp_all[zeroValue,BQ,Vl]
def hQ(S:Nat->Prop)(d:bc)(H:Heap)(w:aW)(c:bc)(a:Heap)(b:aW):Prop:=bg a/\bM (more S H.next) c a b/\Fr d H w c a b
section
variable{P:aG}{S:Nat->Prop}{φ:bc}{H:Heap}{w:aW}
theorem bM.more(i:bg H)(s:bM S φ H w):bM (AM.more S H.next) φ H w:=⟨s.stat,λid p o a b c d=>s.obj id p o a (by
 rcases b with h|h;.omega
 .have:=qG i (s.stat.lt i a);omega) c d⟩
theorem hQ.refl(h:bg H)(s:bM S φ H w):hQ S φ H w φ H w:=⟨h,s.more h,Fr.refl φ H w⟩
theorem bM.up{T:Nat->Prop}(s:bM S φ H w)(h:∀r,T r->S r):bM T φ H w:=⟨s.stat,λid p o a b=>s.obj id p o a (h _ b)⟩
theorem JV{i:Nat}(h:H.cellsOf i=J l):∃r fl e,H.get i=J (.cells l r fl e)/\(H.bn r).1<=i:=by grind[Heap.cellsOf,dg]
theorem ako{i:Nat}{l r f e}(g:H.get i=J (.cells l r f e))(h:(H.bn r).1<=i):jb H i:=by intro c d a b L;grind
theorem Cg(s:bM S φ H w){i:Nat}(b:φ i=J p)(c:S (rootOf H i))(h:H.get i=J (.cells l r fl e))(a:(H.bn r).1<=i):lY φ w (.cells l r fl e) p/\l.length=p.len:=⟨s.obj i p _ b c (ako h a) h,s.stat.len i p l r fl e b h⟩
theorem lY.slice(h:lY φ w (.cells l r fl e) p)(g:l.length=p.len){n:Nat}(i:I+n<=l.length):∃cs fz e1,w.heap[p.aY]?=J (.cells cs e1 fz)/\p.base+I+n<=cs.size/\ba φ ((l.drop I).take n) (cs.extract (p.base+I) (p.base+I+n)).toList/\(∀x,x∈(l.drop I).take n->x.aV=V):=by obtain⟨cs,fz,e1,a,c,d,f,b,_,_⟩:=h;refine⟨cs,fz,e1,a,ab,⟨ai,?_⟩,λx j=>b x ai⟩;grind
theorem afO(t:bM S φ H w){i n:Nat}(s:φ i=J p)(j:S (rootOf H i))(h:H.load i I n=J l):∃cs:Array aC,(loadCells ⟨p.aY,p.base+I,Z⟩ n).run P w=.ok cs w/\ba φ l cs.toList/\(∀x,x∈l->x.aV=V):=by
 unfold Heap.load at h;rcases c:H.cellsOf i with _|m;.grind
 simp only[c,cQ,dg,dS,pI,ql]at h;by_cases a:I+n<=m.length;.obtain rfl:(m.drop I).take n=l:=ai;obtain⟨r,fl,e,k,v⟩:=JV c;obtain⟨q,o⟩:=Cg t s j k v;obtain⟨cs,fz,e1,b,d,f,g⟩:=q.slice o a;exact⟨_,I3 b d,f,g⟩
 grind
theorem afM(s:bM S φ H w){i:Nat}(o:φ i=J p)(g:S (rootOf H i))(h:AM.loadVar P H t i I=J a):∃v,(Go.loadVar t ⟨p.aY,p.base+I,Z⟩).run P w=.ok v w/\VR φ a v:=by
 unfold AM.loadVar at h;rcases d:AM.isAgg P t with _|b;.grind
 cases b with|true=>
 simp only[d]at h;rcases z:aZ P t with _|n;.grind
 simp only[z,cQ,ja]at h;obtain⟨l,k,rfl⟩:=h;obtain⟨cs,hr,f,A⟩:=afO (P:=P) s o g k;exact⟨_,by simp_all[Go.loadVar,QO,lR],f.agg A cs rfl⟩|false=>
 simp only[d]at h;rcases j:H.cellsOf i with _|m;.grind
 simp only[j,cQ,wT]at h;obtain⟨r,fl,e,x,f⟩:=JV j;obtain⟨y,k⟩:=Cg s o g x f;obtain⟨cs,fz,e1,q,B,D,u,E,_,_⟩:=y;obtain⟨c,X,hr⟩:=u _ a h;exact⟨c,by simp[Go.loadVar,QO d,Si q,X],hr⟩
theorem MR(A:bg H)(s:bM S φ H w){d:Nat}{f:List aC}(c:φ d=J p)(y:S (rootOf H d))(h:H.store d I vs=J H')(v:ba φ vs f)(Q:∀x,x∈vs->x.aV=V):∃w',(storeCells ⟨p.aY,p.base+I,Z⟩ f).run P w=.ok () w'/\bg H'/\bM S φ H' w'/\Fr φ H w φ H' w':=by
 unfold Heap.store at h;split at h
 . rename_i l r fl e g;simp only[dg,bE,dS]at h;by_cases z:((H.bn r).1<=d/\(H.bn r).2=d/\I+vs.length<=l.length)/\fl≠.ro
   . obtain⟨⟨q,L,t⟩,N⟩:=z;have u:H.dJ d r (.cells (fL l I vs) r fl e)=H':=by grind
     obtain⟨B,O⟩:=Cg s c y g q;have n:=v.1;obtain⟨cs,fz,e1,g1,g2,g3,g4,g5,g6,g7⟩:=B;obtain⟨rfl,rfl⟩:=g6 N;have o:¬fI H d:=by rintro⟨R,T,K,M⟩;grind
     have k:∀x,x∈f->vH x=V:=by intro x j;obtain⟨i,E⟩:=List.mem_iff_getElem?.1 j;have m:i<vs.length:=ai;exact(v.2 i _ _ (dD m) E).aV aT
     have D:=pY g;refine⟨_,MA g1 ab k,?_⟩;rw[<-u,<-D];refine ahE A s _ _ c g o ?_ (λh=>by grind[b9.eu]) ?_;.grind[yJ]
     . have G:=(s.stat.cw d p c).1;refine⟨_,_,_,Aq w _ G,?_,g3,?_,?_,λ_=>⟨rfl,rfl⟩,g7⟩;.grind[Ai]
       . intro i a b;rw[yI l _ vs t]at b;rw[uz _ _ _ ab];by_cases F:I<=i/\i<I+vs.length;.rw[if_pos F]at b;obtain⟨x,j,hr⟩:=v.get b;grind
         grind
       grind[Dt]
   grind[fM.wr]
 grind
theorem aJt(g:bg H)(s:bM S φ H w){i:Nat}(j:φ i=J p)(f:S (rootOf H i))(h:AM.storeVar P H t i I a=J H')(k:VR φ a v):∃w',(Go.storeVar t ⟨p.aY,p.base+I,Z⟩ v).run P w=.ok () w'/\bg H'/\bM S φ H' w'/\Fr φ H w φ H' w':=by
 unfold AM.storeVar at h;rcases z:aZ P t with _|n;.grind
 rcases c:a.cells with _|vs;.grind
 simp only[z,c,cQ,bE,dS]at h;by_cases d:vs.length=n
 . simp only[d,dM,aR]at h;obtain⟨b,e⟩:=k.cells c;obtain⟨w',m,U⟩:=MR (P:=P) g s j f h b e;have l:v.cells.size=n:=by rw[<-d,b.1];rfl
   simp_all[Go.storeVar,lR]
 grind
theorem P7(d:bg H)(s:bM S φ H w)(l:aJ)(f:fM)(e:an)(c:Array aC)(h:ba φ l c.toList)(j:∀x,x∈l->x.aV=V):∃p:Pl,p.aY=w.heap.size/\p.base=0/\p.oc=c.size/\p.len=l.length/\(newRow e c).run P w=.ok ⟨p.aY,0,Z⟩ (World.push w (.cells c e))/\hQ S φ H w (fp φ H.next p) (H.cP l f e) (World.push w (.cells c e)):=by
 have g:=by simpa using h.1
 refine⟨⟨_,0,_,_⟩,rfl,rfl,rfl,rfl,?_,?_⟩;.rfl
 . refine JJ d s _ _ _ rfl ?_ ?_;.grind
   .refine⟨c,_,_,wX w _,rfl,ai,?_,j,λ_=>⟨rfl,rfl⟩,λ_=>⟨rfl,g.symm⟩⟩;intro i a b;obtain⟨v,k,m⟩:=h.get b;grind
theorem SI(u o e t:Nat):u<=(Question.appendCap u o e).cut t:=by simp[Question.cut]
theorem agy(u o e:Nat):(Question.appendCap u o e).forced=C:=rfl
theorem agk(u o:Nat)(h:o<u):Builtin.nextslicecap u o<=2*u+192:=by grind[Builtin.nextslicecap,Builtin.growBy]
theorem aid{y t:an}{d:TypeDesc}{s:Nat}{T i n:Nat}{e:Array aC}(h:ats[0]?=J t)(u:P.underlying t=J (.slice elem))(f:aZ P elem=J s)(b:ats[1]?=J xt)(g:P.underlying xt=J d)(o:∀k,d≠.int k)(j:(Builtin.lenOf xv).run P w=.ok n w)(m:(oq s n xv).run P w=.ok e w)(l:T+n<=i)(c:(match base with|some a=>storeCells (a.add (T*s)) e.toList|none=>pure ()).run P w=.ok () w'):(sP ats y #[.slice base T i,xv]).run P w=.ok (.slice base (T+n) i) w':=by
 rcases base with _|a;.simp at c;subst c;simp[sP,h,b,dC u,lR f,dC g,j,m,l]
 simp[sP,h,b,dC u,lR f,dC g,j,m,l,c]
theorem ah0{u b:Nat}(j:cap<=2*u+192)(h:u*b<=bl)(a:1<=u):¬(cap*b>2^48):=by have d:u*b<=1099511627776:=h;have c:cap*b<=(194*u)*b:=lD _ ab;grind
theorem run_append_grow{ty s:an}{d:TypeDesc}{i:TypeInfo}{eT iY n:Nat}{old e:Array aC}(a:ats[0]?=J s)(u:P.underlying s=J (.slice elem))(j:P.info? elem=J i)(z:i.zero=J zv)(b:ats[1]?=J xt)(g:P.underlying xt=J d)(q:∀k,d≠.int k)(l:(Builtin.lenOf xv).run P w=.ok n w)(m:(oq i.size n xv).run P w.drew=.ok e w.drew)(L:¬eT+n<=iY)(o:(oq i.size eT (.slice base eT iY)).run P w.drew=.ok old w.drew)(A:(eT+n)*i.bytes<=bl)(h:eT+n<=bl):∃c,eT+n<=c/\(sP ats ty #[.slice base eT iY,xv]).run P w=.ok (.slice (J ⟨w.heap.size,0,Z⟩) (eT+n) c) (World.push w.drew (.cells (old++e++nF zv.cells (c-(eT+n))) elem)):=by
 refine⟨_,SI (eT+n) iY elem (w.tape w.drawn (.appendCap (eT+n) iY elem)),?_⟩;have f:aZ P elem=J i.size:=by grind[aZ]
 have O:¬((9223372036854775807:Int)<((eT:Int)+(n:Int))):=by have:eT+n<=1099511627776:=h;omega
 have p:¬(2^48<Builtin.nextslicecap (eT+n) iY*i.bytes):=ah0 (agk _ _ ab) A ab;simp[sP,a,b,dC u,lR f,dC g,l,L,BQ j,O,p,m,o,zeroValue,z,newRow,newObj,Sem.run,World.push,agy];rfl
theorem aGU{t s:an}{k:fN}{i:TypeInfo}{e Y n:Nat}(d:ats[0]?=J s)(u:P.underlying s=J (.slice elem))(l:P.info? elem=J i)(z:i.zero=J zv)(g:ats[1]?=J xt)(j:P.underlying xt=J (.int k))(p:n*i.bytes<=bl)(m:n<=bl)(L:e+n<=Y)(K:i.size≠0)(c:(match base with|some a=>storeCells (a.add (e*i.size)) (nF zv.cells n).toList|none=>pure ()).run P w=.ok () w'):(sP ats t #[.slice base e Y,.int .i64 (.ofNat n)]).run P w=.ok (.slice base (e+n) Y) w':=by
 have f:aZ P elem=J i.size:=by grind[aZ]
 have o:IntKind.i64.wrap (di n)=di n:=by rw[<-BY];have:n<=1099511627776:=m;show(bif cm n 9223372036854775808 then di n else _)=_;grind[eK]
 have M:IntKind.i64.wrap (n:Int)=(n:Int):=o;have T:¬((n:Int)<0):=ab;have O:¬((281474976710656:Int)<(n:Int)*(i.bytes:Int)):=by have q:n*i.bytes<=1099511627776:=p;omega
 have b:(zeroValue elem).run P w=.ok zv w:=by simp_all[zeroValue,BQ]
 have E:n*i.size=0->n=0:=λh=>(Nat.mul_eq_zero.1 h).resolve_right K;rcases base with _|a;.simp at c;subst c;simp[sP,d,g,dC u,lR f,dC j,asInt,asIntOf,M,T,BQ l,O,L,b]
 simp[sP,d,g,dC u,lR f,dC j,asInt,asIntOf,M,T,BQ l,O,L,b];by_cases U:n*i.size=0<;>simp_all[nF]
theorem aie{ty t:an}{k:fN}{i:TypeInfo}{eT iY n:Nat}{old:Array aC}(a:ats[0]?=J t)(u:P.underlying t=J (.slice elem))(g:P.info? elem=J i)(m:i.zero=J zv)(b:ats[1]?=J xt)(d:P.underlying xt=J (.int k))(L:¬eT+n<=iY)(K:i.size≠0)(o:(oq i.size eT (.slice base eT iY)).run P w.drew=.ok old w.drew)(s:(eT+n)*i.bytes<=bl)(l:eT+n<=bl):∃c,eT+n<=c/\(sP ats ty #[.slice base eT iY,.int .i64 (.ofNat n)]).run P w=.ok (.slice (J ⟨w.heap.size,0,Z⟩) (eT+n) c) (World.push w.drew (.cells (old++nF zv.cells n++nF zv.cells (c-(eT+n))) elem)):=by
 refine⟨_,SI _ iY elem (w.tape w.drawn (.appendCap (eT+n) iY elem)),?_⟩;have f:aZ P elem=J i.size:=by grind[aZ]
 have r:eT+n<=1099511627776:=l;have j:IntKind.i64.wrap (di n)=di n:=by rw[<-BY];show(bif cm n _ then di n else _)=_;grind[eK]
 have M:IntKind.i64.wrap (n:Int)=(n:Int):=j;have T:=ab;have O:¬((281474976710656:Int)<(n:Int)*(i.bytes:Int)):=by have q:(eT+n)*i.bytes<=1099511627776:=s;grind
 have X:¬((9223372036854775807:Int)<((eT:Int)+(n:Int))):=ab;have p:¬(2^48<Builtin.nextslicecap _ iY*i.bytes):=ah0 (agk _ _ ab) s ab;have z:¬(n*i.size=0)\/n=0:=by grind[Nat.mul_eq_zero]
 simp[sP,a,b,dC u,lR f,dC d,asInt,asIntOf,M,BQ g,O,L,X,p,o,zeroValue,m,newRow,newObj,Sem.run,World.push,agy];rcases z with h|h;.rw[if_neg h];rfl
 . subst h;have e:nF zv.cells 0=#[]:=by simp[nF]
   rw[e,Array.empty_append];simp;rfl
theorem hQ.drew(h:hQ S φ H w.drew ψ H' w'):hQ S φ H w ψ H' w':=⟨h.1,h.2.1,⟨h.2.2.ext,h.2.2.size,h.2.2.os,h.2.2.tape,h.2.2.output,h.2.2.next,h.2.2.bu,h.2.2.bT,h.2.2.cG,h.2.2.root,h.2.2.view,h.2.2.nh,h.2.2.new,h.2.2.ro,h.2.2.keep,h.2.2.cover,h.2.2.mi,h.2.2.uK,h.2.2.uT⟩⟩
theorem bM.drew(h:bM S φ H w):bM S φ H w.drew:=h.same rfl
theorem ajp{z:aJ}(c:ba φ z zv.cells.toList)(n:Nat):ba φ (jA n z) (nF zv.cells n).toList:=by
 have l:z.length=zv.cells.size:=by simpa using c.1
 refine⟨by grind[FJ,nF],λi a v b h=>?_⟩;have hi:i<n*z.length:=by grind[FJ]
 rw[YG n z i hi]at b;have H:i<n*zv.cells.size:=ai;have S:0<zv.cells.size:=by grind
 simp only[nF,Array.toList_map,jo,Array.toList_range]at h;rw[DN H]at h;simp only[gF,xw]at h;have m:i%zv.cells.size<zv.cells.size:=Nat.mod_lt _ S;rw[getElem!_pos zv.cells _ m]at h;refine c.2 (i%z.length) a v b ?_;grind
theorem ZL(z:Array aC)(n:Nat):(nF z n).size=n*z.size:=by simp[nF]
theorem QG{z:aJ}(h:∀x,x∈z->x.aV=V)(n:Nat):∀x,x∈jA n z->x.aV=V:=by induction n<;>grind[QF,YH]
theorem aGV{b g l e:Nat}{w:aW}(h:(loadCells ⟨b,g,Z⟩ (l*e)).run P w=.ok cs w):(oq e l (.slice (J ⟨b,g,Z⟩) l cap)).run P w=.ok cs w:=by grind[oq]
theorem aai{i:TypeInfo}(L:bg H)(B:bM S φ H w)(hS:∀r,S r){A:Sem aC}{s:AV}{sv:aC}{g:aJ}{d:Nat}{y:Array aC}{r:AV}(Lk:zv.cells.size=i.size)(h:nd H elem i.size i.bytes s g d=J (r,H'))(jf:VR φ s sv)(hx:ba φ g y.toList)(ib:∀x,x∈g->x.aV=V)(t:g.length=d*i.size)(lL:∀base T Y w',sv=.slice base T Y->T+d<=Y->(match base with|some a=>storeCells (a.add (T*i.size)) y.toList|none=>pure ()).run P w=.ok () w'->d*i.bytes<=bl->d<=bl->A.run P w=.ok (.slice base (T+d) Y) w')(OO:∀base T Y f,sv=.slice base T Y->¬T+d<=Y->(oq i.size T (.slice base T Y)).run P w.drew=.ok f w.drew->(T+d)*i.bytes<=bl->T+d<=bl->∃c,T+d<=c/\A.run P w=.ok (.slice (J ⟨w.heap.size,0,Z⟩) (T+d) c) (World.push w.drew (.cells (f++y++nF zv.cells (c-(T+d))) elem))):∃ψ v' w',A.run P w=.ok v' w'/\VR ψ r v'/\hQ S φ H w ψ H' w':=by
 obtain⟨z,auC⟩:∃z,z=i.size:=⟨_,rfl⟩;rw[<-auC]at h t lL OO Lk;have Pp:y.size=d*z:=by rw[<-t];simpa using hx.1.symm
 unfold nd at h;simp only[bE,dg,dS,pI,ql,kZ]at h;by_cases he0:z=0;.grind
 have auB:0<z:=Nat.pos_of_ne_zero he0;simp only[he0,kM,bS]at h;have fresh:∀(f:Array aC)(F:aJ)(m c:Nat),ba φ F f.toList->(∀x,x∈F->x.aV=V)->f.size=m*z->m+d<=c->∃q:Pl,q.aY=w.heap.size/\q.base=0/\q.len=(F++g).length/\(∀ψ,ψ H.next=J q->VR ψ (.sl H.next 0 (m+d) Z z) (.slice (J ⟨w.heap.size,0,Z⟩) (m+d) c))/\(∀root,lY φ (World.push w.drew (.cells (f++y++nF zv.cells (c-(m+d))) elem)) (.cells (F++g) root .op elem) q):=by
  intro f F m c M u7 W E;have Un:(f++y++nF zv.cells (c-(m+d))).size=c*z:=by simp only[Array.size_append,ZL,W,Pp,Lk];rw[<-xu,<-xu];grind
  have aMF:(F++g).length=(m+d)*z:=by rw[gJ,t,show F.length=f.size from by simpa using M.1,W,<-xu]
  have hle:(m+d)*z<=c*z:=lD _ E;refine⟨⟨w.heap.size,0,c*z,(F++g).length⟩,rfl,rfl,rfl,?_,?_⟩;.intro ψ hψ;refine .sl H.next 0 (m+d) Z z _ _ c hψ E aO (λk hk=>ai) (λ_=>?_) (λ_=>rfl) auB ?_;all_goals grind
  . intro root;refine⟨_,(0,0),_,wX w.drew _,Un,?_,?_,?_,λ_=>⟨rfl,rfl⟩,λh=>ai⟩;.grind
    .intro k a ha;have kx:=M.append hx;obtain⟨v,hv,hr⟩:=kx.get ha;grind
    grind
 cases jf with
 |bC=>
  simp only at h;by_cases iU:d=0;.subst iU;simp at h;obtain⟨rfl,rfl⟩:=h;refine⟨φ,.slice Z 0 0,w,?_,.bC,hQ.refl L B⟩;simp_all
  . simp only[iU,kM,bS]at h;by_cases mO:d*i.bytes<=bl/\d<=bl;.have:(decide (d.mul i.bytes<=bl)&&decide (d<=bl))=V:=ai;rw[this]at h;simp at h;obtain⟨rfl,rfl⟩:=h;obtain⟨c,E,N⟩:=OO Z 0 0 #[] rfl ab (by rfl) ai ab;obtain⟨q,Q,h2,h3,h4,R⟩:=fresh #[] [] 0 c (ba.nil φ) aO aO E;simp only[jF]at h3 R;have zJ:=JJ L B.drew (.cells g H.next .op elem) _ q Q (λl r fl e hh=>by grind) (R H.next);refine⟨fp φ H.next q,_,_,N,?_,hQ.drew zJ⟩;grind[jD]
    grind|sl id I len cap e p K j D hl ht E M hr CK oH=>
  simp only at h;by_cases En:(e=z/\(len+d)*i.bytes<=bl)/\len+d<=bl
  . obtain⟨⟨rfl,sA⟩,Uj⟩:=En;have:(decide (e=e)&&(decide ((len.add d).mul i.bytes<=bl)&&decide (len.add d<=bl)))=V:=by grind
    rw[this]at h;simp only[aR]at h;have mM:d*i.bytes<=bl:=fX (lD _ ab) sA;by_cases iU:d=0
    . subst iU;simp at h;obtain⟨rfl,rfl⟩:=h;have EJ:y=#[]:=by grind
      subst EJ;refine⟨φ,.slice (J K) (len+0) j,w,?_,?_,hQ.refl L B⟩;.exact lL _ len j w rfl ab (by rfl) mM ab
      .exact .sl id I len cap e p K j D hl ht E M hr CK oH
    .simp only[iU,kM,bS]at h;cases hg:H.get id with|none=>grind|some o=>cases o with|map _ _|mapIter _ _ _ _|loop _|deferred _=>grind|cells l root fl e0=>
      simp only[hg]at h;by_cases Bo:(H.bn root).1<=id
      . simp only[Bo,dM,aR]at h;obtain⟨ix,uk⟩:=Cg B D (hS _) hg Bo;have tf:j≠0->K=⟨p.aY,p.base+I,Z⟩:=hr;obtain⟨cs,fz,e1,lr,jt,TQ,TR⟩:=ix.slice uk (I:=I) (n:=len*e) ab;have xY:cs.size=p.oc:=by obtain⟨rf,Tz,_,g1,g2,_⟩:=ix;grind
        have hold:∃f:Array aC,(oq e len (.slice (J K) len j)).run P w.drew=.ok f w.drew/\ba φ ((l.drop I).take (len*e)) f.toList/\f.size=len*e:=by
         by_cases uV:j=0;.have wG:len=0:=ab;subst wG;simp[oq,loadCells,loadCellsFrom,ba.nil]
         .rw[tf uV];refine⟨cs.extract (p.base+I) (p.base+I+len*e),?_,TQ,ai⟩;exact aGV (I3 (w:=w.drew) lr jt)
        obtain⟨f,U,H6,Uc⟩:=hold;have Pe:∀{G:Heap},H.store id (I+len*e) g=J G->len+d<=j->∃w',A.run P w=.ok (.slice (J K) (len+d) j) w'/\hQ S φ H w φ G w':=by intro G O u;have H9:=tf ab;obtain⟨w',lM,k1,k2,k3⟩:=MR (P:=P) L B D (hS _) O hx ib;refine⟨w',lL _ len j w' rfl u ?_ mM ab,k1,k2.up λr _=>hS r,k3⟩;grind[wc]
        cases cap with|some c=>
         obtain⟨rfl,kN⟩:=E c rfl;simp only at h;by_cases u:len+d<=j;.have:decide (len.add d<=j)=V:=lf u;rw[this]at h;simp only[aR,ja]at h;obtain⟨G,O,heq⟩:=h;obtain⟨rfl,rfl⟩:AV.sl id I (len.add d) (J j) e=r/\G=H':=ai;obtain⟨w',lM,Ue⟩:=Pe O u;refine⟨φ,_,w',lM,?_,Ue⟩;refine .sl id I (len+d) (J j) e p K j D u ht E M hr CK ?_;have:(len+d)*e<=j*e:=lD _ u;omega
         .have:decide (len.add d<=j)=C:=xK u;rw[this]at h;simp only[bS,xw,Nv]at h;obtain⟨rfl,rfl⟩:=h;obtain⟨c',xX,N⟩:=OO _ len j f rfl u U sA Uj;obtain⟨q,Q,h2,h3,h4,R⟩:=fresh f _ len c' H6 TR Uc xX;have zJ:=JJ L B.drew (.cells ((l.drop I).take (len*e)++g) H.next .op elem) _ q Q (λl r fl e hh=>by grind) (R H.next);exact⟨fp φ H.next q,_,_,N,h4 _ (jD ..),hQ.drew zJ⟩|none=>
         have wK:=M rfl;simp only at h;by_cases ju:I+len*e+d*e<=l.length
         . have:decide (((I.add (len.mul e))).add (d.mul e)<=l.length)=V:=lf ju;rw[this]at h;simp only[aR,ja]at h;obtain⟨G,O,heq⟩:=h;obtain⟨rfl,rfl⟩:AV.sl id I (len.add d) Z e=r/\G=H':=ai;have u:len+d<=j:=by have:(len+d)*e<=j*e:=ai;grind[Nat.le_of_mul_le_mul_right]
           obtain⟨w',lM,Ue⟩:=Pe O u;refine⟨φ,_,w',lM,?_,Ue⟩;refine .sl id I (len+d) Z e p K j D u ht E M hr CK ?_;grind
         . have:decide (((I.add (len.mul e))).add (d.mul e)<=l.length)=C:=xK ju;rw[this]at h;simp only[bS]at h;by_cases Uq:(fl≠.ro/\(H.bn root).2=id)/\e0=elem
           . obtain⟨⟨nN,Eu⟩,rfl⟩:=Uq;have:(fl.wr&&(decide ((H.bn root).snd=id)&&decide (e0=e0)))=V:=by grind
             rw[this]at h;simp only[aR,xw,Nv]at h;obtain⟨rfl,rfl⟩:=h;have kN:((l.drop I).take (len*e)++g).length=(len+d)*e:=by rw[gJ,t,show((l.drop I).take (len*e)).length=f.size from by simpa using H6.1,Uc,<-xu]
             by_cases u:len+d<=j;.
              have H9:=tf ab;obtain⟨rf,Tz,e',g1,g2,g3,g4,g5,g6,g7⟩:=ix;rw[lr]at g1;obtain⟨rfl,rfl,rfl⟩:=Obj.cells.inj (bt g1);obtain⟨rfl,rfl⟩:=g6 nN;have jW:p.base+I+(len+d)*e<=cs.size:=by have:(len+d)*e<=j*e:=lD _ u;omega
              have Ih:∀x,x∈y.toList->vH x=V:=by intro x ik;obtain⟨k,hk⟩:=List.mem_iff_getElem?.1 ik;have kA:k<g.length:=ai;exact(hx.2 k _ _ (dD kA) hk).aV (ib _ (GA kA))
              have aMU:y.toList.length=d*e:=ab;have hmul:(len+d)*e=len*e+d*e:=xu _ _ _;have O:=MA (P:=P) lr (I:=p.base+I+len*e) (vs:=y.toList) ab Ih;have N:=lL _ len j _ rfl u (by simp only;rw[H9,wc];omega) mM ab;have pR:=TD (w':=World.eU w p.aY (.cells (over cs (p.base+I+len*e) y.toList) e1 (0,0))) L B D hg nN Eu (H.bn root).1 rfl ((l.drop I).take (len*e)++g) (decide (I+len*e<l.length)) ⟨p.aY,p.base+I,p.oc,((l.drop I).take (len*e)++g).length⟩ rfl (by simp[BT]) ⟨rfl,rfl,rfl⟩ (λb _ h=>BS w _ h) (.inl ⟨rfl,?_⟩) (λhk X e1 OA h=>?_) ?_
              . rw[eK]at*;refine⟨fp φ H.next ⟨p.aY,p.base+I,p.oc,((l.drop I).take (len*e)++g).length⟩,_,_,N,?_,pR⟩;rw[H9];refine .sl H.next 0 (len+d) Z e ⟨p.aY,p.base+I,p.oc,((l.drop I).take (len*e)++g).length⟩ ⟨p.aY,p.base+I,Z⟩ j (jD ..) u ?_ (λk hk=>ai) (λ_=>?_) (λ_=>rfl) CK ?_;.omega
                .show((l.drop I).take (len*e)++g).length<=0+j*e;rw[kN];have:(len+d)*e<=j*e:=lD _ u;omega
                grind
              .grind
              .rw[lr]at h;obtain⟨rfl,rfl,rfl⟩:=Obj.cells.inj (bt h);refine⟨_,Aq w _ (B.stat.cw id p D).1,Ai _ _ _ ab,λk zR=>?_⟩;have rl:¬(I+len*e<l.length):=ai;rw[uz _ _ _ ab,if_neg ab]
              . refine⟨over cs (p.base+I+len*e) y.toList,(0,0),_,Aq w _ (B.stat.cw id p D).1,?_,?_,?_,?_,λ_=>⟨rfl,rfl⟩,λh=>ai⟩;.grind[Ai]
                .grind
                . intro k a ha;have zR:k<(len+d)*e:=ai;have K5:((l.drop I).take (len*e)).length=len*e:=ai;show∃c,(over cs (p.base+I+len*e) y.toList)[p.base+I+k]?=J c/\_;rw[uz _ _ _ ab];by_cases yc:k<len*e;.rw[mz ab,v7 yc,sS]at ha;grind
                  .rw[ov ab,K5]at ha;obtain⟨v,hv,EI⟩:=hx.get ha;refine⟨v,?_,EI⟩;rw[if_pos ab,show p.base+I+k-(p.base+I+len*e)=k-len*e from ab];omega
                grind
             .obtain⟨c',xX,N⟩:=OO _ len j f rfl u U sA Uj;obtain⟨q,Q,h2,h3,h4,R⟩:=fresh f _ len c' H6 TR Uc xX;have pR:=TD (w':=World.push w.drew (.cells (f++y++nF zv.cells (c'-(len+d))) e0)) L B.drew D hg nN Eu (H.bn root).1 rfl ((l.drop I).take (len*e)++g) (decide (I+len*e<l.length)) q h3.symm (by simp[Dg]) ⟨rfl,rfl,rfl⟩ (λb hb _=>FA _ _ hb) (.inr ⟨by rw[Q];simp,by rw[Q,Dg];simp⟩) (λ_ X e1 OA h=>⟨X,(FA _ _ (B.stat.cw id p D).1).trans h,rfl,λ_ _=>rfl⟩) (R root);rw[eK];exact⟨fp φ H.next q,_,_,N,h4 _ (jD ..),hQ.drew pR⟩
           grind[fM.wr]
      grind
  grind|_=>simp at h
end
def iP(P:aG)(a:bc):Prop:=∀g,g<P.globals.size->∃p,a g=J p/\p.aY=g/\p.base=0
theorem iP.mono(h:Ext φ ψ)(g:iP P φ):iP P ψ:=λi hi=>let⟨p,a,b⟩:=g i hi;⟨p,h _ _ a,b⟩
structure Reads(ρ:aK->aC):Prop where
 const:∀v,ρ (.const v)=v
 ao:∀g,ρ (.global g)=.pointer (J ⟨g,0,Z⟩)func:∀f,ρ (.func f)=.func (.func f) #[] #[]
def fj(b:bc)(m:Tr AV)(a:aK->aC)(x:aK):Prop:=∀t,x=.tmp t->VR b ((m.get t).getD fo) (a x)
section
variable{P:aG}{S:Nat->Prop}{φ:bc}{H:Heap}{w:aW}{tm:Tr AV}{ρ:aK->aC}
theorem fE(d:iP P φ)(r:Reads ρ){x:aK}(o:fj φ tm ρ x)(h:bB P tm x=J a):VR φ a (ρ x)/\a≠.top:=by
 rcases x with t|v|g|f;.have j:=o t rfl;grind[bB]
 .simp only[bB]at h;rw[r.const];grind[Vl,aC4]
 . simp only[bB,eK]at h;by_cases b:g<P.globals.size;.obtain⟨p,c,e,i⟩:=d g b;rw[r.ao];have:=VR.ptr g 0 p c;grind
   grind
 simp[bB]at h;subst h;rw[r.func];exact⟨.func f [] [] _ _ rfl rfl aO aO,aO⟩
theorem L6(g:iP P φ)(r:Reads ρ):∀{l:List aK}{S:aJ},(∀x,x∈l->fj φ tm ρ x)->cu (bB P tm) l=J S->ba φ S (l.map ρ):=by intro l;induction l with|nil=>simp[EZ,ba.nil]|cons x l i=>
 intro S o h;rw[PX]at h;rcases b:bB P tm x with _|a;.grind
 rcases c:cu (bB P tm) l with _|t;.grind
 simp[b,c]at h;subst h;exact ba.cons (fE g r ai b).1 ai
theorem L9{s:aJ}{c:Array aC}(h:pB P t s I=J a)(d:ba φ s c.toList)(j:∀x,x∈s->x.aV=V):∃v,(∀w:aW,(part t c I).run P w=.ok v w)/\VR φ a v:=by
 unfold pB at h;rcases f:AM.isAgg P t with _|b;.grind
 cases b with
 |true=>
 rcases z:aZ P t with _|n;.grind
 simp only[z,cQ,dg,dS,pI,ql]at h;by_cases l:I+n<=s.length
 . have e:AV.agg ((s.drop I).take n)=a:=by grind
   subst e;refine⟨.agg (c.extract I (I+n)),λw=>by simp_all[part,QO,lR],?_⟩;have:=(d.drop I).take n;refine this.agg ai _ ?_;simp_all
 grind|false=>simp only[f,wT]at h;obtain⟨v,g,i⟩:=d.get h;simp_all[part,QO]
theorem Sd{a b:ByteArray}{l m:aD}(h:a.data.toList.map ka=l)(c:b.data.toList.map ka=m):(a.toList==b.toList)=xM l m:=by
 rw[xN,ByteArray.toList_eq,ByteArray.toList_eq];rw[Bool.eq_iff_iff];constructor;.grind
 . have i:∀(x y:List _),x.map ka=y.map ka->x=y:=by intro x;induction x with|nil=>simp_all|cons a x e=>intro y d;cases y<;>grind[UInt8.toNat_inj]
   grind
theorem apa{e:Nat}(K:∀{t:an}{x y:AV}{b:Bool}{u v:aC},mI P e t x y=J b->VR φ x u->VR φ y v->∀d,e<=d->∀w:aW,(Op.equalIn d t u v).run P w=.ok b w){j k:aJ}{n o:Array aC}(H:ba φ j n.toList)(I:ba φ k o.toList)(l:∀x,x∈j->x.aV=V)(E:∀x,x∈k->x.aV=V)(d:Nat)(G:e<=d)(w:aW):∀(s:List Field)(c r:Bool),nL (λc(f:Field)=>bif c then(bif f.name== "_"then J V else(pB P f.type j f.offset).bind λa=>(pB P f.type k f.offset).bind λb=>mI P e f.type a b)else J C) s c=J r->(c=C->r=C)/\(c=V->(Op.eqFields d n o s).run P w=.ok r w):=by intro s;induction s with|nil=>simp[Hu,Op.eqFields]|cons f s i=>
 intro c r h;rw[Ht]at h;rcases c with _|_;.grind
 by_cases D:f.name= "_";.grind[Op.eqFields]
 . have L:(f.name== "_")=C:=ai;simp only[L,bS]at h;rcases p:pB P f.type j f.offset with _|a;.grind
   rcases z:pB P f.type k f.offset with _|b;.grind
   simp only[p,z,cQ]at h;rcases A:mI P e f.type a b with _|q;.grind
   simp only[A]at h;obtain⟨u,m,F⟩:=L9 p H l;obtain⟨v,B,M⟩:=L9 z I E;have g:=K A F M d G w;cases q with|true=>have:=(i V r h).2 rfl;simp[Op.eqFields,D,m,B,g,this]|false=>have:=(i C r h).1 rfl;subst this;simp[Op.eqFields,D,m,B,g]
set_option maxHeartbeats 1600000 in theorem SQ:∀(f:Nat){t:an}{x y:AV}{b:Bool}{u v:aC},mI P f t x y=J b->VR φ x u->VR φ y v->∀d,f<=d->∀w:aW,(Op.equalIn d t u v).run P w=.ok b w:=by intro f;induction f with|zero=>simp[mI]|succ f q=>
 intro t x y b u v h a c d hd w;obtain⟨d,rfl⟩:∃g,d=g+1:=⟨d-1,ab⟩;have r:f<=d:=ab;have e:mI P (f+1) t x y=Hf P (mI P f) t x y:=rfl;rw[e]at h;unfold Hf at h;split at h;.rename_i j;cases a;cases c;simp at h;subst h;simp[Op.equalIn,dC j]
 .rename_i j;cases a;cases c;split at h<;>simp at h;rename_i k;subst k;subst h;rw[zC];simp[Op.equalIn,dC j];rfl
 .rename_i j;cases a with|str _ z e1=>cases c with|str _ A e2=>simp at h;subst h;rw[<-Sd e1 e2,<-beq_toListBytes];simp[Op.equalIn,dC j]
 .rename_i i B D j;obtain⟨m,rfl,o,s⟩:=a.xA;obtain⟨n,rfl,p,l⟩:=c.xA;grind[Program.fieldsOf,run_equalIn_struct,apa]
 iterate 6·rename_i j;cases a;cases c;simp at h;subst h;simp[Op.equalIn,dC j]
 grind
theorem aw2{o:BinOp}{k:fN}{a b:Int}{r:AV}(h:Il P o k a b=J r)(t:an):∃v,(∀w:aW,(binOp o t (.int k a) (.int k b)).run P w=.ok v w)/\VR φ r v:=by
 unfold Il at h;split at h;.simp at h;subst h;exact⟨_,λw=>by simp[binOp,Op.intArith];rfl,by rw[BY];exact .int k _⟩
 .simp at h;subst h;exact⟨_,λw=>by simp[binOp,Op.intArith];rfl,by rw[BY];exact .int k _⟩
 .simp at h;subst h;exact⟨_,λw=>by simp[binOp,Op.intArith];rfl,by rw[BY];exact .int k _⟩
 . rw[zC]at h;by_cases c:b=0;.simp[c]at h
   .simp[c]at h;subst h;exact⟨_,λw=>by simp[binOp,Op.intDiv,c];rfl,by rw[BY];exact .int k _⟩
 . rw[zC]at h;by_cases c:b=0;.simp[c]at h
   .simp[c]at h;subst h;exact⟨_,λw=>by simp[binOp,Op.intDiv,c],.int k _⟩
 .obtain⟨n,d⟩:∃n,∀w,(Op.intBits .and k a b).run P w=.ok (.int k n) w:=⟨_,λw=>by rfl⟩;rw[d _]at h;simp at h;subst h;exact⟨_,λw=>by grind[binOp],.int k n⟩
 .obtain⟨n,d⟩:∃n,∀w,(Op.intBits .xor k a b).run P w=.ok (.int k n) w:=⟨_,λw=>by rfl⟩;rw[d _]at h;simp at h;subst h;exact⟨_,λw=>by grind[binOp],.int k n⟩
 .simp at h;subst h;refine⟨.bool (a==b),λw=>by simp[binOp,Op.intCmp],?_⟩;rw[zC];exact .bool _
 .simp at h;subst h;refine⟨.bool (a !=b),λw=>by simp[binOp,Op.intCmp],?_⟩;rw[zC];exact .bool _
 .simp at h;subst h;refine⟨.bool (a<b),λw=>by simp[binOp,Op.intCmp],?_⟩;rw[Iz];exact .bool _
 .simp at h;subst h;refine⟨.bool (a<=b),λw=>by simp[binOp,Op.intCmp],?_⟩;rw[Iz,<-decide_not,decide_eq_decide.2 (Int.not_lt)];exact .bool _
 .simp at h;subst h;refine⟨.bool (b<a),λw=>by simp[binOp,Op.intCmp],?_⟩;rw[Iz];exact .bool _
 .simp at h;subst h;refine⟨.bool (b<=a),λw=>by simp[binOp,Op.intCmp],?_⟩;rw[Iz,<-decide_not,decide_eq_decide.2 (Int.not_lt)];exact .bool _
 grind
theorem MJ{s:ByteArray}{l:aD}(h:s.data.toList.map ka=l):s.size=l.length:=by subst h;simp_all
theorem azX:∀a b:List UInt8,Op.bytesLess a b=Bw (a.map ka) (b.map ka):=by intro a;induction a with|nil=>intro b;cases b<;>rfl|cons x a i=>
 intro b;rcases b with _|⟨y,b⟩;.rfl
 show(decide (x<y)||(x==y&&Op.bytesLess a b))=(bif cm x.toNat y.toNat then V else bif cm y.toNat x.toNat then C else Bw (a.map ka) (b.map ka));rw[i b,eK,eK];have c:(x<y)↔x.toNat<y.toNat:=Iff.rfl;have f:(x==y)=decide (x.toNat=y.toNat):=by rw[Bool.eq_iff_iff,beq_iff_eq,gZ];exact⟨λh=>by rw[h],λh=>UInt8.toNat_inj.1 h⟩
 rw[f];by_cases d:x.toNat<y.toNat;.simp[c,d]
 . by_cases e:y.toNat<x.toNat;.have:¬x.toNat=y.toNat:=ab;simp[c,d,e,this]
   .have:x.toNat=y.toNat:=ab;simp[c,this]
theorem aJD{o:BinOp}{a b:aD}{r:AV}{u v:ByteArray}(h:Q9 o a b=J r)(c:u.data.toList.map ka=a)(d:v.data.toList.map ka=b)(t:an):∃x,(∀w:aW,(binOp o t (.string u) (.string v)).run P w=.ok x w)/\VR φ r x:=by
 have e:=Sd c d;have U:Op.bytesLess u.toList v.toList=Bw a b:=by rw[azX,ByteArray.toList_eq,ByteArray.toList_eq,c,d]
 unfold Q9 at h;split at h
 . rw[dg,dS,dS,kZ]at h;by_cases l:a.length+b.length<=1000000000
   . have:decide (a.length.add _<=1000000000)=V:=lf l;rw[this]at h;simp at h;subst h;have f:=MJ c;have g:=MJ d;refine⟨.string (u++v),λw=>?_,.str _ _ ?_⟩
     . have:¬(((u.size+v.size:Nat):Int)>IntKind.i64.max):=by
        have:IntKind.i64.max=9223372036854775807:=by rfl
        omega
       simp_all[binOp,Op.stringOp]
     simp_all
   grind
 .simp at h;subst h;exact⟨_,λw=>by rfl,by rw[e];exact .bool _⟩
 .simp at h;subst h;exact⟨_,λw=>by rfl,by rw[e];exact .bool _⟩
 .simp at h;subst h;exact⟨_,λw=>by rfl,by rw[U];exact .bool _⟩
 .simp only[xw]at h;subst h;exact⟨_,λw=>by rfl,by rw[e,U];exact .bool _⟩
 grind
theorem aG1{o:BinOp}{k y c:fN}{a b n:Int}{d:aW}(h:(Op.shift o k a y b).run P default=.ok (.int c n) d):∀w:aW,(Op.shift o k a y b).run P w=.ok (.int c n) w:=by
 unfold Op.shift at*;split at h;.simp_all[runtimePanic]
 .cases o<;>simp at h|-<;>grind
theorem binOp_eql(i:∀k a c b,u=.int k a->v=.int c b->False)(s:∀a b,u=.string a->v=.string b->False)(f:∀k a,u=.float k a->False)(h:∀k a b,u=.complex k a b->False):binOp .eql t u v=(do pure (.bool (<-Op.equal t u v)):Sem aC):=by simp_all[binOp]
theorem binOp_neq(i:∀k a c b,u=.int k a->v=.int c b->False)(s:∀a b,u=.string a->v=.string b->False)(f:∀k a,u=.float k a->False)(h:∀k a b,u=.complex k a b->False):binOp .neq t u v=(do pure (.bool (!(<-Op.equal t u v))):Sem aC):=by simp_all[binOp]
theorem adG{o:BinOp}(h:o≠.eql)(a:o≠.neq)(w:aW):(eqGuard o t xo yo u v).run P w=.ok () w:=by simp[eqGuard]
theorem OD{o:BinOp}(h:u≠.nilIface)(e:∀a b,u=.agg a->v=.agg b->P.eqGuardType P.depth t=C)(w:aW):(eqGuard o t xo yo u v).run P w=.ok () w:=by
 by_cases c:o=.eql;.subst c;unfold eqGuard;simp;split<;>simp_all
 . by_cases d:o=.neq;.subst d;unfold eqGuard;simp;split<;>simp_all
   grind[adG]
set_option maxHeartbeats 1600000 in theorem alb{o:BinOp}{y r:AV}(h:xG P o t xo yo x y=J r)(d:VR φ x u)(f:VR φ y v)(I:x≠.top)(F:y≠.top):∃z,(∀w:aW,((do eqGuard o t xo yo u v;binOp o t u v:Sem aC)).run P w=.ok z w)/\VR φ r z:=by
 have fin:∀{z},(∀w:aW,(eqGuard o t xo yo u v).run P w=.ok () w)->(∀w:aW,(binOp o t u v).run P w=.ok z w)->∀w:aW,((do eqGuard o t xo yo u v;binOp o t u v:Sem aC)).run P w=.ok z w:=λm n w=>aT;have l:∀k a,u=.float k a->False:=λk a e=>by subst e;cases d
 have j:∀k a b,u=.complex k a b->False:=λk a b e=>by subst e;cases d
 unfold xG at h;split at h
 . cases d;cases f;split at h;.simp at h;subst h;exact⟨_,fin (adG aO aO) (λw=>by grind[binOp,aG1]),.int _ _⟩
   grind
 .cases d;cases f;simp_all[aw2,OD]
 .cases d with|str _ A e1=>cases f with|str _ B e2=>obtain⟨z,m,n⟩:=aJD (P:=P) (φ:=φ) h e1 e2 t;grind[OD]
 . have hi:∀k a g b,u=.int k a->v=.int g b->False:=λk a g b e1 e2=>by subst e1;cases d<;>cases f<;>first|exact I rfl|exact F rfl|grind
   have s:∀a b,u=.string a->v=.string b->False:=λa b e1 e2=>by subst e1;cases d<;>cases f<;>first|exact I rfl|exact F rfl|grind
   obtain⟨q,b,i,hr⟩:zI P t xo yo x y=V/\∃b,mI P 50 t x y=J b/\r=.bool b:=by
     revert h;generalize zI P t xo yo x y=c;rcases c with _|_;.grind
     cases p:mI P 50 t x y<;>simp_all
   subst hr;refine⟨_,fin (OD ?_ ?_) (λw=>?_),.bool _⟩;.intro e1;subst e1;cases d
   . intro a c e1 e2;subst e1;subst e2;cases d<;>first|exact absurd rfl I|skip
     cases f<;>first|exact absurd rfl F|skip
     grind[zI]
   .rw[binOp_eql hi s l j];have:=SQ 50 i d f Op.maxDepth eY w;simp_all[Op.equal]
 . have hi:∀k a g b,u=.int k a->v=.int g b->False:=λk a g b e1 e2=>by subst e1;cases d<;>cases f<;>first|exact I rfl|exact F rfl|grind
   have s:∀a b,u=.string a->v=.string b->False:=λa b e1 e2=>by subst e1;cases d<;>cases f<;>first|exact I rfl|exact F rfl|grind
   obtain⟨q,b,i,hr⟩:zI P t xo yo x y=V/\∃b,mI P 50 t x y=J b/\r=.bool (!b):=by
     revert h;generalize zI P t xo yo x y=c;rcases c with _|_;.grind
     cases p:mI P 50 t x y<;>simp_all
   subst hr;refine⟨_,fin (OD ?_ ?_) (λw=>?_),.bool _⟩;.intro e1;subst e1;cases d
   . intro a c e1 e2;subst e1;subst e2;cases d<;>first|exact absurd rfl I|skip
     cases f<;>first|exact absurd rfl F|skip
     grind[zI]
   .rw[binOp_neq hi s l j];have:=SQ 50 i d f Op.maxDepth eY w;simp_all[Op.equal]
 grind
end
def oV(P:aG)(a:bc)(A:Sem aC)(r:AV):Prop:=∃v,(∀w:aW,A.run P w=.ok v w)/\VR a r v
section
variable{P:aG}{S:Nat->Prop}{φ:bc}{H:Heap}{w:aW}{tm:Tr AV}{ρ:aK->aC}
theorem aKp{o:UnOp}{r:AV}(h:Rj o x=J r)(a:VR φ x u):oV P φ (Op.unary o u) r:=by
 unfold Rj at h;split at h;.cases a;simp at h;subst h;rename_i k n;refine⟨_,λw=>by rfl,?_⟩;rw[BY];exact .int k _
 .cases a;simp at h;subst h;exact⟨_,λw=>by rfl,.bool _⟩
 grind
theorem aDZ(c:Array aC)(o:Nat)(v:aC)(s:List aC)(h:o+(s.length+1)<=c.size):over (c.setIfInBounds o v) (o+1) s=over c o (v::s):=by apply Rx;grind[uz]
theorem asl:∀(l:List aC)(k:Nat)(cells:Array aC)(I:Nat),I+k+l.length<=cells.size->(l.zipIdx k).foldl (λcs(p:aC×Nat)=>cs.setIfInBounds (I+p.2) p.1) cells=over cells (I+k) l:=by intro l;induction l with|nil=>intro k cells I h;apply Rx;simp_all[uz,if_neg]|cons v l i=>intro k cells I h;rw[List.zipIdx_cons,AI];rw[i _ _ _ ai,show I+(k+1)=I+k+1 from rfl,aDZ _ _ _ _ ab]
theorem asm(v e:Array aC)(o:Nat)(h:o+v.size<=e.size):v.zipIdx.foldl (λcs(c,j)=>cs.setIfInBounds (o+j) c) e=over e o v.toList:=by have:=asl _ 0 _ _ ab;grind[Array.toList_zipIdx]
theorem Te(l f:Nat->ah (Nat×Nat)):∀(e:List (Nat×AV))(s:List (Nat×aC))(cs:aJ)(c:Array aC)(r:aJ),(∀i x,l i=J x->f i=J x)->e.length=s.length->(∀(i:Nat)(p:Nat×AV)(q:Nat×aC),e[i]?=J p->s[i]?=J q->p.1=q.1/\VR φ p.2 q.2)->ba φ cs c.toList->(∀x,x∈cs->x.aV=V)->zG l e cs=J r->∃d,Instr.fill f c s=J d/\ba φ r d.toList/\(∀x,x∈r->x.aV=V)/\r.length=cs.length:=by intro e;induction e with|nil=>intro s cs c r U y H g k h;obtain rfl:s=[]:=ai;unfold zG at h;rw[Hu]at h;obtain rfl:cs=r:=ai;exact⟨c,rfl,g,k,rfl⟩|cons p e B=>intro s cs c r U y H g k h;cases s with|nil=>grind|cons q s=>obtain⟨e1,j⟩:=H 0 p q rfl rfl;obtain⟨F,v⟩:=q;simp only at e1 j;replace h:((l p.1).bind λo=>p.2.cells.bind λvs=>bif aw (eM vs) o.2&&br (gW o.1 o.2) (eM cs)then J (fL cs o.1 vs)else Z).bind (zG l e)=J r:=h;cases A:l p.1 with|none=>grind|some o=>cases N:p.2.cells with|none=>grind|some vs=>
 obtain⟨u,M⟩:=j.cells N;have G:vs.length=v.cells.size:=by simpa using u.1
 have m:cs.length=c.size:=by simpa using g.1
 simp only[A,N,cQ,bE,dg,dS]at h;by_cases n:vs.length=o.2
 . by_cases t:o.1+o.2<=cs.length;.have e2:decide (o.1.add o.2<=cs.length)=V:=lf t;rw[e2,lf n]at h;simp only[xi,aR,cQ]at h;have z:=g.Y1 u o.1;have L:o.1+v.cells.size<=c.size:=ab;obtain⟨d,I,K,T,w⟩:=B s _ (over c o.1 v.cells.toList) r U ai (λi a b D E=>H (i+1) a b ai ai) (by grind[over]) (by grind[Dt]) h;grind[yJ,Instr.fill,asm]
   grind
 grind
theorem arA{f:Nat}{i:Array Field}{d:Field}{s:aJ}{r:AV}(l:P.underlying t=J (.struct i))(k:i[f]?=J d)(e:VR φ (.agg s) v)(h:pB P d.type s d.offset=J r):oV P φ (Instr.field t v f) r:=by obtain⟨c,rfl,b,g⟩:=e.xA;obtain⟨u,j,a⟩:=L9 h b g;exact⟨u,λw=>by simp_all[Instr.field,dC,asAgg],a⟩
theorem aro{i:Nat}{r:AV}(d:VR φ (.cM vs) v)(h:oM vs i=J r):oV P φ (Instr.extract v i) r:=by obtain⟨c,rfl,b⟩:=d.aKk;rw[wT]at h;obtain⟨u,e,a⟩:=b.get h;exact⟨u,λw=>by simp_all[Instr.extract],a⟩
theorem aJE{s:ByteArray}{l:aD}(h:s.data.toList.map ka=l){i b:Nat}(a:l[i]?=J b):∃c:UInt8,s[i]?=J c/\c.toNat=b:=by
 subst h;rcases d:s.data.toList[i]? with _|c;.grind
 simp[d]at a;refine⟨c,?_,a⟩;obtain⟨hi,e⟩:=List.getElem?_eq_some_iff.1 d;have H:=by show i<s.data.size;omega
 rw[getElem?_pos s i H];congr 1
end
section
variable{P:aG}{S:Nat->Prop}{φ:bc}{H:Heap}{w:aW}
theorem Im{k:fN}{i:Nat}(h:VR φ (.int k (.ofNat i)) v):v=.int k (.ofNat i):=by cases h;rfl
theorem awP{l:Nat}{k:fN}{i n:Nat}{s:aJ}{r:AV}(o:P.underlying t=J (.array l elem))(z:aZ P elem=J n)(m:i<l)(f:VR φ (.agg s) v)(h:pB P elem s (iR i n)=J r):oV P φ (Instr.index t v (.int k (.ofNat i))) r:=by obtain⟨c,rfl,e,g⟩:=f.xA;obtain⟨u,b,d⟩:=L9 h e g;refine⟨u,λw=>?_,d⟩;have j:=b w;have a:(part elem c (i*n)).run P w=.ok u w:=j;simp_all[Instr.index,asIntOf,dC,lR]
theorem awQ{k:fN}{i b:Nat}{s:aD}(u:P.underlying t=J .string)(d:VR φ (.str s) v)(h:oM s i=J b):oV P φ (Instr.index t v (.int k (.ofNat i))) (.int .u8 (.ofNat b)):=by cases d with|str _ x e=>rw[wT]at h;obtain⟨c,f,a⟩:=aJE e h;subst a;exact⟨.int .u8 (.ofNat c.toNat),λw=>by simp_all[Instr.index,asIntOf,dC],.int _ _⟩
theorem ary{s:an}{f n a:Nat}{i:Array Field}{d:Field}(u:P.underlying s=J (.struct i))(c:i[f]?=J d)(z:aZ P d.type=J (n+1))(b:VR φ (.ptr a I) v):oV P φ (Instr.fieldAt s v f) (.ptr a (gW I d.offset)):=by cases b with|ptr _ _ p h=>refine⟨.pointer (J ⟨p.aY,p.base+(I+d.offset),Z⟩),λw=>?_,.ptr a _ p h⟩;simp_all[Instr.fieldAt,dC,Instr.sureAddr,fieldPlace,lR,wc,xr]
theorem awL{l n d i:Nat}{k:fN}(u:P.underlying t=J (.array l elem))(z:aZ P elem=J n)(h:i<l)(b:VR φ (.ptr d I) v):oV P φ (Instr.indexAt t v (.int k (.ofNat i))) (.ptr d (gW I (iR i n))):=by cases b with|ptr _ _ p a=>refine⟨.pointer (J ⟨p.aY,p.base+(I+i*n),Z⟩),λw=>?_,.ptr d _ p a⟩;simp[Instr.indexAt,asIntOf,dC u,Instr.sureAddr,lR z,wc,xr,h]
theorem awN{l e d i:Nat}{c:ah Nat}{k:fN}(u:P.underlying t=J (.slice elem))(z:aZ P elem=J e)(h:i<l)(b:VR φ (.sl d I l c e) v):oV P φ (Instr.indexAt t v (.int k (.ofNat i))) (.ptr d (gW I (iR i e))):=by cases b with|sl _ _ _ _ _ p g cap a n r j q hr m o=>have f:=hr ab;subst f;refine⟨.pointer (J ⟨p.aY,p.base+(I+i*e),Z⟩),λw=>?_,.ptr d _ p a⟩;simp[Instr.indexAt,asIntOf,dC u,lR z,wc,xr,h]
theorem GX(h:mC x y=J r)(a:VR φ x v):r<=y/\∀c,∀w:aW,(Instr.sliceBound v y c).run P w=.ok r w:=by
 unfold mC at h;split at h;.rw[dg]at h;cases a;rename_i n;by_cases l:n<=y<;>simp_all[Instr.sliceBound,asIntOf]
 grind
def p9(b:bc):ah AV->ah aC->Prop|none,Z=>True|some a,J v=>VR b a v|_,_=>False
theorem aaK{b:AV}{z:Nat}(a:mC b y=J h)(c:h<=z):mC b z=J h:=by unfold mC at a|-;split at a<;>grind[dg]
theorem R8{l:Nat}{o:ah AV}{t:ah aC}(H:p9 φ o t)(b:eX o h 0=J l):(t=Z/\l=0)\/∃u,t=J u/\∀c,∀w:aW,(Instr.sliceBound u h c).run P w=.ok l w:=by
 rcases o with _|a;.grind[p9,eX]
 rcases t with _|u;.grind[p9]
 exact .inr ⟨u,rfl,(GX (show mC a _=J l from b) H).2⟩
theorem aaM{isSlice:Bool}{e l:Nat}{o:ah AV}{t r:ah aC}(H:p9 φ o t)(B:p9 φ hi r)(a:eX hi y e=J h)(c:eX o h 0=J l)(d:h<=cap):∀w:aW,(Instr.sliceBounds isSlice e cap t r Z).run P w=.ok (l,h,cap) w:=by
 intro w;rcases hi with _|b;.cases r with|some v=>grind[p9]|none=>simp[eX]at a;subst a;rcases R8 (P:=P) H c with⟨rfl,rfl⟩|⟨u,rfl,f⟩<;>simp_all[Instr.sliceBounds]
 rcases r with _|v;.grind[p9]
 have f3:=(GX (P:=P) (aaK (show mC b y=J h from a) d) B).2;rcases R8 (P:=P) H c with⟨rfl,rfl⟩|⟨u,rfl,f⟩;all_goals simp_all[Instr.sliceBounds]
theorem aaL{isSlice:Bool}{e l m:Nat}{o:ah AV}{x:AV}{t r:ah aC}{n:aC}(g:p9 φ o t)(B:p9 φ hi r)(H:VR φ x n)(i:hi≠Z)(a:mC x y=J m)(c:eX hi m e=J h)(d:eX o h 0=J l)(f:m<=cap):∀w:aW,(Instr.sliceBounds isSlice e cap t r (J n)).run P w=.ok (l,h,m) w:=by
 have e2:=(GX (P:=P) (aaK a f) H).2;intro w;rcases hi with _|b;.grind
 rcases r with _|v;.grind[p9]
 have f2:=(GX (P:=P) (show mC b m=J h from c) B).2;rcases R8 (P:=P) g d with⟨rfl,rfl⟩|⟨u,rfl,j⟩<;>simp_all[Instr.sliceBounds]
theorem SH{i e:Nat}{a:Addr}(g:φ i=J p)(t:p.base+I+cap*e<=p.oc)(j:cap≠0->a=⟨p.aY,p.base+I,Z⟩)(b:0<e){l m:Nat}(f:l<=h)(d:h<=m)(N:m<=cap)(n:I+h*e<=p.len)(c:ah Nat)(x:∀k,c=J k->m-l=k/\I+m*e<=p.len)(w:c=Z->p.len<=I+m*e):∃r:Addr,(if m=l then a else a.add (l*e))=r/\VR φ (.sl i (gW I (iR l e)) (Nat.sub h l) c e) (.slice (J r) (h-l) (m-l)):=by
 have e1:(I+l*e)+(m-l)*e=I+m*e:=by rw[xr,<-xu];grind
 have e2:(I+l*e)+(h-l)*e=I+h*e:=by rw[xr,<-xu];grind
 have e3:m*e<=cap*e:=lD _ N;refine⟨_,rfl,?_⟩;.refine .sl i (I+l*e) (h-l) c e p _ (m-l) g ab ?_ ?_ ?_ ?_ b ?_<;>grind[wc]
theorem afH(s:bM S φ H w){i:Nat}(a:φ i=J p)(h:H.cellsOf i=J l):l.length=p.len:=by obtain⟨r,fl,e,g,_⟩:=JV h;exact s.stat.len i p l r fl e a g
set_option maxHeartbeats 1600000 in theorem aIl(hs:bM S φ H w){D f:ah AV}{r:AV}{T R E:ah aC}(h:pD P H t x D hi f=J r)(hv:VR φ x v)(wH:p9 φ D T)(Bg:p9 φ hi R)(HU:p9 φ f E)(hS:∀id I,x=.ptr id I->S (rootOf H id)):∃z,(Instr.sliceAt t v T R E).run P w=.ok z w/\VR φ r z:=by
 unfold pD at h;have his:f=Z\/hi≠Z:=by cases f<;>grind
 have Y:f=Z->E=Z:=λe=>by grind[p9]
 have hms:∀m,f=J m->∃mv,E=J mv/\VR φ m mv:=λm e=>by subst e;cases E<;>grind[p9]
 have d:sliceB P H t x D hi f=J r:=by grind
 clear h;have K:∀(i:Bool)(len cap y m a b:Nat),eX f y y=J m->(f=Z->y=cap)->eX hi m len=J b->eX D b 0=J a->m<=cap->b<=m->∀w:aW,(Instr.sliceBounds i len cap T R E).run P w=.ok (a,b,m) w:=by intro i len cap y m a b h0 hy B g A hbm;cases aMC:f<;>grind[eX,aaM,aaL]
 unfold sliceB at d;split at d;.
  rename_i elem F;cases hv;rcases u:aZ P elem with _|n;.grind
  simp only[u,cQ]at d;cases A:eX f 0 0 with|none=>grind|some m=>cases o:eX hi m 0 with|none=>grind|some b=>cases j:eX D b 0 with|none=>grind|some a=>
  simp[A,o,j]at d;subst d;have zer:∀{x:ah AV}{xv:ah aC}{q z:Nat},p9 φ x xv->eX x q q=J z->z<=q:=by intro x xv q z hx u;cases x with|none=>grind[eX]|some y=>cases xv with|none=>grind[p9]|some yv=>exact(GX (P:=P) (show mC y q=J z from u) hx).1
  have m0:m=0:=ai;subst m0;have b0:b=0:=ai;subst b0;have a0:a=0:=ai;subst a0;have:=K V 0 0 0 0 0 0 A (λ_=>rfl) o j (bJ _) (bJ _) w;exact⟨.slice Z 0 0,by simp[Instr.sliceAt,dC F,Instr.slice,this,lR u],.bC⟩
 .rename_i elem id I len c s F;cases hv with|sl _ _ _ _ _ p gT cap O hl Q hc ho hr M hn=>obtain⟨qp,lL⟩:=hc c rfl;subst qp;cases u:aZ P elem with|none=>grind|some n=>
  simp only[u,cQ,bE]at d;by_cases W:n=s;.subst W;simp only[dM,aR]at d;cases A:eX f cap cap with|none=>grind|some m=>cases o:eX hi m len with|none=>grind|some b=>cases j:eX D b 0 with|none=>grind|some a=>
   simp only[A,o,j,cQ,dg]at d;by_cases B:a<=b
   . by_cases g:b<=m
     . simp[B,g]at d;subst d;have N:m<=cap:=by cases f with|none=>grind[eX]|some q=>cases E with|none=>grind|some qv=>exact(GX (P:=P) (show mC q cap=J m from A) HU).1
       have G:=K V len cap cap m a b A (λ_=>rfl) o j N g w;have k1:m*n<=cap*n:=lD _ N;have k2:b*n<=m*n:=lD _ g;obtain⟨q,g1,g2⟩:=SH O Q hr M B g N ab (J (m-a)) (λk hk=>⟨ai,ab⟩) aO;refine⟨_,?_,g2⟩;simp only[Instr.sliceAt,Sem.run_bind,dC F,Result.andThen_ok,Instr.slice,G,lR u,Sem.run_pure,<-g1];grind
     grind
   grind
  grind
 .rename_i elem id I len s F;cases hv with|sl _ _ _ _ _ p gT cap O hl Q hc ho hr M hn=>have gh:=ho rfl;have fits:∀k,I+k*s<=p.len->k<=cap:=λk hk=>Nat.le_of_mul_le_mul_right (show k*s<=cap*s by omega) M;cases u:aZ P elem with|none=>grind|some n=>
  simp only[u,cQ,bE]at d;by_cases W:n=s;.subst W;simp only[dM,aR]at d;cases f with
  |some q=>simp only at d;obtain⟨mv,rfl,uY⟩:=hms q rfl;have X:hi≠Z:=ai;cases A:mC q bl with|none=>grind|some m=>cases o:eX hi m len with|none=>grind|some b=>cases j:eX D b 0 with|none=>grind|some a=>cases U:H.cellsOf id with|none=>grind|some l=>
       have uk:=afH hs O U;simp only[A,o,j,U,cQ,dg,dS]at d;by_cases h0:I+m*n<=l.length
       . have e0:decide (gW I (iR m n)<=l.length)=V:=lf h0;rw[e0]at d;by_cases g:b<=m
         . by_cases B:a<=b;.simp[B,g]at d;subst d;have N:=fits m ab;have G:=aaL (P:=P) (isSlice:=V) (cap:=cap) wH Bg uY X A o j N w;have k2:b*n<=m*n:=lD _ g;obtain⟨q',g1,g2⟩:=SH O Q hr M B g N ab (J (m-a)) (λk hk=>⟨ai,ab⟩) aO;refine⟨_,?_,g2⟩;simp only[Instr.sliceAt,Sem.run_bind,dC F,Result.andThen_ok,Instr.slice,G,lR u,Sem.run_pure,<-g1];grind
           grind
         grind
       grind|none=>rw[Y rfl];simp only at d;cases o:eX hi bl len with|none=>grind|some b=>cases j:eX D b 0 with|none=>grind|some a=>
   simp only[o,j,cQ,dg]at d;by_cases B:a<=b
   . rw[lf B]at d;simp only[aR]at d;have key:b<=cap->I+b*n<=p.len->r=.sl id (gW I (iR a n)) (Nat.sub b a) Z n->∃z,(Instr.sliceAt t (.slice (J gT) len cap) T R Z).run P w=.ok z w/\VR φ r z:=by intro L KF hre;subst hre;have G:=aaM (P:=P) (isSlice:=V) wH Bg o j L w;obtain⟨q',g1,g2⟩:=SH O Q hr M B L (bJ cap) KF Z aO (λ_=>ab);refine⟨_,?_,g2⟩;simp only[Instr.sliceAt,Sem.run_bind,dC F,Result.andThen_ok,Instr.slice,G,lR u,Sem.run_pure,<-g1];grind
     by_cases g:b<=len;.simp[g]at d;have k2:b*n<=len*n:=lD _ g;grind
     .cases U:H.cellsOf id<;>grind[afH,dS]
   grind
  grind
 grind
theorem M0{b:AV}(h:VR φ a u)(k:VR φ b v):VR φ (.cM [a,b]) (.tuple #[u,v]):=ba.cM (ba.cons h (ba.cons k (ba.nil φ))) _ rfl
theorem aKj{b c:AV}{x:aC}(h:VR φ a u)(k:VR φ b v)(m:VR φ c x):VR φ (.cM [a,b,c]) (.tuple #[u,v,x]):=ba.cM (ba.cons h (ba.cons k (ba.cons m (ba.nil φ)))) _ rfl
theorem aiZ(h:VR φ a u):VR φ (.cM [a]) (.tuple #[u]):=ba.cM (ba.cons h (ba.nil φ)) _ rfl
theorem aHd{d:TypeDesc}{k c:aC}{b:Bool}(u:P.underlying t=J d)(h:Instr.sameNow d k c=J b):∀w:aW,(Op.equal t k c).run P w=.ok b w:=by
 intro w;obtain⟨n,a⟩:∃n,Op.maxDepth=n+1:=⟨9999,rfl⟩;unfold Instr.sameNow at h;split at h
 . split at h;.rename_i e;subst e;simp at h;subst h;unfold Op.equal;rw[a];simp[Op.equalIn,dC u]
   grind
 .simp at h;subst h;unfold Op.equal;rw[a];simp[Op.equalIn,dC u]
 .simp at h;subst h;unfold Op.equal;rw[a];simp[Op.equalIn,dC u]
 grind
theorem arS{d:TypeDesc}{k:aC}(u:P.underlying t=J d):∀(es:List kJ)(i:Nat)(r:ah (Nat×aC)),Instr.findNow d k es i=J r->∀w:aW,(Instr.findAsking t k es i).run P w=.ok r w:=by intro es;induction es with|nil=>simp[Instr.findNow,Instr.findAsking]|cons e es a=>
 intro i r h w;unfold Instr.findNow at h;rcases s:Instr.sameNow d k e.key with _|b;.grind
 have:=aHd u s w;cases b<;>simp_all[Instr.findAsking]
theorem ac0{d:TypeDesc}{k:aC}{e:List kJ}{r:ah (Nat×aC)}(u:P.underlying t=J d)(h:∀w:aW,(Instr.findAsking t k e).run P w=.ok r w):∀w:aW,(Instr.findKey t k e).run P w=.ok r w:=by cases f:Instr.findNow d k e 0<;>simp_all[Instr.findKey,dC,arS]
theorem arP(s:VR φ k kv):∀(es:List eF)(ms:List kJ)(i:Nat)(r:ah (Nat×eF)),mZ φ es ms->oF P t k es i=J r->(r=Z/\∀w:aW,(Instr.findAsking t kv ms i).run P w=.ok Z w)\/∃j e m,r=J (i+j,e)/\es[j]?=J e/\ms[j]?=J m/\∀w:aW,(Instr.findAsking t kv ms i).run P w=.ok (J (i+j,m.val)) w:=by intro es;induction es with
 |nil=>
 intro ms i r c h;have:ms=[]:=by have:=c.1;grind
 have:r=Z:=by have d:J _=J r:=h;grind
 simp_all[Instr.findAsking]|cons e es u=>
 intro ms i r c h;rcases ms with _|⟨m,ms⟩;.have:=c.1;grind
 have l:=c.2 0 e m rfl rfl;have z:mZ φ es ms:=⟨by have:=c.1;grind,λj a b y A=>c.2 (j+1) a b ai ai⟩;have d:((mI P 50 t k e.1).bind λb=>bif b then J (J (i,e))else oF P t k es (i+1))=J r:=h;rcases f:mI P 50 t k e.1 with _|b;.grind
 have q:∀w,(Op.equal t kv _).run P w=.ok b w:=λw=>SQ 50 f s l.1 _ eY w;cases b with|true=>simp[f]at d;right;exact⟨0,e,m,ai,rfl,rfl,λw=>by simp_all[Instr.findAsking]⟩|false=>
 simp[f]at d;rcases u ms (i+1) r z d with⟨n,o⟩|⟨j,g,v,n,o,x,p⟩;.simp_all[Instr.findAsking]
 . refine .inr ⟨j+1,g,v,?_,ai,ai,λw=>?_⟩;.grind
   .have:=p w;simp[Instr.findAsking,q,this];omega
theorem axL:∀(b:Nat){t:an}{k:AV}{v:aC}{empty:Bool},It P b t k=V->VR φ k v->∀d,b<=d->∀w:aW,(Instr.checkKey empty d t v).run P w=.ok () w:=by intro b;induction b with|zero=>simp[It]|succ b y=>
 intro t k v e h s d hd w;obtain⟨d,rfl⟩:∃q,d=q+1:=⟨d-1,ab⟩;have g:Br P (It P b) t k=V:=h;unfold Br at g;split at g;.simp_all[Instr.checkKey,dC]
 .simp_all[Instr.checkKey,dC]
 .simp_all[Instr.checkKey,dC]
 .rename_i i cs z;obtain⟨c,rfl,r,x⟩:=s.xA;simp only[Instr.checkKey,Sem.run_bind,dC z,Result.andThen_ok];rw[qf]at g;rw[<-Array.forIn_toList];generalize i.toList=l at g;induction l with|nil=>rfl|cons f l m=>
  simp only[oT,gD]at g;have B:=m g.2;by_cases D:f.name= "_";.grind
  . have j:=g.1;have n:(f.name== "_")=C:=ai;rw[n]at j;rcases p:pB P f.type cs f.offset with _|a;.grind
    simp[p]at j;obtain⟨u,A,o⟩:=L9 p r x;have:=y (empty:=e) j o d ab w;simp_all
 grind
theorem bytes_inj{u v:ByteArray}{l:aD}(h:u.data.toList.map ka=l)(a:v.data.toList.map ka=l):u=v:=by have b:=Sd h a;grind[xN,ByteArray.toList_eq,ByteArray.ext,Array.toList_inj]
theorem aii{b:AV}(c:VR φ a u)(d:VR φ b v)(h:yE a b=V):u=v/\∀n,Instr.sameBits n u v=V:=by
 unfold yE at h;split at h;.cases c;cases d;grind[Instr.sameBits]
 .cases c;cases d;grind[zC,Instr.sameBits]
 .rw[xN,gZ]at h;subst h;cases c with|str _ s e1=>cases d with|str _ e e2=>have:=bytes_inj e1 e2;grind[Instr.sameBits,beq_toListBytes]
 grind
theorem aHc:∀(b s:aJ)(a vs:List aC),ba φ b a->ba φ s vs->b.length=s.length->(List.zip b s).all (λp=>yE p.1 p.2)=V->a=vs/\∀n,(a.zip vs).all (λp=>Instr.sameBits n p.1 p.2)=V:=by intro b;induction b with
 |nil=>intro s a vs c d l _;cases s with|cons=>grind|nil=>rw[c.rG,d.rG];simp_all
 |cons x b j=>
 intro s a vs c d l h;rcases s with _|⟨y,s⟩;.grind
 obtain⟨u,a,rfl,e,f⟩:=c.cons_inv;obtain⟨v,vs,rfl,g,i⟩:=d.cons_inv;simp only[List.zip_cons_cons,oT,gD]at h;obtain⟨e1,e2⟩:=aii e g h.1;obtain⟨e3,e4⟩:=j s a vs f i ai h.2;simp_all
theorem sameKey_eq{b:AV}(f:VR φ a u)(g:VR φ b v)(h:sameKey a b=V):u=v/\Instr.sameBits 10000 u v=V:=by
 unfold sameKey at h;split at h;.obtain⟨c,rfl,e,_⟩:=f.xA;obtain⟨d,rfl,hd,_⟩:=g.xA;rw[gD,bE,gZ,dS,dS,qf]at h;obtain⟨e1,e2⟩:=aHc _ _ _ _ e hd h.1 h.2;simp_all[Instr.sameBits]
 grind[aii]
theorem sD{c:Nat}(h:H.jL r=J (es,c)):H.get r=J (.map es c):=by grind[Heap.jL]
theorem Ad(s:bM S φ H w){c:Nat}(f:φ r=J p)(b:S (rootOf H r))(g:H.get r=J (.map es c)):∃a:Array kJ,w.heap[p.aY]?=J (.map a c)/\mZ φ es a.toList/\p.base=0:=by have d:jb H r:=λl m fl e h=>ai;obtain⟨i,a,j,k⟩:=s.obj r p _ f b d g;grind
theorem yD{b:Nat}{o:Obj}(h:w.heap[b]?=J o)(a:∀c e f,o≠.cells c e f):(getObj b).run P w=.ok o w:=by grind[getObj,Sem.run]
theorem I5{b:Nat}{o o':Obj}(h:w.heap[b]?=J o)(a:∀c e f,o≠.cells c e f):(setObj b o').run P w=.ok () (World.eU w b o'):=by unfold setObj;unfold Sem.run;rw[h];cases o<;>first|rfl|grind
theorem uF{b c:Nat}{e:Array kJ}(h:w.heap[b]?=J (.map e c)):(getObj b).run P w=.ok (.map e c) w:=by grind[yD]
theorem Dm{b c:Nat}{e:Array kJ}{o:Obj}(h:w.heap[b]?=J (.map e c)):(setObj b o).run P w=.ok () (World.eU w b o):=by grind[I5]
theorem aFs(H:Heap)(r:Nat)(o:b9):H.put r r o=H.dJ r r o:=by simp[Heap.dJ]
theorem QC(i:bg H)(s:bM S φ H w){a o:b9}(O:Obj)(d:φ r=J p)(g:H.get r=J a)(h:a.eu=C)(b:o.eu=C)(c:lY φ (World.eU w p.aY O) o p):bg (H.put r r o)/\bM S φ (H.put r r o) (World.eU w p.aY O)/\Fr φ H w φ (H.put r r o) (World.eU w p.aY O):=by have hr:=yC g h;grind[fI,b9.eu,ahE,aFs]
theorem QW(w:aW){b:Nat}(h:b<w.heap.size)(o:Obj):(World.eU w b o).heap[b]?=J o:=by show(w.heap.setIfInBounds b o)[b]?=J o;grind
theorem Dh(i:bg H)(s:bM S φ H w){e:List eF}{c b:Nat}(a:Array kJ)(h:φ r=J p)(g:H.get r=J (.map es c))(d:p.base=0)(f:mZ φ e a.toList):bg (H.put r r (.map e b))/\bM S φ (H.put r r (.map e b)) (World.eU w p.aY (.map a b))/\Fr φ H w φ (H.put r r (.map e b)) (World.eU w p.aY (.map a b)):=QC i s _ h g rfl rfl ⟨d,a,QW w (s.stat.cw r p h).1 _,f⟩
theorem Ot{d:TypeDesc}{r:ah (Nat×eF)}(u:P.underlying t=J d)(i:VR φ k kv)(g:mZ φ es ms)(h:oF P t k es 0=J r):(r=Z/\∀w:aW,(Instr.findKey t kv ms).run P w=.ok Z w)\/∃j e m,r=J (j,e)/\es[j]?=J e/\ms[j]?=J m/\vW φ e m/\∀w:aW,(Instr.findKey t kv ms).run P w=.ok (J (j,m.val)) w:=by
 rcases arP i es ms 0 r g h with⟨a,b⟩|⟨j,e,m,a,b,c,f⟩;.grind[ac0]
 .simp only[iZ]at a f;exact .inr ⟨j,e,m,a,b,c,g.2 j e m b c,ac0 u f⟩
theorem PJ(h:pW P t k=V):∃d,P.underlying t=J d:=by have a:Br P _ t k=V:=h;unfold Br at a;grind
theorem Lt{empty:Bool}(h:pW P t k=V)(a:VR φ k kv)(w:aW):(Instr.checkKey empty 10000 t kv).run P w=.ok () w:=axL 5 h a 10000 ab w
def Aa(P:aG)(a t:an)(s:List eF)(k:AV)(o:Bool):ah AV:=(oF P a k s 0).bind λ|some (_,e)=>J (bif o then .cM [e.2.1,.bool V]else e.2.1)|none=>(yT P t).bind λz=>J (bif o then .cM [z,.bool C]else z)
theorem US{a:an}{arr:Array kJ}{r:AV}{mv:aC}{o:Bool}(v:P.underlying t=J (.map kt a))(p:(∃b c,mv=.map (J b)/\w.heap[b]?=J (.map arr c))\/(mv=.map Z/\arr=#[]))(A:mZ φ es arr.toList)(n:VR φ k kv)(l:pW P kt k=V)(h:Aa P kt a es k o=J r):∃z,(Instr.lookup t mv kv o).run P w=.ok z w/\VR φ r z:=by
 obtain⟨d,hd⟩:=PJ l;have x:=λe=>Lt (empty:=e) l n w;unfold Aa at h;rcases s:oF P kt k es 0 with _|q;.grind
 simp only[s,cQ]at h;rcases Ot hd n A s with⟨rfl,g⟩|⟨j,e,m,rfl,g,E,i,y⟩
 . rcases u:yT P a with _|z;.grind
   simp[u]at h;obtain⟨zv,B,D⟩:=FO (φ:=φ) u w;refine⟨if o then .tuple #[zv,.bool C]else zv,?_,?_⟩
   . rcases p with⟨b,c,rfl,f⟩|⟨rfl,rfl⟩;.simp[Instr.lookup,dC v,uF f,x,g w,B]
     simp_all[Instr.lookup,dC]
   . subst h;cases o;.grind
     .exact M0 D (.bool _)
 . simp at h;refine⟨if o then .tuple #[m.val,.bool V]else m.val,?_,?_⟩
   . rcases p with⟨b,c,rfl,f⟩|⟨rfl,rfl⟩;.simp[Instr.lookup,dC v,uF f,x,y w]
     grind
   . subst h;cases o;.exact i.2.1
     .exact M0 i.2.1 (.bool _)
theorem mZ.append(h:mZ φ es ms){e:eF}(k:vW φ e m):mZ φ (es++[e]) (ms++[m]):=by
 refine⟨by simp[h.1],λi a b d c=>?_⟩;by_cases hi:i<es.length;.rw[mz hi]at d;rw[mz (by rw[<-h.1];omega)]at c;exact h.2 i a b d c
 .rw[ov (by rw[<-h.1];omega),<-h.1]at c;grind
theorem af5{a:Type}(l:List a)(i:Nat)(x:a)(h:i<l.length):vp l i x=l.set i x:=by grind[vp,kZ,pI,ql,List.set_eq_take_append_cons_drop]
theorem mZ.set(h:mZ φ es ms){i:Nat}{e:eF}(k:vW φ e m):mZ φ (es.set i e) (ms.set i m):=by
 refine⟨by simp[h.1],λj a b c d=>?_⟩;rw[List.getElem?_set]at c d;by_cases P:i=j;.grind
 .rw[if_neg P]at c d;exact h.2 j a b c d
theorem aar(s:Array kJ)(i:Nat)(f:kJ->kJ)(h:s.toList[i]?=J m):(s.modify i f).toList=s.toList.set i (f m):=by apply Gz;grind
theorem aKC(z:bg H)(u:bM S φ H w){c:Nat}(B:P.underlying t=J (.map kt vt))(s:φ r=J p)(I:S (rootOf H r))(o:H.get r=J (.map es c))(f:VR φ k kv)(y:pW P kt k=V)(A:VR φ x xv)(h:oF P kt k es 0=J q):(q=Z/\∃w',(Instr.mapUpdate t (.map (J p.aY)) kv xv).run P w=.ok () w'/\bg (H.put r r (.map (dF es [(k,x,c)]) (fg c)))/\bM S φ (H.put r r (.map (dF es [(k,x,c)]) (fg c))) w'/\Fr φ H w φ (H.put r r (.map (dF es [(k,x,c)]) (fg c))) w')\/∃i e,q=J (i,e)/\(sameKey e.1 k=V->∃w',(Instr.mapUpdate t (.map (J p.aY)) kv xv).run P w=.ok () w'/\bg (H.put r r (.map (vp es i (e.1,x,e.2.2)) c))/\bM S φ (H.put r r (.map (vp es i (e.1,x,e.2.2)) c)) w'/\Fr φ H w φ (H.put r r (.map (vp es i (e.1,x,e.2.2)) c)) w'):=by
 obtain⟨d,hd⟩:=PJ y;obtain⟨a,b,n,v⟩:=Ad u s I o;have D:=Lt (empty:=C) y f w;rcases Ot hd f n h with⟨rfl,g⟩|⟨j,e,m,rfl,g,F,l,G⟩
 . left;refine⟨rfl,_,?_,Dh z u (a.push {key:=kv,val:=xv,born:=c}) s o v ?_⟩;.simp[Instr.mapUpdate,dC B,uF b,D,g w,Dm b]
   .rw[kZ,Array.toList_push];exact n.append ⟨f,A,rfl⟩
 . right;refine⟨j,e,rfl,λL=>?_⟩;obtain⟨e1,e2⟩:=sameKey_eq l.1 f L;have K:=(List.getElem?_eq_some_iff.1 g).1;have E:a[j]?=J m:=ai;refine⟨_,?_,Dh z u (a.modify j λe=>{e with key:=kv,val:=xv}) s o v ?_⟩;.simp[Instr.mapUpdate,dC B,uF b,D,G w,Dm b,E,Instr.keyThatStays,e2]
   .rw[af5 _ _ _ K,aar _ _ _ F];exact n.set ⟨by rw[<-e1];exact l.1,A,l.2.2⟩
theorem aAh(s:Array kJ)(i:Nat)(f:kJ->kJ)(h:s.toList[i]?=J m)(a:f m=m):s.modify i f=s:=ai
theorem ao7(A:bg H)(s:bM S φ H w){c:Nat}(B:P.underlying t=J (.map kt vt))(o:φ r=J p)(K:S (rootOf H r))(n:H.get r=J (.map es c))(f:VR φ k kv)(y:pW P kt k=V)(h:oF P kt k es 0=J q):(q=Z/\∀z,yT P vt=J z->∃u w',(Instr.mapEntry t (.map (J p.aY)) kv).run P w=.ok u w'/\VR φ (.cM [z,hJ c]) u/\bg (H.put r r (.map (dF es [(k,z,c)]) (fg c)))/\bM S φ (H.put r r (.map (dF es [(k,z,c)]) (fg c))) w'/\Fr φ H w φ (H.put r r (.map (dF es [(k,z,c)]) (fg c))) w')\/∃i e,q=J (i,e)/\(sameKey e.1 k=V->∃u w',(Instr.mapEntry t (.map (J p.aY)) kv).run P w=.ok u w'/\VR φ (.cM [e.2.1,hJ e.2.2]) u/\bg (H.put r r (.map es c))/\bM S φ (H.put r r (.map es c)) w'/\Fr φ H w φ (H.put r r (.map es c)) w'):=by
 obtain⟨d,hd⟩:=PJ y;obtain⟨a,b,l,x⟩:=Ad s o K n;have D:=Lt (empty:=C) y f w;rcases Ot hd f l h with⟨rfl,v⟩|⟨j,e,m,rfl,v,G,g,I⟩
 . left;refine⟨rfl,λz M=>?_⟩;obtain⟨zv,O,E⟩:=FO M w;refine⟨.tuple #[zv,goInt c],_,?_,M0 E (.int _ _),Dh A s (a.push {key:=kv,val:=zv,born:=c}) o n x ?_⟩;.simp[Instr.mapEntry,dC B,uF b,D,v w,Dm b,O]
   .rw[kZ,Array.toList_push];exact l.append ⟨f,E,rfl⟩
 .right;refine⟨j,e,rfl,λN=>?_⟩;obtain⟨e1,e2⟩:=sameKey_eq g.1 f N;have F:a[j]?=J m:=ai;refine⟨.tuple #[m.val,goInt _],_,?_,M0 g.2.1 (by rw[<-g.2.2];exact .int _ _),Dh A s _ o n x l⟩;have L:a.modify j (λe=>{e with key:=kv})=a:=aAh _ _ _ G (by rw[<-e1]);simp[Instr.mapEntry,dC B,uF b,D,I w,Dm b,F,Instr.keyThatStays,e2,L]
theorem anE(M:bg H)(B:bM S φ H w){ty:an}{c:Nat}(u:ats[0]?=J t)(D:P.underlying t=J (.map kt vt))(A:φ r=J p)(K:S (rootOf H r))(y:H.get r=J (.map es c))(z:VR φ k kv)(x:pW P kt k=V)(h:oF P kt k es 0=J q):∃w',(Builtin.delete_ ats ty #[.map (J p.aY),kv]).run P w=.ok (.tuple #[]) w'/\(∀s,s=(match q with|some (i,_)=>dF (vL i es) (zw (fg i) es)|none=>es)->bg (H.put r r (.map s c))/\bM S φ (H.put r r (.map s c)) w'/\Fr φ H w φ (H.put r r (.map s c)) w'):=by
 obtain⟨d,hd⟩:=PJ x;obtain⟨f,l,n,L⟩:=Ad B A K y;have G:=λe=>Lt (empty:=e) x z w;rcases Ot hd z n h with⟨rfl,v⟩|⟨j,e,m,rfl,v,O,Q,I⟩
 . refine⟨World.eU w p.aY (.map f c),?_,λs F=>?_⟩;.simp[Builtin.delete_,u,dC D,uF l,G,v w,Dm l]
   grind[Dh]
 . refine⟨World.eU w p.aY (.map (f.eraseIdxIfInBounds j) c),?_,λs F=>?_⟩;.simp[Builtin.delete_,u,dC D,uF l,G,I w,Dm l]
   . subst F;refine Dh M B _ A y L ?_;have N:j<f.size:=ai;simp only[kZ,pI,ql];rw[Array.eraseIdxIfInBounds,dif_pos N,Array.toList_eraseIdx,List.eraseIdx_eq_take_drop_succ];refine⟨by simp[n.1],λi a b g o=>?_⟩;have t1:(es.take j).length=j:=ai;have t2:(f.toList.take j).length=j:=ai;by_cases E:i<j;.rw[mz ab,v7 E]at g;rw[mz ab,v7 E]at o;exact n.2 i a b g o
     .rw[ov ab,t1,sS]at g;rw[ov ab,t2,sS]at o;exact n.2 _ a b g o
theorem alM{o:Nat}:∀(es:List eF)(ms:List kJ)(i:Nat)(q:Nat×eF),mZ φ es ms->NJ o es i=J q->∃j e m,q=(i+j,e)/\es[j]?=J e/\ms[j]?=J m/\vW φ e m/\ms.findIdx? (λe=>(e.born:Int)==(o:Int))=J j:=by intro es;induction es with|nil=>intro ms i q d h;exact absurd (show(Z:ah (Nat×eF))=J q from h) aO|cons e es n=>
 intro ms i q d h;rcases ms with _|⟨m,ms⟩;.have:=d.1;grind
 have g:=d.2 0 e m rfl rfl;have z:mZ φ es ms:=⟨by have:=d.1;grind,λj a b v f=>d.2 (j+1) a b ai ai⟩;have c:(bif aw e.2.2 o then J (i,e)else NJ o es (i+1))=J q:=h;rw[bE]at c;by_cases f:e.2.2=o;.rw[lf f]at c;simp at c;refine⟨0,e,m,c.symm,rfl,rfl,g,?_⟩;rw[List.findIdx?_cons,g.2.2,f];simp
 . rw[xK f]at c;simp at c;obtain⟨j,k,p,r,s,t,l,u⟩:=n ms (i+1) q z c;refine⟨j+1,k,p,ai,ai,ai,l,?_⟩;have B:((m.born:Int)==(o:Int))=C:=by rw[g.2.2,beq_eq_false_iff_ne];omega
   grind
theorem ao5(z:bg H)(s:bM S φ H w){c b:Nat}{kk:fN}{q:Nat×eF}(l:φ r=J p)(v:S (rootOf H r))(k:H.get r=J (.map es c))(B:VR φ x xv)(h:NJ b es 0=J q):∃w',(Instr.entryStore t (.map (J p.aY)) (.int kk (.ofNat b)) xv).run P w=.ok () w'/\bg (H.put r r (.map (vp es q.1 (q.2.1,x,q.2.2.2)) c))/\bM S φ (H.put r r (.map (vp es q.1 (q.2.1,x,q.2.2.2)) c)) w'/\Fr φ H w φ (H.put r r (.map (vp es q.1 (q.2.1,x,q.2.2.2)) c)) w':=by
 obtain⟨a,g,i,y⟩:=Ad s l v k;obtain⟨j,e,m,rfl,n,o,f,u⟩:=alM es a.toList 0 q i h;have A:j<es.length:=(List.getElem?_eq_some_iff.1 n).1;have d:a.findIdx? (λe=>(e.born:Int)==(b:Int))=J j:=by rw[<-List.findIdx?_toArray,Array.toArray_toList]at u;omega
 refine⟨_,?_,Dh z s (a.modify j λe=>{e with val:=xv}) l k y ?_⟩;.simp[Instr.entryStore,uF g,asInt,asIntOf,d,Dm g]
 .simp only[iZ];rw[af5 _ _ _ A,aar _ _ _ o];exact i.set ⟨f.1,B,f.2.2⟩
theorem LQ(h:bg H)(s:bM S φ H w)(o:b9)(O:Obj)(c:o.eu=C)(a:lY φ (World.push w O) o ⟨w.heap.size,0,0,0⟩):(newObj O).run P w=.ok w.heap.size (World.push w O)/\fp φ H.next ⟨w.heap.size,0,0,0⟩ H.next=J ⟨w.heap.size,0,0,0⟩/\hQ S φ H w (fp φ H.next ⟨w.heap.size,0,0,0⟩) (H.alloc o) (World.push w O):=by refine⟨by rfl,jD _ _ _,JJ h s o O _ rfl ?_ a⟩;grind[b9.eu]
theorem aFN(i:bg H)(s:bM S φ H w)(j:P.underlying t=J (.map kt vt))(b:VR φ .fR v):∃u ψ w',(Instr.range t v).run P w=.ok u w'/\VR ψ (.ptr H.next 0) u/\hQ S φ H w ψ (H.alloc (.mapIter Z 0 [] 0)) w':=by cases b;obtain⟨c,h,a⟩:=LQ (P:=P) i s (.mapIter Z 0 [] 0) (.mapIter Z 0 #[] 0) rfl ⟨rfl,Z,wX w _,rfl⟩;exact⟨.pointer (J ⟨w.heap.size,0,Z⟩),_,_,by simp_all[Instr.range,dC],.ptr _ 0 _ h,a⟩
theorem aFM(i:bg H)(s:bM S φ H w){c:Nat}(j:P.underlying t=J (.map kt vt))(h:φ r=J p)(e:S (rootOf H r))(g:H.get r=J (.map es c)):∃u ψ w',(Instr.range t (.map (J p.aY))).run P w=.ok u w'/\VR ψ (.ptr H.next 0) u/\hQ S φ H w ψ (H.alloc (.mapIter (J r) c [] c)) w':=by obtain⟨a,f,m,l⟩:=Ad s h e g;obtain⟨k,b,d⟩:=LQ (P:=P) i s (.mapIter (J r) c [] c) (.mapIter (J p.aY) c #[] c) rfl ⟨rfl,J p.aY,wX w _,p,h,rfl⟩;exact⟨.pointer (J ⟨w.heap.size,0,Z⟩),_,_,by simp[Instr.range,dC j,uF f,World.push],.ptr _ 0 _ b,d⟩
end
end Go.AM
