/- Proved: the abstract machine and the value machine, and laws of the first one. -/
import GoSem.Step
import Derived.Calls
import Derived.Laws.Entries
import Derived.Laws.StructEq
import Derived.Laws.RangeString
import Derived.Laws.BytesString
import Derived.RunT
import Derived.Orders
import Derived.ChangeKeysEq
import Derived.Shelf.Strings.Search2
import Derived.Shelf.Small.Strs
import Derived.Test.YtlpehfnaibndgaaGreatDoorProg
import Derived.KernelRfl
import Derived.Lib.SlicesCompact
import Derived.ReadAgain
import Derived.OpenShut
import Derived.LaidSub
import Derived.Shelf.Sort.Plain
import Derived.Shelf.Slices.CompactI
import Derived.Shelf.Spec.SlicesInsert
import Derived.Lib.AppendZerosOnto
import Derived.Shelf.Slices.In.SortNone
import Derived.WalkKit
import Derived.ProofKit
import Derived.Deep.DeepHandedRow
import Derived.Lib.LaidTab
import Derived.LaidByTextLater
import Derived.SevenTiedAt
import Derived.LaidOnce
open Option renaming some->J,none->Z
open Bool renaming true->V,false->C
open Go renaming TypeId->an,Oper->aB,Value->aD,Program->aH,Operand->aK,World->aV,Code->bM,FuncId->bW,IntKind->fR,MapEntry->kQ,ResultVar->oK
open Go.Builtin renaming zeroCells->nT,firstCells->oH,append_->tj
open Go.Region renaming binds->uo
open Int renaming ofNat->dk,add->kh
open List renaming rec->iY,replicate->lT,range->rq
open Nat renaming beq->aw,ble->bt,blt->ct,succ->fg,mul->ft,add->im
open UInt8 renaming toNat->kj
noncomputable section
set_option linter.all false
def ab{p:Prop}(h:p:=by omega):p:=h
def aP{p:Prop}(h:p:=by simp):p:=h
def ai{p:Prop}(h:p:=by grind):p:=h
def aT{p:Prop}(h:p:=by simp_all):p:=h
def fD{p:Prop}(h:p:=by decide):p:=h
def aL{p:Prop}(h:p:=by kernel_rfl):p:=h
def aR:type_of%@cond_true:=@cond_true
theorem bE:type_of%@Option.some.inj:=@Option.some.inj
def bS:type_of%@Nat.le_refl:=@Nat.le_refl
theorem bX:type_of%@cond_false:=@cond_false
def am:=@List.getElem?_eq_some_iff
def ap:=@Array.getElem?_eq_some_iff
def au:=@List.mem_map
def a8:=@List.mem_iff_getElem?
def be:=@List.pairwise_cons
def bf:=@List.length_eq_zero_iff
def bi:=@Go.Result.andThen_ok
def bl:=@List.mem_filter
def bv:=@List.mk_mem_zipIdx_iff_getElem?
def cb:=@Bool.eq_false_iff
def ce:=@List.getElem?_eq_none
def ci:=@Int.ofNat_le
def cH:=@eq_false
theorem cR:type_of%@Option.bind_some:=@Option.bind_some
def du:=@List.mem_of_getElem?
def dA:type_of%@List.getElem?_eq_getElem:=@List.getElem?_eq_getElem
theorem dH:type_of%@List.length_cons:=@List.length_cons
def eB:=@decide_true
theorem eG:type_of%@List.map_nil:=@List.map_nil
theorem fO:type_of%@List.map_cons:=@List.map_cons
theorem fZ:type_of%@List.length_map:=@List.length_map
def gu:type_of%@Bool.and_eq_true:=@Bool.and_eq_true
theorem gv:type_of%@List.mem_cons_self:=@List.mem_cons_self
def gw:=@Nat.le_trans
def gx:type_of%@Nat.lt_of_lt_of_le:=@Nat.lt_of_lt_of_le
def gJ:=@Option.map_some
def gX:=@List.length_nil
def gY:=@congrArg
theorem ib:type_of%@List.length_append:=@List.length_append
def ir:=@eq_true
theorem iI:type_of%@Option.map_eq_some_iff:=@Option.map_eq_some_iff
def jd:=@Prod.mk.inj
def jJ:=@List.nil_append
def jR:=@List.mem_cons_of_mem
def jV:type_of%@decide_eq_true_eq:=@decide_eq_true_eq
theorem ki:type_of%@List.getElem?_map:=@List.getElem?_map
theorem kD:type_of%@List.append_nil:=@List.append_nil
theorem kE:type_of%@Nat.zero_add:=@Nat.zero_add
def lA:=@decide_false
def lS:=@List.cons_append
def lU:=@Nat.mul_le_mul_right
def mn:=@Nat.zero_le
def mz:type_of%@decide_eq_true:=@decide_eq_true
def mI:=@of_eq_true
def mO:=@List.not_mem_nil
def nr:type_of%@Array.getElem?_eq_getElem:=@Array.getElem?_eq_getElem
theorem nw:type_of%@Nat.ble_eq_true_of_le:=@Nat.ble_eq_true_of_le
def nU:=@List.all_nil
def nV:type_of%@List.getElem?_append_left:=@List.getElem?_append_left
def oJ:=@List.all_cons
def pq:=@Classical.em
def pr:=@List.sizeOf_lt_of_mem
theorem pw:type_of%@Nat.beq_refl:=@Nat.beq_refl
theorem pY:type_of%@List.getElem?_append_right:=@List.getElem?_append_right
def pZ:type_of%@List.map_append:=@List.map_append
def qz:=@Nat.mul_le_mul
def rz:=@Option.isNone_none
def rA:=@Option.map_none
def sE:=@Option.isNone_some
def sF:=@Option.isSome_none
def uj:type_of%@List.length_take:=@List.length_take
def um:=@Option.bind_assoc
def uU:=@of_decide_eq_true
theorem vk:type_of%@Nat.add_zero:=@Nat.add_zero
def wm:=@Bool.and_true
theorem wv:type_of%@List.append_assoc:=@List.append_assoc
def wx:=@Option.some.injEq
def xx:=@Bool.and_self
theorem xC:type_of%@List.drop_zero:=@List.drop_zero
def xD:type_of%@List.getElem?_drop:=@List.getElem?_drop
def xE:type_of%@List.length_replicate:=@List.length_replicate
theorem y7:type_of%@Bool.false_or:=@Bool.false_or
def y8:=@Bool.not_false
def y9:=@Bool.not_true
def zd:=@Bool.true_and
theorem zm:type_of%@List.any_cons:=@List.any_cons
def zn:=@List.drop_append
def zo:type_of%@Nat.add_mul:=@Nat.add_mul
def AQ:=@Bool.not_not
def AR:type_of%@Bool.or_eq_true:=@Bool.or_eq_true
def AW:type_of%@List.all_eq_true:=@List.all_eq_true
def AX:type_of%@List.foldl_cons:=@List.foldl_cons
def AY:type_of%@Nat.add_assoc:=@Nat.add_assoc
def Bd:type_of%@decide_eq_false:=@decide_eq_false
def Cm:type_of%@List.getElem?_take_of_lt:=@List.getElem?_take_of_lt
def Co:type_of%@List.mem_append:=@List.mem_append
theorem Cp:type_of%@List.mem_cons:=@List.mem_cons
def Cq:type_of%@List.mem_singleton:=@List.mem_singleton
def CJ:type_of%@decide_eq_false_iff_not:=@decide_eq_false_iff_not
theorem D2:type_of%@List.drop_drop:=@List.drop_drop
theorem D3:type_of%@List.drop_eq_getElem_cons:=@List.drop_eq_getElem_cons
theorem D4:type_of%@List.filter_cons:=@List.filter_cons
theorem D5:type_of%@List.tail_drop:=@List.tail_drop
def D6:type_of%@List.take_length:=@List.take_length
def D9:=@Option.getD_some
def GQ:type_of%@Array.getD_eq_getD_getElem?:=@Array.getD_eq_getD_getElem?
def GR:=@Classical.byContradiction
def GY:=@List.ext_getElem?
def GZ:type_of%@List.flatMap_cons:=@List.flatMap_cons
theorem G0:type_of%@List.getElem_mem:=@List.getElem_mem
theorem G1:type_of%@List.head?_drop:=@List.head?_drop
theorem G2:type_of%@List.take_add_one:=@List.take_add_one
theorem G3:type_of%@List.take_append_drop:=@List.take_append_drop
def G4:=@List.take_of_length_le
def G7:=@Nat.lt_succ_self
def JV:type_of%@Bool.or_eq_false_iff:=@Bool.or_eq_false_iff
def JZ:=@Int.ofNat_eq_natCast
def J0:=@List.append_of_mem
theorem J1:type_of%@List.getElem?_cons_succ:=@List.getElem?_cons_succ
def J2:type_of%@List.getElem?_range:=@List.getElem?_range
def J3:=@List.mem_append_left
def J4:=@Nat.le_succ
def J5:=@Nat.lt_of_le_of_lt
def J7:=@Prod.mk.injEq
def NW:=@Bool.not_eq_true'
theorem N2:type_of%@Nat.le_of_ble_eq_true:=@Nat.le_of_ble_eq_true
def N3:=@Nat.not_lt_zero
def Sb:=@Array.ext_getElem?
def Se:=@Int.toNat_of_nonneg
def Sh:=@List.length_filter_le
def Si:=@List.length_singleton
def Sj:=@List.mem_append_right
def Sk:=@List.take_append
def Sp:=@Option.isSome_some
def aaI:=@List.getElem?_cons_zero
namespace Go
abbrev aC:=List Nat
abbrev cF:=List Int
abbrev ah:=Option.{0}
end Go
namespace Go.AM
inductive Pos where|e|o(p:Pos)|i(p:Pos)
def xp(f:Nat):Nat->Pos:=Nat.rec (λ_=>.e) (λ_ i n=>Bool.rec (Bool.rec (.i (i (Nat.pred (Nat.div n 2)))) (.o (i (Nat.div n 2))) (aw (Nat.mod n 2) 1)) .e (aw n 0)) f
def toPos(n:Nat):Pos:=xp (fg n) n
inductive Tr(α:Type)where|nil|node(l:Tr α)(v:Option α)(r:Tr α)
def Bo{a:Type}(t:Tr a):Pos->ah a:=Tr.rec (λ_=>Z) (λ_ v _ gl gr p=>Pos.rec v (λp _=>gl p) (λp _=>gr p) p) t
def Dh{a:Type}(p:Pos)(x:a):Tr a->Tr a:=Pos.rec (λt=>Tr.rec (.node .nil (J x) .nil) (λl _ r _ _=>.node l (J x) r) t) (λ_ i t=>Tr.rec (.node (i .nil) Z .nil) (λl v r _ _=>.node (i l) v r) t) (λ_ i t=>Tr.rec (.node .nil Z (i .nil)) (λl v r _ _=>.node l v (i r)) t) p
def Tr.get{a:Type}(t:Tr a)(n:Nat):ah a:=Bo t (toPos n)
def Tr.ins{a:Type}(t:Tr a)(n:Nat)(x:a):Tr a:=Dh (toPos n) x t
def fc{a:Type}(l:List a):Nat:=iY 0 (λ_ _ i=>fg i) l
def dy{b:Type}(l m:List b):List b:=iY m (λa _ i=>a::i) l
def zH{a:Type}(n:Nat):List a->List a:=Nat.rec (λl=>l) (λ_ i l=>iY [] (λ_ t _=>i t) l) n
def wc{b:Type}(n:Nat):List b->List b:=Nat.rec (λ_=>[]) (λ_ i l=>iY [] (λa t _=>a::i t) l) n
def oZ{b:Type}(l:List b)(n:Nat):ah b:=iY Z (λa _ _=>J a) (zH n l)
def yu{b c:Type}(f:b->c)(l:List b):List c:=iY [] (λa _ i=>f a::i) l
def cw{c d:Type}(f:c->ah d)(l:List c):ah (List d):=iY (J []) (λa _ i=>(f a).bind λb=>i.bind λt=>J (b::t)) l
def fS{d c:Type}(f:c->d->c)(l:List d):c->c:=iY (λb=>b) (λa _ i b=>i (f b a)) l
def lD{d c:Type}(f:c->d->ah c)(l:List d):c->ah c:=iY (λb=>J b) (λa _ i b=>(f b a).bind i) l
def jP{a:Type}(n:Nat)(z:List a):List a:=Nat.rec [] (λ_ i=>dy z i) n
def lu{b:Type}(f:b->Bool)(l:List b):Bool:=iY V (λa _ i=>bif f a then i else C) l
def xT(l:aC):aC->Bool:=iY (λm=>iY V (λ_ _ _=>C) m) (λa _ i m=>iY C (λb t _=>bif aw a b then i t else C) m) l
def fV{a:Type}(l:List a)(o:Nat)(v:List a):List a:=dy (wc o l) (dy v (zH (im o (fc v)) l))
def vO{a:Type}(l:List a)(i:Nat)(x:a):List a:=dy (wc i l) (x::zH (fg i) l)
def aj:Int->Int->Bool|.ofNat a,.ofNat b=>aw a b|.negSucc a,.negSucc b=>aw a b|_,_=>C
def aA:Int->Int->Bool|.ofNat a,.ofNat b=>ct a b|.negSucc _,.ofNat _=>V|.ofNat _,.negSucc _=>C|.negSucc a,.negSucc b=>ct b a
def Fb:Int->ah Nat|.ofNat n=>J n|.negSucc _=>Z
def dN(k:fR)(n:Int):Int:=match k,n with|.i64,.ofNat m=>bif ct m 9223372036854775808 then n else k.wrap n|_,_=>k.wrap n
end Go.AM
namespace Go.AM
variable{α:Type}
inductive AV where|top|bool(b:Bool)|int(k:fR)(n:Int)|str(s:List Nat)|ptr(id off:Nat)|eN|sl(id off len:Nat)(cap:Option Nat)(esz:Nat)|bu|map(r:Nat)|fU|func(f:bW)(first captured:List AV)|yield(l:Nat)|nilFunc|agg(l:List AV)|cL(l:List AV)
abbrev aI:=List AV
def fC:AV:=.cL []
def AV.aU:AV->Bool|.agg _|.cL _=>C|_=>V
def AV.cells:AV->ah aI|.agg l=>J l|.cL _|.top=>Z|v=>J [v]
inductive NU where|fn(f:bW)(captured:List AV)|yield(l:Nat)|builtin(b:Builtin)(argTypes:Array an)
structure R9 where
 target:NU
 args:aI
structure AO where
 state:LoopState
 pending:ah bM
 fn:bW
 n:Nat
 tmps:Tr AV
 params:List Tmp
 assign:bM
 body:bM
 defers:Nat
abbrev eI:=AV×AV×Nat
inductive fQ where|ro|ex|op
def fQ.wr:fQ->Bool|.ro=>C|_=>V
inductive ch where|cells(l:List AV)(root:Nat)(fl:fQ)(e:an)|map(es:List eI)(clock:Nat)|mapIter(m:Option Nat)(since:Nat)(seen:List Nat)(DL:Nat)|loop(l:AO)|deferred(b:Bool)
structure Heap where
 tr:Tr ch
 dp:Tr (Nat×Nat)next:Nat
 bA:Nat
 bV:aC
 cI:aC
namespace Heap
def get(H:Heap)(i:Nat):ah ch:=H.tr.get i
def bp(H:Heap)(r:Nat):Nat×Nat:=(H.dp.get r).getD (0,r)
def alloc(H:Heap)(o:ch):Heap:={H with tr:=H.tr.ins H.next o,next:=fg H.next}
def cQ(H:Heap)(l:aI)(f:fQ)(e:an):Heap:=H.alloc (.cells l H.next f e)
def note(b r:Nat)(l:aC):aC:=bif ct r b then r::l else l
def put(H:Heap)(i r:Nat)(o:ch):Heap:={H with tr:=H.tr.ins i o,bV:=note H.bA r H.bV}
def dI(H:Heap)(i r:Nat)(o:ch):Heap:=bif aw r i then H.put i r o else{H.put i r o with dp:=(H.put i r o).dp.ins r (i,i)}
def gP(H:Heap)(r f:Nat)(g:Bool)(c:aI)(e:an):Heap:={tr:=H.tr.ins H.next (.cells c r .op e),dp:=H.dp.ins r (bif g then H.next else f,H.next),next:=fg H.next,bA:=H.bA,bV:=bif g then note H.bA r H.bV else H.bV,cI:=note H.bA r H.cI}
def cellsOf(H:Heap)(i:Nat):ah aI:=match H.get i with|some (.cells l root _ _)=>bif bt (H.bp root).1 i then J l else Z|_=>Z
def load(H:Heap)(i o n:Nat):ah aI:=(H.cellsOf i).bind λl=>bif bt (im o n) (fc l)then J (wc n (zH o l))else Z
def store(H:Heap)(i o:Nat)(v:aI):ah Heap:=match H.get i with
 |some (.cells l root f e)=>let m:=H.bp root
 bif bt m.1 i&&(aw m.2 i&&(bt (im o (fc v)) (fc l)&&f.wr))then J (H.dI i root (.cells (fV l o v) root f e))else Z|_=>Z
def jO(H:Heap)(r:Nat):ah (List eI×Nat):=match H.get r with|some (.map e c)=>J (e,c)|_=>Z
end Heap
def Dr:aD->ah AV|.bool b=>J (.bool b)|.int k n=>J (.int k n)|.string s=>J (.str (s.data.toList.map kj))|.pointer Z=>J .eN|.slice Z 0 0=>J .bu|.map Z=>J .fU|.nilFunc=>J .nilFunc|_=>Z
def w9:aD->ah AV|.agg c=>(cw Dr c.toList).map .agg|v=>Dr v
structure cG where
 fn:bW
 n:Nat
 tmps:Tr AV
 todo:List Item
 defers:aC
 mode:FrameMode
 roundOf:ah Nat
def cG.tmp(f:cG)(t:Nat):AV:=(f.tmps.get t).getD fC
inductive Out where|ret(v:AV)(H:Heap)
def K6{a:Type}(n:Nat)(k:Nat->a):a:=Nat.rec (k 0) (λm _=>k (fg m)) n
theorem Ub(n:Nat)(k:Nat->α):K6 n k=k n:=by cases n<;>rfl
def Ua{b c:Type}(l:List c)(k:List c->b):b:=iY (k []) (λa l _=>k (a::l)) l
theorem aty{a:Type}(l:List a)(k:List a->α):Ua l k=k l:=by cases l<;>rfl
def K7{a b:Type}(t:Tr b)(k:Tr b->a):a:=Tr.rec (k .nil) (λl v r _ _=>k (.node l v r)) t
theorem O8{a:Type}(t:Tr a)(k:Tr a->α):K7 t k=k t:=by cases t<;>rfl
def NB{e:Type}(k:Heap->e)(H:Heap):e:=Heap.rec (λt d next b a c=>K7 t λt=>K7 d λd=>K6 next λnext=>K6 b λb=>Ua a λa=>Ua c λc=>k ⟨t,d,next,b,a,c⟩) H
theorem ajP(k:Heap->α)(H:Heap):NB k H=k H:=by cases H;simp only[NB,Ub,aty,O8]
def cG.vd(f:cG)(x:List Item):cG:=cG.rec (λfn n t _ d m ro=>⟨fn,n,t,x,d,m,ro⟩) f
def cG.Rq(f:cG)(x:FrameMode):cG:=cG.rec (λfn n t todo d _ ro=>⟨fn,n,t,todo,d,x,ro⟩) f
def cG.Rp(f:cG)(x:aC):cG:=cG.rec (λfn n t todo _ m ro=>⟨fn,n,t,todo,x,m,ro⟩) f
abbrev Rec:=cG->Heap->ah Out
abbrev cj:=bW->aI->Heap->ah (ah (AV×Heap))
section
variable(P:aH)
def isAgg(t:an):ah Bool:=match P.underlying t with|some (.struct _)|some (.array _ _)=>J V|some _=>J C|none=>Z
def aW(t:an):ah Nat:=(P.info? t).map (·.size)
def yZ(t:an):ah AV:=(P.info? t).bind λi=>i.zero.bind w9
def ml(t:an):ah aI:=(yZ P t).bind AV.cells
def bJ(m:Tr AV):aK->ah AV
 |.tmp t=>match(m.get t).getD fC with|.top=>Z|v=>J v
 |.const v=>w9 v|.global g=>bif ct g P.globals.size then J (.ptr g 0)else Z|.func f=>J (.func f [] [])
def kz(t:an)(c:aI)(o:Nat):ah AV:=match isAgg P t with|some V=>(aW P t).bind λn=>bif bt (im o n) (fc c)then J (.agg (wc n (zH o c)))else Z|some C=>oZ c o|none=>Z
def loadVar(H:Heap)(t:an)(i o:Nat):ah AV:=match isAgg P t with|some V=>(aW P t).bind λn=>(H.load i o n).map .agg|some C=>(H.cellsOf i).bind λl=>oZ l o|none=>Z
def storeVar(H:Heap)(t:an)(i o:Nat)(v:AV):ah Heap:=(aW P t).bind λn=>v.cells.bind λs=>bif aw (fc s) n then H.store i o s else Z
def zQ(l:Nat->ah (Nat×Nat))(s:List (Nat×AV)):aI->ah aI:=lD (λcells p=>(l p.1).bind λo=>p.2.cells.bind λv=>bif aw (fc v) o.2&&bt (im o.1 o.2) (fc cells)then J (fV cells o.1 v)else Z) s
def Er(h:an->AV->AV->ah Bool)(t:an)(x y:AV):ah Bool:=match P.underlying t,x,y with|some .bool,.bool a,.bool b=>J (a==b)|some (.int _),.int k a,.int g b=>if k=g then J (aj a b)else Z|some .string,.str a,.str b=>J (xT a b)|some (.struct l),.agg s,.agg d=>bif P.stoodInHeld t then Z else lD (λc(f:Field)=>bif c then(bif f.name== "_"then J V else(kz P f.type s f.offset).bind λa=>(kz P f.type d f.offset).bind λb=>h f.type a b)else J C) l.toList V|some (.array n e),.agg s,.agg d=>(aW P e).bind λz=>lD (λc i=>bif c then(kz P e s (ft i z)).bind λa=>(kz P e d (ft i z)).bind λb=>h e a b else J C) (rq n) V|some (.pointer _),.eN,.eN=>J V|some (.pointer _),.eN,.ptr _ _|some (.pointer _),.ptr _ _,.eN=>J C|some (.slice _),.bu,.bu=>J V|some (.slice _),.bu,.sl ..|some (.slice _),.sl ..,.bu=>J C|_,_,_=>Z
def lC(f:Nat):an->AV->AV->ah Bool:=Nat.rec (λ_ _ _=>Z) (λ_ i=>Er P i) f
def gZ(n:Nat):AV:=.int .i64 (.ofNat n)
def IG(o:BinOp)(k:fR)(a b:Int):ah AV:=match o with
 |.add=>J (.int k (dN k (kh a b)))|.sub=>J (.int k (dN k (Int.sub a b)))|.mul=>J (.int k (dN k (Int.mul a b)))|.quo=>bif aj b 0 then Z else J (.int k (dN k (a.tdiv b)))|.rem=>bif aj b 0 then Z else J (.int k (a.tmod b))|.and|.xor=>match(Op.intBits o k a b).run P default with|.ok (.int k n) _=>J (.int k n)|_=>Z
 |.eql=>J (.bool (aj a b))|.neq=>J (.bool (!(aj a b)))|.lss=>J (.bool (aA a b))|.leq=>J (.bool (!(aA b a)))|.gtr=>J (.bool (aA b a))|.geq=>J (.bool (!(aA a b)))|_=>Z
def IU(a:aC):aC->Bool:=iY (λb=>iY C (λ_ _ _=>V) b) (λx _ i b=>iY C (λy t _=>bif ct x y then V else bif ct y x then C else i t) b) a
def RJ(o:BinOp)(a b:aC):ah AV:=match o with|.add=>bif bt (im (fc a) (fc b)) 1000000000 then J (.str (dy a b))else Z|.eql=>J (.bool (xT a b))|.neq=>J (.bool (!(xT a b)))|.lss=>J (.bool (IU a b))|.gtr=>J (.bool (!(IU a b||xT a b)))|_=>Z
def zT(t:an)(o a:aK)(x y:AV):Bool:=match x,y with|.agg _,.agg _=>!P.eqGuardType P.depth t|_,_=>V
def xO(op:BinOp)(t:an)(o c:aK)(x y:AV):ah AV:=match op,x,y with
 |.shr,.int k a,.int e b=>match(Op.shift op k a e b).run P default with|.ok (.int k n) _=>J (.int k n)|_=>Z
 |op,.int k a,.int d b=>if k=d then IG P op k a b else Z|op,.str a,.str b=>RJ op a b|.eql,x,y=>bif zT P t o c x y then(lC P 50 t x y).map .bool else Z|.neq,x,y=>bif zT P t o c x y then(lC P 50 t x y).map λb=>.bool (!b)else Z|_,_,_=>Z
def RT(o:UnOp)(x:AV):ah AV:=match o,x with|.neg,.int k n=>J (.int k (dN k (Int.sub 0 n)))|.not,.bool b=>J (.bool (!b))|_,_=>Z
def nJ:AV->ah Nat|.bu=>J 0|.sl _ _ n _ _=>J n|_=>Z
def qP:AV->ah Nat|.str s=>J (fc s)|v=>nJ v
def qG(H:Heap)(z n:Nat):AV->ah aI|.bu=>J []|.sl id o _ _ e=>bif aw n 0 then J []else bif aw e z then H.load id o (ft n z)else Z|.str s=>bif aw z 1 then J (yu (λ(b:Nat)=>AV.int .u8 (.ofNat b)) (wc n s))else Z|_=>Z
def bm:Nat:=1099511627776
def nA(H:Heap)(m:an)(z b:Nat)(s:AV)(w:aI)(n:Nat):ah (AV×Heap):=bif aw z 0 then Z else match s with
 |.bu=>bif aw n 0 then J (.bu,H)else bif bt (ft n b) bm&&bt n bm then J (.sl H.next 0 n Z z,H.cQ w .op m)else Z|.sl id o len p e=>bif aw e z&&(bt (ft (im len n) b) bm&&bt (im len n) bm)then bif aw n 0 then J (s,H)else match H.get id with
 |some (.cells l root d e0)=>let f:=H.bp root
 bif bt f.1 id then let a:=im o (ft len z)
 let fresh:ah (AV×Heap):=J (.sl H.next 0 (im len n) Z z,H.cQ (dy (wc (ft len z) (zH o l)) w) .op m)
 match p with
 |some c=>bif bt (im len n) c then(H.store id a w).map λH=>(.sl id o (im len n) p z,H)else fresh|none=>bif bt (im a (ft n z)) (fc l)then(H.store id a w).map λH=>(.sl id o (im len n) Z z,H)else bif d.wr&&(aw f.2 id&&aw e0 m)then let cells:=dy (wc (ft len z) (zH o l)) w
 let g:=ct a (fc l)
 J (.sl H.next 0 (im len n) Z z,H.gP root f.1 g cells m)else Z else Z|_=>Z else Z|_=>Z
def oR(t:an)(k:AV)(s:List eI):Nat->ah (ah (Nat×eI)):=iY (λ_=>J Z) (λe _ h i=>(lC P 50 t k e.1).bind λb=>bif b then J (J (i,e))else h (fg i)) s
def BJ(h:an->AV->Bool)(t:an)(k:AV):Bool:=match P.underlying t,k with|some .bool,.bool _|some (.int _),.int _ _|some .string,.str _=>V|some (.struct i),.agg c=>lu (λ(f:Field)=>f.name== "_"||(match kz P f.type c f.offset with|some v=>h f.type v|none=>C)) i.toList|_,_=>C
def IL(f:Nat):an->AV->Bool:=Nat.rec (λ_ _=>C) (λ_ i=>BJ P i) f
def ql(t:an)(k:AV):Bool:=IL P 5 t k
def yI:AV->AV->Bool|.bool a,.bool b=>a==b|.int j a,.int k b=>j==k&&aj a b|.str a,.str b=>xT a b|_,_=>C
def sameKey:AV->AV->Bool|.agg a,.agg b=>aw (fc a) (fc b)&&lu (λ(p:AV×AV)=>yI p.1 p.2) (List.zip a b)|x,y=>yI x y
def Og(b:Nat)(l:List eI):Nat->ah (Nat×eI):=iY (λ_=>Z) (λ(e:eI)_ h i=>bif aw e.2.2 b then J (i,e)else h (fg i)) l
def Dk(n:aC)(l:List eI):List eI:=iY [] (λ(e:eI)_ i=>bif lu (λs=>!(aw s e.2.2)) n then e::i else i) l
def mP(x:AV)(y:Nat):ah Nat:=match x with|.int _ (.ofNat n)=>bif bt n y then J n else Z|_=>Z
def eZ(x:ah AV)(y d:Nat):ah Nat:=match x with|some v=>mP v y|none=>J d
def sliceB(H:Heap)(t:an)(x:AV)(b i d:ah AV):ah AV:=match P.underlying t,x with|some (.slice a),.bu=>(aW P a).bind λ_=>(eZ d 0 0).bind λm=>(eZ i m 0).bind λh=>(eZ b h 0).bind λ_=>J .bu|some (.slice a),.sl id o len (J c) e=>(aW P a).bind λn=>bif aw n e then(eZ d c c).bind λm=>(eZ i m len).bind λh=>(eZ b h 0).bind λl=>bif bt l h&&bt h m then J (.sl id (im o (ft l e)) (Nat.sub h l) (J (Nat.sub m l)) e)else Z else Z|some (.slice a),.sl id o len Z e=>(aW P a).bind λn=>bif aw n e then match d with|some m=>(mP m bm).bind λm=>(eZ i m len).bind λh=>(eZ b h 0).bind λl=>(H.cellsOf id).bind λc=>bif bt (im o (ft m e)) (fc c)&&(bt h m&&bt l h)then J (.sl id (im o (ft l e)) (Nat.sub h l) (J (Nat.sub m l)) e)else Z|none=>(eZ i bm len).bind λh=>(eZ b h 0).bind λl=>bif bt l h then bif bt h len then J (.sl id (im o (ft l e)) (Nat.sub h l) Z e)else(H.cellsOf id).bind λc=>bif bt (im o (ft h e)) (fc c)then J (.sl id (im o (ft l e)) (Nat.sub h l) Z e)else Z else Z else Z|_,_=>Z
def pR(H:Heap)(t:an)(x:AV)(l h m:ah AV):ah AV:=match m,h with|some _,Z=>Z|_,_=>sliceB P H t x l h m
inductive fh where|val(v:AV)(H:Heap)|call(fr:cG)(H:Heap)
def iz(H:Heap)(b:Builtin)(t:Array an)(h:aI):ah (AV×Heap):=match b,h with
 |.append,[s,x]=>match t[0]?.bind P.underlying with
  |some (.slice e)=>match P.info? e with|some i=>(ml P e).bind λz=>bif aw (fc z) i.size then match t[1]?.bind P.underlying with
  |some (.int _)=>match x with|.int .i64 (.ofNat n)=>bif bt n bm then nA H e i.size i.bytes s (jP n z) n else Z|_=>Z
  |some _=>(qP x).bind λn=>(qG H i.size n x).bind λw=>nA H e i.size i.bytes s w n|none=>Z else Z|none=>Z
  |_=>Z
 |.len,[x]=>match t[0]?.bind P.underlying with
  |some (.array n _)=>J (gZ n,H)|some (.pointer a)=>match P.underlying a with|some (.array n _)=>J (gZ n,H)|_=>Z
  |some .string=>match x with|.str s=>J (gZ (fc s),H)|_=>Z
  |some (.slice _)=>(nJ x).map λn=>(gZ n,H)|some (.map _ _)=>match x with|.fU=>J (gZ 0,H)|.map r=>(H.jO r).map λm=>(gZ (fc m.1),H)|_=>Z
  |_=>Z
 |.cap,[x]=>match t[0]?.bind P.underlying,x with|some (.slice _),.bu=>J (gZ 0,H)|some (.slice _),.sl _ _ _ (J c) _=>J (gZ c,H)|_,_=>Z
 |.copy,[d,s]=>match t[0]?.bind P.underlying with
  |some (.slice e)=>(aW P e).bind λf=>(qP s).bind λa=>(nJ d).bind λc=>let n:=Nat.min a c
  (qG H f n s).bind λcells=>match d with|.sl id o _ _ _=>bif aw n 0 then J (gZ 0,H)else(H.store id o cells).map λH=>(gZ n,H)|_=>J (gZ n,H)
  |_=>Z
 |.max,x::rest=>(lD (λx y=>match x,y with|.int k a,.int _ b=>J (.int k (bif aA a b then b else a))|_,_=>Z) rest x).map λv=>(v,H)|.min,x::rest=>(lD (λx y=>match x,y with|.int k a,.int _ b=>J (.int k (bif aA b a then b else a))|_,_=>Z) rest x).map λv=>(v,H)|.clear,[x]=>match t[0]?.bind P.underlying,x with|some _,.fU|some _,.bu=>J (fC,H)|some _,.map r=>(H.jO r).map λm=>(fC,H.put r r (.map [] m.2))|some (.slice e),.sl id o n _ f=>bif aw n 0 then J (fC,H)else(ml P e).bind λz=>bif aw (fc z) f then(H.store id o (jP n z)).map λH=>(fC,H)else Z|_,_=>Z
 |.delete,[m,k]=>match t[0]?.bind P.underlying with
  |some (.map j _)=>bif ql P j k then match m with
  |.fU=>J (fC,H)|.map r=>(H.jO r).bind λg=>(oR P j k g.1 0).map λ|some (i,_)=>(fC,H.put r r (.map (dy (wc i g.1) (zH (fg i) g.1)) g.2))|none=>(fC,H.put r r (.map g.1 g.2))
  |_=>Z else Z|_=>Z
 |_,_=>Z
def wG(f:bW)(r:aI):ah cG:=(P.funcs[f]?).bind λfn=>fn.body.bind λb=>bif bt (fc r) fn.ntmps then J {fn:=f,n:=fn.ntmps,tmps:=(fS (λ(p:Tr AV×Nat)a=>(p.1.ins p.2 a,fg p.2)) r (Tr.nil,0)).1,todo:=[.code b],defers:=[],mode:=.run,roundOf:=Z}else Z
variable(ak:cj)
def xQ(f:bW)(a:aI)(H:Heap):ah fh:=match ak f a H with|some r=>r.map λv=>.val v.1 v.2|none=>(wG P f a).map λfr=>.call fr H
def uN(t:NU)(a:aI)(H:Heap):ah fh:=match t with|.builtin b s=>(iz P H b s a).map λv=>.val v.1 v.2|.fn f c=>xQ P ak f (dy a c) H|.yield l=>match H.get l with|some (.loop r)=>bif aw (fc a) (fc r.params)then J (.call {fn:=r.fn,n:=r.n,tmps:=fS (λt(p:Tmp×AV)=>bif ct p.1 r.n then t.ins p.1 p.2 else t) (List.zip r.params a) r.tmps,todo:=[.code r.assign,.beginRound,.code r.body],defers:=[],mode:=.run,roundOf:=J l} H)else Z|_=>Z
def yE(t:Tr AV)(c:Call):ah R9:=(cw (bJ P t) c.args.toList).bind λargs=>match c.callee with|.builtin b=>J {target:=.builtin b c.argTypes,args}|.invoke ..=>Z|.value f=>(bJ P t f).bind λ|.func f first a=>J {target:=.fn f a,args:=dy first args}|.yield l=>J {target:=.yield l,args}|_=>Z
def eY(H:Heap)(v:ah AV):ah fh:=v.map λv=>.val v H
def DW(t:Tr AV)(H:Heap)(x:aK):ah fh:=eY H (bJ P t x)
def Cj(t:Tr AV)(H:Heap)(c:aK)(a:aK)(b:aK):ah fh:=match bJ P t c with|some (.bool V)=>eY H (bJ P t a)|some (.bool C)=>eY H (bJ P t b)|_=>Z
def GB(t:Tr AV)(H:Heap)(e:an):ah fh:=(ml P e).map λz=>.val (.ptr H.next 0) (H.cQ z .ex e)
def GD(t:Tr AV)(H:Heap)(e:an)(x:aK):ah fh:=(bJ P t x).bind λv=>v.cells.map λs=>.val (.ptr H.next 0) (H.cQ s .ex e)
def Cf(b:Tr AV)(H:Heap)(t:an)(a:Array (Nat×aK)):ah fh:=(ml P t).bind λz=>(cw (λ(p:Nat×aK)=>(bJ P b p.2).map λv=>(p.1,v)) a.toList).bind λs=>match P.underlying t with|some (.struct e)=>(cw (λ(f:Field)=>(aW P f.type).map λn=>(f.offset,n)) e.toList).bind λl=>eY H ((zQ (λi=>oZ l i) s z).map .agg)|some (.array _ m)=>(aW P m).bind λn=>eY H ((zQ (λi=>J (ft i n,n)) s z).map .agg)|_=>Z
def GF(m:Tr AV)(H:Heap)(t:an)(l:Nat)(a:Array (Nat×aK)):ah fh:=match P.underlying t with|some (.slice e)=>(aW P e).bind λn=>bif aw n 0||!(bt (ft l n) 16777216)then Z else(cw (λ(p:Nat×aK)=>(bJ P m p.2).map λv=>(p.1,v)) a.toList).bind λs=>(bif aw l 0 then J []else ml P e).bind λz=>bif !(aw l 0||aw (fc z) n)then Z else(zQ (λi=>J (ft i n,n)) s (jP l z)).map λcells=>.val (.sl H.next 0 l (J l) n) (H.cQ cells .ex e)|_=>Z
def GJ(m:Tr AV)(H:Heap)(t:an)(a:aK):ah fh:=match bJ P m a with|some (.ptr id o)=>eY H (loadVar P H t id o)|_=>Z
def DY(m:Tr AV)(H:Heap)(t:an)(a:aK)(x:aK):ah fh:=match bJ P m a with|some (.ptr id o)=>(bJ P m x).bind λv=>(storeVar P H t id o v).map λH=>.val fC H|_=>Z
def DX(t:Tr AV)(H:Heap)(x:aK):ah fh:=match bJ P t x with|some (.ptr id o)=>eY H (J (.ptr id o))|some (.func f a b)=>eY H (J (.func f a b))|some (.yield l)=>eY H (J (.yield l))|_=>Z
def GC(m:Tr AV)(H:Heap)(o:BinOp)(t:an)(x:aK)(y:aK):ah fh:=(bJ P m x).bind λa=>(bJ P m y).bind λb=>eY H (xO P o t x y a b)
def GN(t:Tr AV)(H:Heap)(o:UnOp)(x:aK):ah fh:=(bJ P t x).bind λa=>eY H (RT o a)
def GG(t:Tr AV)(H:Heap)(r:an)(d:an)(x:aK):ah fh:=(bJ P t x).bind λv=>match P.underlying r,P.underlying d,v with
 |some _,J (.int k),.int _ n=>eY H (J (.int k (dN k n)))|some .string,J (.slice e),.str s=>match P.underlying e with|some (.int .u8)=>J (.val (.sl H.next 0 (fc s) Z 1) (H.cQ (yu (λ(b:Nat)=>AV.int .u8 (.ofNat b)) s) .ro e))|_=>Z
 |_,_,_=>Z
def GK(t:Tr AV)(H:Heap)(f:bW)(i:Array aK)(c:Array aK):ah fh:=(cw (bJ P t) i.toList).bind λa=>(cw (bJ P t) c.toList).bind λb=>eY H (J (.func f a b))
def GL(m:Tr AV)(H:Heap)(t:an)(r:ah aK):ah fh:=match r with|none=>J (.val (.map H.next) (H.alloc (.map [] 0)))|some x=>match P.underlying t,bJ P m x with|some (.map _ _),J (.int _ _)=>J (.val (.map H.next) (H.alloc (.map [] 0)))|_,_=>Z
def GM(m:Tr AV)(H:Heap)(t:an)(l:aK)(c:aK):ah fh:=match P.underlying t with
 |some (.slice e)=>match P.info? e,bJ P m l,bJ P m c with|some i,J (.int _ (.ofNat l)),J (.int _ (.ofNat c))=>bif !(aw i.size 0)&&(bt l c&&(bt (ft c i.bytes) bm&&bt c bm))then(bif aw c 0 then J []else ml P e).bind λz=>bif aw c 0||aw (fc z) i.size then J (.val (.sl H.next 0 l (J c) i.size) (H.cQ (jP c z) .ex e))else Z else Z|_,_,_=>Z
 |_=>Z
def NR(m:Tr AV)(H:Heap)(t:an)(x:aK)(l:ah aK)(h:ah aK)(a:ah aK):ah fh:=(bJ P m x).bind λv=>(match l with|some x=>(bJ P m x).map J|none=>J Z).bind λl=>(match h with|some x=>(bJ P m x).map J|none=>J Z).bind λh=>(match a with|some x=>(bJ P m x).map J|none=>J Z).bind λa=>eY H (pR P H t v l h a)
def DS(t:Tr AV)(H:Heap)(s:an)(x:aK)(f:Nat):ah fh:=match P.underlying s with
 |some (.struct i)=>(i[f]?).bind λd=>(aW P d.type).bind λn=>match n,bJ P t x with|fg _,J (.ptr id o)=>eY H (J (.ptr id (im o d.offset)))|_,_=>Z
 |_=>Z
def GI(m:Tr AV)(H:Heap)(t:an)(x:aK)(f:Nat):ah fh:=match P.underlying t with
 |some (.struct i)=>(i[f]?).bind λd=>match bJ P m x with|some (.agg c)=>eY H (kz P d.type c d.offset)|_=>Z
 |_=>Z
def Ch(m:Tr AV)(H:Heap)(t:an)(x:aK)(i:aK):ah fh:=match bJ P m i with
 |some (.int _ (.ofNat i))=>match P.underlying t,bJ P m x with|some (.array len e),J (.ptr id o)=>(aW P e).bind λn=>bif ct i len then eY H (J (.ptr id (im o (ft i n))))else Z|some (.slice e),J (.sl id o len _ s)=>(aW P e).bind λn=>bif ct i len&&aw n s then eY H (J (.ptr id (im o (ft i s))))else Z|_,_=>Z
 |_=>Z
def DT(m:Tr AV)(H:Heap)(t:an)(x:aK)(i:aK):ah fh:=match bJ P m i with
 |some (.int _ (.ofNat i))=>match P.underlying t,bJ P m x with|some (.array len e),J (.agg c)=>(aW P e).bind λn=>bif ct i len then eY H (kz P e c (ft i n))else Z|some .string,J (.str s)=>eY H ((oZ s i).map λb=>.int .u8 (.ofNat b))|_,_=>Z
 |_=>Z
def Ci(m:Tr AV)(H:Heap)(t:an)(x:aK)(k:aK)(o:Bool):ah fh:=match P.underlying t with|some (.map a b)=>(match bJ P m x with|some .fU=>J []|some (.map r)=>(H.jO r).map Prod.fst|_=>Z).bind λs=>(bJ P m k).bind λk=>bif ql P a k then(oR P a k s 0).bind λ|some (_,e)=>eY H (J (bif o then .cL [e.2.1,.bool V]else e.2.1))|none=>(yZ P b).bind λz=>eY H (J (bif o then .cL [z,.bool C]else z))else Z|_=>Z
def DU(a:Tr AV)(H:Heap)(t:an)(m:aK)(k:aK)(x:aK):ah fh:=match P.underlying t,bJ P a m with|some (.map b _),J (.map r)=>(H.jO r).bind λo=>(bJ P a k).bind λk=>(bJ P a x).bind λx=>bif ql P b k then(oR P b k o.1 0).bind λ|some (i,e)=>bif sameKey e.1 k then J (.val fC (H.put r r (.map (vO o.1 i (e.1,x,e.2.2)) o.2)))else Z|none=>J (.val fC (H.put r r (.map (dy o.1 [(k,x,o.2)]) (fg o.2))))else Z|_,_=>Z
def JT(b:Tr AV)(H:Heap)(t:an)(m:aK)(k:aK):ah fh:=match P.underlying t,bJ P b m with|some (.map a c),J (.map r)=>(H.jO r).bind λo=>(bJ P b k).bind λk=>bif ql P a k then(oR P a k o.1 0).bind λ|some (_,e)=>bif sameKey e.1 k then J (.val (.cL [e.2.1,gZ e.2.2]) (H.put r r (.map o.1 o.2)))else Z|none=>(yZ P c).map λz=>.val (.cL [z,gZ o.2]) (H.put r r (.map (dy o.1 [(k,z,o.2)]) (fg o.2)))else Z|_,_=>Z
def R0(t:Tr AV)(H:Heap)(m:aK)(s:aK)(x:aK):ah fh:=match bJ P t m,bJ P t s with|some (.map r),J (.int _ (.ofNat b))=>(H.jO r).bind λo=>(bJ P t x).bind λx=>(Og b o.1 0).map λi=>.val fC (H.put r r (.map (vO o.1 i.1 (i.2.1,x,i.2.2.2)) o.2))|_,_=>Z
def R5(a:Tr AV)(H:Heap)(t:an)(x:aK):ah fh:=match P.underlying t,bJ P a x with|some (.map _ _),J .fU=>J (.val (.ptr H.next 0) (H.alloc (.mapIter Z 0 [] 0)))|some (.map _ _),J (.map m)=>(H.jO m).map λo=>.val (.ptr H.next 0) (H.alloc (.mapIter (J m) o.2 [] o.2))|_,_=>Z
def R4(t:Tr AV)(H:Heap)(i:aK):ah fh:=match bJ P t i with
 |some (.ptr r 0)=>match H.get r with|some (.mapIter Z _ _ _)=>eY H (J (.cL [.bool C]))|some (.mapIter (J m) s seen l)=>(H.jO m).bind λo=>bif aw o.2 s&&(aw l s&&lu (λ(e:eI)=>ct e.2.2 s) o.1)then match Dk seen o.1 with|[]=>eY H (J (.cL [.bool C]))|[e]=>J (.val (.cL [.bool V,e.1,e.2.1]) (H.put r r (.mapIter (J m) s (dy seen [e.2.2]) l)))|_=>Z else Z|_=>Z
 |_=>Z
def RZ(t:Tr AV)(H:Heap)(i:aK):ah fh:=match bJ P t i with
 |some (.ptr r 0)=>match H.get r with
  |some (.mapIter (J m) _ seen D)=>(H.jO m).bind λo=>bif aw o.2 D then match seen with
  |[s]=>match o.1 with|[e]=>bif aw e.2.2 s then eY H (J (.cL [e.1,e.2.1]))else Z|_=>Z
  |_=>Z else Z|_=>Z
 |_=>Z
def JS(m:Tr AV)(H:Heap)(t:aK)(i:Nat):ah fh:=match bJ P m t with|some (.cL v)=>eY H (oZ v i)|_=>Z
def Cg(t:Tr AV)(H:Heap)(c:Call):ah fh:=(yE P t c).bind λd=>uN P ak d.target d.args H
def dS(d:Tr AV)(H:Heap)(o:aB):ah fh:=match o.op with|.move x|.assign x=>DW P d H x|.pick c a b=>Cj P d H c a b|.alloc e=>GB P d H e|.box e x=>GD P d H e x|.build t parts=>Cf P d H t parts|.buildSlice t len parts=>GF P d H t len parts|.load t a=>GJ P d H t a|.store t a x=>DY P d H t a x|.nilCheck x=>DX P d H x|.binOp op t x y _=>GC P d H op t x y|.unOp op _ x=>GN P d H op x|.convert src g x=>GG P d H src g x|.makeFunc (.func f) first p=>GK P d H f first p|.makeMap t r=>GL P d H t r|.makeSlice t l c=>GM P d H t l c|.slice t x lo j n=>NR P d H t x lo j n|.fieldAddr s x f=>DS P d H s x f|.field t x f=>GI P d H t x f|.indexAddr t x i=>Ch P d H t x i|.index t x i=>DT P d H t x i|.lookup t x k ok=>Ci P d H t x k ok|.mapUpdate t m k x|.insert t m k x=>DU P d H t m k x|.mapEntry t m k=>JT P d H t m k|.entryStore _ m s x=>R0 P d H m s x|.range t x=>R5 P d H t x|.next h C=>R4 P d H h|.entry h=>RZ P d H h|.extract t i=>JS P d H t i|.call c=>Cg P ak d H c|_=>Z
def ta(f:cG)(d:ah Tmp)(v:AV):ah cG:=match d with|some d=>cG.rec (λfn n t todo e m ro=>bif ct d n then K7 (t.ins d v) λt=>J ⟨fn,n,t,todo,e,m,ro⟩else Z) f|none=>J f
theorem DH(f:cG)(d:ah Tmp)(v:AV):ta f d v=match d with|some d=>bif ct d f.n then J {f with tmps:=f.tmps.ins d v}else Z|none=>J f:=by cases d with|none=>rfl|some d=>simp only[ta,O8]
def wi(p:Array aB)(t:Tr AV)(o:aB):ah Bool:=match o.guard with|none=>J V|some (j,w)=>match(p[j]?).bind (·.dst)with
 |some d=>match t.get d with|some (.bool b)=>J (b==w)|some .top=>Z|_=>J C
 |none=>J C
def Ed(a:List aB):Tr Nat×Nat:=fS (λ(p:Tr Nat×Nat)(o:aB)=>(p.1.ins p.2 (fS (λs(e:Edge)=>bif uo .any e then Nat.lor s (Nat.lor (Nat.shiftLeft 1 e.on) ((p.1.get e.on).getD 0))else s) o.after.toList 0),fg p.2)) a (Tr.nil,0)
def before(a:Tr Nat)(i j:Nat):Bool:=aw (Nat.mod (Nat.shiftRight ((a.get j).getD 0) i) 2) 1
def tied(a:Tr Nat)(i j:Nat):Bool:=before a i j||before a j i
def oA:Op->Bool|.move _|.assign _|.pick ..|.build ..|.nilCheck _|.unOp ..|.makeInterface ..|.makeFunc ..|.fieldAddr ..|.field ..|.indexAddr ..|.index ..|.typeAssert ..|.extract ..=>V|.binOp ..=>V|_=>C
def xf:Op->Bool|.load ..|.lookup ..|.slice ..|.alloc _|.box ..|.buildSlice ..|.makeMap ..|.makeSlice ..=>V|.call {callee:=.builtin .len,..}|.call {callee:=.builtin .cap,..}=>V|_=>C
def JC(s:List aB)(j:Nat):Bool:=let a:=(Ed s).1
 (fS (λ(p:Bool×Nat)(o:aB)=>(p.1&&(oA o.op||xf o.op||aw p.2 j||tied a p.2 j),fg p.2)) s (V,0)).1
def rh(o:List aB)(i j:Nat):Bool:=tied (Ed o).1 i j
def tmpsOf(o:aB):List Tmp:=fS (λa x=>match x with|.tmp t=>t::a|_=>a) o.op.operands.toList []
def akb(s:List aB):ah (Tr Nat):=(lD (λ(p:Tr Nat×Nat)(o:aB)=>match o.dst with|none=>J (p.1,fg p.2)|some t=>match p.1.get t with|none=>J (p.1.ins t p.2,fg p.2)|some _=>Z) s (Tr.nil,0)).map Prod.fst
def vW(s:List aB):Bool:=match akb s with|none=>C|some w=>let a:=(Ed s).1
 (fS (λ(p:Bool×Nat)(o:aB)=>(p.1&&(lu (λ(e:Edge)=>!(uo .any e)||ct e.on p.2) o.after.toList&&(match o.guard with|none=>V|some (g,_)=>before a g p.2&&(match oZ s g with|some q=>q.dst.isSome|none=>C))&&lu (λt=>match w.get t with|none=>V|some k=>aw k p.2||tied a k p.2) (tmpsOf o)),fg p.2)) s (V,0)).1
def s8(H:Heap)(i:Nat):ah Nat:=match H.get i with|some (.cells _ root _ _)=>J root|_=>Z
inductive Touch where|rd|wr|look(t:an)(k:AV)|entry(t:an)(k:AV)
def Gi(t:an)(k:AV):Bool:=match P.underlying t with|some (.map a _)=>(match lC P 50 a k k with|some V=>V|_=>C)|_=>C
def eC(b:Tr AV)(H:Heap)(o:aB):ah (List (Touch×Nat)):=match o.op with
 |.alloc _|.box ..|.buildSlice ..|.makeMap ..|.makeSlice ..=>J []|.load _ a=>match bJ P b a with|some (.ptr id _)=>(s8 H id).map λr=>[(.rd,r)]|_=>Z
 |.store _ a _=>match bJ P b a with|some (.ptr id _)=>(s8 H id).map λr=>[(.wr,r)]|_=>Z
 |.lookup t m k C=>match bJ P b m,bJ P b k with|some (.map r),J k=>J [(bif Gi P t k then .look t k else .rd,r)]|some .fU,_=>J []|_,_=>Z
 |.lookup _ m _ V=>match bJ P b m with|some (.map r)=>J [(.rd,r)]|some .fU=>J []|_=>Z
 |.mapEntry t m k=>match bJ P b m,bJ P b k with|some (.map r),J k=>J [(.entry t k,r)]|_,_=>Z
 |.slice _ x _ _ _=>match bJ P b x with|some (.sl id _ _ _ _)=>(s8 H id).map λr=>[(.rd,r)]|some (.str _)|some .bu=>J []|_=>Z
 |.call {callee:=.builtin .len,args,..}=>match args.toList with
  |[x]=>match bJ P b x with|some (.map r)=>J [(.rd,r)]|some _=>J []|none=>Z
  |_=>Z
 |.call {callee:=.builtin .cap,..}=>J []|_=>Z
structure jt where reads:ah (List (Touch×Nat))writes:aC
def BQ(x:Nat)(l:aC):Bool:=!(lu (λy=>!(aw x y)) l)
def clear(w:aC)(r:ah (List (Touch×Nat))):Bool:=match w,r with|[],_=>V|_,Z=>C|w,J l=>lu (λt=>!(BQ t.2 w)) l
def Qt(a b:jt):Bool:=match a.reads,b.reads with|some [(.look t k,r)],J [(.entry e c,d)]=>aw r d&&(aw t e&&sameKey k c)|_,_=>C
def apart(a b:jt):Bool:=(clear a.writes b.reads&&clear b.writes a.reads&&lu (λx=>!(BQ x b.writes)) a.writes)||Qt a b
inductive AZ where|next(fr:cG)(H:Heap)
inductive D8 where|val(v:AV)(H:Heap)
def fB(r:Rec)(t:Tr AV)(H:Heap)(o:aB):ah D8:=(dS P ak t H o).bind λ|.val v H=>J (.val v H)|.call c H=>(r c H).bind λ|.ret v H=>J (.val v H)
def Bf(r:Rec)(p:Array aB)(f:cG)(H:Heap)(o:aB):ah AZ:=(wi p f.tmps o).bind λw=>bif w then(fB P ak r f.tmps H o).bind λ|.val v H=>(ta f o.dst v).map λf=>NB (λH=>.next f H) H else(ta f o.dst fC).map λf=>NB (λH=>.next f H) H
theorem KA(r:Rec)(p:Array aB)(f:cG)(H:Heap)(o:aB):Bf P ak r p f H o=(wi p f.tmps o).bind λw=>bif w then(fB P ak r f.tmps H o).bind λ|.val v H=>(ta f o.dst v).map λf=>.next f H else(ta f o.dst fC).map λf=>.next f H:=by unfold Bf;simp only[ajP]
def Aw(r:Rec)(p:Array aB)(l:List aB):cG->Heap->ah AZ:=iY (λfr H=>J (.next fr H)) (λo _ i fr H=>(Bf P ak r p fr H o).bind λ|.next fr H=>i fr H) l
def Heap.resume(a H:Heap):Heap:={H with bA:=a.bA,bV:=fS (λl r=>Heap.note a.bA r l) H.bV a.bV,cI:=fS (λl r=>Heap.note a.bA r l) H.cI a.cI}
def Heap.fresh(H:Heap):Heap:={H with bA:=H.next,bV:=[],cI:=[]}
def rJ(p:Array aB)(o:aB)(j:Nat)(d:jt)(H:Heap):Bool:=match H.cI with|[]=>V|_=>JC p.toList j&&(!(xf o.op)&&(match d.reads with|none=>V|some _=>C))
def sZ(o:aB)(H:Heap):Bool:=bif xf o.op then(match H.bV,H.cI with|[],[]=>V|_,_=>C)else V
def within(d:jt):Bool:=match d.reads with|none=>V|some l=>lu (λr=>BQ r (yu (λ(t:Touch×Nat)=>t.2) l)) d.writes
def vZ(r:Rec)(p:Array aB)(l:List aB):Nat->List (Nat×jt)->cG->Heap->ah AZ:=iY (λ_ _ fr H=>J (.next fr H)) (λo _ i j g fr H=>(wi p fr.tmps o).bind λw=>bif !w then(ta fr o.dst fC).bind λfr=>i (fg j) g fr H else(fB P ak r fr.tmps H.fresh o).bind λ
 |.val v a=>(ta fr o.dst v).bind λf=>bif oA o.op then i (fg j) g f H else let gE:jt:=⟨eC P fr.tmps H o,a.bV⟩
 bif lu (λ(e:Nat×jt)=>apart e.2 gE||rh p.toList e.1 j) g&&(rJ p o j gE a&&(sZ o a&&within gE))then NB (λH=>i (fg j) ((j,gE)::g) f H) (H.resume a)else Z) l
def Ji(n:Func)(f:cG)(H:Heap):ah AV:=(cw (λ|.tmp t=>J (f.tmp t)|.cell a t=>match f.tmp a with|.ptr id o=>loadVar P H t id o|_=>Z) n.results.toList).map λ|[v]=>v|s=>.cL s
def age:List Item->ah bM|[]=>Z|_=>J .ret
def wC(e:Rec)(f:cG)(H:Heap):ah Out:=match f.roundOf with|none=>e (f.Rq (.returning)) H|some l=>match H.get l with
 |some (.loop r)=>let j:ah bM:=age f.todo
 J (.ret (.bool j.isNone) (H.put l l (.loop {r with state:=(match j with|none=>.ready|some _=>.done),pending:=j})))|_=>Z
def xL(r:Rec)(f:cG)(H:Heap)(c:aK)(t:bM)(T:bM)(k:List Item):ah Out:=match bJ P f.tmps c with|some (.bool V)=>r (f.vd (.code t::k)) H|some (.bool C)=>r (f.vd (.code T::k)) H|_=>Z
def xM(e:Rec)(f:cG)(H:Heap)(i:Nat)(k:List Item):ah Out:=match exitTo i k with|some k=>e (f.vd (k)) H|none=>match f.roundOf with|none=>Z|some l=>match H.get l with|some (.loop r)=>J (.ret (.bool C) (H.put l l (.loop {r with state:=.done,pending:=J (.exit i)})))|_=>Z
def xN(r:Rec)(f:cG)(H:Heap)(o:Array aB)(d:Bool)(k:List Item):ah Out:=let f:=(f.vd (k))
 (bif d then(bif vW o.toList then vZ P ak r o o.toList 0 [] f H else Z)else Aw P ak r o o.toList f H).bind λ|.next f H=>r f H
def Kj(e:Rec)(d:cG)(H:Heap)(f:aK)(p:Array Tmp)(s:bM)(b:bM)(k:List Item):ah Out:=match bJ P d.tmps f with
 |some (.func g first a)=>let h:ah (Nat×aC×Heap):=match d.roundOf with
  |some l=>match H.get l with|some (.loop r)=>J (r.defers,[],H)|_=>Z
  |none=>J (H.next,[H.next],H.alloc (.deferred V))
 h.bind λm=>let l:=m.2.2.next
  let H:=m.2.2.alloc (.loop {state:=.ready,pending:=Z,fn:=d.fn,n:=d.n,tmps:=d.tmps,params:=p.toList,assign:=s,body:=b,defers:=m.1})
  let d:=((d.vd (k)).Rp (dy m.2.1 d.defers))
  match xQ P ak g (dy (dy first [.yield l]) a) H with
  |some (.call c H)=>(e c H).bind λ|.ret _ H=>match H.get l with
   |some (.loop r)=>match r.state with|.busy=>Z|_=>let H:=H.put l l (.loop {r with state:=.exhausted})
   match r.pending with|some c=>e (d.vd (.code c::k)) H|none=>e d H
   |_=>Z
  |_=>Z
 |_=>Z
def A8(e:Rec)(f:cG)(H:Heap)(k:List Item):ah Out:=match f.roundOf with
 |some l=>match H.get l with
  |some (.loop r)=>match r.state with|.ready=>e (f.vd (k)) (H.put l l (.loop {r with state:=.busy}))|_=>Z
  |_=>Z
 |none=>Z
def vm(r:Rec)(d:cG)(H:Heap):ah Out:=match d.todo with|[]|.code .ret::_=>wC r d H|.code .skip::k|.code (.label _)::k|.inBlock _::k|.inScope _::k=>r (d.vd (k)) H|.code (.seq a b)::k=>r (d.vd (.code a::.code b::k)) H|.code (.cond c t T)::k=>xL P r d H c t T k|.code (.block id b)::k=>r (d.vd (.code b::.inBlock id::k)) H|.code (.loop b)::k|.inLoop b::k=>r (d.vd (.code b::.inLoop b::k)) H|.code (.scope b)::k=>r (d.vd (.code b::.inScope b::k)) H|.code (.exit id)::k=>xM r d H id k|.code (.region _ o w)::k=>xN P ak r d H o w k|.code (.rangeFunc f p s b)::k=>Kj P ak r d H f p s b k|.beginRound::k=>A8 r d H k|_=>Z
def Ef(e:Rec)(a:cG)(H:Heap):ah Out:=match a.roundOf with|some _=>Z|none=>match a.defers with
 |r::d=>match H.get r with|some (.deferred V)=>e (a.Rp d) (H.put r r (.deferred C))|_=>Z
 |[]=>(K6 a.fn λf=>P.funcs[f]?).bind λfn=>(Ji P fn a H).map λv=>.ret v H
def body(r:Rec)(f:cG)(H:Heap):ah Out:=match f.mode with|.run=>vm P ak r f H|.returning=>Ef P r f H|_=>Z
def run(n:Nat):Rec:=Nat.rec (λ_ _=>Z) (λ_ i=>body P ak i) n
end
end Go.AM
namespace Go.VM
open Go Go.AM
inductive DV where|bool(b:Bool)|int(k:fR)(n:Int)|str(s:List Nat)|nl|ay(l:List DV)(e:an)(esz:Nat)|ptr(id off:Nat)|eN|map(r:Nat)|fU|func(f:bW)(first captured:List DV)|dU(l:Nat)|dY(id off len:Nat)(e:an)(esz:Nat)|nilFunc|agg(l:List DV)|jk
abbrev ao:=List DV
mutual
def DV.gS (e : an) : DV -> Bool
  | .ay l e1 _ => !(aw e1 e) && jq e l
  | .agg l => jq e l
  | .func _ a b => jq e a && jq e b
  | _ => V
def jq (e : an) : ao -> Bool
  | [] => V
  | d :: t => d.gS e && jq e t
end
inductive aM where|no|any|ty(e:an)|ex(e:an)|full(e:an)
inductive SV where|dv(d:DV)(o:aM)|tp(l:List (DV×aM))|lp(s off:Nat)|ev(d:DV)|sr(t:Nat)|se(t i off:Nat)|gr(id off:Nat)|hd(n:Nat)|dd
abbrev cX:=List (Nat×SV)
structure LB where
 cells:ao
 own:List (Nat×aM)
abbrev dV:=List (Nat×LB)
def DV.aU:DV->Bool|.agg _=>C|_=>V
def DV.flat:DV->ao|.agg l=>l|v=>[v]
abbrev lq:=DV×DV×Nat
structure aaL where
 state:LoopState
 pending:ah bM
 fn:bW
 n:Nat
 sl:cX
 params:List Tmp
 assign:bM
 body:bM
inductive GO where|box(b:LB)|map(es:List lq)(clock:Nat)|loop(l:aaL)
structure GH where
 next:Nat
 kb:List (Nat×GO)
def look{a:Type}(l:List (Nat×a))(n:Nat):ah a:=match l with|[]=>Z|(m,x)::t=>bif aw m n then J x else look t n
def put{a:Type}(l:List (Nat×a))(n:Nat)(x:a):List (Nat×a):=match l with|[]=>[(n,x)]|(m,y)::t=>bif aw m n then(n,x)::t else(m,y)::put t n x
def GH.get(g:GH)(i:Nat):ah GO:=look g.kb i
def GH.set(g:GH)(i:Nat)(o:GO):GH:={g with kb:=put g.kb i o}
def GH.alloc(g:GH)(o:GO):GH:={next:=g.next+1,kb:=put g.kb g.next o}
def GH.empty:GH:={next:=0,kb:=[]}
structure St where
 fn:bW
 n:Nat
 sl:cX
 lb:dV
 g:GH
def Of:AV->ah DV|.bool b=>J (.bool b)|.int k n=>J (.int k n)|.str s=>J (.str s)|.eN=>J .eN|.bu=>J .nl|.fU=>J .fU|.nilFunc=>J .nilFunc|_=>Z
def A7:aI->ah ao|[]=>J []|a::t=>(Of a).bind λd=>(A7 t).bind λl=>J (d::l)
def A6:AV->ah DV|.agg l=>(A7 l).map .agg|v=>Of v
def CK:SV->ah DV|.dv d _=>J d|_=>Z
def ua(d:DV):aM:=match d with|.nl=>.any|_=>.no
section
variable(P:aH)(aq:Nat->ah ao)
def cu(t:an):ah DV:=(yZ P t).bind A6
def cU(s:St):aK->ah SV|.tmp t=>(match look s.sl t with|some .dd=>Z|r=>r)|.const v=>(w9 v).bind λa=>(A6 a).map λd=>.dv d (ua d)|.global g=>(aq g).map λl=>.ev (.agg l)|.func f=>J (.dv (.func f [] []) .no)
def bj(s:St)(x:aK):ah DV:=(cU aq s x).bind CK
def jr(t:an)(c:ao)(o:Nat):ah DV:=match AM.isAgg P t with|some V=>(aW P t).bind λn=>bif bt (o+n) c.length then J (.agg ((c.drop o).take n))else Z|some C=>c[o]?|none=>Z
def lg(c:ao)(o:Nat)(v:ao):ao:=c.take o++v++c.drop (o+v.length)
def xV(l:Nat->ah (Nat×Nat)):List (Nat×DV)->ao->ah ao|[],cells=>J cells|p::t,cells=>(l p.1).bind λo=>bif aw p.2.flat.length o.2&&bt (o.1+o.2) cells.length then xV l t (lg cells o.1 p.2.flat)else Z
def zN(h:an->DV->DV->ah Bool)(t:an)(x y:DV):ah Bool:=match P.underlying t,x,y with|some .bool,.bool a,.bool b=>J (a==b)|some (.int _),.int k a,.int g b=>if k=g then J (aj a b)else Z|some .string,.str a,.str b=>J (xT a b)|some (.struct l),.agg s,.agg d=>bif P.stoodInHeld t then Z else lD (λc(f:Field)=>bif c then(bif f.name== "_"then J V else(jr P f.type s f.offset).bind λa=>(jr P f.type d f.offset).bind λb=>h f.type a b)else J C) l.toList V|some (.array n e),.agg s,.agg d=>(aW P e).bind λz=>lD (λc i=>bif c then(jr P e s (ft i z)).bind λa=>(jr P e d (ft i z)).bind λb=>h e a b else J C) (rq n) V|some (.slice _),.nl,.nl=>J V|some (.slice _),.nl,.ay ..|some (.slice _),.ay ..,.nl|some (.slice _),.nl,.dY ..|some (.slice _),.dY ..,.nl=>J C|some (.pointer _),.eN,.eN=>J V|some (.pointer _),.eN,.ptr ..|some (.pointer _),.ptr ..,.eN=>J C|_,_,_=>Z
def gF(f:Nat):an->DV->DV->ah Bool:=Nat.rec (λ_ _ _=>Z) (λ_ i=>zN P i) f
def La(t:an)(x y:DV):Bool:=match x,y with|.agg _,.agg _=>!P.eqGuardType P.depth t|_,_=>V
def af4(k:fR)(a:Int)(y:fR)(b:Int):ah AV:=match(Op.shift .shr k a y b).run P default with|.ok (.int k n) _=>J (.int k n)|_=>Z
def gb(op:BinOp)(t:an)(x y:DV):ah DV:=match op,x,y with|.shr,.int k a,.int d b=>(af4 P k a d b).bind A6|.shr,_,_=>Z|op,.int k a,.int c b=>if k=c then(IG P op k a b).bind A6 else Z|op,.str a,.str b=>(RJ op a b).bind A6|.eql,x,y=>bif La P t x y then(gF P 50 t x y).map .bool else Z|.neq,x,y=>bif La P t x y then(gF P 50 t x y).map λb=>.bool (!b)else Z|_,_,_=>Z
def JI(o:UnOp)(x:DV):ah DV:=match o,x with|.neg,.int k n=>J (.int k (dN k (Int.sub 0 n)))|.not,.bool b=>J (.bool (!b))|_,_=>Z
inductive iK where|none|len|ref|take|copy
def iK.join:iK->iK->iK|.none,u|u,.none=>u|.len,.len=>.len|.len,.ref|.ref,.len|.ref,.ref=>.ref|.take,_|_,.take=>.take|_,_=>.copy
def qj(d:Tmp):aK->Bool|.tmp t=>aw t d|_=>C
def aan(k:bW->Nat)(d:Tmp)(o:Op):iK:=match o with|.assign x=>bif qj d x then .take else .none|.store _ a x=>bif qj d x then .take else bif qj d a then .copy else .none|.indexAddr _ x i=>bif qj d x then .ref else bif qj d i then .copy else .none|.call {callee:=.builtin .len,args,..}=>bif args.toList.any (qj d)then .len else .none|.call {callee:=.builtin .append,args,..}=>(match args.toList with|x::l=>bif qj d x then .take else bif l.any (qj d)then .copy else .none|[]=>.none)|.call {callee:=.value (.func f),args,..}=>(match args.toList with|x::l=>bif qj d x&&aw (k f) 1||aw (k f) 3&&(qj d x||l.any (qj d))then .ref else bif qj d x&&aw (k f) 2 then .take else bif qj d x||l.any (qj d)then .copy else .none|[]=>.none)|o=>bif o.operands.toList.any (qj d)then .copy else .none
def JK(f:bW->Nat)(l:List aB)(d:Tmp):iK:=match l with|[]=>.none|o::t=>iK.join (aan f d o.op) (JK f t d)
def Gz(f:bW->Nat)(c:aC)(l:List aB)(d:Tmp):iK:=bif c.any (aw d)then .copy else JK f l d
def oC:aM->aM|.ex e=>.ty e|o=>o
def share:SV->SV|.dv d o=>.dv d (oC o)|.tp _=>.dd|v=>v
def leave:SV->SV|.dv d (.ex _)=>.dv .jk .no|.dv d _=>.dv d .no|.tp _=>.dd|v=>v
def aQ(f:SV->SV)(s:St)(x:aK):St:=match x with
 |.tmp t=>match look s.sl t with|some v=>{s with sl:=put s.sl t (f v)}|none=>s
 |_=>s
def pP(s:Nat):SV->SV|.sr t=>bif aw t s then .dd else .sr t|.se t i o=>bif aw t s then .dd else .se t i o|v=>v
def iu(l:cX)(s:Nat):cX:=l.map λx=>(x.1,pP s x.2)
def F9(d:Nat):SV->Bool|.sr s|.se s _ _=>aw s d|_=>C
def aG(s:St)(d:ah Tmp)(v:SV):ah St:=match d with|none=>J s|some d=>bif ct d s.n&&!(F9 d v)then J {s with sl:=put (iu s.sl d) d v}else Z
def vL(s:Nat):SV->SV|.lp t o=>bif aw t s then .dd else .lp t o|v=>v
def EC(l:cX)(s:Nat):cX:=l.map λx=>(x.1,vL s x.2)
def Dn(t:Bool)(s:St)(d:ah Tmp)(c:ao):ah St:=match d with|none=>Z|some d=>bif ct d s.n then(bif t then J {s with sl:=put (iu s.sl d) d (.dv (.ptr s.g.next 0) .no),g:=s.g.alloc (.box ⟨c,[]⟩)}else J {s with sl:=put (iu (EC s.sl d) d) d (.lp d 0),lb:=put s.lb d ⟨c,[]⟩})else Z
def pO:SV->SV|.gr _ _=>.dd|v=>v
def cN(s:cX):cX:=s.map λx=>(x.1,pO x.2)
def iH(l:ao)(i:Nat)(v:DV):ao:=l.take i++v::l.drop (i+1)
def nd:DV->ah Nat|.nl=>J 0|.ay l _ _=>J l.length|.dY _ _ n _ _=>J n|_=>Z
def eu(b:LB)(o:Nat):aM:=match b.cells[o]? with|some .nl=>.any|_=>(look b.own o).getD .no
def cY(l:List (Nat×aM))(o n:Nat):List (Nat×aM):=l.filter λx=>ct x.1 o||bt (o+n) x.1
def pg(u:iK)(b:LB)(o:Nat)(d:DV)(w:aM):SV×LB:=match u,w with|.take,.ex e=>(.dv d (.ex e),{cells:=iH b.cells o .jk,own:=cY b.own o 1})|.take,.ty e=>(.dv d (.ty e),{b with own:=cY b.own o 1})|.take,.any=>(.dv d .any,b)|.take,_=>(.dv d .no,b)|.len,.ex e=>(match nd d with|some n=>(.hd n,b)|none=>(.dv d .no,{b with own:=(o,.ty e)::cY b.own o 1}))|_,.ex e=>(.dv d .no,{b with own:=(o,.ty e)::cY b.own o 1})|_,_=>(.dv d .no,b)
def fF(u:iK)(t:an)(b:LB)(o:Nat):ah (SV×LB):=match AM.isAgg P t with|some V=>(aW P t).bind λn=>bif bt (o+n) b.cells.length then J (.dv (.agg ((b.cells.drop o).take n)) .no,{b with own:=b.own.map λx=>(x.1,oC x.2)})else Z|some C=>(b.cells[o]?).map λd=>pg u b o d (eu b o)|none=>Z
def mK(f:Nat)(v:DV)(o:aM):List (Nat×aM):=match v.aU,o with|true,.ty e=>[(f,.ty e)]|true,.ex e=>[(f,.ex e)]|_,_=>[]
def yP(t:an)(b:LB)(f:Nat)(v:DV)(o:aM):ah LB:=(aW P t).bind λn=>bif aw v.flat.length n&&bt (f+n) b.cells.length then J {cells:=lg b.cells f v.flat,own:=mK f v o++cY b.own f n}else Z
def findD(t:an)(k:DV):List lq->Nat->ah (ah (Nat×lq))|[],_=>J Z|e::l,i=>(gF P 50 t k e.1).bind λb=>bif b then J (J (i,e))else findD t k l (i+1)
def Ff(t:an)(k:DV):Bool:=match P.underlying t,k with|some .bool,.bool _|some (.int _),.int _ _|some .string,.str _=>V|_,_=>C
def sU(t:an)(k:DV):Bool:=match P.underlying t,k with
 |some (.struct i),.agg c=>i.toList.all λf=>match jr P f.type c f.offset with|some v=>Ff P f.type v|none=>C
 |_,_=>Ff P t k
def Qs:DV->ah ao|.nl=>J []|.ay l _ _=>J l|_=>Z
def wZ(e:Nat):DV->ah ao|.str s=>bif aw e 1 then J (s.map λb=>.int .u8 (.ofNat b))else Z|v=>Qs v
def goN(n:Nat):DV:=.int .i64 (.ofNat n)
def nW(x:ah DV)(y d:Nat):ah Nat:=match x with|some (.int _ (.ofNat n))=>bif bt n y then J n else Z|some _=>Z|none=>J d
def oD(t:an)(x:DV)(o i b:ah DV):ah (DV×aM):=match P.underlying t,x with|some (.slice a),.nl=>bif b.isSome&&i.isNone then Z else(aW P a).bind λ_=>(nW b 0 0).bind λ_=>(nW i 0 0).bind λh=>(nW o h 0).bind λ_=>J (.nl,.any)|some (.slice a),.ay c e s=>(aW P a).bind λn=>bif aw n s&&aw e a then match b with|none=>(nW i c.length c.length).bind λh=>bif i.isNone||bt h bm then(nW o h 0).map λl=>(.ay ((c.take h).drop l) e s,.no)else Z|some _=>match i with|none=>Z|some _=>(nW b c.length 0).bind λm=>bif bt m bm then(nW i m 0).bind λh=>(nW o h 0).map λl=>(.ay ((c.take h).drop l) e s,bif aw h m then .full a else .no)else Z else Z|some (.slice a),.dY id f len e s=>(aW P a).bind λn=>bif aw n s&&(aw e a&&b.isNone)then(nW i len len).bind λh=>bif i.isNone||bt h bm then(nW o h 0).map λl=>(.dY id (f+l*s) (h-l) e s,.no)else Z else Z|_,_=>Z
def fu(m:an)(s b:Nat)(d:DV)(o:aM)(n:ao):ah (DV×aM):=bif aw s 0 then Z else match d with|.nl=>bif bt (n.length*b) bm&&bt n.length bm then(match n with|[]=>J (.nl,.any)|_=>J (.ay n m s,.ex m))else Z|.ay l e0 e=>bif aw e s&&aw e0 m&&(bt ((l.length+n.length)*b) bm&&bt (l.length+n.length) bm)then(match n with|[]=>J (.ay l e0 e,o)|_=>match o with|.ty e1=>bif aw e1 m then J (.ay (l++n) m s,.ty m)else Z|.ex e1=>bif aw e1 m then J (.ay (l++n) m s,.ex m)else Z|.full e1=>bif aw e1 m then J (.ay (l++n) m s,.ex m)else Z|_=>Z)else Z|_=>Z
def CV(g:aC):ah Tmp->Bool|some d=>g.any (aw d)|none=>C
def rb(g:aC)(s:ah Tmp)(d:DV)(o:aM)(n:ao):Bool:=match d,o,n with|.ay [] _ _,.full _,_::_=>CV g s|_,_,_=>C
def nF(t:St)(s:Nat):ah (ao×an×Nat):=match look t.sl s with|some (.dv (.ay l e n) (.ex _))=>J (l,e,n)|_=>Z
def reshape(e:DV)(s:ao):ah DV:=match e,s with|.agg _,s=>J (.agg s)|_,[c]=>bif c.aU then J c else Z|_,_=>Z
def Ew(s:St)(i o:Nat):ah DV:=match s.g.get i with|some (.box b)=>(match b.cells[o]?,eu b o with|some d,.ex _=>J d|_,_=>Z)|_=>Z
def zB(t:St)(x:aK):ah DV:=(cU aq t x).bind λ|.dv d _=>J d|.sr s=>(nF t s).map λy=>.ay y.1 y.2.1 y.2.2|.gr id o=>Ew t id o|_=>Z
def dC(T:bW->Nat)(K S:aC)(E:List aB)(h:St)(o:aB):ah St:=match o.op with
 |.move x=>(cU aq h x).bind λv=>match o.dst with|none=>J h|some d=>(match v with|.tp _=>aG (aQ leave h x) (J d) v|.dv dd F=>(match Gz T S E d,F,x with|.take,.ex _,_=>(aG h (J d) v).map λh=>aQ (λ_=>.sr d) h x|.take,_,_=>aG (aQ leave h x) (J d) v|.len,.ex _,_=>(nd dd).bind λn=>aG h (J d) (.hd n)|.ref,.ex _,.tmp t=>aG h (J d) (.sr t)|_,.any,_=>aG h (J d) v|_,_,_=>aG (aQ share h x) (J d) (.dv dd .no))|v=>aG h (J d) v)
 |.assign x=>(cU aq h x).bind λv=>aG (aQ leave h x) o.dst v|.pick c a b=>match bj aq h c with|some (.bool c)=>bif c then(bj aq h a).bind λv=>aG h o.dst (.dv v .no)else(bj aq h b).bind λv=>aG h o.dst (.dv v .no)|_=>Z
 |.alloc e=>(cu P e).bind λz=>Dn (match o.dst with|some d=>K.any (aw d)|none=>C) h o.dst z.flat|.box _ x=>(bj aq h x).bind λv=>Dn (match o.dst with|some d=>K.any (aw d)|none=>C) h o.dst v.flat|.build t parts=>(cu P t).bind λz=>(cw (λ(p:Nat×aK)=>(bj aq h p.2).map λv=>(p.1,v)) parts.toList).bind λM=>match P.underlying t with|some (.struct w)=>(cw (λ(f:Field)=>(aW P f.type).map λn=>(f.offset,n)) w.toList).bind λG=>(xV (λi=>oZ G i) M z.flat).bind λl=>aG h o.dst (.dv (.agg l) .no)|some (.array _ j)=>(aW P j).bind λn=>(xV (λi=>J (ft i n,n)) M z.flat).bind λl=>aG h o.dst (.dv (.agg l) .no)|_=>Z
 |.buildSlice t len parts=>match P.underlying t with|some (.slice j)=>(aW P j).bind λn=>bif aw n 0||!(bt (len*n) 16777216)then Z else(cw (λ(p:Nat×aK)=>(bj aq h p.2).map λv=>(p.1,v)) parts.toList).bind λM=>(cu P j).bind λz=>bif aw z.flat.length n then(lD (λ(l:ao)(p:Nat×DV)=>bif ct p.1 l.length&&(aw p.2.flat.length n&&(p.2.aU==z.aU))then J (iH l p.1 p.2)else Z) M (lT len z)).bind λl=>aG h o.dst (.dv (.ay l j n) (bif aw len 0&&CV K o.dst then .full j else .ex j))else Z|_=>Z
 |.load t a=>let u:=match o.dst with|some d=>Gz T S E d|none=>.none
  match cU aq h a with
  |some (.lp s q)=>(look h.lb s).bind λb=>(fF P u t b q).bind λr=>aG {h with lb:=put h.lb s r.2} o.dst r.1|some (.ev d)=>match AM.isAgg P t with|some V=>(aW P t).bind λn=>bif !d.aU&&aw d.flat.length n then aG h o.dst (.dv d .no)else Z|some C=>bif d.aU then aG h o.dst (.dv d .no)else Z|none=>Z
  |some (.se s i q)=>(nF h s).bind λx=>(x.1[i]?).bind λd=>(jr P t d.flat q).bind λd=>aG h o.dst (.dv d .no)|some (.dv (.ptr id q) _)=>match h.g.get id with|some (.box b)=>(match u,eu b q,AM.isAgg P t with|.ref,.ex _,J C=>bif ct q b.cells.length then aG h o.dst (.gr id q)else Z|_,_,_=>(fF P u t b q).bind λr=>aG {h with g:=h.g.set id (.box r.2)} o.dst r.1)|_=>Z
  |_=>Z
 |.store t a x=>(cU aq h x).bind λv=>match v with
  |.dv d F=>match cU aq h a with
   |some (.lp s q)=>(look h.lb s).bind λb=>(yP P t b q d F).bind λb=>aG {aQ leave h x with sl:=cN (aQ leave h x).sl,lb:=put h.lb s b} o.dst (.tp [])|some (.dv (.ptr id q) _)=>match h.g.get id with|some (.box b)=>(yP P t b q d F).bind λb=>aG {aQ leave h x with sl:=cN (aQ leave h x).sl,g:=h.g.set id (.box b)} o.dst (.tp [])|_=>Z
   |some (.se s i q)=>(nF (aQ share h x) s).bind λy=>(y.1[i]?).bind λel=>(aW P t).bind λn=>bif aw d.flat.length n&&bt (q+n) el.flat.length then(reshape el (lg el.flat q d.flat)).bind λO=>aG {aQ share h x with sl:=put (cN (aQ share h x).sl) s (.dv (.ay (iH y.1 i O) y.2.1 y.2.2) (.ex y.2.1))} o.dst (.tp [])else Z|_=>Z
  |_=>Z
 |.nilCheck x=>(cU aq h x).bind λv=>match v with|.lp s _=>(look h.lb s).bind λ_=>aG h o.dst v|.ev _|.se ..=>aG h o.dst v|.dv (.ptr id q) _=>aG h o.dst (.dv (.ptr id q) .no)|_=>Z
 |.binOp op t x y _=>(bj aq h x).bind λa=>(bj aq h y).bind λb=>(gb P op t a b).bind λv=>aG h o.dst (.dv v .no)|.unOp op _ x=>(bj aq h x).bind λa=>(JI op a).bind λv=>aG h o.dst (.dv v .no)|.convert src N x=>(bj aq h x).bind λv=>match P.underlying src,P.underlying N,v with|some _,J (.int k),.int _ n=>aG h o.dst (.dv (.int k (dN k n)) .no)|some .string,J (.slice e),.str s=>(match P.underlying e with|some (.int .u8)=>aG h o.dst (.dv (.ay (s.map λb=>.int .u8 (.ofNat b)) e 1) .no)|_=>Z)|_,_,_=>Z
 |.makeFunc (.func f) first D=>(cw (bj aq h) first.toList).bind λa=>(cw (bj aq h) D.toList).bind λb=>aG h o.dst (.dv (.func f a b) .no)|.makeMap _ Z=>aG {h with g:=h.g.alloc (.map [] 0)} o.dst (.dv (.map h.g.next) .no)|.makeSlice t l c=>match P.underlying t,bj aq h l,bj aq h c with
  |some (.slice j),J (.int _ (.ofNat n)),J (.int _ (.ofNat m))=>match P.info? j,cu P j with|some i,J z=>bif !(aw i.size 0)&&aw n m&&aw z.flat.length i.size&&bt (m*i.bytes) bm&&bt m bm&&CV K o.dst then aG {h with g:=h.g.alloc (.box ⟨(lT n z).flatMap DV.flat,[(((lT n z).flatMap DV.flat).length,.full j)]⟩)} o.dst (.dv (.dY h.g.next 0 n j i.size) .no)else Z|_,_=>Z
  |_,_,_=>Z
 |.slice t x lo Q R=>(bj aq h x).bind λv=>(match lo with|some x=>(bj aq h x).map J|none=>J Z).bind λlo=>(match Q with|some x=>(bj aq h x).map J|none=>J Z).bind λQ=>(match R with|some x=>(bj aq h x).map J|none=>J Z).bind λR=>(oD P t v lo Q R).bind λr=>aG h o.dst (.dv r.1 r.2)|.fieldAddr s x f=>match P.underlying s with
  |some (.struct w)=>(w[f]?).bind λI=>(aW P I.type).bind λn=>match n,cU aq h x with|fg _,J (.lp b q)=>(look h.lb b).bind λ_=>aG h o.dst (.lp b (q+I.offset))|fg _,J (.dv (.ptr id q) _)=>aG h o.dst (.dv (.ptr id (q+I.offset)) .no)|fg _,J (.se s i q)=>aG h o.dst (.se s i (q+I.offset))|fg _,J (.ev (.agg l))=>(jr P I.type l I.offset).bind λd=>aG h o.dst (.ev d)|_,_=>Z
  |_=>Z
 |.indexAddr t x i=>match bj aq h i with
  |some (.int _ (.ofNat i))=>match P.underlying t,cU aq h x with|some (.slice j),J (.dv (.ay l e A) F)=>(aW P j).bind λn=>bif aw n A&&aw e j then(match F,x with|.ex _,.tmp s=>bif ct i l.length then aG h o.dst (.se s i 0)else Z|_,_=>(l[i]?).bind λd=>aG h o.dst (.ev d))else Z|some (.slice j),J (.dv (.dY id q len e A) _)=>(aW P j).bind λn=>bif aw n A&&aw e j&&ct i len then aG h o.dst (.dv (.ptr id (q+i*A)) .no)else Z|some (.slice j),J (.sr s)=>(nF h s).bind λy=>(aW P j).bind λn=>bif aw n y.2.2&&(aw y.2.1 j&&ct i y.1.length)then aG h o.dst (.se s i 0)else Z|some (.array len j),J (.ev (.agg l))=>(aW P j).bind λn=>bif ct i len then(jr P j l (i*n)).bind λd=>aG h o.dst (.ev d)else Z|some (.array len j),J (.lp s q)=>(aW P j).bind λn=>bif ct i len then(look h.lb s).bind λ_=>aG h o.dst (.lp s (q+i*n))else Z|_,_=>Z
  |_=>Z
 |.index t x i=>match bj aq h i with
  |some (.int _ (.ofNat i))=>match P.underlying t,bj aq h x with|some .string,J (.str s)=>(s[i]?).bind λb=>aG h o.dst (.dv (.int .u8 (.ofNat b)) .no)|_,_=>Z
  |_=>Z
 |.lookup t x k ok=>match P.underlying t,bj aq h x with
  |some (.map L U),J (.map r)=>match h.g.get r with|some (.map H _)=>(bj aq h k).bind λk=>bif sU P L k then(findD P L k H 0).bind λ|some (_,e)=>aG h o.dst (bif ok then .tp [(e.2.1,.no),(.bool V,.no)]else .dv e.2.1 .no)|none=>(cu P U).bind λz=>aG h o.dst (bif ok then .tp [(z,.no),(.bool C,.no)]else .dv z .no)else Z|_=>Z
  |_,_=>Z
 |.mapUpdate t m k x=>match P.underlying t,bj aq h m with
  |some (.map L _),J (.map r)=>match h.g.get r with|some (.map H c)=>(bj aq h k).bind λk=>(bj aq h x).bind λx=>bif sU P L k then(findD P L k H 0).bind λ|some (i,e)=>bif k.aU then aG {h with sl:=cN h.sl,g:=h.g.set r (.map (H.take i++(e.1,x,e.2.2)::H.drop (i+1)) c)} o.dst (.tp [])else Z|none=>aG {h with sl:=cN h.sl,g:=h.g.set r (.map (H++[(k,x,c)]) (c+1))} o.dst (.tp [])else Z|_=>Z
  |_,_=>Z
 |.extract t i=>match t with
  |.tmp s=>match look h.sl s with|some (.tp l)=>(l[i]?).bind λx=>aG {h with sl:=put h.sl s (.tp (l.take i++(match x.2 with|.ex _=>(DV.jk,aM.no)|_=>(x.1,.no))::l.drop (i+1)))} o.dst (.dv x.1 x.2)|_=>Z
  |_=>Z
 |.call c=>match c.callee with
  |.builtin .len=>match c.args.toList with
   |[x]=>(cU aq h x).bind λv=>match c.argTypes[0]?.bind P.underlying,v with|some (.array n _),.dv _ _=>aG h o.dst (.dv (goN n) .no)|some .string,.dv (.str s) _=>aG h o.dst (.dv (goN s.length) .no)|some (.slice _),.dv d _=>(nd d).bind λn=>aG h o.dst (.dv (goN n) .no)|some (.slice _),.hd n=>aG h o.dst (.dv (goN n) .no)|some (.slice _),.sr s=>(nF h s).bind λy=>aG h o.dst (.dv (goN y.1.length) .no)|some (.slice _),.gr id q=>(Ew h id q).bind λd=>(nd d).bind λn=>aG h o.dst (.dv (goN n) .no)|_,_=>Z
   |_=>Z
  |.builtin .append=>match c.args.toList with
   |[s,x]=>match c.argTypes[0]?.bind P.underlying,c.argTypes[1]?.bind P.underlying with
    |some (.slice j),J (.slice _)|some (.slice j),J .string=>match P.info? j,cu P j,cU aq h s,bj aq h x with|some i,J z,J (.dv d F),J v=>bif aw z.flat.length i.size then(wZ i.size v).bind λB=>bif B.all (λy=>aw y.flat.length i.size)then bif rb K o.dst d F B then(fu j i.size i.bytes d F B).bind λ_=>aG {aQ leave h s with sl:=cN (aQ leave h s).sl,g:=h.g.alloc (.box ⟨B.flatMap DV.flat,[((B.flatMap DV.flat).length,.full j)]⟩)} o.dst (.dv (.dY h.g.next 0 B.length j i.size) .no)else(fu j i.size i.bytes d F B).bind λr=>bif o.dst.isSome then aG {aQ leave h s with sl:=cN (aQ leave h s).sl} o.dst (.dv r.1 r.2)else Z else Z else Z|_,_,_,_=>Z
    |_,_=>Z
   |_=>Z
  |.builtin .clear=>match c.args.toList with
   |[x]=>match c.argTypes[0]?.bind P.underlying with|some (.slice j)=>((bj aq h x).bind λ|.nl=>aG h o.dst (.tp [])|.dY id q n _ A=>(match h.g.get id,cu P j with|some (.box b),J z=>bif bt (q+n*A) b.cells.length&&aw z.flat.length A then aG {h with sl:=cN h.sl,g:=h.g.set id (.box {cells:=lg b.cells q ((lT n z).flatMap DV.flat),own:=cY b.own q (n*A)})} o.dst (.tp [])else Z|_,_=>Z)|_=>Z)|_=>Z
   |_=>Z
  |.builtin .min=>(cw (bj aq h) c.args.toList).bind λ|[.int k a,.int _ b]=>aG h o.dst (.dv (.int k (bif aA b a then b else a)) .no)|_=>Z
  |.builtin .max=>(cw (bj aq h) c.args.toList).bind λ|[.int k a,.int _ b]=>aG h o.dst (.dv (.int k (bif aA a b then b else a)) .no)|_=>Z
  |_=>Z
 |_=>Z
end
mutual
def DV.pure : DV -> Bool
  | .ptr .. | .map _ | .dU _ | .jk | .dY .. => C
  | .ay l _ _ => cg l
  | .agg l => cg l
  | .func _ a b => cg a && cg b
  | _ => V
def cg : ao -> Bool
  | [] => V
  | d :: t => d.pure && cg t
end
def SV.pure:SV->Bool|.dv d _=>d.pure|.tp l=>l.all λx=>x.1.pure|_=>C
mutual
def DV.plain : DV -> Bool
  | .bool _ | .int .. | .str _ | .nl | .eN | .fU | .nilFunc => V
  | .agg l => ML l
  | _ => C
def ML : ao -> Bool
  | [] => V
  | d :: t => d.plain && ML t
end
def SV.plain:SV->Bool|.dv d _=>d.plain|.tp l=>l.all λx=>x.1.plain|_=>C
def aM.yp:aM->Bool|.no=>V|_=>C
inductive eF where|fG(st:St)|ext(id:Nat)(st:St)|rt(st:St)
inductive Cl where|call(f:bW)(args:List DV)(ow:aM)(g:GH)|loop(b:bM)(st:St)(rd:Option Nat)|dU(l:Nat)(args:List DV)(g:GH)
inductive bh where|val(v:SV)(g:GH)|out(o:eF)
abbrev dR:=Cl->ah bh
structure bU where
 aq:Nat->ah ao
 iU:bW->ao->ah (ah SV)iw:bW->Bool
 tH:bW->aC
 zF:bW->aC
 rf:bW->Bool
 AI:bW->Bool
 nZ:bW->Bool
 fk:bW->Nat
 qh:bW->DV->ao->ah (DV×SV)live:bW->Nat->aC
 keep:bW->Nat->aC
def mf(l:cX):cX:=l.map λx=>(x.1,match x.2 with|.dv d .no=>.dv d .no|.dv d .any=>.dv d .any|.ev d=>.ev d|_=>.dd)
def C4:bM->Nat|.region id _ _=>id|.seq a _=>C4 a|.block _ b|.loop b|.scope b=>C4 b|_=>0
def aiG:SV->aC|.lp s _=>[s]|_=>[]
def mask(l:aC)(t:St):St:=let sl:=l.filterMap λs=>(look t.sl s).map λv=>(s,v)
 {t with sl:=sl,lb:=(sl.flatMap λx=>aiG x.2).eraseDups.filterMap λs=>(look t.lb s).map λb=>(s,b)}
def handsOn:Op->List aK|.move _|.assign _|.store ..|.load ..|.fieldAddr ..|.indexAddr ..|.nilCheck _|.binOp ..|.unOp ..|.extract ..|.index ..|.call {callee:=.builtin _,..}=>[]|o=>o.operands.toList
inductive Kd where|no|rd|wr
def Kd.apart:Kd->Kd->Bool|.no,_|_,.no=>V|.rd,.rd=>V|_,_=>C
def kindOf(c:bU)(s:St)(o:Op):Kd:=bif oA o then .no else match o with|.alloc _|.box ..|.buildSlice ..|.makeMap ..|.makeSlice ..=>.no|.load ..|.lookup ..|.slice ..|.convert ..=>.rd|.call {callee:=.builtin .len,..}|.call {callee:=.builtin .max,..}|.call {callee:=.builtin .min,..}|.call {callee:=.builtin .append,..}=>.rd|.call {callee:=.value (.func f),..}=>bif(c.iw f||c.nZ f)&&!(aw (c.fk f) 1||aw (c.fk f) 2)then .rd else .wr|_=>.wr
def isApp:Op->Bool|.call {callee:=.builtin .append,..}=>V|_=>C
def LZ(c:bU)(s:St)(o:Op):Bool:=match o with|.call {callee:=.value _,..}=>(match kindOf c s o with|.wr=>V|_=>C)|_=>C
def nE(c:bU)(s:St)(o:List aB):Bool:=vW o&&o.zipIdx.all λx=>!(isApp x.1.op||LZ c s x.1.op)||JC o x.2
inductive Kx where|s(k:Kd)|pt(t:Option Nat)(g:GH)(w:Bool)
def jE(c:bU)(s:St)(o:Op):Kx:=match o with|.load _ a=>(match cU c.aq s a with|some (.dv (.ptr id _) _)=>.pt (J id) s.g C|_=>.s (kindOf c s o))|.store _ a _=>(match cU c.aq s a with|some (.dv (.ptr id _) _)=>.pt (J id) s.g V|some (.se ..)|some (.lp ..)=>.pt Z s.g V|_=>.s (kindOf c s o))|o=>.s (kindOf c s o)
def Kx.kd:Kx->Kd|.s k=>k|.pt _ _ w=>bif w then .wr else .rd
def Kx.xU:Kx->Kx->Bool|.pt t g _,.pt (J id) _ _=>(g.get id).isSome&&(match t with|some x=>!(aw x id)|none=>V)|_,_=>C
def Kx.apart(a b:Kx):Bool:=Kd.apart a.kd b.kd||(Kx.xU a b||Kx.xU b a)
def IS(o:List aB)(l:List (Nat×Kx))(j:Nat)(k:Kx):Bool:=l.all λe=>Kx.apart e.2 k||rh o e.1 j
section
variable(P:aH)(cf:bU)(rec:dR)
def yX(p:Array aB)(s:St)(o:aB):ah Bool:=match o.guard with|none=>J V|some (j,w)=>match(p[j]?).bind (·.dst)with
 |some d=>match look s.sl d with|some (.dv (.bool b) _)=>J (b==w)|some (.tp [])=>J C|_=>Z
 |none=>J C
def xm(l:List (DV×aM))(j:Nat)(x:DV×aM):DV×aM:=match x.1,x.2 with|.ay d e n,.ty e1=>bif aw e e1&&(jq e d&&l.zipIdx.all λy=>aw y.2 j||y.1.1.gS e)then(.ay d e n,.ex e)else x|_,_=>x
def rf(t:Bool):SV->SV|.tp l=>bif t then .tp (l.zipIdx.map λx=>xm l x.2 x.1)else .tp l|v=>v
def FF(g a:GH):Bool:=bt g.next a.next&&a.kb.all λx=>bt g.next x.1
def jv{c:Type}(f:bW)(a:ao)(o:aM)(g:GH)(k:SV->GH->ah c):ah c:=bif cf.iw f then(bif cg a then(rec (.call f a o .empty)).bind λ|.val v _=>bif v.pure then k (rf (cf.rf f&&o.yp) v) g else Z|_=>Z else Z)else bif cf.nZ f then(bif cg a then(rec (.call f a o ⟨g.next,[]⟩)).bind λ|.val v b=>bif FF g b then k v ⟨b.next,b.kb++g.kb⟩else Z|_=>Z else Z)else(rec (.call f a o g)).bind λ|.val v g=>k v g|_=>Z
def Qb(t:St)(f:bW)(x:aK)(S:ao):ah (St×SV):=(cU cf.aq t x).bind λv=>let a:=λ(s:Nat)=>match look t.sl s with|some (.dv d (.ex e))=>(cf.qh f d S).map λr=>({t with sl:=put (iu t.sl s) s (match r.1 with|.jk=>.dv .jk .no|d=>.dv d (.ex e))},r.2)|_=>Z
 match v with|.dv .nl _=>(cf.qh f .nl S).map λr=>(t,r.2)|.dv _ (.ex _)=>(match x with|.tmp s=>a s|_=>Z)|.sr s=>a s|.gr id o=>(match t.g.get id with|some (.box b)=>(match b.cells[o]?,eu b o with|some d,.ex e=>(cf.qh f d S).map λr=>({t with g:=t.g.set id (.box {cells:=iH b.cells o r.1,own:=(match r.1 with|.jk=>cY b.own o 1|_=>b.own)})},r.2)|_,_=>Z)|_=>Z)|_=>Z
def qC(s:St)(o:Op)(i:aK)(a:List aK):ah (St×SV):=(bj cf.aq s i).bind λv=>match v with
 |.func h first c=>bif aw (cf.fk h) 1 then match first,c,a with|[],[],x::b=>(cw (bj cf.aq (b.foldl (aQ share) s)) b).bind λS=>Qb cf (b.foldl (aQ share) s) h x S|_,_,_=>Z else bif aw (cf.fk h) 2 then match first,a with|[],x::b=>(match cU cf.aq s x with|some (.dv d w)=>(cw (bj cf.aq ((handsOn o).foldl (aQ share) (aQ leave s x))) b).bind λS=>jv cf rec h (d::(S++c)) w ((handsOn o).foldl (aQ share) (aQ leave s x)).g λv g=>J ({((handsOn o).foldl (aQ share) (aQ leave s x))with g:=g},v)|_=>Z)|_,_=>Z else bif aw (cf.fk h) 3 then bif cf.iw h then(cw (zB cf.aq s) a).bind λS=>jv cf rec h (first++S++c) .no s.g λv _=>bif v.plain then J (s,v)else Z else Z else(cw (bj cf.aq ((handsOn o).foldl (aQ share) s)) a).bind λS=>jv cf rec h (first++S++c) .no ((handsOn o).foldl (aQ share) s).g λv g=>J ({((handsOn o).foldl (aQ share) s)with g:=g},v)|.dU l=>(cw (bj cf.aq ((handsOn o).foldl (aQ share) s)) a).bind λS=>(rec (.dU l S ((handsOn o).foldl (aQ share) s).g)).bind λ|.val v g=>J ({((handsOn o).foldl (aQ share) s)with g:=g},v)|_=>Z
 |_=>Z
def dG(g c:aC)(l:List aB)(s:St)(o:aB):ah St:=match o.op with|.call {callee:=.value f,args,..}=>(qC cf rec s o.op f args.toList).bind λr=>aG {r.1 with sl:=cN r.1.sl} o.dst r.2|_=>dC P cf.aq cf.fk g c l ((handsOn o.op).foldl (aQ share) s) o
def kf(s c:aC)(d:Bool)(p:Array aB):List aB->Nat->List (Nat×Kx)->St->ah St|[],_,_,st=>J st|o::l,j,g,st=>(yX p st o).bind λw=>bif w then bif !d||IS p.toList g j (jE cf st o.op)then(dG P cf rec s c l st o).bind λt=>kf s c d p l (j+1) (bif d then(j,jE cf st o.op)::g else g) t else Z else(aG st o.dst (.tp [])).bind λst=>kf s c d p l (j+1) g st
def fI(k:eF->ah bh):bh->ah bh|.out o=>k o|.val ..=>Z
variable(rd:ah Nat)
def Au(g:GH):Bool:=match rd with|none=>V|some l=>(match g.get l with|some (.loop _)=>V|_=>C)
def exec:bM->St->(eF->ah bh)->ah bh
 |.skip,st,k|.label _,st,k=>k (.fG st)|.seq a b,st,k=>exec a st λ|.fG st=>exec b st k|.ext i st=>k (.ext i st)|.rt st=>k (.rt st)
 |.cond c a b,st,k=>match bj cf.aq st c with|some (.bool x)=>bif x then exec a st k else exec b st k|_=>Z
 |.block id b,st,k=>exec b st λ|.fG st=>k (.fG st)|.ext i st=>bif aw i id then k (.fG st)else k (.ext i st)|.rt st=>k (.rt st)
 |.loop b,st,k=>(rec (.loop b (mask (cf.live st.fn (C4 b)) st) rd)).bind (fI k)|.scope b,st,k=>exec b st k|.exit id,st,k=>k (.ext id st)|.ret,st,k=>k (.rt st)|.region id o d,st,k=>bif !d||nE cf st o.toList then(kf P cf rec (cf.tH st.fn) (cf.zF st.fn) d o o.toList 0 [] st).bind λt=>k (.fG (mask (cf.keep st.fn id) t))else Z|.rangeFunc f m K b,st,k=>match bj cf.aq st f with
  |some (.func h first p)=>bif(cf.iU h (first++[.dU st.g.next]++p)).isSome||!(Au rd st.g)then Z else(rec (.call h (first++[.dU st.g.next]++p) .no (st.g.alloc (.loop {state:=.ready,pending:=Z,fn:=st.fn,n:=st.n,sl:=mf st.sl,params:=m.toList,assign:=K,body:=b})))).bind λ
   |.val _ g=>(match g.get st.g.next with|some (.loop r)=>(match r.state with|.busy=>Z|_=>let s:={st with sl:=cN st.sl,g:=g.set st.g.next (.loop {r with state:=.exhausted})}
   (match r.pending with|none=>k (.fG s)|some .ret=>k (.rt s)|some (.exit id)=>k (.ext id s)|_=>Z))|_=>Z)|_=>Z
  |_=>Z
 |.goto _,_,_|.refuse _,_,_=>Z
def u7(s:St)(t:Tmp):ah ((DV×aM)×St):=match look s.sl t with|some (.dv d o)=>J ((d,o),{s with sl:=put s.sl t (leave (.dv d o))})|_=>Z
def Jg(c:St):oK->ah ((DV×aM)×St)|.tmp t=>u7 c t|.cell a t=>match look c.sl a with|some (.lp s o)=>(look c.lb s).bind λb=>(fF P .take t b o).bind λr=>(aG {c with lb:=put c.lb s r.2} (J a) r.1).bind λc=>u7 c a|some (.dv (.ptr id o) _)=>(match c.g.get id with|some (.box b)=>(fF P .take t b o).bind λr=>(aG {c with g:=c.g.set id (.box r.2)} (J a) r.1).bind λc=>u7 c a|_=>Z)|_=>Z
def tG:List oK->St->ah (List (DV×aM)×St)|[],st=>J ([],st)|r::l,st=>(Jg P st r).bind λx=>(tG l x.2).bind λy=>J (x.1::y.1,y.2)
def vY:oK->Tmp|.tmp t=>t|.cell a _=>a
def yx:aC->Bool|[]=>V|x::l=>!(l.any (aw x))&&yx l
def Dt:List (DV×aM)->SV|[x]=>.dv x.1 x.2|l=>.tp l
def yG(b:LB)(o l e:Nat)(a:Bool):ao:=(rq l).map λi=>bif a then .agg ((b.cells.drop (o+i*e)).take e)else((b.cells.drop (o+i*e)).headD .nl)
def isFull(e:an):aM->Bool|.full t=>aw t e|_=>C
def xq(g:GH):DV->ah DV|.dY id o len e s=>(match g.get id,AM.isAgg P e with|some (.box b),J a=>bif bt (o+len*s) b.cells.length&&bt 1 s&&(a||aw s 1)&&b.own.any (λx=>isFull e x.2)then J (.ay (yG b o len s a) e s)else Z|_,_=>Z)|d=>J d
def RU(g:GH):DV->ah DV|.agg l=>(cw (xq P g) l).map .agg|d=>xq P g d
def AJ:bh->ah bh|.val (.dv d _) g=>(RU P g d).map λd=>.val (.dv d .no) {g with kb:=[]}|.val (.tp l) g=>(cw (λ(x:DV×aM)=>(RU P g x.1).map λd=>(d,aM.no)) l).map λl=>.val (.tp l) {g with kb:=[]}|_=>Z
def xW(f:Func)(s:St):ah bh:=bif yx (f.results.toList.map vY)then(tG P f.results.toList s).map λy=>.val (Dt y.1) y.2.g else Z
def uu:Nat->aM->ao->cX|_,_,[]=>[]|i,o,d::t=>(i,.dv d o)::uu (i+1) .no t
def Cb:List Tmp->ao->cX->cX|p::a,d::s,sl=>Cb a s (put sl p (.dv d .no))|_,_,sl=>sl
def wK(l:Nat)(s:St)(p:ah bM):ah bh:=match s.g.get l with|some (.loop r)=>J (.val (.dv (.bool p.isNone) .no) (s.g.set l (.loop {r with state:=(match p with|none=>.ready|some _=>.done),pending:=p})))|_=>Z
def vU:aM->Bool|.ex _|.any=>V|_=>C
def yW:Cl->ah bh
 |.call f args w g=>match cf.iU f args with|some r=>bif aw (cf.fk f) 2&&!vU w then Z else r.map λv=>.val v g|none=>(P.funcs[f]?).bind λfn=>fn.body.bind λb=>bif bt args.length fn.ntmps then exec P cf rec Z b {fn:=f,n:=fn.ntmps,sl:=uu 0 w args,lb:=[],g:=g} λ|.fG st|.rt st=>bif cf.AI f then(xW P fn st).bind (AJ P)else xW P fn st|.ext ..=>Z else Z
 |.loop b st rd=>exec P cf rec rd b st λ|.fG st=>rec (.loop b (mask (cf.live st.fn (C4 b)) st) rd)|o=>J (.out o)
 |.dU l args g=>match g.get l with|some (.loop r)=>bif aw args.length r.params.length&&r.params.all (λp=>ct p r.n)then exec P cf rec (J l) r.assign {fn:=r.fn,n:=r.n,sl:=Cb r.params args r.sl,lb:=[],g:=g} λ|.fG st=>(match st.g.get l with|some (.loop r1)=>(match r1.state with|.ready=>exec P cf rec (J l) r.body {st with sl:=cN st.sl,g:=st.g.set l (.loop {r1 with state:=.busy})} λo=>(match o with|.fG st=>wK l st Z|.rt st=>wK l st (J .ret)|.ext id st=>wK l st (J (.exit id)))|_=>Z)|_=>Z)|_=>Z else Z|_=>Z
end
def JN(P:aH)(c:bU):Nat->dR|0=>λ_=>Z|n+1=>yW P c (JN P c n)
end Go.VM
namespace Go.AM
theorem A9{a b:Nat}(h:a≠b):aw a b=C:=by grind[Nat.eq_of_beq_eq_true]
theorem Kl{a b:Nat}(h:a=b):aw a b=V:=by simp_all
theorem aLR(f:Nat):xp f 0=.e:=by cases f<;>rfl
theorem aLQ(f n:Nat)(a:n≠0)(h:n%2=1):xp (f+1) n=.o (xp f (n/2)):=by have e:xp (f+1) n=@Bool.rec (λ_=>Pos) (@Bool.rec (λ_=>Pos) _ (.o (xp f (n/2))) (aw (n%2) 1)) .e _:=rfl;simp_all[A9]
theorem aLO(f n:Nat)(a:n≠0)(h:n%2≠1):xp (f+1) n=.i (xp f (n/2-1)):=by have e:xp (f+1) n=@Bool.rec (λ_=>Pos) (@Bool.rec (λ_=>Pos) (.i (xp f (n/2-1))) _ (aw (n%2) 1)) .e _:=rfl;simp_all[A9]
def aLP:∀(f g n m:Nat),n<f->m<g->xp f n=xp g m->n=m:=by intro f;induction f with|zero=>omega|succ f i=>intro g n m b a h;cases g<;>grind[aLR,aLQ,aLO]
def aLS{n m:Nat}(h:toPos n=toPos m):n=m:=aLP _ _ n m (G7 n) (G7 m) h
def aer{a:Type}(x:a):∀(p q:Pos)(t:Tr a),(p=q->Bo (Dh p x t) q=J x)/\(p≠q->Bo (Dh p x t) q=Bo t q):=by intro p;induction p with
 |e=>intro q t;cases t<;>cases q<;>simp[Dh,Bo]|o p h=>
 intro q t;rcases t with _|⟨l,v,r⟩;.cases q<;>simp_all[Dh,Bo]
 cases q<;>simp_all[Dh,Bo]|i p h=>
 intro q t;rcases t with _|⟨l,v,r⟩;.cases q<;>simp_all[Dh,Bo]
 cases q<;>simp_all[Dh,Bo]
theorem Tr.lF{a:Type}(t:Tr a)(n:Nat)(x:a):(t.ins n x).get n=J x:=(aer x _ _ t).1 rfl
theorem Tr.jy{a:Type}(t:Tr a){n m:Nat}(x:a)(h:n≠m):(t.ins n x).get m=t.get m:=(aer x _ _ t).2 λe=>h (aLS e)
def Tr.get_nil{a:Type}(n:Nat):(Tr.nil:Tr a).get n=Z:=by rfl
theorem dT{a:Type}(l:List a):fc l=l.length:=by induction l<;>grind[fc]
theorem ly{a:Type}(l m:List a):dy l m=l++m:=by induction l<;>grind[dy]
theorem qD{b:Type}(n:Nat):∀l:List b,zH n l=l.drop n:=by induction n with|zero=>intro l;rfl|succ n i=>intro l;cases l with|nil=>rfl|cons a l=>exact i l
theorem pV{a:Type}(n:Nat):∀l:List a,wc n l=l.take n:=by induction n with|zero=>intro l;rfl|succ n i=>intro l;cases l<;>simp_all[wc]
theorem w8{a:Type}(l:List a)(n:Nat):oZ l n=l[n]?:=by
 unfold oZ;rw[qD];have:l[n]?=(l.drop n)[0]?:=by simp
 rw[this];cases l.drop n<;>rfl
theorem Ak{a b:Type}(f:a->b)(l:List a):yu f l=l.map f:=by induction l<;>grind[yu]
theorem Fv{a b:Type}(f:a->ah b):cw f []=J []:=rfl
def Qy{c d:Type}(f:c->ah d)(a:c)(l:List c):cw f (a::l)=(f a).bind λb=>(cw f l).bind λt=>J (b::t):=rfl
theorem Fw{c d:Type}{f:c->ah d}:∀{l:List c}{r:List d},cw f l=J r->l.length=r.length/\∀(i:Nat)(a:c),l[i]?=J a->∃b,f a=J b/\r[i]?=J b:=by intro l;induction l with|nil=>simp[Fv]|cons a l j=>
 intro r h;rw[Qy]at h;rcases e:f a with _|b;.grind
 cases g:cw f l<;>grind
theorem pF{d c:Type}(f:c->d->c):∀(l:List d)(b:c),fS f l b=l.foldl f b:=by intro l;induction l with|nil=>intro b;rfl|cons a l i=>intro b;exact i _
theorem EB{c a:Type}(f:a->c->ah a)(b:a):lD f [] b=J b:=rfl
theorem EA{c d:Type}(f:d->c->ah d)(a:c)(l:List c)(b:d):lD f (a::l) b=(f b a).bind (lD f l):=rfl
theorem Rf{a:Type}(z:List a):jP 0 z=[]:=rfl
theorem Zs{a:Type}(n:Nat)(z:List a):jP (n+1) z=z++jP n z:=by grind[jP,ly]
theorem Ga{a:Type}(n:Nat)(z:List a):(jP n z).length=n*z.length:=by induction n<;>grind[Rf,Zs]
def Zr{a:Type}(n:Nat)(z:List a)(i:Nat)(h:i<n*z.length):(jP n z)[i]?=z[i%z.length]?:=by induction n generalizing i<;>grind[Zs,Nat.mod_eq_of_lt,pY,Nat.mod_eq_sub_mod]
theorem alq{b:Type}(f:b->Bool)(a:b)(l:List b):lu f (a::l)=(f a&&lu f l):=by simp[lu]
theorem qB{b:Type}(f:b->Bool)(l:List b):lu f l=l.all f:=by induction l with|nil=>rfl|cons a l i=>grind[alq]
theorem zM:∀l m:aC,xT l m=decide (l=m):=by intro l;induction l with|nil=>intro m;cases m<;>simp[xT]|cons a l i=>
 intro m;rcases m with _|⟨b,t⟩;.rfl
 show(bif aw a b then xT l t else C)=_;by_cases h:a=b<;>simp_all
theorem DK{a:Type}(l:List a)(o:Nat)(v:List a):fV l o v=l.take o++v++l.drop (o+v.length):=by simp[fV,ly,pV,qD,dT]
theorem yO{a:Type}(l:List a)(o:Nat)(v:List a)(h:o+v.length<=l.length):(fV l o v).length=l.length:=by grind[DK]
theorem yN{a:Type}(l:List a)(o:Nat)(v:List a)(h:o+v.length<=l.length)(i:Nat):(fV l o v)[i]?=if o<=i/\i<o+v.length then v[i-o]? else l[i]?:=by
 rw[DK];have t:(l.take o).length=o:=by grind
 grind
theorem zL(a b:Int):aj a b=decide (a=b):=by
 have k:∀x y,aw x y=decide (x=y):=λx y=>by grind[Kl,A9]
 rcases a with a|a
 . rcases b with b|b;.grind[aj]
   rfl
 cases b<;>simp_all[aj]
def Ce(k:fR)(n:Int):dN k n=k.wrap n:=by
 unfold dN;split
 . rename_i m;rcases h:ct m _ with _|_;.rfl
   have a:m<9223372036854775808:=by simp_all
   unfold IntKind.wrap;have e:(2^IntKind.i64.bits:Int)=18446744073709551616:=by rfl
   have e2:(2^(IntKind.i64.bits-1):Int)=9223372036854775808:=by rfl
   grind
 rfl
theorem eQ(a b:Nat):ct a b=decide (a<b):=by grind[Nat.blt_eq]
theorem dj(a b:Nat):bt a b=decide (a<=b):=by grind[N2,nw]
theorem bR(a b:Nat):aw a b=decide (a=b):=by grind[Kl,A9]
def IT(a b:Int):aA a b=decide (a<b):=by
 rcases a with a|a
 . rcases b with b|b;.show ct a b=_;simp[eQ]
   rfl
 rcases b with b|b;.show V=_;grind
 show ct b a=_;grind[eQ]
structure Pl where
 aZ:Nat
 base:Nat
 oF:Nat
 len:Nat
abbrev bc:=Nat->ah Pl
variable{a k x:AV}{cs:Array aD}{ats:Array an}{H H':Heap}{es:List eI}{ms:List kQ}{cap h I r y:Nat}{S:Nat->Prop}{fz:Nat×Nat}{p:Pl}{kv u v xv zv:aD}{P:aH}{l vs:aI}{xo yo:aK}{w w':aV}{q:ah (Nat×eI)}{hi:ah AV}{base:ah Addr}{e elem kt t vt xt:an}{Y A:bc}{fl:fQ}{m:kQ}
def v7:aD->Bool|.agg _|.tuple _=>C|_=>V
inductive VR(Y:bc):AV->aD->Prop where|top(n:Int):VR Y .top (.int .i64 n)|bool(b:Bool):VR Y (.bool b) (.bool b)|int(k:fR)(n:Int):VR Y (.int k n) (.int k n)|str(l:List Nat)(s:ByteArray)(h:s.data.toList.map kj=l):VR Y (.str l) (.string s)|eN:VR Y .eN (.pointer Z)|ptr(id I:Nat)(p:Pl)(h:Y id=J p):VR Y (.ptr id I) (.pointer (J ⟨p.aZ,p.base+I,Z⟩))|bu:VR Y .bu (.slice Z 0 0)|sl(id I len:Nat)(c:Option Nat)(esz:Nat)(p:Pl)(ad:Addr)(cap:Nat)(h:Y id=J p)(hl:len<=cap)(ht:p.base+I+cap*esz<=p.oF)(hc:∀k,c=J k->cap=k/\I+k*esz<=p.len)(ho:c=Z->p.len<=I+cap*esz)(hr:cap≠0->ad=⟨p.aZ,p.base+I,Z⟩)(he:0<esz)(hn:I+len*esz<=p.len):VR Y (.sl id I len c esz) (.slice (J ad) len cap)|fU:VR Y .fU (.map Z)|map(r:Nat)(p:Pl)(h:Y r=J p):VR Y (.map r) (.map (J p.aZ))|func(f:bW)(l1 l2:List AV)(c1 c2:Array aD)(h1:l1.length=c1.size)(h2:l2.length=c2.size)(g1:∀(i:Nat)(a:AV)(c:aD),l1[i]?=J a->c1[i]?=J c->VR Y a c)(g2:∀(i:Nat)(a:AV)(c:aD),l2[i]?=J a->c2[i]?=J c->VR Y a c):VR Y (.func f l1 l2) (.func (.func f) c1 c2)|yield(l:Nat)(p:Pl)(h:Y l=J p):VR Y (.yield l) (.func (.yield p.aZ) #[] #[])|nilFunc:VR Y .nilFunc .nilFunc|agg(l:List AV)(c:Array aD)(h:l.length=c.size)(hs:∀a,a∈l->a.aU=V)(g:∀(i:Nat)(a:AV)(v:aD),l[i]?=J a->c[i]?=J v->VR Y a v):VR Y (.agg l) (.agg c)|cL(l:List AV)(c:Array aD)(h:l.length=c.size)(g:∀(i:Nat)(a:AV)(v:aD),l[i]?=J a->c[i]?=J v->VR Y a v):VR Y (.cL l) (.tuple c)
def ba(b:bc)(l:aI)(c:List aD):Prop:=l.length=c.length/\∀(i:Nat)(a:AV)(v:aD),l[i]?=J a->c[i]?=J v->VR b a v
def Ext(a b:bc):Prop:=∀id p,a id=J p->b id=J p
theorem Ext.refl(a:bc):Ext a a:=λ_ _ h=>h
def Ext.trans{a b c:bc}(h:Ext a b)(k:Ext b c):Ext a c:=λ_ _ e=>k _ _ (h _ _ e)
theorem VR.mono(h:Ext Y A)(r:VR Y a v):VR A a v:=by induction r with|top n=>exact .top n|bool b=>exact .bool b|int k n=>exact .int k n|str l s h=>exact .str l s h|eN=>exact .eN|ptr id I p d=>exact .ptr id _ p (h _ _ d)|bu=>exact .bu|sl id I len c z p U cap d e E t B hr u w=>exact .sl id _ _ c _ p _ _ (h _ _ d) e E t B hr u w|fU=>exact .fU|map r p d=>exact .map r p (h _ _ d)|func f l1 l2 j m o q _ _ F G=>exact .func f l1 l2 j m o q ab ab|yield l p d=>exact .yield l p (h _ _ d)|nilFunc=>exact .nilFunc|agg l c e D _ g=>exact .agg l c e D λi a v x y=>g i a v x y|cL l c e _ g=>exact .cL l c e λi a v x y=>g i a v x y
theorem ba.mono(h:Ext Y A){c:List aD}(r:ba Y l c):ba A l c:=⟨r.1,λi a v x y=>(r.2 i a v x y).mono h⟩
theorem ba.nil(a:bc):ba a [] []:=⟨rfl,aP⟩
theorem ba.cons{c:List aD}(h:VR Y a v)(t:ba Y l c):ba Y (a::l) (v::c):=by
 refine⟨by simp[t.1],λi x y b d=>?_⟩;rcases i with _|i;.grind
 exact t.2 i x y ai ai
theorem ba.cons_inv{c:List aD}(h:ba Y (a::l) c):∃v t,c=v::t/\VR Y a v/\ba Y l t:=by
 rcases c with _|⟨v,t⟩;.have:=h.1;grind
 exact⟨v,t,rfl,h.2 0 a v rfl rfl,by have:=h.1;grind,λi x y b d=>h.2 (i+1) x y ai ai⟩
theorem ba.rU{c:List aD}(h:ba Y [] c):c=[]:=by
 rcases c with _|⟨v,t⟩;.rfl
 have:=h.1;grind
theorem ba.append{m:aI}{c d:List aD}(h:ba Y l c)(k:ba Y m d):ba Y (l++m) (c++d):=by
 refine⟨by simp[h.1,k.1],λi a v x y=>?_⟩;by_cases hi:i<l.length;.rw[nV hi]at x;rw[nV (by rw[<-h.1];omega)]at y;exact h.2 i a v x y
 .rw[pY ab]at x;rw[pY (by rw[<-h.1];omega),<-h.1]at y;exact k.2 _ a v x y
theorem ba.take{c:List aD}(h:ba Y l c)(n:Nat):ba Y (l.take n) (c.take n):=by
 refine⟨by simp[h.1],λi a v x y=>?_⟩;by_cases hi:i<n;.rw[Cm hi]at x y;exact h.2 i a v x y
 grind
theorem ba.drop{c:List aD}(h:ba Y l c)(n:Nat):ba Y (l.drop n) (c.drop n):=by refine⟨by simp[h.1],λi a v x y=>?_⟩;rw[xD]at x y;exact h.2 _ a v x y
theorem ba.get{c:List aD}(h:ba Y l c){i:Nat}(x:l[i]?=J a):∃v,c[i]?=J v/\VR Y a v:=by
 obtain⟨hi,_⟩:=am.1 x;have K:i<c.length:=by rw[<-h.1];omega
 exact⟨_,aT,h.2 i a _ x (dA K)⟩
theorem ba.ZL{c w:List aD}(h:ba Y l c)(k:ba Y vs w)(o:Nat):ba Y (fV l o vs) (c.take o++w++c.drop (o+w.length)):=by rw[DK,k.1];exact((h.take _).append k).append (h.drop _)
theorem VR.aU(h:VR Y a v)(b:a.aU=V):v7 v=V:=by cases h<;>first|rfl|assumption|simp[AV.aU]at b
theorem VR.cells(h:VR Y a v)(d:a.cells=J l):ba Y l v.cells.toList/\(∀x,x∈l->x.aU=V):=by cases h with|top v=>grind[AV.cells]|cL l c j g=>grind[AV.cells]|agg l c j E g=>simp[AV.cells]at d;subst d;exact⟨⟨by grind[Value.cells],λi a v x y=>g i a v x (by grind[Value.cells])⟩,E⟩|bool b=>simp[AV.cells]at d;subst d;exact⟨ba.cons (.bool b) (ba.nil Y),by simp[AV.aU]⟩|int k n=>simp[AV.cells]at d;subst d;exact⟨ba.cons (.int k n) (ba.nil Y),by simp[AV.aU]⟩|str l s h=>simp[AV.cells]at d;subst d;exact⟨ba.cons (.str l s h) (ba.nil Y),by simp[AV.aU]⟩|eN=>simp[AV.cells]at d;subst d;exact⟨ba.cons .eN (ba.nil Y),by simp[AV.aU]⟩|ptr id I p e=>simp[AV.cells]at d;subst d;exact⟨ba.cons (.ptr id _ p e) (ba.nil Y),by simp[AV.aU]⟩|bu=>simp[AV.cells]at d;subst d;exact⟨ba.cons .bu (ba.nil Y),by simp[AV.aU]⟩|sl id I len c z p U cap e j u A D hr w B=>simp[AV.cells]at d;subst d;exact⟨ba.cons (.sl id _ _ c _ p _ _ e j u A D hr w B) (ba.nil Y),by simp[AV.aU]⟩|fU=>simp[AV.cells]at d;subst d;exact⟨ba.cons .fU (ba.nil Y),by simp[AV.aU]⟩|map r p e=>simp[AV.cells]at d;subst d;exact⟨ba.cons (.map r p e) (ba.nil Y),by simp[AV.aU]⟩|func f l1 l2 m o q t g1 g2=>simp[AV.cells]at d;subst d;exact⟨ba.cons (.func f l1 l2 m o q t g1 g2) (ba.nil Y),by simp[AV.aU]⟩|yield l p e=>simp[AV.cells]at d;subst d;exact⟨ba.cons (.yield l p e) (ba.nil Y),by simp[AV.aU]⟩|nilFunc=>simp[AV.cells]at d;subst d;exact⟨ba.cons .nilFunc (ba.nil Y),by simp[AV.aU]⟩
theorem ba.agg{c:List aD}(h:ba Y l c)(s:∀x,x∈l->x.aU=V)(a:Array aD)(b:a.toList=c):VR Y (.agg l) (.agg a):=by subst b;exact .agg l a (by simpa using h.1) s λi x v d e=>h.2 i x v d aT
theorem VR.tA(h:VR Y (.agg l) v):∃c,v=.agg c/\ba Y l c.toList/\∀x,x∈l->x.aU=V:=by cases h with|agg l c b s g=>exact⟨c,rfl,⟨ab,λi a v x y=>g i a v x ai⟩,s⟩
theorem VR.aLY(h:VR Y (.cL l) v):∃c,v=.tuple c/\ba Y l c.toList:=by cases h with|cL l c b g=>exact⟨c,rfl,ab,λi a v x y=>g i a v x ai⟩
theorem ba.cL{c:List aD}(h:ba Y l c)(a:Array aD)(b:a.toList=c):VR Y (.cL l) (.tuple a):=by subst b;exact .cL l a (by simpa using h.1) λi x v d e=>h.2 i x v d aT
theorem V8(h:Dr v=J a):VR Y a v/\a.aU=V:=by
 unfold Dr at h;split at h<;>simp at h<;>subst h;.exact⟨.bool _,rfl⟩
 .exact⟨.int _ _,rfl⟩
 .exact⟨.str _ _ rfl,rfl⟩
 .exact⟨.eN,rfl⟩
 .exact⟨.bu,rfl⟩
 .exact⟨.fU,rfl⟩
 .exact⟨.nilFunc,rfl⟩
theorem V9(h:w9 v=J a):VR Y a v:=by
 unfold w9 at h;split at h
 . rename_i cs;rcases m:cw Dr cs.toList with _|l;.grind
   simp[m]at h;subst h;obtain⟨g,d⟩:=Fw m;refine .agg l cs ai ?_ ?_;.intro x f;obtain⟨i,hi⟩:=a8.1 f;have K:i<cs.toList.length:=ai;obtain⟨b,e,j⟩:=d i _ (dA K);rw[hi]at j;simp at j;subst j;exact(V8 (Y:=Y) e).2
   .intro i x c f k;obtain⟨b,e,j⟩:=d i c ai;grind[V8]
 grind[V8]
theorem aEf(h:w9 v=J a):a≠.top:=by
 intro e;unfold w9 at h;split at h;.simp_all
 .unfold Dr at h;grind
def gl:List (aI×an):=[([.bool V,.bool V,.bool V,.bool C,.bool C,.bool C,.bool V,.bool C,.bool C,.bool C,.bool V,.bool V,.bool V,.bool C,.bool V,.bool V],314),([.int .i64 0,.int .i64 0,.bool V,.bool V,.bool C,.bool C,.int .i64 2,.int .i64 64,.bool C,.bool C,.bool C,.bool C,.int .i64 2,.int .i64 64,.bool C,.bool C,.bool C,.bool C,.int .i64 2,.int .i64 64,.bool C,.bool C,.bool C,.bool C,.int .i64 1,.int .i64 1,.bool C,.bool C,.bool C,.bool C,.int .i64 1,.int .i64 1,.bool V,.bool V,.bool V,.bool C,.int .i64 1,.int .i64 1,.bool C,.bool C,.bool V,.bool V,.int .i64 1,.int .i64 1,.bool C,.bool V,.bool C,.bool C,.int .i64 2,.int .i64 2,.bool C,.bool C,.bool C,.bool C,.int .i64 1,.int .i64 1,.bool V,.bool V,.bool V,.bool C,.int .i64 1,.int .i64 1,.bool C,.bool C,.bool V,.bool V],339),([.top],3),([.int .u64 1,.int .u64 10,.int .u64 100,.int .u64 1000,.int .u64 10000,.int .u64 100000,.int .u64 1000000,.int .u64 10000000,.int .u64 100000000,.int .u64 1000000000,.int .u64 10000000000,.int .u64 100000000000,.int .u64 1000000000000,.int .u64 10000000000000,.int .u64 100000000000000,.int .u64 1000000000000000,.int .u64 10000000000000000,.int .u64 100000000000000000,.int .u64 1000000000000000000,.int .u64 10000000000000000000],708),([.int .u8 0,.int .u8 1,.int .u8 28,.int .u8 2,.int .u8 29,.int .u8 14,.int .u8 24,.int .u8 3,.int .u8 30,.int .u8 22,.int .u8 20,.int .u8 15,.int .u8 25,.int .u8 17,.int .u8 4,.int .u8 8,.int .u8 31,.int .u8 27,.int .u8 13,.int .u8 23,.int .u8 21,.int .u8 19,.int .u8 16,.int .u8 7,.int .u8 26,.int .u8 12,.int .u8 18,.int .u8 6,.int .u8 11,.int .u8 5,.int .u8 10,.int .u8 9],714),([.int .u8 0,.int .u8 1,.int .u8 56,.int .u8 2,.int .u8 57,.int .u8 49,.int .u8 28,.int .u8 3,.int .u8 61,.int .u8 58,.int .u8 42,.int .u8 50,.int .u8 38,.int .u8 29,.int .u8 17,.int .u8 4,.int .u8 62,.int .u8 47,.int .u8 59,.int .u8 36,.int .u8 45,.int .u8 43,.int .u8 51,.int .u8 22,.int .u8 53,.int .u8 39,.int .u8 33,.int .u8 30,.int .u8 24,.int .u8 18,.int .u8 12,.int .u8 5,.int .u8 63,.int .u8 55,.int .u8 48,.int .u8 27,.int .u8 60,.int .u8 41,.int .u8 37,.int .u8 16,.int .u8 46,.int .u8 35,.int .u8 44,.int .u8 21,.int .u8 52,.int .u8 32,.int .u8 23,.int .u8 11,.int .u8 54,.int .u8 26,.int .u8 40,.int .u8 15,.int .u8 34,.int .u8 20,.int .u8 31,.int .u8 10,.int .u8 25,.int .u8 14,.int .u8 19,.int .u8 9,.int .u8 13,.int .u8 8,.int .u8 7,.int .u8 6],715)]
open Go
def rootOf(H:Heap)(i:Nat):Nat:=match H.get i with|some (.cells _ r _ _)=>r|_=>i
def fM(H:Heap)(i:Nat):Prop:=∃l r e,H.get i=J (.cells l r .ro e)
def je(H:Heap)(i:Nat):Prop:=∀l r fl e,H.get i=J (.cells l r fl e)->(H.bp r).1<=i
def wo(a:bc)(e:eI)(m:kQ):Prop:=VR a e.1 m.key/\VR a e.2.1 m.val/\m.born=e.2.2
def nv(a:bc)(l:List eI)(m:List kQ):Prop:=l.length=m.length/\∀(i:Nat)(e:eI)(x:kQ),l[i]?=J e->m[i]?=J x->wo a e x
inductive Eb(Y:bc):NU->Target->Prop where|fn(f:bW)(l:List AV)(c:Array aD)(h:ba Y l c.toList):Eb Y (.fn f l) (.fn (.func f) c)|yield(l:Nat)(p:Pl)(h:Y l=J p):Eb Y (.yield l) (.fn (.yield p.aZ) #[])|builtin(b:Builtin)(ts:Array an)(t:an)(cs:Array Bool):Eb Y (.builtin b ts) (.builtin b ts t cs)
structure akq(Y:bc)(d:R9)(e:Deferred):Prop where
 target:Eb Y d.target e.target
 args:ba Y d.args e.args.toList
def zf(a:bc):aC->List Deferred->Prop|[],[]=>True|r::l,x::m=>(∃p,a r=J p/\x=⟨.collected p.aZ,#[]⟩)/\zf a l m|_,_=>False
def rB(a:bc)(n:Nat)(t:Tr AV)(c:Array aD):Prop:=c.size=n/\∀i,VR a ((t.get i).getD fC) (c.getD i undef)
structure G6(Y:bc)(a:AO)(r:Loop):Prop where
 state:r.state=a.state
 pending:r.pending=a.pending
 fn:r.fn=a.fn
 tmps:rB Y a.n a.tmps r.tmps
 params:r.params.toList=a.params
 assign:r.assign=a.assign
 body:r.body=a.body
 defers:∃p,Y a.defers=J p/\r.defers=p.aZ
def mq(f:bc)(w:aV)(o:ch)(p:Pl):Prop:=match o with|.cells l _ fl e=>∃cs fz e1,w.heap[p.aZ]?=J (.cells cs e1 fz)/\cs.size=p.oF/\p.base+p.len<=p.oF/\(∀(i:Nat)(a:AV),l[i]?=J a->∃c,cs[p.base+i]?=J c/\VR f a c)/\(∀a,a∈l->a.aU=V)/\(fl≠.ro->fz=(0,0)/\e1=e)/\(fl=.ex->p.base=0/\p.oF=p.len)|.map es k=>p.base=0/\∃d:Array kQ,w.heap[p.aZ]?=J (.map d k)/\nv f es d.toList|.mapIter m s seen D=>p.base=0/\∃g:ah Nat,w.heap[p.aZ]?=J (.mapIter g s seen.toArray D)/\(match m with|none=>g=Z|some r=>∃q,f r=J q/\g=J q.aZ)|.loop r=>p.base=0/\∃R:Loop,w.heap[p.aZ]?=J (.loop R)/\G6 f r R|.deferred b=>p.base=0/\w.heap[p.aZ]?=J (.deferred (bif b then J []else Z))
structure bg(H:Heap):Prop where
 get:∀id o,H.get id=J o->id<H.next
 root:∀id l r fl e,H.get id=J (.cells l r fl e)->r<=id/\id<=(H.bp r).2
 oB:∀id l r fl e,H.get id=J (.cells l r fl e)->∃l' fl' e',H.get r=J (.cells l' r fl' e')dp:∀r f,H.dp.get r=J f->r<H.next/\f.2<H.next
 bA:H.bA<=H.next
structure Stat(Y:bc)(H:Heap)(n:Nat):Prop where
 cC:∀id p,Y id=J p->p.aZ<n/\(H.get id).isSome
 len:∀id p l r fl e,Y id=J p->H.get id=J (.cells l r fl e)->l.length=p.len
 inj:∀i j p q,Y i=J p->Y j=J q->p.aZ=q.aZ->¬fM H i->rootOf H i=rootOf H j
 mono:∀i j p q,Y i=J p->Y j=J q->p.aZ=q.aZ->(¬fM H i\/¬fM H j)->i<j->p.base+p.len<=q.base+q.len
structure bQ(S:Nat->Prop)(Y:bc)(H:Heap)(w:aV):Prop where
 stat:Stat Y H w.heap.size
 obj:∀id p o,Y id=J p->S (rootOf H id)->je H id->H.get id=J o->mq Y w o p
def rk(o b:ch):Prop:=(∀l r fl e,o=.cells l r fl e->∃a f,b=.cells a r f e/\a.length=l.length)/\((∀l r fl e,o≠.cells l r fl e)->∀l r fl e,b≠.cells l r fl e)
theorem rk.refl(o:ch):rk o o:=⟨λl r fl e h=>⟨l,fl,h,rfl⟩,λh=>h⟩
theorem rk.trans{a b c:ch}(h:rk a b)(k:rk b c):rk a c:=by refine⟨λl r fl e d=>?_,λd=>k.2 (h.2 d)⟩;obtain⟨i,f,g,j⟩:=h.1 l r fl e d;obtain⟨l2,x,n,m⟩:=k.1 i r _ e g;grind
structure Fr(Y:bc)(H:Heap)(w:aV)(A:bc)(H':Heap)(w':aV):Prop where
 ext:Ext Y A
 size:w.heap.size<=w'.heap.size
 os:w'.os=w.os
 tape:w'.tape=w.tape
 output:w'.output=w.output
 next:H.next<=H'.next
 bA:H'.bA=H.bA
 bV:∀r,r∈H.bV->r∈H'.bV
 cI:∀r,r∈H.cI->r∈H'.cI
 root:∀id,id<H.next->rootOf H' id=rootOf H id
 view:∀id o,id<H.next->rootOf H id<H.bA->rootOf H id∉H'.bV->H.get id=J o->H'.get id=J o/\(je H id->je H' id)/\(je H' id->je H id)nB:∀b,b<w.heap.size->w'.heap[b]?=w.heap[b]?\/∃id p,Y id=J p/\p.aZ=b/\¬fM H id/\(H.bA<=rootOf H id\/rootOf H id∈H'.bV\/rootOf H id∈H'.cI)new:∀id p,A id=J p->Y id=Z->H.next<=id/\(w.heap.size<=p.aZ\/∃j q,Y j=J q/\q.aZ=p.aZ/\¬fM H j/\rootOf H j=rootOf H' id/\(H.bA<=rootOf H j\/rootOf H j∈H'.cI))ro:∀id,id<H.next->fM H id->fM H' id
 keep:∀id o,id<H.next->H.get id=J o->∃o',H'.get id=J o'/\rk o o'
 cover:∀id,H.next<=id->id<H'.next->∃p,A id=J p
 mG:∀id p,A id=J p->Y id=Z->rootOf H' id<H.bA->rootOf H' id∈H'.cI/\∃j q,Y j=J q/\rootOf H j=rootOf H' id
 vg:∀r,r∈H'.bV->r∈H.bV\/(r<H.bA/\∃id p,Y id=J p/\rootOf H id=r)vw:∀r,r∈H'.cI->r∈H.cI\/(r<H.bA/\∃id p,Y id=J p/\rootOf H id=r)
theorem Fr.refl(b:bc)(H:Heap)(w:aV):Fr b H w b H w where
 ext:=Ext.refl b
 size:=bS _
 os:=rfl
 tape:=rfl
 output:=rfl
 next:=bS _
 bA:=rfl
 bV:=λ_ h=>h
 cI:=λ_ h=>h
 root:=λ_ _=>rfl
 view:=λ_ _ _ _ _ h=>⟨h,λh=>h,λh=>h⟩
 nB:=λ_ _=>.inl rfl
 new:=λid p h a=>by rw[h]at a;simp at a
 ro:=λ_ _ h=>h
 keep:=λ_ o _ h=>⟨o,h,rk.refl o⟩
 cover:=λid h a=>ab
 mG:=λid p h a=>by rw[h]at a;simp at a
 vg:=λ_ h=>.inl h
 vw:=λ_ h=>.inl h
theorem Fr.trans{χ:bc}{H1 S:Heap}{w1 w2:aV}(h:Fr Y H w A H1 w1)(k:Fr A H1 w1 χ S w2)(B:∀id p,Y id=J p->id<H.next)(T:∀id p,A id=J p->id<H1.next):Fr Y H w χ S w2 where
 ext:=h.ext.trans k.ext
 size:=gw h.size k.size
 os:=k.os.trans h.os
 tape:=k.tape.trans h.tape
 output:=k.output.trans h.output
 next:=gw h.next k.next
 bA:=k.bA.trans h.bA
 bV:=λr hr=>k.bV r (h.bV r hr)
 cI:=λr hr=>k.cI r (h.cI r hr)
 root:=λid hid=>(k.root id (gx hid h.next)).trans (h.root id hid)
 view:=λid o hid X hw Q=>by have hr:=h.root id hid;obtain⟨a1,a2,a3⟩:=h.view id o hid X (λE=>hw (k.bV _ E)) Q;obtain⟨b1,b2,b3⟩:=k.view id o (gx hid h.next) (by rw[hr,h.bA];exact X) (by rw[hr];exact hw) a1;exact⟨b1,λx=>b2 (a2 x),λx=>a3 (b3 x)⟩
 nB:=λb U=>by
  rcases k.nB b (gx U h.size)with e|⟨id,p,y,G,O,m⟩
  . rcases h.nB b U with e'|⟨id,p,y,G,O,m⟩;.exact .inl (e.trans e')
    . refine .inr ⟨id,p,y,G,O,?_⟩;rcases m with m|m|m;.exact .inl m
      .exact .inr (.inl (k.bV _ m))
      .exact .inr (.inr (k.cI _ m))
  .cases f:Y id with|some q=>
      have:=h.ext id q f;rw[y]at this;obtain rfl:p=q:=by simpa using this
      have hid:=B id p f;rw[h.root id hid,h.bA]at m;exact .inr ⟨id,p,f,G,λE=>O (h.ro id hid E),m⟩|none=>
      obtain⟨_,W⟩:=h.new id p y f;rcases W with W|⟨j,q,v,t,z,I,i⟩;.omega
      . refine .inr ⟨j,q,v,by rw[t];exact G,z,?_⟩;rcases i with i|i;.exact .inl i
        .exact .inr (.inr (k.cI _ i))
 new:=λid p n f=>by cases g:A id with
  |some F=>
    have:=k.ext id F g;rw[n]at this;obtain rfl:p=F:=by simpa using this
    obtain⟨s,l⟩:=h.new id p g f;refine⟨s,?_⟩;rcases l with l|⟨j,q,v,t,z,I,i⟩;.exact .inl l
    . refine .inr ⟨j,q,v,t,z,by rw[k.root id (T id p g)];exact I,?_⟩;rcases i with i|i;.exact .inl i
      .exact .inr (k.cI _ i)|none=>
    obtain⟨s,l⟩:=k.new id p n g;refine⟨gw h.next s,?_⟩;rcases l with l|⟨j,q,v,t,z,I,i⟩;.exact .inl (gw h.size l)
    .cases D:Y j with|some u=>
        have:=h.ext j u D;rw[v]at this;obtain rfl:q=u:=by simpa using this
        have K:=B j q D;rw[h.root j K]at I;rw[h.root j K,h.bA]at i;exact .inr ⟨j,q,D,t,λE=>z (h.ro j K E),I,i⟩|none=>
        obtain⟨_,P⟩:=h.new j q v D;rcases P with P|⟨j0,q0,Bw,R,N,M,L⟩;.exact .inl (by rw[<-t];exact P)
        . refine .inr ⟨j0,q0,Bw,R.trans t,N,M.trans I,?_⟩;rcases L with L|L;.exact .inl L
          .exact .inr (k.cI _ L)
 ro:=λid hid hr=>k.ro id (gx hid h.next) (h.ro id hid hr)
 keep:=λid o hid Q=>by obtain⟨o1,s,l1⟩:=h.keep id o hid Q;obtain⟨o2,l,l2⟩:=k.keep id o1 (gx hid h.next) s;exact⟨o2,l,l1.trans l2⟩
 cover:=λid s l=>by
  by_cases bY:id<H1.next;.obtain⟨p,y⟩:=h.cover id s bY;exact⟨p,k.ext _ _ y⟩
  .exact k.cover id ab l
 mG:=λid p n f hr=>by cases g:A id with|some F=>have e:=k.root id (T id F g);rw[e]at hr;obtain⟨a,j,q,b,c⟩:=h.mG id F g f hr;rw[e];exact⟨k.cI _ a,j,q,b,c⟩|none=>obtain⟨a,j,q,b,c⟩:=k.mG id p n g (by rw[h.bA];exact hr);refine⟨a,?_⟩;cases D:Y j with|some u=>exact⟨j,u,D,by rw[<-h.root j (B j u D)];exact c⟩|none=>obtain⟨_,j',u,b',c'⟩:=h.mG j q b D (by rw[c];exact hr);exact⟨j',u,b',c'.trans c⟩
 vg:=λr hr=>by
  rcases k.vg r hr with x|⟨x,id,p,a,b⟩;.exact h.vg r x
  .rw[h.bA]at x;cases f:Y id with|some q=>exact .inr ⟨x,id,q,f,by rw[<-h.root id (B id q f)];exact b⟩|none=>obtain⟨_,j,q,c,d⟩:=h.mG id p a f (by rw[b];exact x);exact .inr ⟨x,j,q,c,d.trans b⟩
 vw:=λr hr=>by
  rcases k.vw r hr with x|⟨x,id,p,a,b⟩;.exact h.vw r x
  .rw[h.bA]at x;cases f:Y id with|some q=>exact .inr ⟨x,id,q,f,by rw[<-h.root id (B id q f)];exact b⟩|none=>obtain⟨_,j,q,c,d⟩:=h.mG id p a f (by rw[b];exact x);exact .inr ⟨x,j,q,c,d.trans b⟩
theorem nv.mono(h:Ext Y A){l:List eI}{m:List kQ}(r:nv Y l m):nv A l m:=⟨r.1,λi e x a b=>let⟨p,q,s⟩:=r.2 i e x a b;⟨p.mono h,q.mono h,s⟩⟩
theorem Eb.mono(h:Ext Y A){a:NU}{t:Target}(r:Eb Y a t):Eb A a t:=by
 rcases r with⟨f,l,c,d⟩|⟨l,p,e⟩|⟨b,s,t,cs⟩;.exact .fn f l c (d.mono h)
 .exact .yield l p (h _ _ e)
 exact .builtin b s t cs
theorem zf.mono(h:Ext Y A):∀{l:aC}{m:List Deferred},zf Y l m->zf A l m|[],[],_=>trivial|_::_,_::_,⟨⟨p,a,b⟩,r⟩=>⟨⟨p,h _ _ a,b⟩,r.mono h⟩|[],_::_,r|_::_,[],r=>r
theorem rB.mono(h:Ext Y A){n:Nat}{t:Tr AV}{c:Array aD}(r:rB Y n t c):rB A n t c:=⟨r.1,λi=>(r.2 i).mono h⟩
theorem G6.mono(h:Ext Y A){a:AO}{r:Loop}(k:G6 Y a r):G6 A a r:=⟨k.state,k.pending,k.fn,k.tmps.mono h,k.params,k.assign,k.body,let⟨p,b,e⟩:=k.defers;⟨p,h _ _ b,e⟩⟩
theorem mq.mono(h:Ext Y A){o:ch}(g:w'.heap[p.aZ]?=w.heap[p.aZ]?)(r:mq Y w o p):mq A w' o p:=by
 rcases o with⟨l,root,fl,e⟩|⟨es,k⟩|⟨m,s,seen,L⟩|a|c;.obtain⟨cs,fz,n,b,d,t,u,v,x,y⟩:=r;exact⟨cs,fz,n,g.trans b,d,t,λi a hi=>let⟨c,z,D⟩:=u i a hi;⟨c,z,D.mono h⟩,v,x,y⟩
 .obtain⟨f,j,b,d⟩:=r;exact⟨f,_,g.trans b,d.mono h⟩
 . obtain⟨f,E,b,d⟩:=r;refine⟨f,E,g.trans b,?_⟩;rcases m with _|r;.omega
   obtain⟨q,B,e⟩:=d;exact⟨q,h _ _ B,e⟩
 .obtain⟨f,R,b,d⟩:=r;exact⟨f,R,g.trans b,d.mono h⟩
 exact⟨r.1,g.trans r.2⟩
def fo(a:bc)(d:Nat)(p:Pl):bc:=λi=>if i=d then J p else a i
theorem jH(a:bc)(i:Nat)(p:Pl):fo a i p i=J p:=by simp[fo]
theorem lh(a:bc){d i:Nat}(p:Pl)(h:i≠d):fo a d p i=a i:=by grind[fo]
theorem aj1{d:Nat}(p:Pl)(h:Y d=Z):Ext Y (fo Y d p):=λi q a=>by grind[lh]
def World.push(w:aV)(o:Obj):aV:={w with heap:=w.heap.push o}
def World.eU(w:aV)(b:Nat)(o:Obj):aV:={w with heap:=w.heap.setIfInBounds b o}
theorem Dz(w:aV)(o:Obj):(World.push w o).heap.size=w.heap.size+1:=by simp[World.push]
theorem FZ(w:aV)(o:Obj){b:Nat}(h:b<w.heap.size):(World.push w o).heap[b]?=w.heap[b]?:=by grind[World.push]
theorem xd(w:aV)(o:Obj):(World.push w o).heap[w.heap.size]?=J o:=by show(w.heap.push o)[w.heap.size]?=J o;simp
theorem Ca(w:aV)(b:Nat)(o:Obj):(World.eU w b o).heap.size=w.heap.size:=by simp[World.eU]
theorem AA(w:aV){b:Nat}(o:Obj)(h:b<w.heap.size):(World.eU w b o).heap[b]?=J o:=by grind[World.eU]
theorem B'(w:aV){b c:Nat}(o:Obj)(h:c≠b):(World.eU w b o).heap[c]?=w.heap[c]?:=by grind[World.eU]
def more(S:Nat->Prop)(n:Nat):Nat->Prop:=λr=>S r\/n<=r
theorem bg.VY(h:bg H){i:Nat}(n:H.next<=i):H.get i=Z:=by
 rcases e:H.get i with _|o;.rfl
 have:=h.get i o e;omega
theorem Stat.lt{n:Nat}(h:Stat Y H n)(a:bg H){i:Nat}(e:Y i=J p):i<H.next:=by
 obtain⟨_,s⟩:=h.cC i p e;rcases g:H.get i with _|o;.grind
 exact a.get i o g
theorem Stat.VY{n:Nat}(h:Stat Y H n)(a:bg H){i:Nat}(b:H.next<=i):Y i=Z:=by
 rcases e:Y i with _|p;.rfl
 have:=h.lt a e;omega
theorem qZ{H:Heap}(h:bg H){i:Nat}(d:i<H.next):rootOf H i<H.next:=by
 unfold rootOf;split;.rename_i l r fl e g;have:=(h.root i l r fl e g).1;omega
 omega
theorem mA(H:Heap)(o:ch):(H.alloc o).get H.next=J o:=Tr.lF _ _ _
theorem nG(H:Heap)(o:ch){i:Nat}(h:i≠H.next):(H.alloc o).get i=H.get i:=Tr.jy _ _ (Ne.symm h)
theorem adO(H:Heap)(o:ch)(r:Nat):(H.alloc o).bp r=H.bp r:=rfl
theorem Bk(h:bg H)(a:H.next<=r):H.bp r=(0,r):=by
 unfold Heap.bp;rcases e:H.dp.get r with _|f;.rfl
 have:=(h.dp r f e).1;omega
theorem bQ.same(h:bQ S Y H w)(e:w'.heap=w.heap):bQ S Y H w':=⟨by rw[e];exact h.stat,λid p o a b c d=>(h.obj id p o a b c d).mono (Ext.refl Y) ai⟩
theorem Fr.same(e:w'.heap=w.heap)(a:w'.os=w.os)(c:w'.tape=w.tape)(d:w'.output=w.output):Fr Y H w Y H w':={Fr.refl Y H w with
 size:=ai
 os:=a
 tape:=c
 output:=d
 nB:=λb _=>.inl ai
 new:=λid p h f=>by grind}
theorem wA(i:bg H)(o:ch)(c:∀l r fl e,o=.cells l r fl e->r=H.next):bg (H.alloc o)where
 get:=λid b h=>by
  show id<H.next+1;by_cases e:id=H.next;.omega
  .rw[nG H o e]at h;have:=i.get id b h;omega
 root:=λid l r fl e h=>by
  rw[adO];by_cases n:id=H.next;.subst n;rw[mA]at h;have:=c l r fl e (by simpa using h);subst this;rw[Bk i (bS _)];exact⟨bS _,bS _⟩
  .rw[nG H o n]at h;exact i.root id l r fl e h
 oB:=λid l r fl e h=>by
  by_cases n:id=H.next
  . subst n;rw[mA]at h;have:=c l r fl e (by simpa using h);subst this;have a:o=.cells l H.next fl e:=by simpa using h
    exact⟨l,fl,e,by rw[mA,a]⟩
  .rw[nG H o n]at h;have hr:=(i.root id l r fl e h).1;have hid:=i.get id _ h;rw[nG H o ab];exact i.oB id l r fl e h
 dp:=λr f h=>by have:=i.dp r f h;exact⟨Nat.lt_succ_of_lt this.1,Nat.lt_succ_of_lt this.2⟩
 bA:=Nat.le_succ_of_le i.bA
theorem Rk(o:ch){i:Nat}(h:i≠H.next):rootOf (H.alloc o) i=rootOf H i:=by grind[rootOf,nG]
theorem Vm(o:ch){i:Nat}(h:i≠H.next):fM (H.alloc o) i↔fM H i:=by grind[fM,nG]
theorem aaU(o:ch){i:Nat}(h:i≠H.next):je (H.alloc o) i↔je H i:=by grind[je,nG,adO]
theorem Kg(d:bg H)(s:bQ S Y H w)(o:ch)(O:Obj)(p:Pl)(G:p.aZ=w.heap.size)(z:∀l r fl e,o=.cells l r fl e->r=H.next/\l.length=p.len)(A:mq Y (World.push w O) o p):bg (H.alloc o)/\bQ (more S H.next) (fo Y H.next p) (H.alloc o) (World.push w O)/\Fr Y H w (fo Y H.next p) (H.alloc o) (World.push w O):=by
 have D:=s.stat.VY d (bS _);have W:=aj1 p D;have K:=wA d o λl r fl e h=>(z l r fl e h).1;have v:rootOf (H.alloc o) H.next=H.next:=by grind[rootOf,mA]
 refine⟨K,⟨⟨?_,?_,?_,?_⟩,?_⟩,?_⟩
 . intro id q a;by_cases e:id=H.next;.grind[jH,Dz,mA]
   .rw[lh Y p e]at a;obtain⟨x,t⟩:=s.stat.cC id q a;grind[Dz,nG]
 . intro id q l r fl e a g;by_cases n:id=H.next;.grind[jH,mA]
   .rw[lh Y p n]at a;rw[nG H o n]at g;exact s.stat.len id q l r fl e a g
 . intro i j q r a hr k m;by_cases c:i=H.next
   . subst c;rw[jH]at a;obtain rfl:p=q:=ai;by_cases b:j=H.next;.grind
     .rw[lh Y p b]at hr;have:=(s.stat.cC j r hr).1;omega
   . rw[lh Y p c]at a;by_cases b:j=H.next;.subst b;rw[jH]at hr;obtain rfl:p=r:=ai;have:=(s.stat.cC i q a).1;omega
     .rw[lh Y p b]at hr;rw[Rk o c,Rk o b];exact s.stat.inj i j q r a hr k λh=>m ((Vm o c).2 h)
 . intro i j q r a hr k m E;by_cases c:i=H.next;.subst c;rw[jH]at a;obtain rfl:p=q:=ai;rw[lh Y p ab]at hr;have:=(s.stat.cC j r hr).1;omega
   . rw[lh Y p c]at a;by_cases b:j=H.next;.subst b;rw[jH]at hr;obtain rfl:p=r:=ai;have:=(s.stat.cC i q a).1;omega
     .rw[lh Y p b]at hr;refine s.stat.mono i j q r a hr k ?_ E;grind[Vm]
 . intro id q f a u y g;by_cases n:id=H.next;.subst n;rw[jH]at a;obtain rfl:p=q:=ai;rw[mA]at g;obtain rfl:o=f:=ai;exact A.mono W rfl
   . rw[lh Y p n]at a;rw[nG H o n]at g;have hid:=s.stat.lt d a;rw[Rk o n]at u;have U:S (rootOf H id):=by
      rcases u with h|h;.omega
      .have:=qZ d hid;omega
     refine(s.obj id q f a U ((aaU o n).1 y) g).mono W (FZ w O (s.stat.cC id q a).1)
 . refine{ext:=W,size:=by simp[Dz],os:=rfl,tape:=rfl,output:=rfl,next:=J4 _,bA:=rfl,bV:=λ_ h=>h,cI:=λ_ h=>h,root:=?_,view:=?_,nB:=?_,new:=?_,ro:=?_,keep:=λid f hid g=>⟨f,by grind[nG],rk.refl f⟩,cover:=λid x t=>⟨p,by have F:id<H.next+1:=t;grind[jH]⟩,mG:=?_,vg:=λ_ h=>.inl h,vw:=λ_ h=>.inl h};.grind[Rk]
   .grind[nG,aaU]
   .grind[FZ]
   .grind[jH,lh]
   .grind[Vm]
   . intro id q a B hr;by_cases n:id=H.next;.subst n;have:=d.bA;omega
     grind[lh]
def ch.dZ:ch->Bool|.cells ..=>V|_=>C
theorem qo{i:Nat}{l r f e}(h:H.get i=J (.cells l r f e)):rootOf H i=r:=by grind[rootOf]
theorem yF{i:Nat}{o:ch}(h:H.get i=J o)(a:o.dZ=C):rootOf H i=i:=by grind[rootOf,ch.dZ]
theorem n7(H:Heap)(i r:Nat)(o:ch):(H.dI i r o).get i=J o:=by unfold Heap.dI;cases aw _ i<;>exact Tr.lF _ _ _
theorem nH(H:Heap){d:Nat}(r:Nat)(o:ch){i:Nat}(h:i≠d):(H.dI d r o).get i=H.get i:=by unfold Heap.dI;cases aw _ d<;>exact Tr.jy _ _ (Ne.symm h)
theorem w7(H:Heap)(i r:Nat)(o:ch):(H.dI i r o).next=H.next:=by unfold Heap.dI;cases aw _ i<;>rfl
theorem Cc(H:Heap)(i r:Nat)(o:ch):(H.dI i r o).bA=H.bA:=by unfold Heap.dI;cases aw _ i<;>rfl
theorem yb(H:Heap)(i r:Nat)(o:ch):(H.dI i r o).cI=H.cI:=by unfold Heap.dI;cases aw _ i<;>rfl
theorem xw(H:Heap)(i r:Nat)(o:ch):(H.dI i r o).bV=Heap.note H.bA r H.bV:=by unfold Heap.dI;cases aw _ i<;>rfl
theorem HL(H:Heap)(i t:Nat)(o:ch)(h:r≠t):(H.dI i t o).bp r=H.bp r:=by unfold Heap.dI Heap.bp;cases aw _ i with|true=>rfl|false=>simp only[bX];rw[Tr.jy _ _ (Ne.symm h)];rfl
theorem Ez(H:Heap)(i:Nat)(o:ch):(H.dI i i o).bp i=H.bp i:=by unfold Heap.dI Heap.bp;rw[Kl rfl];rfl
theorem OY(H:Heap){i r:Nat}(o:ch)(h:r≠i):(H.dI i r o).bp r=(i,i):=by grind[Heap.dI,Heap.bp,A9,Tr.lF]
theorem QA{b x:Nat}{l:aC}:x∈l->x∈Heap.note b r l:=by grind[Heap.note]
theorem vN{b x:Nat}{l:aC}(h:x∈Heap.note b r l):x∈l\/(x=r/\x<b):=by grind[Heap.note,eQ]
theorem FJ{b:Nat}(l:aC)(h:r<b):r∈Heap.note b r l:=by grind[Heap.note,eQ]
theorem aiB(k:bg H)(s:bQ S Y H w){d:Nat}{a:ch}(o:ch)(O:Obj)(hp:Y d=J p)(M:H.get d=J a)(eH:¬fM H d)(C1:∀l r fl e,a=.cells l r fl e->(H.bp r).1<=d/\(H.bp r).2=d/\∃u b,o=.cells u r b e/\u.length=l.length)(afe:a.dZ=C->o.dZ=C)(ho:mq Y (World.eU w p.aZ O) o p):bg (H.dI d (rootOf H d) o)/\bQ S Y (H.dI d (rootOf H d) o) (World.eU w p.aZ O)/\Fr Y H w Y (H.dI d (rootOf H d) o) (World.eU w p.aZ O):=by
 obtain⟨root,X⟩:∃root,root=rootOf H d:=⟨_,rfl⟩;rw[<-X];have hid:=k.get d a M;have vG:=(s.stat.cC d p hp).1;have R:∀i,rootOf (H.dI d root o) i=rootOf H i:=λi=>by
   by_cases e:i=d;.subst e;cases c:a.dZ with|true=>cases a<;>simp[ch.dZ]at c;grind[qo,n7]|false=>grind[yF,n7]
   grind[rootOf,nH]
 have U:∀i,fM H i->fM (H.dI d root o) i:=λi h=>by grind[fM,nH]
 have aOL:∀i,i≠d->fM (H.dI d root o) i->fM H i:=λi e h=>by grind[fM,nH]
 have A:∀i l r fl e,i≠d->H.get i=J (.cells l r fl e)->r=root->¬((H.dI d root o).bp root).1<=i:=by
   intro i l r fl e D P hr hle;subst hr;have sQ:=k.root i l r fl e P;by_cases N:r=d;.subst N;cases c:a.dZ with|true=>cases a<;>simp[ch.dZ]at c;grind[qo]|false=>obtain⟨u,b,L,hh⟩:=k.oB i l r fl e P;grind
   grind[OY,rootOf]
 have SB:∀i,i≠d->je (H.dI d root o) i->je H i:=λi D E l r fl e P=>by
   have K:(H.dI d root o).get i=J (.cells l r fl e):=by grind[nH]
   have:=E l r fl e K;grind[HL]
 refine⟨⟨?_,?_,?_,?_,?_⟩,⟨⟨?_,?_,?_,?_⟩,?_⟩,?_⟩
 . intro i v h;rw[w7];by_cases e:i=d;.omega
   .rw[nH H root o e]at h;exact k.get i v h
 . intro i l r fl e h;have t:∃l0 I e0,H.get i=J (.cells l0 r I e0):=by
     by_cases n:i=d;.subst n;rw[n7]at h;have B:o=.cells l r fl e:=ai;cases c:a.dZ with|true=>cases a<;>simp[ch.dZ]at c;grind|false=>grind[ch.dZ]
     grind[nH]
   obtain⟨l0,I,e0,W⟩:=t;obtain⟨T,h2⟩:=k.root i l0 r I e0 W;grind[Ez,OY,HL]
 . intro i l r fl e h;have back:∀j l r fl e,H.get j=J (.cells l r fl e)->∃u b L,(H.dI d root o).get j=J (.cells u r b L):=by grind[n7,nH]
   have t:∃l0 I e0,H.get i=J (.cells l0 r I e0):=by
     by_cases n:i=d;.subst n;rw[n7]at h;have B:o=.cells l r fl e:=ai;cases c:a.dZ with|true=>cases a<;>simp[ch.dZ]at c;grind|false=>grind[ch.dZ]
     grind[nH]
   obtain⟨l0,I,e0,W⟩:=t;obtain⟨l1,mV,e1,T⟩:=k.oB i l0 r I e0 W;grind
 .intro r f h;rw[w7];unfold Heap.dI at h;cases m:aw root d with|true=>rw[m]at h;exact k.dp r f h|false=>
     rw[m]at h;simp only[bX]at h;by_cases hr:r=root;.subst hr;rw[Tr.lF]at h;have:f=(d,d):=ai;simp_all[qZ]
     .rw[Tr.jy _ _ (Ne.symm hr)]at h;exact k.dp r f h
 .rw[w7,Cc];exact k.bA
 .intro i q g;rw[Ca];obtain⟨T,h2⟩:=s.stat.cC i q g;grind[n7,nH]
 . intro i q l r fl e g P;by_cases n:i=d;.subst n;rw[n7]at P;have B:o=.cells l r fl e:=ai;cases c:a.dZ with|true=>cases a<;>simp[ch.dZ]at c;rename_i l0 r0 I e0;obtain⟨_,_,u,b,he,F⟩:=C1 l0 r0 _ e0 rfl;rw[he]at B;obtain⟨rfl,_,_,_⟩:=ch.cells.inj B;rw[F];exact s.stat.len i q l0 r0 _ e0 g M|false=>grind[ch.dZ]
   .rw[nH H _ o n]at P;exact s.stat.len i q l r fl e g P
 .intro i j q r g hr m z;rw[R,R];exact s.stat.inj i j q r g hr m λh=>z (U i h)
 .intro i j q r g hr m z;exact s.stat.mono i j q r g hr m ai
 . intro i q v g hS E P;rw[R]at hS;by_cases n:i=d;.grind[n7]
   . have G:=P;rw[nH H _ o n]at G;have Q:q.aZ≠p.aZ:=by intro m;have hr:=s.stat.inj d i p q hp g m.symm eH;rw[<-X]at hr;cases wU:v.dZ with|true=>cases v<;>simp[ch.dZ]at wU;rename_i l r fl e;have sQ:=qo G;exact A i l r fl e n G ab (by have:=E l r fl e P;grind)|false=>have sQ:=yF G wU;rw[sQ]at hr;cases c:a.dZ with|true=>cases a<;>simp[ch.dZ]at c;rename_i l0 r0 I e0;have:=qo M;rw[<-X,hr]at this;subst this;obtain⟨u,b,L,hh⟩:=k.oB d l0 i _ e0 M;grind[ch.dZ]|false=>grind[yF]
     exact(s.obj i q v g hS aT G).mono (Ext.refl Y) (B' w O Q)
 . refine{ext:=Ext.refl Y,size:=by simp[Ca],os:=rfl,tape:=rfl,output:=rfl,next:=by simp[w7],bA:=Cc ..,bV:=?_,cI:=?_,root:=λi _=>R i,view:=?_,nB:=?_,new:=?_,ro:=λi _ h=>U i h,keep:=?_,cover:=λi T h2=>by grind[w7],mG:=λi q h B=>ai,vg:=?_,vw:=λr hr=>.inl (by grind[yb])};.grind[xw,QA]
   .simp[yb]
   .intro i v jz ht hw P;rw[xw]at hw;have D:rootOf H i≠root:=λe=>hw (by grind[FJ]);have n:i≠d:=λe=>D ai;refine⟨by grind[nH],?_,aT⟩;intro E l r fl e K;rw[nH H _ o n]at K;have hr:r≠root:=λL=>D (by grind[qo]);rw[HL H d _ o hr];exact E l r fl e K
   .grind[xw,FJ,B']
   .grind
   . intro i v jz P;by_cases n:i=d
     . subst n;refine⟨o,n7 H i _ o,?_⟩;refine⟨λl r fl e he=>?_,λD=>?_⟩;.grind
       . have c:a.dZ=C:=by cases a<;>first|rfl|grind
         grind[ch.dZ]
     grind[nH,rk.refl]
   .intro r hr;rw[xw]at hr;rcases vN hr with x|⟨x,y⟩;all_goals grind
theorem ya(H:Heap)(r f:Nat)(k:Bool)(c:aI)(e:an):(H.gP r f k c e).get H.next=J (.cells c r .op e):=Tr.lF _ _ _
theorem lE(H:Heap)(r f:Nat)(k:Bool)(c:aI)(e:an){i:Nat}(h:i≠H.next):(H.gP r f k c e).get i=H.get i:=Tr.jy _ _ (Ne.symm h)
theorem zO(H:Heap)(r f:Nat)(k:Bool)(c:aI)(e:an):(H.gP r f k c e).bp r=(bif k then H.next else f,H.next):=by simp[Heap.bp,Heap.gP,Tr.lF]
theorem HK(H:Heap)(o f:Nat)(k:Bool)(c:aI)(e:an)(h:r≠o):(H.gP o f k c e).bp r=H.bp r:=by grind[Heap.bp,Heap.gP,Tr.jy]
theorem Ui(E:bg H)(B:bQ S Y H w){z:Nat}{t:Nat}(N:Y z=J p)(hg:H.get z=J (.cells l t fl e))(n9:fl≠.ro)(EP:(H.bp t).2=z)(n:Nat)(BF:n=(H.bp t).1)(c:aI)(d:Bool)(q:Pl)(hc:c.length=q.len)(h0:w.heap.size<=w'.heap.size)(vF:w'.os=w.os/\w'.tape=w.tape/\w'.output=w.output)(hold:∀b,b<w.heap.size->b≠p.aZ->w'.heap[b]?=w.heap[b]?)(hw:(q.aZ=p.aZ/\p.base+p.len<=q.base+q.len)\/(w.heap.size<=q.aZ/\q.aZ<w'.heap.size))(afm:d=C->∀cs e1 fz,w.heap[p.aZ]?=J (.cells cs e1 fz)->∃rG,w'.heap[p.aZ]?=J (.cells rG e1 fz)/\rG.size=cs.size/\∀k,k<p.base+p.len->rG[k]?=cs[k]?)(mZ:mq Y w' (.cells c t .op e) q):bg (H.gP t n d c e)/\bQ (more S H.next) (fo Y H.next q) (H.gP t n d c e) w'/\Fr Y H w (fo Y H.next q) (H.gP t n d c e) w':=by
 have hid:=E.get z _ hg;have vG:=(B.stat.cC z p N).1;have cD:Y H.next=Z:=B.stat.VY E (bS _);have kW:=aj1 q cD;have R:rootOf H z=t:=qo hg;have awY:t<H.next:=by have:=(E.root z l t fl e hg).1;omega
 have X:¬fM H z:=by rintro⟨F,G,A,h⟩;rw[hg]at h;simp at h;exact n9 h.2.2.1
 have fL:=h0;have U3:q.aZ<w'.heap.size:=by
   rcases hw with⟨D,_⟩|⟨_,D⟩;.rw[D];omega
   .exact D
 have Jl:∀i,i≠H.next->rootOf (H.gP t n d c e) i=rootOf H i:=λi h=>by unfold rootOf;rw[lE H t n d c e h]
 have Zt:rootOf (H.gP t n d c e) H.next=t:=qo (ya ..);have DE:∀i,i≠H.next->(fM (H.gP t n d c e) i↔fM H i):=λi h=>by unfold fM;rw[lE H t n d c e h]
 have lt:∀{i r},Y i=J r->i≠H.next:=λh A=>by have:=B.stat.lt E h;omega
 have SB:∀i,i<H.next->je (H.gP t n d c e) i->je H i/\(rootOf H i=t->H.get i≠Z->(∃l r fl e,H.get i=J (.cells l r fl e))->d=C):=by
   intro i jz O;have hn:i≠H.next:=ab;constructor
   . intro F G m A P;have:=O F G m A (by rw[lE H t n d c e hn];exact P);by_cases hr:G=t;.subst hr;rw[zO]at this;cases d with|true=>simp at this;omega|false=>simp at this;rw[<-BF];exact this
     .rw[HK H t n d c e hr]at this;exact this
   . intro hr _⟨F,G,m,A,P⟩;have:=O F G m A (by rw[lE H t n d c e hn];exact P);have LD:G=t:=by rw[<-hr,qo P]
     subst LD;rw[zO]at this;cases d with|true=>simp at this;omega|false=>rfl
 refine⟨⟨?_,?_,?_,?_,?_⟩,⟨⟨?_,?_,?_,?_⟩,?_⟩,?_⟩
 . intro i o h;show i<H.next+1;by_cases u:i=H.next;.omega
   .rw[lE H t n d c e u]at h;have:=E.get i o h;omega
 . intro i F G m A h;by_cases u:i=H.next;.subst u;rw[ya]at h;obtain⟨_,rfl,_,_⟩:=ch.cells.inj (by simpa using h);rw[zO];exact⟨ab,bS _⟩
   . rw[lE H t n d c e u]at h;obtain⟨D,W⟩:=E.root i F G m A h;refine⟨D,?_⟩;by_cases hr:G=t;.subst hr;rw[zO];have:=E.get i _ h;show i<=H.next;omega
     .rw[HK H t n d c e hr];exact W
 . intro i F G m A h;by_cases u:i=H.next;.subst u;rw[ya]at h;obtain⟨_,rfl,_,_⟩:=ch.cells.inj (by simpa using h);rw[lE H t n d c e ab];exact E.oB z l t fl e hg
   .rw[lE H t n d c e u]at h;have D:=(E.root i F G m A h).1;have W:=E.get i _ h;rw[lE H t n d c e ab];exact E.oB i F G m A h
 . intro r f h;show r<H.next+1/\f.2<H.next+1;by_cases hr:r=t
   . subst hr;have h':(H.gP r n d c e).dp.get r=J (bif d then H.next else n,H.next):=Tr.lF _ _ _;rw[h']at h;have:f=(bif d then H.next else n,H.next):=by simpa using h.symm
     subst this;exact⟨ab,by show H.next<H.next+1;omega⟩
   .have h':(H.gP t n d c e).dp.get r=H.dp.get r:=Tr.jy _ _ (Ne.symm hr);rw[h']at h;have:=E.dp r f h;omega
 .exact Nat.le_succ_of_le E.bA
 . intro i r hr;by_cases u:i=H.next
   . subst u;rw[jH]at hr;obtain rfl:q=r:=by simpa using hr
     exact⟨U3,by rw[ya];rfl⟩
   .rw[lh Y q u]at hr;obtain⟨D,W⟩:=B.stat.cC i r hr;exact⟨ab,by rw[lE H t n d c e u];exact W⟩
 . intro i r F G m A hr P;by_cases u:i=H.next
   . subst u;rw[jH]at hr;obtain rfl:q=r:=by simpa using hr
     rw[ya]at P;obtain⟨rfl,_,_,_⟩:=ch.cells.inj (by simpa using P);exact hc
   .rw[lh Y q u]at hr;rw[lE H t n d c e u]at P;exact B.stat.len i r F G m A hr P
 . intro i j r s hr I M eH;by_cases U:i=H.next
   . subst U;rw[jH]at hr;obtain rfl:q=r:=by simpa using hr
     by_cases L:j=H.next;.subst L;rfl
     . rw[lh Y q L]at I;rw[Zt,Jl j L];rcases hw with⟨D,_⟩|⟨D,_⟩;.rw[<-R];exact B.stat.inj z j p s N I (by rw[<-D,M]) X
       .have:=(B.stat.cC j s I).1;omega
   . rw[lh Y q U]at hr;have Iv:¬fM H i:=λh=>eH ((DE i U).2 h);by_cases L:j=H.next
     . subst L;rw[jH]at I;obtain rfl:q=s:=by simpa using I
       rw[Zt,Jl i U];rcases hw with⟨D,_⟩|⟨D,_⟩;.rw[<-R];exact B.stat.inj i z r p hr N (by rw[M,D]) Iv
       .have:=(B.stat.cC i r hr).1;omega
     .rw[lh Y q L]at I;rw[Jl i U,Jl j L];exact B.stat.inj i j r s hr I M Iv
 . intro i j r s hr I M eH kK;have U:i≠H.next:=by
     intro A;subst A;by_cases L:j=H.next;.omega
     .rw[lh Y q L]at I;have:=B.stat.lt E I;omega
   rw[lh Y q U]at hr;by_cases L:j=H.next
   . subst L;rw[jH]at I;obtain rfl:q=s:=by simpa using I
     rcases hw with⟨D,W⟩|⟨D,_⟩
     . by_cases UN:i=z
       . subst UN;rw[N]at hr;obtain rfl:p=r:=by simpa using hr
         exact W
       . have uE:r.aZ=p.aZ:=by rw[M,D]
         have T:=(B.stat.inj z i p r N hr uE.symm X).symm;have bY:i<z:=by cases P:H.get i with|none=>have:=(B.stat.cC i r hr).2;rw[P]at this;simp at this|some o=>cases Q:o.dZ with
            |true=>
            cases o<;>simp[ch.dZ]at Q;rename_i l1 r1 mV e1;have h3:=(E.root i l1 r1 mV e1 P).2;have h4:r1=t:=by rw[<-qo P,T,R]
            rw[h4,EP]at h3;omega|false=>
            have h4:=yF P Q;rw[h4,R]at T;obtain⟨F,m,A,hh⟩:=E.oB z l t fl e hg;rw[<-T,P]at hh;have:o=.cells F i m A:=by simpa using hh
            rw[this]at Q;simp[ch.dZ]at Q
         have:=B.stat.mono i z r p hr N uE (.inr X) bY;omega
     .have:=(B.stat.cC i r hr).1;omega
   .rw[lh Y q L]at I;exact B.stat.mono i j r s hr I M (eH.imp (λg h=>g ((DE i U).2 h)) λg h=>g ((DE j L).2 h)) kK
 . intro i r o hr hS O P;by_cases u:i=H.next
   . subst u;rw[jH]at hr;obtain rfl:q=r:=by simpa using hr
     rw[ya]at P;obtain rfl:ch.cells c t .op e=o:=by simpa using P
     exact mZ.mono kW rfl
   . rw[lh Y q u]at hr;have K:=P;rw[lE H t n d c e u]at K;have jz:=B.stat.lt E hr;rw[Jl i u]at hS;have Ur:S (rootOf H i):=by
       rcases hS with h|h;.exact h
       .have:=qZ E jz;omega
     obtain⟨wL,hk⟩:=SB i jz O;have PJ:=B.obj i r o hr Ur wL K;by_cases M:r.aZ=p.aZ;.have T:=B.stat.inj z i p r N hr M.symm X;rw[R]at T;cases Q:o.dZ with
       |true=>
         cases o<;>simp[ch.dZ]at Q;rename_i l1 r1 mV e1;have awh:=hk T.symm (by rw[K];simp) ⟨_,_,_,_,K⟩;have hle:r.base+r.len<=p.base+p.len:=by
          by_cases UN:i=z
          . subst UN;rw[N]at hr;obtain rfl:p=r:=by simpa using hr
            exact bS _
          . have h7:=(E.root i l1 r1 mV e1 K).2;have h8:r1=t:=by rw[<-qo K,<-T]
            rw[h8,EP]at h7;exact B.stat.mono i z r p hr N M (.inr X) ab
         obtain⟨ds,gz,ge,g1,g2,g3,g4,g5,g6,g7⟩:=PJ;rw[M]at g1;obtain⟨rG,k1,k2,k3⟩:=afm awh _ _ _ g1;refine mq.mono kW (w:=w') rfl ⟨rG,gz,ge,by rw[M];exact k1,by rw[k2];exact g2,g3,?_,g5,g6,g7⟩;intro k a vC;obtain⟨v,hv,E6⟩:=g4 k a vC;have z':k<r.len:=by have:=(am.1 vC).1;have:=B.stat.len i r l1 r1 mV e1 hr K;omega
         exact⟨v,by rw[k3 _ ab];exact hv,E6⟩|false=>
         have h7:=yF K Q;rw[h7]at T;obtain⟨F,m,A,hh⟩:=E.oB z l t fl e hg;rw[T,K]at hh;have:o=.cells F i m A:=by simpa using hh
         rw[this]at Q;simp[ch.dZ]at Q
     .exact PJ.mono kW (hold _ (B.stat.cC i r hr).1 M)
 . refine{ext:=kW,size:=fL,os:=vF.1,tape:=vF.2.1,output:=vF.2.2,next:=J4 _,bA:=rfl,bV:=?_,cI:=λr h=>QA h,root:=?_,view:=?_,nB:=?_,new:=?_,ro:=?_,keep:=λi o' jz P=>⟨o',by rw[lE H t n d c e ab];exact P,rk.refl o'⟩,cover:=λi D W=>⟨q,by have h3:i<H.next+1:=W;have:i=H.next:=ab;rw[this];exact jH _ _ _⟩,mG:=?_,vg:=?_,vw:=?_};.intro r h;show r∈(bif d then Heap.note H.bA t H.bV else H.bV);cases d with|true=>exact QA h|false=>exact h
   .intro i jz;exact Jl i ab
   . intro i o jz ht LO P;have hn:i≠H.next:=ab;refine⟨by rw[lE H t n d c e hn];exact P,?_,λO=>(SB i jz O).1⟩;intro O F G m A K;rw[lE H t n d c e hn]at K;by_cases hr:G=t;.subst hr;rw[zO];cases d with|true=>exfalso;apply LO;rw[qo K];exact FJ _ (by grind[qo])|false=>simp only[bX];rw[BF];exact O F G m A K
     .rw[HK H t n d c e hr];exact O F G m A K
   . intro b M;by_cases A:b=p.aZ
     . refine .inr ⟨z,p,N,A.symm,X,?_⟩;rw[R];by_cases ht:t<H.bA;.exact .inr (.inr (FJ _ ht))
       omega
     simp_all
   . intro i r hr hφ;by_cases u:i=H.next
     . subst u;rw[jH]at hr;obtain rfl:q=r:=aT;refine⟨bS _,?_⟩;rcases hw with⟨D,_⟩|⟨D,_⟩
       . refine .inr ⟨z,p,N,D.symm,X,ab,?_⟩;rw[R];by_cases ht:t<H.bA;.exact .inr (FJ _ ht)
         omega
       omega
     grind[lh]
   .grind
   . intro i r hr hφ bY;by_cases u:i=H.next;.subst u;rw[Zt]at bY|-;exact⟨FJ _ bY,z,p,N,R⟩
     grind[lh]
   .intro r hr;have LD:r∈(bif d then Heap.note H.bA t H.bV else H.bV):=hr;cases d with|true=>rcases vN LD with x|⟨x,y⟩;all_goals grind|false=>exact .inl LD
   . intro r hr;rcases vN hr with x|⟨x,y⟩;.exact .inl x
     .exact .inr ⟨y,z,p,N,by rw[x];exact R⟩
theorem wz(b o n:Nat):(⟨b,o,Z⟩:Addr).add n=⟨b,o+n,Z⟩:=by simp[Addr.add]
theorem S0{b:Nat}(h:w.heap[b]?=J (.cells cs e fz))(o:Nat):w.cell? ⟨b,o,Z⟩=cs[o]?:=by grind[World.cell?]
theorem aek{b:Nat}(h:w.heap[b]?=J (.cells cs e (0,0)))(o:Nat):w.frozen? ⟨b,o,Z⟩=C:=by grind[World.frozen?]
theorem ZF{b:Nat}(h:w.heap[b]?=J (.cells cs e fz)):w.shape? b=J (e,cs.size):=by grind[World.shape?]
theorem aId{b:Nat}(h:w.heap[b]?=J (.cells cs e fz))(o:Nat):∀(n i:Nat)(a:Array aD),o+i+n<=cs.size->(loadCellsFrom ⟨b,o,Z⟩ i n a).run P w=.ok (a++cs.extract (o+i) (o+i+n)) w:=by intro n;induction n with|zero=>simp_all[loadCellsFrom]|succ n d=>
 intro i a l;have Y:o+i<cs.size:=ab;have c:w.cell? ⟨b,o+i,Z⟩=J cs[o+i]:=by rw[S0 h,nr _]
 simp only[loadCellsFrom,wz,Sem.run_bind,run_load,c,bi];rw[d _ _ ab];congr 1;apply Array.ext';simp only[Array.toList_append,Array.toList_push,Array.toList_extract,wv];have e3:o+i+(n+1)-(o+i)=n+1:=ab;have e4:o+i+(n+1)-(o+i+1)=n:=ab;grind[D3]
theorem Jq{b:Nat}(h:w.heap[b]?=J (.cells cs e fz)){n:Nat}(a:I+n<=cs.size):(loadCells ⟨b,I,Z⟩ n).run P w=.ok (cs.extract I (I+n)) w:=by unfold loadCells;rw[aId h _ n 0 _ ab];simp
def over(c:Array aD)(o:Nat)(v:List aD):Array aD:=(c.toList.take o++v++c.toList.drop (o+v.length)).toArray
theorem Ar(c:Array aD)(o:Nat)(v:List aD)(h:o+v.length<=c.size):(over c o v).size=c.size:=by grind[over]
theorem uV(c:Array aD)(o:Nat)(v:List aD)(h:o+v.length<=c.size)(i:Nat):(over c o v)[i]?=if o<=i/\i<o+v.length then v[i-o]? else c[i]?:=by grind[over]
theorem aIi{b:Nat}(h:w.heap[b]?=J (.cells cs e (0,0))){o:Nat}(a:o<cs.size)(d:v7 v=V):(store ⟨b,o,Z⟩ v).run P w=.ok () (w.setCell ⟨b,o,Z⟩ v):=by
 have c:w.cell? ⟨b,o,Z⟩=J cs[o]:=by rw[S0 h,nr a]
 have f:=aek h o;unfold store;cases v<;>simp[v7]at d<;>simp[Sem.run,c,f]
theorem aIW{b:Nat}(h:w.heap[b]?=J (.cells cs e fz))(o:Nat)(v:aD):w.setCell ⟨b,o,Z⟩ v=World.eU w b (.cells (cs.setIfInBounds o v) e fz):=by unfold World.setCell World.eU;congr 1;grind
theorem ZC(w:aV)(b:Nat)(o a:Obj):World.eU (World.eU w b o) b a=World.eU w b a:=by simp[World.eU]
theorem aIV{b:Nat}{o:Obj}(h:w.heap[b]?=J o):World.eU w b o=w:=by
 unfold World.eU;have:w.heap.setIfInBounds b o=w.heap:=by grind
 simp_all
theorem aIj:∀(vs:List aD)(w:aV)(b:Nat)(cs:Array aD)(e:an)(I i:Nat),w.heap[b]?=J (.cells cs e (0,0))->I+i+vs.length<=cs.size->(∀v,v∈vs->v7 v=V)->(storeCells ⟨b,I,Z⟩ vs i).run P w=.ok () (World.eU w b (.cells (over cs (I+i) vs) e (0,0))):=by intro vs;induction vs with|nil=>simp_all[over,aIV,storeCells]|cons v vs c=>intro w b cs e I i h l s;have a:=(ap.1 h).1;have o:I+i<cs.size:=ai;simp only[storeCells,wz,Sem.run_bind];rw[aIi h o aT];simp only[bi];rw[aIW h];rw[c _ b _ e _ _ (AA w _ a) ai aT];rw[ZC];congr 3;apply Sb;grind[uV]
theorem Na{b:Nat}(h:w.heap[b]?=J (.cells cs e (0,0))){vs:List aD}(n:I+vs.length<=cs.size)(s:∀v,v∈vs->v7 v=V):(storeCells ⟨b,I,Z⟩ vs).run P w=.ok () (World.eU w b (.cells (over cs I vs) e (0,0))):=aIj vs w b cs e I 0 h ab s
def dD{d:TypeDesc}(h:P.underlying t=J d)(w:aV):(underlying t).run P w=.ok d w:=run_underlying h w
theorem B8{i:TypeInfo}(h:P.info? t=J i)(w:aV):(typeInfo t).run P w=.ok i w:=by simp[typeInfo,h]
theorem mg{t n:Nat}(h:aW P t=J n)(w:aV):(sizeOf t).run P w=.ok n w:=by cases hi:P.info? t<;>simp_all[aW,sizeOf,B8]
theorem Rn{b:Bool}(h:AM.isAgg P t=J b)(w:aV):(Go.isAgg t).run P w=.ok b w:=by
 unfold AM.isAgg at h;rcases u:P.underlying t with _|d;.grind
 cases d<;>simp[u]at h<;>subst h<;>simp[Go.isAgg,dD u]
theorem Gg{z:AV}(h:yZ P t=J z)(w:aV):∃v,(zeroValue t).run P w=.ok v w/\VR Y z v:=by
 unfold yZ at h;rcases hi:P.info? t with _|i;.grind
 cases a:i.zero<;>simp_all[zeroValue,B8,V9]
def ig(S:Nat->Prop)(d:bc)(H:Heap)(w:aV)(c:bc)(a:Heap)(b:aV):Prop:=bg a/\bQ (more S H.next) c a b/\Fr d H w c a b
section
variable{P:aH}{S:Nat->Prop}{Y:bc}{H:Heap}{w:aV}
theorem bQ.more(i:bg H)(s:bQ S Y H w):bQ (AM.more S H.next) Y H w:=⟨s.stat,λid p o a b c d=>s.obj id p o a (by
 rcases b with h|h;.omega
 .have:=qZ i (s.stat.lt i a);omega) c d⟩
theorem ig.refl(h:bg H)(s:bQ S Y H w):ig S Y H w Y H w:=⟨h,s.more h,Fr.refl Y H w⟩
def bQ.up{T:Nat->Prop}(s:bQ S Y H w)(h:∀r,T r->S r):bQ T Y H w:=⟨s.stat,λid p o a b=>s.obj id p o a (h _ b)⟩
theorem Kr{i:Nat}(h:H.cellsOf i=J l):∃r fl e,H.get i=J (.cells l r fl e)/\(H.bp r).1<=i:=by grind[Heap.cellsOf,dj]
theorem aln{i:Nat}{l r f e}(g:H.get i=J (.cells l r f e))(h:(H.bp r).1<=i):je H i:=by intro c d a b I;grind
def CB(s:bQ S Y H w){i:Nat}(b:Y i=J p)(c:S (rootOf H i))(h:H.get i=J (.cells l r fl e))(a:(H.bp r).1<=i):mq Y w (.cells l r fl e) p/\l.length=p.len:=⟨s.obj i p _ b c (aln h a) h,s.stat.len i p l r fl e b h⟩
theorem mq.slice(h:mq Y w (.cells l r fl e) p)(g:l.length=p.len){n:Nat}(i:I+n<=l.length):∃cs fz e1,w.heap[p.aZ]?=J (.cells cs e1 fz)/\p.base+I+n<=cs.size/\ba Y ((l.drop I).take n) (cs.extract (p.base+I) (p.base+I+n)).toList/\(∀x,x∈(l.drop I).take n->x.aU=V):=by obtain⟨cs,fz,e1,a,c,d,f,b,_,_⟩:=h;refine⟨cs,fz,e1,a,ab,⟨ai,?_⟩,λx j=>b x ai⟩;grind
theorem agG(t:bQ S Y H w){i n:Nat}(s:Y i=J p)(j:S (rootOf H i))(h:H.load i I n=J l):∃cs:Array aD,(loadCells ⟨p.aZ,p.base+I,Z⟩ n).run P w=.ok cs w/\ba Y l cs.toList/\(∀x,x∈l->x.aU=V):=by
 unfold Heap.load at h;rcases c:H.cellsOf i with _|m;.grind
 simp only[c,cR,dj,dT,pV,qD]at h;by_cases a:I+n<=m.length;.obtain rfl:(m.drop I).take n=l:=ai;obtain⟨r,fl,e,k,v⟩:=Kr c;obtain⟨q,o⟩:=CB t s j k v;obtain⟨cs,fz,e1,b,d,f,g⟩:=q.slice o a;exact⟨_,Jq b d,f,g⟩
 grind
theorem agE(s:bQ S Y H w){i:Nat}(o:Y i=J p)(g:S (rootOf H i))(h:AM.loadVar P H t i I=J a):∃v,(Go.loadVar t ⟨p.aZ,p.base+I,Z⟩).run P w=.ok v w/\VR Y a v:=by
 unfold AM.loadVar at h;rcases d:AM.isAgg P t with _|b;.grind
 cases b with|true=>
 simp only[d]at h;rcases z:aW P t with _|n;.grind
 simp only[z,cR,iI]at h;obtain⟨l,k,rfl⟩:=h;obtain⟨cs,hr,f,A⟩:=agG (P:=P) s o g k;exact⟨_,by simp_all[Go.loadVar,Rn,mg],f.agg A cs rfl⟩|false=>
 simp only[d]at h;rcases j:H.cellsOf i with _|m;.grind
 simp only[j,cR,w8]at h;obtain⟨r,fl,e,x,f⟩:=Kr j;obtain⟨y,k⟩:=CB s o g x f;obtain⟨cs,fz,e1,q,D,E,u,F,_,_⟩:=y;obtain⟨c,B,hr⟩:=u _ a h;exact⟨c,by simp[Go.loadVar,Rn d,S0 q,B],hr⟩
theorem Nt(A:bg H)(s:bQ S Y H w){d:Nat}{f:List aD}(c:Y d=J p)(u:S (rootOf H d))(h:H.store d I vs=J H')(v:ba Y vs f)(O:∀x,x∈vs->x.aU=V):∃w',(storeCells ⟨p.aZ,p.base+I,Z⟩ f).run P w=.ok () w'/\bg H'/\bQ S Y H' w'/\Fr Y H w Y H' w':=by
 unfold Heap.store at h;split at h
 . rename_i l r fl e g;simp only[dj,bR,dT]at h;by_cases z:((H.bp r).1<=d/\(H.bp r).2=d/\I+vs.length<=l.length)/\fl≠.ro
   . obtain⟨⟨o,L,q⟩,E⟩:=z;have t:H.dI d r (.cells (fV l I vs) r fl e)=H':=by grind
     obtain⟨B,N⟩:=CB s c u g o;have n:=v.1;obtain⟨cs,fz,e1,g1,g2,g3,g4,g5,g6,g7⟩:=B;obtain⟨rfl,rfl⟩:=g6 E;have m:¬fM H d:=by rintro⟨R,T,F,M⟩;grind
     have k:∀x,x∈f->v7 x=V:=by intro x j;obtain⟨i,y⟩:=a8.1 j;have K:i<vs.length:=ai;exact(v.2 i _ _ (dA K) y).aU aT
     have Q:=qo g;refine⟨_,Na g1 ab k,?_⟩;rw[<-t,<-Q];refine aiB A s _ _ c g m ?_ (λh=>by grind[ch.dZ]) ?_;.grind[yO]
     . have G:=(s.stat.cC d p c).1;refine⟨_,_,_,AA w _ G,?_,g3,?_,?_,λ_=>⟨rfl,rfl⟩,g7⟩;.grind[Ar]
       . intro i a b;rw[yN l _ vs q]at b;rw[uV _ _ _ ab];by_cases D:I<=i/\i<I+vs.length;.rw[if_pos D]at b;obtain⟨x,j,hr⟩:=v.get b;grind
         grind
       grind[DK]
   grind[fQ.wr]
 grind
theorem aKJ(g:bg H)(s:bQ S Y H w){i:Nat}(j:Y i=J p)(f:S (rootOf H i))(h:AM.storeVar P H t i I a=J H')(k:VR Y a v):∃w',(Go.storeVar t ⟨p.aZ,p.base+I,Z⟩ v).run P w=.ok () w'/\bg H'/\bQ S Y H' w'/\Fr Y H w Y H' w':=by
 unfold AM.storeVar at h;rcases z:aW P t with _|n;.grind
 rcases c:a.cells with _|vs;.grind
 simp only[z,c,cR,bR,dT]at h;by_cases d:vs.length=n
 . simp only[d,eB,aR]at h;obtain⟨b,e⟩:=k.cells c;obtain⟨w',l,A⟩:=Nt (P:=P) g s j f h b e;have L:v.cells.size=n:=by rw[<-d,b.1];rfl
   simp_all[Go.storeVar,mg]
 grind
theorem QI(d:bg H)(s:bQ S Y H w)(l:aI)(f:fQ)(e:an)(c:Array aD)(h:ba Y l c.toList)(j:∀x,x∈l->x.aU=V):∃p:Pl,p.aZ=w.heap.size/\p.base=0/\p.oF=c.size/\p.len=l.length/\(newRow e c).run P w=.ok ⟨p.aZ,0,Z⟩ (World.push w (.cells c e))/\ig S Y H w (fo Y H.next p) (H.cQ l f e) (World.push w (.cells c e)):=by
 have g:=by simpa using h.1
 refine⟨⟨_,0,_,_⟩,rfl,rfl,rfl,rfl,?_,?_⟩;.rfl
 . refine Kg d s _ _ _ rfl ?_ ?_;.grind
   .refine⟨c,_,_,xd w _,rfl,ai,?_,j,λ_=>⟨rfl,rfl⟩,λ_=>⟨rfl,g.symm⟩⟩;intro i a b;obtain⟨v,k,m⟩:=h.get b;grind
theorem Tm(u o e t:Nat):u<=(Question.appendCap u o e).cut t:=by simp[Question.cut]
def ahx(u o e:Nat):(Question.appendCap u o e).forced=C:=rfl
theorem ahj(u o:Nat)(h:o<u):Builtin.nextslicecap u o<=2*u+192:=by grind[Builtin.nextslicecap,Builtin.growBy]
theorem ai8{y t:an}{d:TypeDesc}{s:Nat}{T j n:Nat}{e:Array aD}(h:ats[0]?=J t)(u:P.underlying t=J (.slice elem))(f:aW P elem=J s)(b:ats[1]?=J xt)(g:P.underlying xt=J d)(o:∀k,d≠.int k)(i:(Builtin.lenOf xv).run P w=.ok n w)(m:(oH s n xv).run P w=.ok e w)(l:T+n<=j)(c:(match base with|some a=>storeCells (a.add (T*s)) e.toList|none=>pure ()).run P w=.ok () w'):(tj ats y #[.slice base T j,xv]).run P w=.ok (.slice base (T+n) j) w':=by
 rcases base with _|a;.simp at c;subst c;simp[tj,h,b,dD u,mg f,dD g,i,m,l]
 simp[tj,h,b,dD u,mg f,dD g,i,m,l,c]
theorem aiV{u b:Nat}(j:cap<=2*u+192)(h:u*b<=bm)(a:1<=u):¬(cap*b>2^48):=by have E:u*b<=1099511627776:=h;have c:cap*b<=(194*u)*b:=lU _ ab;grind
theorem run_append_grow{ty s:an}{d:TypeDesc}{i:TypeInfo}{eT jc n:Nat}{old e:Array aD}(a:ats[0]?=J s)(u:P.underlying s=J (.slice elem))(j:P.info? elem=J i)(z:i.zero=J zv)(b:ats[1]?=J xt)(g:P.underlying xt=J d)(q:∀k,d≠.int k)(l:(Builtin.lenOf xv).run P w=.ok n w)(m:(oH i.size n xv).run P w.drew=.ok e w.drew)(p:¬eT+n<=jc)(o:(oH i.size eT (.slice base eT jc)).run P w.drew=.ok old w.drew)(R:(eT+n)*i.bytes<=bm)(h:eT+n<=bm):∃c,eT+n<=c/\(tj ats ty #[.slice base eT jc,xv]).run P w=.ok (.slice (J ⟨w.heap.size,0,Z⟩) (eT+n) c) (World.push w.drew (.cells (old++e++nT zv.cells (c-(eT+n))) elem)):=by
 refine⟨_,Tm (eT+n) jc elem (w.tape w.drawn (.appendCap (eT+n) jc elem)),?_⟩;have f:aW P elem=J i.size:=by grind[aW]
 have D:¬((9223372036854775807:Int)<((eT:Int)+(n:Int))):=by have:eT+n<=1099511627776:=h;omega
 have t:¬(2^48<Builtin.nextslicecap (eT+n) jc*i.bytes):=aiV (ahj _ _ ab) R ab;simp[tj,a,b,dD u,mg f,dD g,l,p,B8 j,D,t,m,o,zeroValue,z,newRow,newObj,Sem.run,World.push,ahx];rfl
theorem aIa{t s:an}{k:fR}{i:TypeInfo}{e j n:Nat}(b:ats[0]?=J s)(u:P.underlying s=J (.slice elem))(l:P.info? elem=J i)(z:i.zero=J zv)(d:ats[1]?=J xt)(g:P.underlying xt=J (.int k))(Y:n*i.bytes<=bm)(H:n<=bm)(p:e+n<=j)(L:i.size≠0)(c:(match base with|some a=>storeCells (a.add (e*i.size)) (nT zv.cells n).toList|none=>pure ()).run P w=.ok () w'):(tj ats t #[.slice base e j,.int .i64 (.ofNat n)]).run P w=.ok (.slice base (e+n) j) w':=by
 have f:aW P elem=J i.size:=by grind[aW]
 have q:IntKind.i64.wrap (dk n)=dk n:=by rw[<-Ce];have:n<=1099511627776:=H;show(bif ct n 9223372036854775808 then dk n else _)=_;grind[eQ]
 have o:IntKind.i64.wrap (n:Int)=(n:Int):=q;have G:¬((n:Int)<0):=ab;have m:¬((281474976710656:Int)<(n:Int)*(i.bytes:Int)):=by have r:n*i.bytes<=1099511627776:=Y;omega
 have D:(zeroValue elem).run P w=.ok zv w:=by simp_all[zeroValue,B8]
 have E:n*i.size=0->n=0:=λh=>(Nat.mul_eq_zero.1 h).resolve_right L;rcases base with _|a;.simp at c;subst c;simp[tj,b,d,dD u,mg f,dD g,asInt,asIntOf,o,G,B8 l,m,p,D]
 simp[tj,b,d,dD u,mg f,dD g,asInt,asIntOf,o,G,B8 l,m,p,D];by_cases v:n*i.size=0<;>simp_all[nT]
theorem ai9{ty t:an}{k:fR}{i:TypeInfo}{eT jc n:Nat}{old:Array aD}(a:ats[0]?=J t)(u:P.underlying t=J (.slice elem))(g:P.info? elem=J i)(p:i.zero=J zv)(b:ats[1]?=J xt)(d:P.underlying xt=J (.int k))(r:¬eT+n<=jc)(L:i.size≠0)(o:(oH i.size eT (.slice base eT jc)).run P w.drew=.ok old w.drew)(s:(eT+n)*i.bytes<=bm)(l:eT+n<=bm):∃c,eT+n<=c/\(tj ats ty #[.slice base eT jc,.int .i64 (.ofNat n)]).run P w=.ok (.slice (J ⟨w.heap.size,0,Z⟩) (eT+n) c) (World.push w.drew (.cells (old++nT zv.cells n++nT zv.cells (c-(eT+n))) elem)):=by
 refine⟨_,Tm _ jc elem (w.tape w.drawn (.appendCap (eT+n) jc elem)),?_⟩;have f:aW P elem=J i.size:=by grind[aW]
 have Y:eT+n<=1099511627776:=l;have j:IntKind.i64.wrap (dk n)=dk n:=by rw[<-Ce];show(bif ct n _ then dk n else _)=_;grind[eQ]
 have q:IntKind.i64.wrap (n:Int)=(n:Int):=j;have G:=ab;have m:¬((281474976710656:Int)<(n:Int)*(i.bytes:Int)):=by have v:(eT+n)*i.bytes<=1099511627776:=s;grind
 have D:¬((9223372036854775807:Int)<((eT:Int)+(n:Int))):=ab;have M:¬(2^48<Builtin.nextslicecap _ jc*i.bytes):=aiV (ahj _ _ ab) s ab;have z:¬(n*i.size=0)\/n=0:=by grind[Nat.mul_eq_zero]
 simp[tj,a,b,dD u,mg f,dD d,asInt,asIntOf,q,B8 g,m,r,D,M,o,zeroValue,p,newRow,newObj,Sem.run,World.push,ahx];rcases z with h|h;.rw[if_neg h];rfl
 . subst h;have e:nT zv.cells 0=#[]:=by simp[nT]
   rw[e,Array.empty_append];simp;rfl
def ig.drew(h:ig S Y H w.drew A H' w'):ig S Y H w A H' w':=⟨h.1,h.2.1,⟨h.2.2.ext,h.2.2.size,h.2.2.os,h.2.2.tape,h.2.2.output,h.2.2.next,h.2.2.bA,h.2.2.bV,h.2.2.cI,h.2.2.root,h.2.2.view,h.2.2.nB,h.2.2.new,h.2.2.ro,h.2.2.keep,h.2.2.cover,h.2.2.mG,h.2.2.vg,h.2.2.vw⟩⟩
def bQ.drew(h:bQ S Y H w):bQ S Y H w.drew:=h.same rfl
theorem ako{z:aI}(c:ba Y z zv.cells.toList)(n:Nat):ba Y (jP n z) (nT zv.cells n).toList:=by
 have l:z.length=zv.cells.size:=by simpa using c.1
 refine⟨by grind[Ga,nT],λi a v b h=>?_⟩;have hi:i<n*z.length:=by grind[Ga]
 rw[Zr n z i hi]at b;have K:i<n*zv.cells.size:=ai;have o:0<zv.cells.size:=by grind
 simp only[nT,Array.toList_map,ki,Array.toList_range]at h;rw[J2 K]at h;simp only[gJ,wx]at h;have m:i%zv.cells.size<zv.cells.size:=Nat.mod_lt _ o;rw[getElem!_pos zv.cells _ m]at h;refine c.2 (i%z.length) a v b ?_;grind
theorem aaB(z:Array aD)(n:Nat):(nT z n).size=n*z.size:=by simp[nT]
theorem Rg{z:aI}(h:∀x,x∈z->x.aU=V)(n:Nat):∀x,x∈jP n z->x.aU=V:=by induction n<;>grind[Rf,Zs]
theorem aIb{b g l e:Nat}{w:aV}(h:(loadCells ⟨b,g,Z⟩ (l*e)).run P w=.ok cs w):(oH e l (.slice (J ⟨b,g,Z⟩) l cap)).run P w=.ok cs w:=by grind[oH]
theorem abb{i:TypeInfo}(G:bg H)(y:bQ S Y H w)(hS:∀r,S r){aa:Sem aD}{s:AV}{sv:aD}{g:aI}{d:Nat}{u:Array aD}{r:AV}(LS:zv.cells.size=i.size)(h:nA H elem i.size i.bytes s g d=J (r,H'))(jm:VR Y s sv)(hx:ba Y g u.toList)(il:∀x,x∈g->x.aU=V)(t:g.length=d*i.size)(mb:∀base T L w',sv=.slice base T L->T+d<=L->(match base with|some a=>storeCells (a.add (T*i.size)) u.toList|none=>pure ()).run P w=.ok () w'->d*i.bytes<=bm->d<=bm->aa.run P w=.ok (.slice base (T+d) L) w')(Pv:∀base T L f,sv=.slice base T L->¬T+d<=L->(oH i.size T (.slice base T L)).run P w.drew=.ok f w.drew->(T+d)*i.bytes<=bm->T+d<=bm->∃c,T+d<=c/\aa.run P w=.ok (.slice (J ⟨w.heap.size,0,Z⟩) (T+d) c) (World.push w.drew (.cells (f++u++nT zv.cells (c-(T+d))) elem))):∃A v' w',aa.run P w=.ok v' w'/\VR A r v'/\ig S Y H w A H' w':=by
 obtain⟨z,avK⟩:∃z,z=i.size:=⟨_,rfl⟩;rw[<-avK]at h t mb Pv LS;have P4:u.size=d*z:=by rw[<-t];simpa using hx.1.symm
 unfold nA at h;simp only[bR,dj,dT,pV,qD,ly]at h;by_cases he0:z=0;.grind
 have avJ:0<z:=Nat.pos_of_ne_zero he0;simp only[he0,lA,bX]at h;have fresh:∀(f:Array aD)(E:aI)(m c:Nat),ba Y E f.toList->(∀x,x∈E->x.aU=V)->f.size=m*z->m+d<=c->∃q:Pl,q.aZ=w.heap.size/\q.base=0/\q.len=(E++g).length/\(∀A,A H.next=J q->VR A (.sl H.next 0 (m+d) Z z) (.slice (J ⟨w.heap.size,0,Z⟩) (m+d) c))/\(∀root,mq Y (World.push w.drew (.cells (f++u++nT zv.cells (c-(m+d))) elem)) (.cells (E++g) root .op elem) q):=by
  intro f E m c K vF X D;have U':(f++u++nT zv.cells (c-(m+d))).size=c*z:=by simp only[Array.size_append,aaB,X,P4,LS];rw[<-zo,<-zo];grind
  have aOh:(E++g).length=(m+d)*z:=by rw[ib,t,show E.length=f.size from by simpa using K.1,X,<-zo]
  have hle:(m+d)*z<=c*z:=lU _ D;refine⟨⟨w.heap.size,0,c*z,(E++g).length⟩,rfl,rfl,rfl,?_,?_⟩;.intro A hψ;refine .sl H.next 0 (m+d) Z z _ _ c hψ D aP (λk hk=>ai) (λ_=>?_) (λ_=>rfl) avJ ?_;all_goals grind
  . intro root;refine⟨_,(0,0),_,xd w.drew _,U',?_,?_,?_,λ_=>⟨rfl,rfl⟩,λh=>ai⟩;.grind
    .intro k a ha;have ko:=K.append hx;obtain⟨v,hv,hr⟩:=ko.get ha;grind
    grind
 cases jm with
 |bu=>
  simp only at h;by_cases jZ:d=0;.subst jZ;simp at h;obtain⟨rfl,rfl⟩:=h;refine⟨Y,.slice Z 0 0,w,?_,.bu,ig.refl G y⟩;simp_all
  . simp only[jZ,lA,bX]at h;by_cases oq:d*i.bytes<=bm/\d<=bm;.have:(decide (d.mul i.bytes<=bm)&&decide (d<=bm))=V:=ai;rw[this]at h;simp at h;obtain⟨rfl,rfl⟩:=h;obtain⟨c,D,N⟩:=Pv Z 0 0 #[] rfl ab (by rfl) ai ab;obtain⟨q,Q,h2,h3,h4,R⟩:=fresh #[] [] 0 c (ba.nil Y) aP aP D;simp only[jJ]at h3 R;have wM:=Kg G y.drew (.cells g H.next .op elem) _ q Q (λl r fl e hh=>by grind) (R H.next);refine⟨fo Y H.next q,_,_,N,?_,ig.drew wM⟩;grind[jH]
    grind|sl id I len cap e p U j B hl ht D K hr C5 pK=>
  simp only at h;by_cases EJ:(e=z/\(len+d)*i.bytes<=bm)/\len+d<=bm
  . obtain⟨⟨rfl,sR⟩,U6⟩:=EJ;have:(decide (e=e)&&(decide ((len.add d).mul i.bytes<=bm)&&decide (len.add d<=bm)))=V:=by grind
    rw[this]at h;simp only[aR]at h;have mY:d*i.bytes<=bm:=gw (lU _ ab) sR;by_cases jZ:d=0
    . subst jZ;simp at h;obtain⟨rfl,rfl⟩:=h;have E7:u=#[]:=by grind
      subst E7;refine⟨Y,.slice (J U) (len+0) j,w,?_,?_,ig.refl G y⟩;.exact mb _ len j w rfl ab (by rfl) mY ab
      .exact .sl id I len cap e p U j B hl ht D K hr C5 pK
    .simp only[jZ,lA,bX]at h;cases hg:H.get id with|none=>grind|some o=>cases o with|map _ _|mapIter _ _ _ _|loop _|deferred _=>grind|cells l root fl e0=>
      simp only[hg]at h;by_cases BF:(H.bp root).1<=id
      . simp only[BF,eB,aR]at h;obtain⟨hQ,uH⟩:=CB y B (hS _) hg BF;have tN:j≠0->U=⟨p.aZ,p.base+I,Z⟩:=hr;obtain⟨cs,fz,e1,kV,ji,Ux,Uy⟩:=hQ.slice uH (I:=I) (n:=len*e) ab;have yd:cs.size=p.oF:=by obtain⟨rG,Ud,_,g1,g2,_⟩:=hQ;grind
        have hold:∃f:Array aD,(oH e len (.slice (J U) len j)).run P w.drew=.ok f w.drew/\ba Y ((l.drop I).take (len*e)) f.toList/\f.size=len*e:=by
         by_cases vz:j=0;.have wS:len=0:=ab;subst wS;simp[oH,loadCells,loadCellsFrom,ba.nil]
         .rw[tN vz];refine⟨cs.extract (p.base+I) (p.base+I+len*e),?_,Ux,ai⟩;exact aIb (Jq (w:=w.drew) kV ji)
        obtain⟨f,W,Is,UZ⟩:=hold;have PY:∀{F:Heap},H.store id (I+len*e) g=J F->len+d<=j->∃w',aa.run P w=.ok (.slice (J U) (len+d) j) w'/\ig S Y H w Y F w':=by intro F O M;have Iv:=tN ab;obtain⟨w',ku,k1,k2,k3⟩:=Nt (P:=P) G y B (hS _) O hx il;refine⟨w',mb _ len j w' rfl M ?_ mY ab,k1,k2.up λr _=>hS r,k3⟩;grind[wz]
        cases cap with|some c=>
         obtain⟨rfl,kr⟩:=D c rfl;simp only at h;by_cases M:len+d<=j;.have:decide (len.add d<=j)=V:=mz M;rw[this]at h;simp only[aR,iI]at h;obtain⟨F,O,heq⟩:=h;obtain⟨rfl,rfl⟩:AV.sl id I (len.add d) (J j) e=r/\F=H':=ai;obtain⟨w',ku,U1⟩:=PY O M;refine⟨Y,_,w',ku,?_,U1⟩;refine .sl id I (len+d) (J j) e p U j B M ht D K hr C5 ?_;have:(len+d)*e<=j*e:=lU _ M;omega
         .have:decide (len.add d<=j)=C:=Bd M;rw[this]at h;simp only[bX,wx,J7]at h;obtain⟨rfl,rfl⟩:=h;obtain⟨c',yc,N⟩:=Pv _ len j f rfl M W sR U6;obtain⟨q,Q,h2,h3,h4,R⟩:=fresh f _ len c' Is Uy UZ yc;have wM:=Kg G y.drew (.cells ((l.drop I).take (len*e)++g) H.next .op elem) _ q Q (λl r fl e hh=>by grind) (R H.next);exact⟨fo Y H.next q,_,_,N,h4 _ (jH ..),ig.drew wM⟩|none=>
         have wU:=K rfl;simp only at h;by_cases jz:I+len*e+d*e<=l.length
         . have:decide (((I.add (len.mul e))).add (d.mul e)<=l.length)=V:=mz jz;rw[this]at h;simp only[aR,iI]at h;obtain⟨F,O,heq⟩:=h;obtain⟨rfl,rfl⟩:AV.sl id I (len.add d) Z e=r/\F=H':=ai;have M:len+d<=j:=by have:(len+d)*e<=j*e:=ai;grind[Nat.le_of_mul_le_mul_right]
           obtain⟨w',ku,U1⟩:=PY O M;refine⟨Y,_,w',ku,?_,U1⟩;refine .sl id I (len+d) Z e p U j B M ht D K hr C5 ?_;grind
         . have:decide (((I.add (len.mul e))).add (d.mul e)<=l.length)=C:=Bd jz;rw[this]at h;simp only[bX]at h;by_cases hw3:(fl≠.ro/\(H.bp root).2=id)/\e0=elem
           . obtain⟨⟨n9,EP⟩,rfl⟩:=hw3;have:(fl.wr&&(decide ((H.bp root).snd=id)&&decide (e0=e0)))=V:=by grind
             rw[this]at h;simp only[aR,wx,J7]at h;obtain⟨rfl,rfl⟩:=h;have kr:((l.drop I).take (len*e)++g).length=(len+d)*e:=by rw[ib,t,show((l.drop I).take (len*e)).length=f.size from by simpa using Is.1,UZ,<-zo]
             by_cases M:len+d<=j;.
              have Iv:=tN ab;obtain⟨rG,Ud,e',g1,g2,g3,g4,g5,g6,g7⟩:=hQ;rw[kV]at g1;obtain⟨rfl,rfl,rfl⟩:=Obj.cells.inj (bE g1);obtain⟨rfl,rfl⟩:=g6 n9;have jX:p.base+I+(len+d)*e<=cs.size:=by have:(len+d)*e<=j*e:=lU _ M;omega
              have IC:∀x,x∈u.toList->v7 x=V:=by intro x hZ;obtain⟨k,hk⟩:=a8.1 hZ;have kL:k<g.length:=ai;exact(hx.2 k _ _ (dA kL) hk).aU (il _ (G0 kL))
              have aOv:u.toList.length=d*e:=ab;have hmul:(len+d)*e=len*e+d*e:=zo _ _ _;have O:=Na (P:=P) kV (I:=p.base+I+len*e) (vs:=u.toList) ab IC;have N:=mb _ len j _ rfl M (by simp only;rw[Iv,wz];omega) mY ab;have qe:=Ui (w':=World.eU w p.aZ (.cells (over cs (p.base+I+len*e) u.toList) e1 (0,0))) G y B hg n9 EP (H.bp root).1 rfl ((l.drop I).take (len*e)++g) (decide (I+len*e<l.length)) ⟨p.aZ,p.base+I,p.oF,((l.drop I).take (len*e)++g).length⟩ rfl (by simp[Ca]) ⟨rfl,rfl,rfl⟩ (λb _ h=>B' w _ h) (.inl ⟨rfl,?_⟩) (λhk cs1 e1 O9 h=>?_) ?_
              . rw[eQ]at*;refine⟨fo Y H.next ⟨p.aZ,p.base+I,p.oF,((l.drop I).take (len*e)++g).length⟩,_,_,N,?_,qe⟩;rw[Iv];refine .sl H.next 0 (len+d) Z e ⟨p.aZ,p.base+I,p.oF,((l.drop I).take (len*e)++g).length⟩ ⟨p.aZ,p.base+I,Z⟩ j (jH ..) M ?_ (λk hk=>ai) (λ_=>?_) (λ_=>rfl) C5 ?_;.omega
                .show((l.drop I).take (len*e)++g).length<=0+j*e;rw[kr];have:(len+d)*e<=j*e:=lU _ M;omega
                grind
              .grind
              .rw[kV]at h;obtain⟨rfl,rfl,rfl⟩:=Obj.cells.inj (bE h);refine⟨_,AA w _ (y.stat.cC id p B).1,Ar _ _ _ ab,λk z'=>?_⟩;have rK:¬(I+len*e<l.length):=ai;rw[uV _ _ _ ab,if_neg ab]
              . refine⟨over cs (p.base+I+len*e) u.toList,(0,0),_,AA w _ (y.stat.cC id p B).1,?_,?_,?_,?_,λ_=>⟨rfl,rfl⟩,λh=>ai⟩;.grind[Ar]
                .grind
                . intro k a ha;have z':k<(len+d)*e:=ai;have LA:((l.drop I).take (len*e)).length=len*e:=ai;show∃c,(over cs (p.base+I+len*e) u.toList)[p.base+I+k]?=J c/\_;rw[uV _ _ _ ab];by_cases yh:k<len*e;.rw[nV ab,Cm yh,xD]at ha;grind
                  .rw[pY ab,LA]at ha;obtain⟨v,hv,E6⟩:=hx.get ha;refine⟨v,?_,E6⟩;rw[if_pos ab,show p.base+I+k-(p.base+I+len*e)=k-len*e from ab];omega
                grind
             .obtain⟨c',yc,N⟩:=Pv _ len j f rfl M W sR U6;obtain⟨q,Q,h2,h3,h4,R⟩:=fresh f _ len c' Is Uy UZ yc;have qe:=Ui (w':=World.push w.drew (.cells (f++u++nT zv.cells (c'-(len+d))) e0)) G y.drew B hg n9 EP (H.bp root).1 rfl ((l.drop I).take (len*e)++g) (decide (I+len*e<l.length)) q h3.symm (by simp[Dz]) ⟨rfl,rfl,rfl⟩ (λb hb _=>FZ _ _ hb) (.inr ⟨by rw[Q];simp,by rw[Q,Dz];simp⟩) (λ_ cs1 e1 O9 h=>⟨cs1,(FZ _ _ (y.stat.cC id p B).1).trans h,rfl,λ_ _=>rfl⟩) (R root);rw[eQ];exact⟨fo Y H.next q,_,_,N,h4 _ (jH ..),ig.drew qe⟩
           grind[fQ.wr]
      grind
  grind|_=>simp at h
end
def iX(P:aH)(a:bc):Prop:=∀g,g<P.globals.size->∃p,a g=J p/\p.aZ=g/\p.base=0
theorem iX.mono(h:Ext Y A)(g:iX P Y):iX P A:=λi hi=>let⟨p,a,b⟩:=g i hi;⟨p,h _ _ a,b⟩
structure Reads(ρ:aK->aD):Prop where
 const:∀v,ρ (.const v)=v
 aq:∀g,ρ (.global g)=.pointer (J ⟨g,0,Z⟩)func:∀f,ρ (.func f)=.func (.func f) #[] #[]
def fj(b:bc)(m:Tr AV)(a:aK->aD)(x:aK):Prop:=∀t,x=.tmp t->VR b ((m.get t).getD fC) (a x)
section
variable{P:aH}{S:Nat->Prop}{Y:bc}{H:Heap}{w:aV}{tm:Tr AV}{ρ:aK->aD}
theorem fH(d:iX P Y)(r:Reads ρ){x:aK}(o:fj Y tm ρ x)(h:bJ P tm x=J a):VR Y a (ρ x)/\a≠.top:=by
 rcases x with t|v|g|f;.have j:=o t rfl;grind[bJ]
 .simp only[bJ]at h;rw[r.const];grind[V9,aEf]
 . simp only[bJ,eQ]at h;by_cases b:g<P.globals.size;.obtain⟨p,c,e,i⟩:=d g b;rw[r.aq];have:=VR.ptr g 0 p c;grind
   grind
 simp[bJ]at h;subst h;rw[r.func];exact⟨.func f [] [] _ _ rfl rfl aP aP,aP⟩
theorem MD(g:iX P Y)(r:Reads ρ):∀{l:List aK}{S:aI},(∀x,x∈l->fj Y tm ρ x)->cw (bJ P tm) l=J S->ba Y S (l.map ρ):=by intro l;induction l with|nil=>simp[Fv,ba.nil]|cons x l i=>
 intro S o h;rw[Qy]at h;rcases b:bJ P tm x with _|a;.grind
 rcases c:cw (bJ P tm) l with _|t;.grind
 simp[b,c]at h;subst h;exact ba.cons (fH g r ai b).1 ai
theorem FQ{s:aI}{c:Array aD}(h:kz P t s I=J a)(d:ba Y s c.toList)(j:∀x,x∈s->x.aU=V):∃v,(∀w:aV,(part t c I).run P w=.ok v w)/\VR Y a v:=by
 unfold kz at h;rcases f:AM.isAgg P t with _|b;.grind
 cases b with
 |true=>
 rcases z:aW P t with _|n;.grind
 simp only[z,cR,dj,dT,pV,qD]at h;by_cases l:I+n<=s.length
 . have e:AV.agg ((s.drop I).take n)=a:=by grind
   subst e;refine⟨.agg (c.extract I (I+n)),λw=>by simp_all[part,Rn,mg],?_⟩;have:=(d.drop I).take n;refine this.agg ai _ ?_;simp_all
 grind|false=>simp only[f,w8]at h;obtain⟨v,g,i⟩:=d.get h;simp_all[part,Rn]
theorem SU{a b:ByteArray}{l m:aC}(h:a.data.toList.map kj=l)(c:b.data.toList.map kj=m):(a.toList==b.toList)=xT l m:=by
 rw[zM,ByteArray.toList_eq,ByteArray.toList_eq];rw[Bool.eq_iff_iff];constructor;.grind
 . have i:∀(x y:List _),x.map kj=y.map kj->x=y:=by intro x;induction x with|nil=>simp_all|cons a x e=>intro y d;cases y<;>grind[UInt8.toNat_inj]
   grind
theorem aqg{e:Nat}(H:∀{t:an}{x y:AV}{b:Bool}{u v:aD},lC P e t x y=J b->VR Y x u->VR Y y v->∀d,e<=d->∀w:aV,(Op.equalIn d t u v).run P w=.ok b w){j k:aI}{l m:Array aD}(F:ba Y j l.toList)(G:ba Y k m.toList)(I:∀x,x∈j->x.aU=V)(D:∀x,x∈k->x.aU=V)(d:Nat)(E:e<=d)(w:aV):∀(s:List Field)(c r:Bool),lD (λc(f:Field)=>bif c then(bif f.name== "_"then J V else(kz P f.type j f.offset).bind λa=>(kz P f.type k f.offset).bind λb=>lC P e f.type a b)else J C) s c=J r->(c=C->r=C)/\(c=V->(Op.eqFields d l m s).run P w=.ok r w):=by intro s;induction s with|nil=>simp[EB,Op.eqFields]|cons f s i=>
 intro c r h;rw[EA]at h;rcases c with _|_;.grind
 by_cases z:f.name= "_";.grind[Op.eqFields]
 . have M:(f.name== "_")=C:=ai;simp only[M,bX]at h;rcases n:kz P f.type j f.offset with _|a;.grind
   rcases o:kz P f.type k f.offset with _|b;.grind
   simp only[n,o,cR]at h;rcases p:lC P e f.type a b with _|q;.grind
   simp only[p]at h;obtain⟨u,B,A⟩:=FQ n F I;obtain⟨v,L,K⟩:=FQ o G D;have g:=H p A K d E w;cases q with|true=>have:=(i V r h).2 rfl;simp[Op.eqFields,z,B,L,g,this]|false=>have:=(i C r h).1 rfl;subst this;simp[Op.eqFields,z,B,L,g]
theorem aqm{l:Nat}(M:∀{t:an}{x y:AV}{b:Bool}{u v:aD},lC P l t x y=J b->VR Y x u->VR Y y v->∀d,l<=d->∀w:aV,(Op.equalIn d t u v).run P w=.ok b w){k m:aI}{n o:Array aD}(H:ba Y k n.toList)(K:ba Y m o.toList)(I:∀x,x∈k->x.aU=V)(E:∀x,x∈m->x.aU=V)(d:Nat)(G:l<=d)(w:aV)(e:an)(z:Nat):∀(s:aC)(c r:Bool),lD (λc i=>bif c then(kz P e k (ft i z)).bind λa=>(kz P e m (ft i z)).bind λb=>lC P l e a b else J C) s c=J r->(c=C->r=C)/\(c=V->(Op.eqItems d e z n o s).run P w=.ok r w):=by intro s;induction s with|nil=>simp[EB,Op.eqItems]|cons f O j=>
 intro c r h;rw[EA]at h;rcases c with _|_;.grind
 simp only[aR]at h;rcases p:kz P e k (ft f z)with _|a;.grind
 rcases A:kz P e m (ft f z)with _|b;.grind
 simp only[p,A,cR]at h;rcases D:lC P l e a b with _|q;.grind
 simp only[D]at h;obtain⟨u,B,F⟩:=FQ p H I;obtain⟨v,L,N⟩:=FQ A K E;have g:=M D F N d G w;refine⟨λh=>(by cases h),λ_=>?_⟩;have B:(part e n (f*z)).run P w=.ok u w:=B w;have L:(part e o (f*z)).run P w=.ok v w:=L w;cases q with|true=>have:=(j V r h).2 rfl;simp[Op.eqItems,B,L,g,this]|false=>have:=(j C r h).1 rfl;subst this;simp[Op.eqItems,B,L,g]
set_option maxHeartbeats 1600000 in theorem Tz:∀(f:Nat){t:an}{x y:AV}{b:Bool}{u v:aD},lC P f t x y=J b->VR Y x u->VR Y y v->∀d,f<=d->∀w:aV,(Op.equalIn d t u v).run P w=.ok b w:=by intro f;induction f with|zero=>simp[lC]|succ f A=>
 intro t x y b u v h a c d hd w;obtain⟨d,rfl⟩:∃q,d=q+1:=⟨d-1,ab⟩;have B:f<=d:=ab;have g:lC P (f+1) t x y=Er P (lC P f) t x y:=rfl;rw[g]at h;unfold Er at h;split at h;.rename_i R;cases a;cases c;simp at h;subst h;simp[Op.equalIn,dD R]
 .rename_i R;cases a;cases c;split at h<;>simp at h;rename_i s;subst s;subst h;rw[zL];simp[Op.equalIn,dD R];rfl
 .rename_i R;cases a with|str _ G e1=>cases c with|str _ H e2=>simp at h;subst h;rw[<-SU e1 e2,<-beq_toListBytes];simp[Op.equalIn,dD R]
 .rename_i l E F R;obtain⟨k,rfl,o,I⟩:=a.tA;obtain⟨m,rfl,p,D⟩:=c.tA;grind[Program.fieldsOf,run_equalIn_struct,aqg]
 . rename_i n e E F R;obtain⟨k,rfl,o,I⟩:=a.tA;obtain⟨m,rfl,p,D⟩:=c.tA;rcases j:aW P e with _|z;.simp[j]at h
   rw[j,cR]at h;obtain⟨i,hi,rfl⟩:=iI.1 j;have r:P.cellsOf e=i.size:=by simp[Program.cellsOf,hi]
   rw[run_equalIn_array w d k m R hi,r];exact(aqm A o p I D d B w e i.size _ _ _ h).2 rfl
 iterate 6·rename_i R;cases a;cases c;simp at h;subst h;simp[Op.equalIn,dD R]
 grind
theorem ax9{o:BinOp}{k:fR}{a b:Int}{r:AV}(h:IG P o k a b=J r)(t:an):∃v,(∀w:aV,(binOp o t (.int k a) (.int k b)).run P w=.ok v w)/\VR Y r v:=by
 unfold IG at h;split at h;.simp at h;subst h;exact⟨_,λw=>by simp[binOp,Op.intArith];rfl,by rw[Ce];exact .int k _⟩
 .simp at h;subst h;exact⟨_,λw=>by simp[binOp,Op.intArith];rfl,by rw[Ce];exact .int k _⟩
 .simp at h;subst h;exact⟨_,λw=>by simp[binOp,Op.intArith];rfl,by rw[Ce];exact .int k _⟩
 . rw[zL]at h;by_cases c:b=0;.simp[c]at h
   .simp[c]at h;subst h;exact⟨_,λw=>by simp[binOp,Op.intDiv,c];rfl,by rw[Ce];exact .int k _⟩
 . rw[zL]at h;by_cases c:b=0;.simp[c]at h
   .simp[c]at h;subst h;exact⟨_,λw=>by simp[binOp,Op.intDiv,c],.int k _⟩
 .obtain⟨n,d⟩:∃n,∀w,(Op.intBits .and k a b).run P w=.ok (.int k n) w:=⟨_,λw=>by rfl⟩;rw[d _]at h;simp at h;subst h;exact⟨_,λw=>by grind[binOp],.int k n⟩
 .obtain⟨n,d⟩:∃n,∀w,(Op.intBits .xor k a b).run P w=.ok (.int k n) w:=⟨_,λw=>by rfl⟩;rw[d _]at h;simp at h;subst h;exact⟨_,λw=>by grind[binOp],.int k n⟩
 .simp at h;subst h;refine⟨.bool (a==b),λw=>by simp[binOp,Op.intCmp],?_⟩;rw[zL];exact .bool _
 .simp at h;subst h;refine⟨.bool (a !=b),λw=>by simp[binOp,Op.intCmp],?_⟩;rw[zL];exact .bool _
 .simp at h;subst h;refine⟨.bool (a<b),λw=>by simp[binOp,Op.intCmp],?_⟩;rw[IT];exact .bool _
 .simp at h;subst h;refine⟨.bool (a<=b),λw=>by simp[binOp,Op.intCmp],?_⟩;rw[IT,<-decide_not,decide_eq_decide.2 (Int.not_lt)];exact .bool _
 .simp at h;subst h;refine⟨.bool (b<a),λw=>by simp[binOp,Op.intCmp],?_⟩;rw[IT];exact .bool _
 .simp at h;subst h;refine⟨.bool (b<=a),λw=>by simp[binOp,Op.intCmp],?_⟩;rw[IT,<-decide_not,decide_eq_decide.2 (Int.not_lt)];exact .bool _
 grind
theorem Nk{s:ByteArray}{l:aC}(h:s.data.toList.map kj=l):s.size=l.length:=by subst h;simp_all
theorem aA9:∀a b:List UInt8,Op.bytesLess a b=IU (a.map kj) (b.map kj):=by intro a;induction a with|nil=>intro b;cases b<;>rfl|cons x a i=>
 intro b;rcases b with _|⟨y,b⟩;.rfl
 show(decide (x<y)||(x==y&&Op.bytesLess a b))=(bif ct x.toNat y.toNat then V else bif ct y.toNat x.toNat then C else IU (a.map kj) (b.map kj));rw[i b,eQ,eQ];have c:(x<y)↔x.toNat<y.toNat:=Iff.rfl;have f:(x==y)=decide (x.toNat=y.toNat):=by rw[Bool.eq_iff_iff,beq_iff_eq,jV];exact⟨λh=>by rw[h],λh=>UInt8.toNat_inj.1 h⟩
 rw[f];by_cases d:x.toNat<y.toNat;.simp[c,d]
 . by_cases e:y.toNat<x.toNat;.have:¬x.toNat=y.toNat:=ab;simp[c,d,e,this]
   .have:x.toNat=y.toNat:=ab;simp[c,this]
theorem aKT{o:BinOp}{a b:aC}{r:AV}{u v:ByteArray}(h:RJ o a b=J r)(c:u.data.toList.map kj=a)(d:v.data.toList.map kj=b)(t:an):∃x,(∀w:aV,(binOp o t (.string u) (.string v)).run P w=.ok x w)/\VR Y r x:=by
 have e:=SU c d;have f:Op.bytesLess u.toList v.toList=IU a b:=by rw[aA9,ByteArray.toList_eq,ByteArray.toList_eq,c,d]
 unfold RJ at h;split at h
 . rw[dj,dT,dT,ly]at h;by_cases l:a.length+b.length<=1000000000
   . have:decide (a.length.add _<=1000000000)=V:=mz l;rw[this]at h;simp at h;subst h;have g:=Nk c;have i:=Nk d;refine⟨.string (u++v),λw=>?_,.str _ _ ?_⟩
     . have:¬(((u.size+v.size:Nat):Int)>IntKind.i64.max):=by
        have:IntKind.i64.max=9223372036854775807:=by rfl
        omega
       simp_all[binOp,Op.stringOp]
     simp_all
   grind
 .simp at h;subst h;exact⟨_,λw=>by rfl,by rw[e];exact .bool _⟩
 .simp at h;subst h;exact⟨_,λw=>by rfl,by rw[e];exact .bool _⟩
 .simp at h;subst h;exact⟨_,λw=>by rfl,by rw[f];exact .bool _⟩
 .simp only[wx]at h;subst h;exact⟨_,λw=>by rfl,by rw[e,f];exact .bool _⟩
 grind
theorem aIh{o:BinOp}{k y c:fR}{a b n:Int}{d:aV}(h:(Op.shift o k a y b).run P default=.ok (.int c n) d):∀w:aV,(Op.shift o k a y b).run P w=.ok (.int c n) w:=by
 unfold Op.shift at*;split at h;.simp_all[runtimePanic]
 .cases o<;>simp at h|-<;>grind
theorem binOp_eql(i:∀k a c b,u=.int k a->v=.int c b->False)(s:∀a b,u=.string a->v=.string b->False)(f:∀k a,u=.float k a->False)(h:∀k a b,u=.complex k a b->False):binOp .eql t u v=(do pure (.bool (<-Op.equal t u v)):Sem aD):=by simp_all[binOp]
theorem binOp_neq(i:∀k a c b,u=.int k a->v=.int c b->False)(s:∀a b,u=.string a->v=.string b->False)(f:∀k a,u=.float k a->False)(h:∀k a b,u=.complex k a b->False):binOp .neq t u v=(do pure (.bool (!(<-Op.equal t u v))):Sem aD):=by simp_all[binOp]
theorem aey{o:BinOp}(h:o≠.eql)(a:o≠.neq)(w:aV):(eqGuard o t xo yo u v).run P w=.ok () w:=by simp[eqGuard]
theorem Pe{o:BinOp}(h:u≠.nilIface)(e:∀a b,u=.agg a->v=.agg b->P.eqGuardType P.depth t=C)(w:aV):(eqGuard o t xo yo u v).run P w=.ok () w:=by
 by_cases c:o=.eql;.subst c;unfold eqGuard;simp;split<;>simp_all
 . by_cases d:o=.neq;.subst d;unfold eqGuard;simp;split<;>simp_all
   grind[aey]
set_option maxHeartbeats 1600000 in theorem amc{o:BinOp}{y r:AV}(h:xO P o t xo yo x y=J r)(d:VR Y x u)(f:VR Y y v)(I:x≠.top)(g:y≠.top):∃z,(∀w:aV,((do eqGuard o t xo yo u v;binOp o t u v:Sem aD)).run P w=.ok z w)/\VR Y r z:=by
 have fin:∀{z},(∀w:aV,(eqGuard o t xo yo u v).run P w=.ok () w)->(∀w:aV,(binOp o t u v).run P w=.ok z w)->∀w:aV,((do eqGuard o t xo yo u v;binOp o t u v:Sem aD)).run P w=.ok z w:=λn p w=>aT;have m:∀k a,u=.float k a->False:=λk a e=>by subst e;cases d
 have l:∀k a b,u=.complex k a b->False:=λk a b e=>by subst e;cases d
 unfold xO at h;split at h
 . cases d;cases f;split at h;.simp at h;subst h;exact⟨_,fin (aey aP aP) (λw=>by grind[binOp,aIh]),.int _ _⟩
   grind
 .cases d;cases f;simp_all[ax9,Pe]
 .cases d with|str _ A e1=>cases f with|str _ B e2=>obtain⟨z,n,p⟩:=aKT (P:=P) (Y:=Y) h e1 e2 t;grind[Pe]
 . have hi:∀k a i b,u=.int k a->v=.int i b->False:=λk a i b e1 e2=>by subst e1;cases d<;>cases f<;>first|exact I rfl|exact g rfl|grind
   have s:∀a b,u=.string a->v=.string b->False:=λa b e1 e2=>by subst e1;cases d<;>cases f<;>first|exact I rfl|exact g rfl|grind
   obtain⟨E,b,j,hr⟩:zT P t xo yo x y=V/\∃b,lC P 50 t x y=J b/\r=.bool b:=by
     revert h;generalize zT P t xo yo x y=c;rcases c with _|_;.grind
     cases q:lC P 50 t x y<;>simp_all
   subst hr;refine⟨_,fin (Pe ?_ ?_) (λw=>?_),.bool _⟩;.intro e1;subst e1;cases d
   . intro a c e1 e2;subst e1;subst e2;cases d<;>first|exact absurd rfl I|skip
     cases f<;>first|exact absurd rfl g|skip
     grind[zT]
   .rw[binOp_eql hi s m l];have:=Tz 50 j d f Op.maxDepth fD w;simp_all[Op.equal]
 . have hi:∀k a i b,u=.int k a->v=.int i b->False:=λk a i b e1 e2=>by subst e1;cases d<;>cases f<;>first|exact I rfl|exact g rfl|grind
   have s:∀a b,u=.string a->v=.string b->False:=λa b e1 e2=>by subst e1;cases d<;>cases f<;>first|exact I rfl|exact g rfl|grind
   obtain⟨E,b,j,hr⟩:zT P t xo yo x y=V/\∃b,lC P 50 t x y=J b/\r=.bool (!b):=by
     revert h;generalize zT P t xo yo x y=c;rcases c with _|_;.grind
     cases q:lC P 50 t x y<;>simp_all
   subst hr;refine⟨_,fin (Pe ?_ ?_) (λw=>?_),.bool _⟩;.intro e1;subst e1;cases d
   . intro a c e1 e2;subst e1;subst e2;cases d<;>first|exact absurd rfl I|skip
     cases f<;>first|exact absurd rfl g|skip
     grind[zT]
   .rw[binOp_neq hi s m l];have:=Tz 50 j d f Op.maxDepth fD w;simp_all[Op.equal]
 grind
end
def pA(P:aH)(a:bc)(A:Sem aD)(r:AV):Prop:=∃v,(∀w:aV,A.run P w=.ok v w)/\VR a r v
section
variable{P:aH}{S:Nat->Prop}{Y:bc}{H:Heap}{w:aV}{tm:Tr AV}{ρ:aK->aD}
theorem aL3{o:UnOp}{r:AV}(h:RT o x=J r)(a:VR Y x u):pA P Y (Op.unary o u) r:=by
 unfold RT at h;split at h;.cases a;simp at h;subst h;rename_i k n;refine⟨_,λw=>by rfl,?_⟩;rw[Ce];exact .int k _
 .cases a;simp at h;subst h;exact⟨_,λw=>by rfl,.bool _⟩
 grind
theorem aFd(c:Array aD)(o:Nat)(v:aD)(s:List aD)(h:o+(s.length+1)<=c.size):over (c.setIfInBounds o v) (o+1) s=over c o (v::s):=by apply Sb;grind[uV]
theorem atq:∀(l:List aD)(k:Nat)(cells:Array aD)(I:Nat),I+k+l.length<=cells.size->(l.zipIdx k).foldl (λcs(p:aD×Nat)=>cs.setIfInBounds (I+p.2) p.1) cells=over cells (I+k) l:=by intro l;induction l with|nil=>intro k cells I h;apply Sb;simp_all[uV,if_neg]|cons v l i=>intro k cells I h;rw[List.zipIdx_cons,AX];rw[i _ _ _ ai,show I+(k+1)=I+k+1 from rfl,aFd _ _ _ _ ab]
theorem atr(v e:Array aD)(o:Nat)(h:o+v.size<=e.size):v.zipIdx.foldl (λcs(c,j)=>cs.setIfInBounds (o+j) c) e=over e o v.toList:=by have:=atq _ 0 _ _ ab;grind[Array.toList_zipIdx]
theorem TU(l f:Nat->ah (Nat×Nat)):∀(e:List (Nat×AV))(s:List (Nat×aD))(cs:aI)(c:Array aD)(r:aI),(∀i x,l i=J x->f i=J x)->e.length=s.length->(∀(i:Nat)(p:Nat×AV)(q:Nat×aD),e[i]?=J p->s[i]?=J q->p.1=q.1/\VR Y p.2 q.2)->ba Y cs c.toList->(∀x,x∈cs->x.aU=V)->zQ l e cs=J r->∃d,Instr.fill f c s=J d/\ba Y r d.toList/\(∀x,x∈r->x.aU=V)/\r.length=cs.length:=by intro e;induction e with|nil=>intro s cs c r T z I g k h;obtain rfl:s=[]:=ai;unfold zQ at h;rw[EB]at h;obtain rfl:cs=r:=ai;exact⟨c,rfl,g,k,rfl⟩|cons p e D=>intro s cs c r T z I g k h;cases s with|nil=>grind|cons q s=>obtain⟨e1,j⟩:=I 0 p q rfl rfl;obtain⟨M,v⟩:=q;simp only at e1 j;replace h:((l p.1).bind λo=>p.2.cells.bind λvs=>bif aw (fc vs) o.2&&bt (im o.1 o.2) (fc cs)then J (fV cs o.1 vs)else Z).bind (zQ l e)=J r:=h;cases B:l p.1 with|none=>grind|some o=>cases m:p.2.cells with|none=>grind|some vs=>
 obtain⟨u,O⟩:=j.cells m;have L:vs.length=v.cells.size:=by simpa using u.1
 have n:cs.length=c.size:=by simpa using g.1
 simp only[B,m,cR,bR,dj,dT]at h;by_cases t:vs.length=o.2
 . by_cases w:o.1+o.2<=cs.length;.have e2:decide (o.1.add o.2<=cs.length)=V:=mz w;rw[e2,mz t]at h;simp only[xx,aR,cR]at h;have A:=g.ZL u o.1;have H:o.1+v.cells.size<=c.size:=ab;obtain⟨d,N,K,E,y⟩:=D s _ (over c o.1 v.cells.toList) r T ai (λi a b F G=>I (i+1) a b ai ai) (by grind[over]) (by grind[DK]) h;grind[yO,Instr.fill,atr]
   grind
 grind
theorem asN{f:Nat}{i:Array Field}{d:Field}{s:aI}{r:AV}(k:P.underlying t=J (.struct i))(j:i[f]?=J d)(e:VR Y (.agg s) v)(h:kz P d.type s d.offset=J r):pA P Y (Instr.field t v f) r:=by obtain⟨c,rfl,b,l⟩:=e.tA;obtain⟨u,g,a⟩:=FQ h b l;exact⟨u,λw=>by simp_all[Instr.field,dD,asAgg],a⟩
theorem asC{i:Nat}{r:AV}(d:VR Y (.cL vs) v)(h:oZ vs i=J r):pA P Y (Instr.extract v i) r:=by obtain⟨c,rfl,b⟩:=d.aLY;rw[w8]at h;obtain⟨u,e,a⟩:=b.get h;exact⟨u,λw=>by simp_all[Instr.extract],a⟩
theorem aKU{s:ByteArray}{l:aC}(h:s.data.toList.map kj=l){i b:Nat}(a:l[i]?=J b):∃c:UInt8,s[i]?=J c/\c.toNat=b:=by
 subst h;rcases d:s.data.toList[i]? with _|c;.grind
 simp[d]at a;refine⟨c,?_,a⟩;obtain⟨hi,e⟩:=am.1 d;have K:=by show i<s.data.size;omega
 rw[getElem?_pos s i K];congr 1
end
section
variable{P:aH}{S:Nat->Prop}{Y:bc}{H:Heap}{w:aV}
theorem IH{k:fR}{i:Nat}(h:VR Y (.int k (.ofNat i)) v):v=.int k (.ofNat i):=by cases h;rfl
theorem axW{l:Nat}{k:fR}{i n:Nat}{s:aI}{r:AV}(o:P.underlying t=J (.array l elem))(z:aW P elem=J n)(m:i<l)(f:VR Y (.agg s) v)(h:kz P elem s (ft i n)=J r):pA P Y (Instr.index t v (.int k (.ofNat i))) r:=by obtain⟨c,rfl,e,g⟩:=f.tA;obtain⟨u,b,d⟩:=FQ h e g;refine⟨u,λw=>?_,d⟩;have j:=b w;have a:(part elem c (i*n)).run P w=.ok u w:=j;simp_all[Instr.index,asIntOf,dD,mg]
theorem axX{k:fR}{i b:Nat}{s:aC}(u:P.underlying t=J .string)(d:VR Y (.str s) v)(h:oZ s i=J b):pA P Y (Instr.index t v (.int k (.ofNat i))) (.int .u8 (.ofNat b)):=by cases d with|str _ x e=>rw[w8]at h;obtain⟨c,f,a⟩:=aKU e h;subst a;exact⟨.int .u8 (.ofNat c.toNat),λw=>by simp_all[Instr.index,asIntOf,dD],.int _ _⟩
theorem asL{s:an}{f n a:Nat}{i:Array Field}{d:Field}(u:P.underlying s=J (.struct i))(c:i[f]?=J d)(z:aW P d.type=J (n+1))(b:VR Y (.ptr a I) v):pA P Y (Instr.fieldAt s v f) (.ptr a (im I d.offset)):=by cases b with|ptr _ _ p h=>refine⟨.pointer (J ⟨p.aZ,p.base+(I+d.offset),Z⟩),λw=>?_,.ptr a _ p h⟩;simp_all[Instr.fieldAt,dD,Instr.sureAddr,fieldPlace,mg,wz,AY]
theorem axS{l n d i:Nat}{k:fR}(u:P.underlying t=J (.array l elem))(z:aW P elem=J n)(h:i<l)(b:VR Y (.ptr d I) v):pA P Y (Instr.indexAt t v (.int k (.ofNat i))) (.ptr d (im I (ft i n))):=by cases b with|ptr _ _ p a=>refine⟨.pointer (J ⟨p.aZ,p.base+(I+i*n),Z⟩),λw=>?_,.ptr d _ p a⟩;simp[Instr.indexAt,asIntOf,dD u,Instr.sureAddr,mg z,wz,AY,h]
theorem axU{l e d i:Nat}{c:ah Nat}{k:fR}(u:P.underlying t=J (.slice elem))(z:aW P elem=J e)(h:i<l)(b:VR Y (.sl d I l c e) v):pA P Y (Instr.indexAt t v (.int k (.ofNat i))) (.ptr d (im I (ft i e))):=by cases b with|sl _ _ _ _ _ p g cap a m q f o hr j n=>have N:=hr ab;subst N;refine⟨.pointer (J ⟨p.aZ,p.base+(I+i*e),Z⟩),λw=>?_,.ptr d _ p a⟩;simp[Instr.indexAt,asIntOf,dD u,mg z,wz,AY,h]
theorem Hm(h:mP x y=J r)(a:VR Y x v):r<=y/\∀c,∀w:aV,(Instr.sliceBound v y c).run P w=.ok r w:=by
 unfold mP at h;split at h;.rw[dj]at h;cases a;rename_i n;by_cases l:n<=y<;>simp_all[Instr.sliceBound,asIntOf]
 grind
def qx(b:bc):ah AV->ah aD->Prop|none,Z=>True|some a,J v=>VR b a v|_,_=>False
theorem abB{b:AV}{z:Nat}(a:mP b y=J h)(c:h<=z):mP b z=J h:=by unfold mP at a|-;split at a<;>grind[dj]
theorem SP{l:Nat}{o:ah AV}{t:ah aD}(T:qx Y o t)(b:eZ o h 0=J l):(t=Z/\l=0)\/∃u,t=J u/\∀c,∀w:aV,(Instr.sliceBound u h c).run P w=.ok l w:=by
 rcases o with _|a;.grind[qx,eZ]
 rcases t with _|u;.grind[qx]
 exact .inr ⟨u,rfl,(Hm (show mP a _=J l from b) T).2⟩
theorem abD{isSlice:Bool}{e l:Nat}{o:ah AV}{t r:ah aD}(T:qx Y o t)(B:qx Y hi r)(a:eZ hi y e=J h)(c:eZ o h 0=J l)(d:h<=cap):∀w:aV,(Instr.sliceBounds isSlice e cap t r Z).run P w=.ok (l,h,cap) w:=by
 intro w;rcases hi with _|b;.cases r with|some v=>grind[qx]|none=>simp[eZ]at a;subst a;rcases SP (P:=P) T c with⟨rfl,rfl⟩|⟨u,rfl,f⟩<;>simp_all[Instr.sliceBounds]
 rcases r with _|v;.grind[qx]
 have f3:=(Hm (P:=P) (abB (show mP b y=J h from a) d) B).2;rcases SP (P:=P) T c with⟨rfl,rfl⟩|⟨u,rfl,f⟩;all_goals simp_all[Instr.sliceBounds]
theorem abC{isSlice:Bool}{e l m:Nat}{o:ah AV}{x:AV}{t r:ah aD}{a:aD}(T:qx Y o t)(B:qx Y hi r)(I:VR Y x a)(i:hi≠Z)(c:mP x y=J m)(d:eZ hi m e=J h)(f:eZ o h 0=J l)(g:m<=cap):∀w:aV,(Instr.sliceBounds isSlice e cap t r (J a)).run P w=.ok (l,h,m) w:=by
 have e2:=(Hm (P:=P) (abB c g) I).2;intro w;rcases hi with _|b;.grind
 rcases r with _|v;.grind[qx]
 have f2:=(Hm (P:=P) (show mP b m=J h from d) B).2;rcases SP (P:=P) T f with⟨rfl,rfl⟩|⟨u,rfl,j⟩<;>simp_all[Instr.sliceBounds]
theorem Tl{i e:Nat}{a:Addr}(j:Y i=J p)(t:p.base+I+cap*e<=p.oF)(o:cap≠0->a=⟨p.aZ,p.base+I,Z⟩)(d:0<e){l m:Nat}(g:l<=h)(f:h<=m)(b:m<=cap)(n:I+h*e<=p.len)(c:ah Nat)(y:∀k,c=J k->m-l=k/\I+m*e<=p.len)(w:c=Z->p.len<=I+m*e):∃r:Addr,(if m=l then a else a.add (l*e))=r/\VR Y (.sl i (im I (ft l e)) (Nat.sub h l) c e) (.slice (J r) (h-l) (m-l)):=by
 have e1:(I+l*e)+(m-l)*e=I+m*e:=by rw[AY,<-zo];grind
 have e2:(I+l*e)+(h-l)*e=I+h*e:=by rw[AY,<-zo];grind
 have e3:m*e<=cap*e:=lU _ b;refine⟨_,rfl,?_⟩;.refine .sl i (I+l*e) (h-l) c e p _ (m-l) j ab ?_ ?_ ?_ ?_ d ?_<;>grind[wz]
theorem agz(s:bQ S Y H w){i:Nat}(a:Y i=J p)(h:H.cellsOf i=J l):l.length=p.len:=by obtain⟨r,fl,e,g,_⟩:=Kr h;exact s.stat.len i p l r fl e a g
set_option maxHeartbeats 1600000 in theorem aJB(hs:bQ S Y H w){D f:ah AV}{r:AV}{W Q E:ah aD}(h:pR P H t x D hi f=J r)(hv:VR Y x v)(wT:qx Y D W)(Bt:qx Y hi Q)(Im:qx Y f E)(hS:∀id I,x=.ptr id I->S (rootOf H id)):∃z,(Instr.sliceAt t v W Q E).run P w=.ok z w/\VR Y r z:=by
 unfold pR at h;have his:f=Z\/hi≠Z:=by cases f<;>grind
 have hmn:f=Z->E=Z:=λe=>by grind[qx]
 have hms:∀m,f=J m->∃mv,E=J mv/\VR Y m mv:=λm e=>by subst e;cases E<;>grind[qx]
 have d:sliceB P H t x D hi f=J r:=by grind
 clear h;have K:∀(i:Bool)(len cap y m a b:Nat),eZ f y y=J m->(f=Z->y=cap)->eZ hi m len=J b->eZ D b 0=J a->m<=cap->b<=m->∀w:aV,(Instr.sliceBounds i len cap W Q E).run P w=.ok (a,b,m) w:=by intro i len cap y m a b h0 hy B g A hbm;cases aOe:f<;>grind[eZ,abD,abC]
 unfold sliceB at d;split at d;.
  rename_i elem R;cases hv;rcases u:aW P elem with _|n;.grind
  simp only[u,cR]at d;cases A:eZ f 0 0 with|none=>grind|some m=>cases o:eZ hi m 0 with|none=>grind|some b=>cases j:eZ D b 0 with|none=>grind|some a=>
  simp[A,o,j]at d;subst d;have zer:∀{x:ah AV}{xv:ah aD}{q z:Nat},qx Y x xv->eZ x q q=J z->z<=q:=by intro x xv q z hx u;cases x with|none=>grind[eZ]|some y=>cases xv with|none=>grind[qx]|some yv=>exact(Hm (P:=P) (show mP y q=J z from u) hx).1
  have m0:m=0:=ai;subst m0;have b0:b=0:=ai;subst b0;have a0:a=0:=ai;subst a0;have:=K V 0 0 0 0 0 0 A (λ_=>rfl) o j (bS _) (bS _) w;exact⟨.slice Z 0 0,by simp[Instr.sliceAt,dD R,Instr.slice,this,mg u],.bu⟩
 .rename_i elem id I len c s R;cases hv with|sl _ _ _ _ _ p gU cap N hl O hc ho hr M hn=>obtain⟨qH,mb⟩:=hc c rfl;subst qH;cases u:aW P elem with|none=>grind|some n=>
  simp only[u,cR,bR]at d;by_cases X:n=s;.subst X;simp only[eB,aR]at d;cases A:eZ f cap cap with|none=>grind|some m=>cases o:eZ hi m len with|none=>grind|some b=>cases j:eZ D b 0 with|none=>grind|some a=>
   simp only[A,o,j,cR,dj]at d;by_cases B:a<=b
   . by_cases g:b<=m
     . simp[B,g]at d;subst d;have F:m<=cap:=by cases f with|none=>grind[eZ]|some q=>cases E with|none=>grind|some qv=>exact(Hm (P:=P) (show mP q cap=J m from A) Im).1
       have G:=K V len cap cap m a b A (λ_=>rfl) o j F g w;have k1:m*n<=cap*n:=lU _ F;have k2:b*n<=m*n:=lU _ g;obtain⟨q,g1,g2⟩:=Tl N O hr M B g F ab (J (m-a)) (λk hk=>⟨ai,ab⟩) aP;refine⟨_,?_,g2⟩;simp only[Instr.sliceAt,Sem.run_bind,dD R,bi,Instr.slice,G,mg u,Sem.run_pure,<-g1];grind
     grind
   grind
  grind
 .rename_i elem id I len s R;cases hv with|sl _ _ _ _ _ p gU cap N hl O hc ho hr M hn=>have iF:=ho rfl;have fits:∀k,I+k*s<=p.len->k<=cap:=λk hk=>Nat.le_of_mul_le_mul_right (show k*s<=cap*s by omega) M;cases u:aW P elem with|none=>grind|some n=>
  simp only[u,cR,bR]at d;by_cases X:n=s;.subst X;simp only[eB,aR]at d;cases f with
  |some q=>simp only at d;obtain⟨mv,rfl,sO⟩:=hms q rfl;have U:hi≠Z:=ai;cases A:mP q bm with|none=>grind|some m=>cases o:eZ hi m len with|none=>grind|some b=>cases j:eZ D b 0 with|none=>grind|some a=>cases T:H.cellsOf id with|none=>grind|some l=>
       have uH:=agz hs N T;simp only[A,o,j,T,cR,dj,dT]at d;by_cases h0:I+m*n<=l.length
       . have e0:decide (im I (ft m n)<=l.length)=V:=mz h0;rw[e0]at d;by_cases g:b<=m
         . by_cases B:a<=b;.simp[B,g]at d;subst d;have F:=fits m ab;have G:=abC (P:=P) (isSlice:=V) (cap:=cap) wT Bt sO U A o j F w;have k2:b*n<=m*n:=lU _ g;obtain⟨q',g1,g2⟩:=Tl N O hr M B g F ab (J (m-a)) (λk hk=>⟨ai,ab⟩) aP;refine⟨_,?_,g2⟩;simp only[Instr.sliceAt,Sem.run_bind,dD R,bi,Instr.slice,G,mg u,Sem.run_pure,<-g1];grind
           grind
         grind
       grind|none=>rw[hmn rfl];simp only at d;cases o:eZ hi bm len with|none=>grind|some b=>cases j:eZ D b 0 with|none=>grind|some a=>
   simp only[o,j,cR,dj]at d;by_cases B:a<=b
   . rw[mz B]at d;simp only[aR]at d;have key:b<=cap->I+b*n<=p.len->r=.sl id (im I (ft a n)) (Nat.sub b a) Z n->∃z,(Instr.sliceAt t (.slice (J gU) len cap) W Q Z).run P w=.ok z w/\VR Y r z:=by intro L UA hre;subst hre;have G:=abD (P:=P) (isSlice:=V) wT Bt o j L w;obtain⟨q',g1,g2⟩:=Tl N O hr M B L (bS cap) UA Z aP (λ_=>ab);refine⟨_,?_,g2⟩;simp only[Instr.sliceAt,Sem.run_bind,dD R,bi,Instr.slice,G,mg u,Sem.run_pure,<-g1];grind
     by_cases g:b<=len;.simp[g]at d;have k2:b*n<=len*n:=lU _ g;grind
     .cases T:H.cellsOf id<;>grind[agz,dT]
   grind
  grind
 grind
def NF{b:AV}(h:VR Y a u)(k:VR Y b v):VR Y (.cL [a,b]) (.tuple #[u,v]):=ba.cL (ba.cons h (ba.cons k (ba.nil Y))) _ rfl
def aLX{b c:AV}{x:aD}(h:VR Y a u)(k:VR Y b v)(m:VR Y c x):VR Y (.cL [a,b,c]) (.tuple #[u,v,x]):=ba.cL (ba.cons h (ba.cons k (ba.cons m (ba.nil Y)))) _ rfl
def ajT(h:VR Y a u):VR Y (.cL [a]) (.tuple #[u]):=ba.cL (ba.cons h (ba.nil Y)) _ rfl
theorem aIt{d:TypeDesc}{k c:aD}{b:Bool}(u:P.underlying t=J d)(h:Instr.sameNow d k c=J b):∀w:aV,(Op.equal t k c).run P w=.ok b w:=by
 intro w;obtain⟨n,a⟩:∃n,Op.maxDepth=n+1:=⟨9999,rfl⟩;unfold Instr.sameNow at h;split at h
 . split at h;.rename_i e;subst e;simp at h;subst h;unfold Op.equal;rw[a];simp[Op.equalIn,dD u]
   grind
 .simp at h;subst h;unfold Op.equal;rw[a];simp[Op.equalIn,dD u]
 .simp at h;subst h;unfold Op.equal;rw[a];simp[Op.equalIn,dD u]
 grind
theorem as3{d:TypeDesc}{k:aD}(u:P.underlying t=J d):∀(es:List kQ)(i:Nat)(r:ah (Nat×aD)),Instr.findNow d k es i=J r->∀w:aV,(Instr.findAsking t k es i).run P w=.ok r w:=by intro es;induction es with|nil=>simp[Instr.findNow,Instr.findAsking]|cons e es a=>
 intro i r h w;unfold Instr.findNow at h;rcases s:Instr.sameNow d k e.key with _|b;.grind
 have:=aIt u s w;cases b<;>simp_all[Instr.findAsking]
theorem adV{d:TypeDesc}{k:aD}{e:List kQ}{r:ah (Nat×aD)}(u:P.underlying t=J d)(h:∀w:aV,(Instr.findAsking t k e).run P w=.ok r w):∀w:aV,(Instr.findKey t k e).run P w=.ok r w:=by cases f:Instr.findNow d k e 0<;>simp_all[Instr.findKey,dD,as3]
theorem as0(s:VR Y k kv):∀(es:List eI)(ms:List kQ)(i:Nat)(r:ah (Nat×eI)),nv Y es ms->oR P t k es i=J r->(r=Z/\∀w:aV,(Instr.findAsking t kv ms i).run P w=.ok Z w)\/∃j e m,r=J (i+j,e)/\es[j]?=J e/\ms[j]?=J m/\∀w:aV,(Instr.findAsking t kv ms i).run P w=.ok (J (i+j,m.val)) w:=by intro es;induction es with
 |nil=>
 intro ms i r c h;have:ms=[]:=by have:=c.1;grind
 have:r=Z:=by have d:J _=J r:=h;grind
 simp_all[Instr.findAsking]|cons e es u=>
 intro ms i r c h;rcases ms with _|⟨m,ms⟩;.have:=c.1;grind
 have l:=c.2 0 e m rfl rfl;have A:nv Y es ms:=⟨by have:=c.1;grind,λj a b y z=>c.2 (j+1) a b ai ai⟩;have d:((lC P 50 t k e.1).bind λb=>bif b then J (J (i,e))else oR P t k es (i+1))=J r:=h;rcases f:lC P 50 t k e.1 with _|b;.grind
 have q:∀w,(Op.equal t kv _).run P w=.ok b w:=λw=>Tz 50 f s l.1 _ fD w;cases b with|true=>simp[f]at d;right;exact⟨0,e,m,ai,rfl,rfl,λw=>by simp_all[Instr.findAsking]⟩|false=>
 simp[f]at d;rcases u ms (i+1) r A d with⟨n,o⟩|⟨j,g,v,n,o,x,p⟩;.simp_all[Instr.findAsking]
 . refine .inr ⟨j+1,g,v,?_,ai,ai,λw=>?_⟩;.grind
   .have:=p w;simp[Instr.findAsking,q,this];omega
theorem ayY:∀(b:Nat){t:an}{k:AV}{v:aD}{empty:Bool},IL P b t k=V->VR Y k v->∀d,b<=d->∀w:aV,(Instr.checkKey empty d t v).run P w=.ok () w:=by intro b;induction b with|zero=>simp[IL]|succ b s=>
 intro t k v e h r d hd w;obtain⟨d,rfl⟩:∃o,d=o+1:=⟨d-1,ab⟩;have g:BJ P (IL P b) t k=V:=h;unfold BJ at g;split at g;.simp_all[Instr.checkKey,dD]
 .simp_all[Instr.checkKey,dD]
 .simp_all[Instr.checkKey,dD]
 .rename_i i cs R;obtain⟨c,rfl,q,x⟩:=r.tA;simp only[Instr.checkKey,Sem.run_bind,dD R,bi];rw[qB]at g;rw[<-Array.forIn_toList];generalize i.toList=l at g;induction l with|nil=>rfl|cons f l m=>
  simp only[oJ,gu]at g;have y:=m g.2;by_cases z:f.name= "_";.grind
  . have j:=g.1;have n:(f.name== "_")=C:=ai;rw[n]at j;rcases p:kz P f.type cs f.offset with _|a;.grind
    simp[p]at j;obtain⟨u,B,I⟩:=FQ p q x;have:=s (empty:=e) j I d ab w;simp_all
 grind
theorem bytes_inj{u v:ByteArray}{l:aC}(h:u.data.toList.map kj=l)(a:v.data.toList.map kj=l):u=v:=by have b:=SU h a;grind[zM,ByteArray.toList_eq,ByteArray.ext,Array.toList_inj]
theorem ajc{b:AV}(c:VR Y a u)(d:VR Y b v)(h:yI a b=V):u=v/\∀n,Instr.sameBits n u v=V:=by
 unfold yI at h;split at h;.cases c;cases d;grind[Instr.sameBits]
 .cases c;cases d;grind[zL,Instr.sameBits]
 .rw[zM,jV]at h;subst h;cases c with|str _ s e1=>cases d with|str _ e e2=>have:=bytes_inj e1 e2;grind[Instr.sameBits,beq_toListBytes]
 grind
theorem aIs:∀(b s:aI)(a vs:List aD),ba Y b a->ba Y s vs->b.length=s.length->(List.zip b s).all (λp=>yI p.1 p.2)=V->a=vs/\∀n,(a.zip vs).all (λp=>Instr.sameBits n p.1 p.2)=V:=by intro b;induction b with
 |nil=>intro s a vs c d l _;cases s with|cons=>grind|nil=>rw[c.rU,d.rU];simp_all
 |cons x b j=>
 intro s a vs c d l h;rcases s with _|⟨y,s⟩;.grind
 obtain⟨u,a,rfl,e,f⟩:=c.cons_inv;obtain⟨v,vs,rfl,g,i⟩:=d.cons_inv;simp only[List.zip_cons_cons,oJ,gu]at h;obtain⟨e1,e2⟩:=ajc e g h.1;obtain⟨e3,e4⟩:=j s a vs f i ai h.2;simp_all
theorem sameKey_eq{b:AV}(f:VR Y a u)(g:VR Y b v)(h:sameKey a b=V):u=v/\Instr.sameBits 10000 u v=V:=by
 unfold sameKey at h;split at h;.obtain⟨c,rfl,e,_⟩:=f.tA;obtain⟨d,rfl,hd,_⟩:=g.tA;rw[gu,bR,jV,dT,dT,qB]at h;obtain⟨e1,e2⟩:=aIs _ _ _ _ e hd h.1 h.2;simp_all[Instr.sameBits]
 grind[ajc]
theorem sW{c:Nat}(h:H.jO r=J (es,c)):H.get r=J (.map es c):=by grind[Heap.jO]
theorem Al(s:bQ S Y H w){c:Nat}(f:Y r=J p)(b:S (rootOf H r))(g:H.get r=J (.map es c)):∃a:Array kQ,w.heap[p.aZ]?=J (.map a c)/\nv Y es a.toList/\p.base=0:=by have d:je H r:=λl m fl e h=>ai;obtain⟨i,a,j,k⟩:=s.obj r p _ f b d g;grind
theorem yH{b:Nat}{o:Obj}(h:w.heap[b]?=J o)(a:∀c e f,o≠.cells c e f):(getObj b).run P w=.ok o w:=by grind[getObj,Sem.run]
theorem Js{b:Nat}{o o':Obj}(h:w.heap[b]?=J o)(a:∀c e f,o≠.cells c e f):(setObj b o').run P w=.ok () (World.eU w b o'):=by unfold setObj;unfold Sem.run;rw[h];cases o<;>first|rfl|grind
theorem va{b c:Nat}{e:Array kQ}(h:w.heap[b]?=J (.map e c)):(getObj b).run P w=.ok (.map e c) w:=by grind[yH]
theorem DF{b c:Nat}{e:Array kQ}{o:Obj}(h:w.heap[b]?=J (.map e c)):(setObj b o).run P w=.ok () (World.eU w b o):=by grind[Js]
theorem aGH(H:Heap)(r:Nat)(o:ch):H.put r r o=H.dI r r o:=by simp[Heap.dI]
theorem Rb(i:bg H)(s:bQ S Y H w){a o:ch}(O:Obj)(d:Y r=J p)(g:H.get r=J a)(h:a.dZ=C)(b:o.dZ=C)(c:mq Y (World.eU w p.aZ O) o p):bg (H.put r r o)/\bQ S Y (H.put r r o) (World.eU w p.aZ O)/\Fr Y H w Y (H.put r r o) (World.eU w p.aZ O):=by have hr:=yF g h;grind[fM,ch.dZ,aiB,aGH]
theorem Rv(w:aV){b:Nat}(h:b<w.heap.size)(o:Obj):(World.eU w b o).heap[b]?=J o:=by show(w.heap.setIfInBounds b o)[b]?=J o;grind
theorem DA(i:bg H)(s:bQ S Y H w){e:List eI}{c b:Nat}(a:Array kQ)(h:Y r=J p)(g:H.get r=J (.map es c))(d:p.base=0)(f:nv Y e a.toList):bg (H.put r r (.map e b))/\bQ S Y (H.put r r (.map e b)) (World.eU w p.aZ (.map a b))/\Fr Y H w Y (H.put r r (.map e b)) (World.eU w p.aZ (.map a b)):=Rb i s _ h g rfl rfl ⟨d,a,Rv w (s.stat.cC r p h).1 _,f⟩
theorem O2{d:TypeDesc}{r:ah (Nat×eI)}(u:P.underlying t=J d)(i:VR Y k kv)(g:nv Y es ms)(h:oR P t k es 0=J r):(r=Z/\∀w:aV,(Instr.findKey t kv ms).run P w=.ok Z w)\/∃j e m,r=J (j,e)/\es[j]?=J e/\ms[j]?=J m/\wo Y e m/\∀w:aV,(Instr.findKey t kv ms).run P w=.ok (J (j,m.val)) w:=by
 rcases as0 i es ms 0 r g h with⟨a,b⟩|⟨j,e,m,a,b,c,f⟩;.grind[adV]
 .simp only[kE]at a f;exact .inr ⟨j,e,m,a,b,c,g.2 j e m b c,adV u f⟩
theorem Qk(h:ql P t k=V):∃d,P.underlying t=J d:=by have a:BJ P _ t k=V:=h;unfold BJ at a;grind
theorem L7{empty:Bool}(h:ql P t k=V)(a:VR Y k kv)(w:aV):(Instr.checkKey empty 10000 t kv).run P w=.ok () w:=ayY 5 h a 10000 ab w
def Ai(P:aH)(a t:an)(s:List eI)(k:AV)(o:Bool):ah AV:=(oR P a k s 0).bind λ|some (_,e)=>J (bif o then .cL [e.2.1,.bool V]else e.2.1)|none=>(yZ P t).bind λz=>J (bif o then .cL [z,.bool C]else z)
theorem VD{a:an}{arr:Array kQ}{r:AV}{mv:aD}{o:Bool}(R:P.underlying t=J (.map kt a))(p:(∃b c,mv=.map (J b)/\w.heap[b]?=J (.map arr c))\/(mv=.map Z/\arr=#[]))(x:nv Y es arr.toList)(n:VR Y k kv)(l:ql P kt k=V)(h:Ai P kt a es k o=J r):∃z,(Instr.lookup t mv kv o).run P w=.ok z w/\VR Y r z:=by
 obtain⟨d,hd⟩:=Qk l;have O:=λe=>L7 (empty:=e) l n w;unfold Ai at h;rcases s:oR P kt k es 0 with _|q;.grind
 simp only[s,cR]at h;rcases O2 hd n x s with⟨rfl,g⟩|⟨j,e,m,rfl,g,B,i,v⟩
 . rcases u:yZ P a with _|z;.grind
   simp[u]at h;obtain⟨zv,y,A⟩:=Gg (Y:=Y) u w;refine⟨if o then .tuple #[zv,.bool C]else zv,?_,?_⟩
   . rcases p with⟨b,c,rfl,f⟩|⟨rfl,rfl⟩;.simp[Instr.lookup,dD R,va f,O,g w,y]
     simp_all[Instr.lookup,dD]
   . subst h;cases o;.grind
     .exact NF A (.bool _)
 . simp at h;refine⟨if o then .tuple #[m.val,.bool V]else m.val,?_,?_⟩
   . rcases p with⟨b,c,rfl,f⟩|⟨rfl,rfl⟩;.simp[Instr.lookup,dD R,va f,O,v w]
     grind
   . subst h;cases o;.exact i.2.1
     .exact NF i.2.1 (.bool _)
theorem nv.append(h:nv Y es ms){e:eI}(k:wo Y e m):nv Y (es++[e]) (ms++[m]):=by
 refine⟨by simp[h.1],λi a b d c=>?_⟩;by_cases hi:i<es.length;.rw[nV hi]at d;rw[nV (by rw[<-h.1];omega)]at c;exact h.2 i a b d c
 .rw[pY (by rw[<-h.1];omega),<-h.1]at c;grind
theorem agZ{a:Type}(l:List a)(i:Nat)(x:a)(h:i<l.length):vO l i x=l.set i x:=by grind[vO,ly,pV,qD,List.set_eq_take_append_cons_drop]
theorem nv.set(h:nv Y es ms){i:Nat}{e:eI}(k:wo Y e m):nv Y (es.set i e) (ms.set i m):=by
 refine⟨by simp[h.1],λj a b c d=>?_⟩;rw[List.getElem?_set]at c d;by_cases K:i=j;.grind
 .rw[if_neg K]at c d;exact h.2 j a b c d
theorem abk(s:Array kQ)(i:Nat)(f:kQ->kQ)(h:s.toList[i]?=J m):(s.modify i f).toList=s.toList.set i (f m):=by apply GY;grind
theorem aMf(z:bg H)(u:bQ S Y H w){c:Nat}(R:P.underlying t=J (.map kt vt))(s:Y r=J p)(F:S (rootOf H r))(o:H.get r=J (.map es c))(f:VR Y k kv)(y:ql P kt k=V)(A:VR Y x xv)(h:oR P kt k es 0=J q):(q=Z/\∃w',(Instr.mapUpdate t (.map (J p.aZ)) kv xv).run P w=.ok () w'/\bg (H.put r r (.map (dy es [(k,x,c)]) (fg c)))/\bQ S Y (H.put r r (.map (dy es [(k,x,c)]) (fg c))) w'/\Fr Y H w Y (H.put r r (.map (dy es [(k,x,c)]) (fg c))) w')\/∃i e,q=J (i,e)/\(sameKey e.1 k=V->∃w',(Instr.mapUpdate t (.map (J p.aZ)) kv xv).run P w=.ok () w'/\bg (H.put r r (.map (vO es i (e.1,x,e.2.2)) c))/\bQ S Y (H.put r r (.map (vO es i (e.1,x,e.2.2)) c)) w'/\Fr Y H w Y (H.put r r (.map (vO es i (e.1,x,e.2.2)) c)) w'):=by
 obtain⟨d,hd⟩:=Qk y;obtain⟨a,b,n,v⟩:=Al u s F o;have O:=L7 (empty:=C) y f w;rcases O2 hd f n h with⟨rfl,g⟩|⟨j,e,m,rfl,g,D,l,E⟩
 . left;refine⟨rfl,_,?_,DA z u (a.push {key:=kv,val:=xv,born:=c}) s o v ?_⟩;.simp[Instr.mapUpdate,dD R,va b,O,g w,DF b]
   .rw[ly,Array.toList_push];exact n.append ⟨f,A,rfl⟩
 . right;refine⟨j,e,rfl,λM=>?_⟩;obtain⟨e1,e2⟩:=sameKey_eq l.1 f M;have G:=(am.1 g).1;have B:a[j]?=J m:=ai;refine⟨_,?_,DA z u (a.modify j λe=>{e with key:=kv,val:=xv}) s o v ?_⟩;.simp[Instr.mapUpdate,dD R,va b,O,E w,DF b,B,Instr.keyThatStays,e2]
   .rw[agZ _ _ _ G,abk _ _ _ D];exact n.set ⟨by rw[<-e1];exact l.1,A,l.2.2⟩
theorem aBu(s:Array kQ)(i:Nat)(f:kQ->kQ)(h:s.toList[i]?=J m)(a:f m=m):s.modify i f=s:=ai
theorem aqd(A:bg H)(s:bQ S Y H w){c:Nat}(R:P.underlying t=J (.map kt vt))(o:Y r=J p)(G:S (rootOf H r))(n:H.get r=J (.map es c))(f:VR Y k kv)(y:ql P kt k=V)(h:oR P kt k es 0=J q):(q=Z/\∀z,yZ P vt=J z->∃u w',(Instr.mapEntry t (.map (J p.aZ)) kv).run P w=.ok u w'/\VR Y (.cL [z,gZ c]) u/\bg (H.put r r (.map (dy es [(k,z,c)]) (fg c)))/\bQ S Y (H.put r r (.map (dy es [(k,z,c)]) (fg c))) w'/\Fr Y H w Y (H.put r r (.map (dy es [(k,z,c)]) (fg c))) w')\/∃i e,q=J (i,e)/\(sameKey e.1 k=V->∃u w',(Instr.mapEntry t (.map (J p.aZ)) kv).run P w=.ok u w'/\VR Y (.cL [e.2.1,gZ e.2.2]) u/\bg (H.put r r (.map es c))/\bQ S Y (H.put r r (.map es c)) w'/\Fr Y H w Y (H.put r r (.map es c)) w'):=by
 obtain⟨d,hd⟩:=Qk y;obtain⟨a,b,l,x⟩:=Al s o G n;have O:=L7 (empty:=C) y f w;rcases O2 hd f l h with⟨rfl,v⟩|⟨j,e,m,rfl,v,E,g,F⟩
 . left;refine⟨rfl,λz K=>?_⟩;obtain⟨zv,L,B⟩:=Gg K w;refine⟨.tuple #[zv,goInt c],_,?_,NF B (.int _ _),DA A s (a.push {key:=kv,val:=zv,born:=c}) o n x ?_⟩;.simp[Instr.mapEntry,dD R,va b,O,v w,DF b,L]
   .rw[ly,Array.toList_push];exact l.append ⟨f,B,rfl⟩
 .right;refine⟨j,e,rfl,λM=>?_⟩;obtain⟨e1,e2⟩:=sameKey_eq g.1 f M;have D:a[j]?=J m:=ai;refine⟨.tuple #[m.val,goInt _],_,?_,NF g.2.1 (by rw[<-g.2.2];exact .int _ _),DA A s _ o n x l⟩;have I:a.modify j (λe=>{e with key:=kv})=a:=aBu _ _ _ E (by rw[<-e1]);simp[Instr.mapEntry,dD R,va b,O,F w,DF b,D,Instr.keyThatStays,e2,I]
theorem aoL(I:bg H)(B:bQ S Y H w){ty:an}{c:Nat}(u:ats[0]?=J t)(R:P.underlying t=J (.map kt vt))(A:Y r=J p)(F:S (rootOf H r))(y:H.get r=J (.map es c))(z:VR Y k kv)(x:ql P kt k=V)(h:oR P kt k es 0=J q):∃w',(Builtin.delete_ ats ty #[.map (J p.aZ),kv]).run P w=.ok (.tuple #[]) w'/\(∀s,s=(match q with|some (i,_)=>dy (wc i es) (zH (fg i) es)|none=>es)->bg (H.put r r (.map s c))/\bQ S Y (H.put r r (.map s c)) w'/\Fr Y H w Y (H.put r r (.map s c)) w'):=by
 obtain⟨d,hd⟩:=Qk x;obtain⟨f,l,n,G⟩:=Al B A F y;have O:=λe=>L7 (empty:=e) x z w;rcases O2 hd z n h with⟨rfl,v⟩|⟨j,e,m,rfl,v,M,N,E⟩
 . refine⟨World.eU w p.aZ (.map f c),?_,λs D=>?_⟩;.simp[Builtin.delete_,u,dD R,va l,O,v w,DF l]
   grind[DA]
 . refine⟨World.eU w p.aZ (.map (f.eraseIdxIfInBounds j) c),?_,λs D=>?_⟩;.simp[Builtin.delete_,u,dD R,va l,O,E w,DF l]
   . subst D;refine DA I B _ A y G ?_;have L:j<f.size:=ai;simp only[ly,pV,qD];rw[Array.eraseIdxIfInBounds,dif_pos L,Array.toList_eraseIdx,List.eraseIdx_eq_take_drop_succ];refine⟨by simp[n.1],λi a b g o=>?_⟩;have t1:(es.take j).length=j:=ai;have t2:(f.toList.take j).length=j:=ai;by_cases K:i<j;.rw[nV ab,Cm K]at g;rw[nV ab,Cm K]at o;exact n.2 i a b g o
     .rw[pY ab,t1,xD]at g;rw[pY ab,t2,xD]at o;exact n.2 _ a b g o
end
end Go.AM
