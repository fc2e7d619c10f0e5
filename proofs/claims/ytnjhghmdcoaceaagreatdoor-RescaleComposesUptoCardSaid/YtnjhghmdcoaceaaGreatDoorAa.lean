/- Proved: the abstract machine and the value machine, and laws of the first one. -/
import GoSem.Step
import Derived.Calls
import Derived.Laws.Entries
import Derived.Laws.StructEq
import Derived.Laws.RangeString
import Derived.Laws.BytesString
import Derived.RunT
import Derived.Orders
import Derived.ChangeKeysEq
import Derived.Shelf.Strings.Search2
import Derived.Shelf.Small.Strs
import Derived.Test.YtnjhghmdcoaceaaGreatDoorProg
import Derived.KernelRfl
import Derived.Lib.SlicesCompact
import Derived.ReadAgain
import Derived.OpenShut
import Derived.LaidSub
import Derived.Shelf.Sort.Plain
import Derived.Shelf.Slices.CompactI
import Derived.Shelf.Spec.SlicesInsert
import Derived.Lib.AppendZerosOnto
import Derived.Shelf.Slices.In.SortNone
import Derived.WalkKit
import Derived.ProofKit
import Derived.Deep.DeepHandedRow
import Derived.Lib.LaidTab
import Derived.LaidByTextLater
import Derived.SevenTiedAt
import Derived.LaidOnce
open Option renaming some->J,none->Z
open Bool renaming true->V,false->C
open Go renaming TypeId->an,Oper->aB,Value->aD,Program->aH,Operand->aK,World->aT,Code->bM,FuncId->bY,IntKind->fT,MapEntry->kS,ResultVar->oS
open Go.Builtin renaming zeroCells->nX,firstCells->oQ,append_->tz
open Go.Region renaming binds->uy
open Int renaming ofNat->du,add->jX
open List renaming rec->ja,replicate->mr,range->qm
open Nat renaming beq->aw,ble->bz,blt->cw,succ->fj,mul->fA,add->iw
open UInt8 renaming toNat->ko
noncomputable section
set_option linter.all false
def ab{p:Prop}(h:p:=by omega):p:=h
def aP{p:Prop}(h:p:=by simp):p:=h
def ai{p:Prop}(h:p:=by grind):p:=h
def aU{p:Prop}(h:p:=by simp_all):p:=h
def ft{p:Prop}(h:p:=by decide):p:=h
def aL{p:Prop}(h:p:=by kernel_rfl):p:=h
def aR:type_of%@cond_true:=@cond_true
theorem bE:type_of%@Option.some.inj:=@Option.some.inj
def bT:type_of%@Nat.le_refl:=@Nat.le_refl
theorem ch:type_of%@cond_false:=@cond_false
def am:=@List.getElem?_eq_some_iff
def ap:=@Array.getElem?_eq_some_iff
def au:=@List.mem_map
def a8:=@List.mem_iff_getElem?
def be:=@List.pairwise_cons
def bf:=@List.length_eq_zero_iff
def bi:=@Go.Result.andThen_ok
def bl:=@List.mem_filter
def bv:=@List.mk_mem_zipIdx_iff_getElem?
def cb:=@Bool.eq_false_iff
def ce:=@List.getElem?_eq_none
def ci:=@Int.ofNat_le
def cK:=@eq_false
theorem cU:type_of%@Option.bind_some:=@Option.bind_some
def dw:=@List.mem_of_getElem?
def dC:type_of%@List.getElem?_eq_getElem:=@List.getElem?_eq_getElem
theorem dD:type_of%@List.length_cons:=@List.length_cons
def dX:=@decide_true
theorem eM:type_of%@List.map_nil:=@List.map_nil
theorem fO:type_of%@List.length_map:=@List.length_map
theorem fU:type_of%@List.mem_cons_self:=@List.mem_cons_self
theorem gb:type_of%@List.map_cons:=@List.map_cons
def gj:=@Nat.le_trans
def gD:type_of%@Bool.and_eq_true:=@Bool.and_eq_true
def gE:type_of%@Nat.lt_of_lt_of_le:=@Nat.lt_of_lt_of_le
def gL:=@List.length_nil
def gM:=@Option.map_some
theorem gR:type_of%@List.length_append:=@List.length_append
def gT:=@congrArg
def il:=@eq_true
theorem iK:type_of%@Option.map_eq_some_iff:=@Option.map_eq_some_iff
def jf:=@Prod.mk.inj
def jy:type_of%@List.mem_cons_of_mem:=@List.mem_cons_of_mem
def jB:type_of%@decide_eq_true_eq:=@decide_eq_true_eq
def jO:=@List.nil_append
theorem jY:type_of%@List.append_nil:=@List.append_nil
theorem jZ:type_of%@List.getElem?_map:=@List.getElem?_map
theorem kG:type_of%@Nat.zero_add:=@Nat.zero_add
def lC:=@decide_false
def lU:=@List.cons_append
def lV:=@List.not_mem_nil
def lW:=@Nat.mul_le_mul_right
def mw:=@Nat.zero_le
def mE:type_of%@decide_eq_true:=@decide_eq_true
def mS:type_of%@Array.getElem?_eq_getElem:=@Array.getElem?_eq_getElem
def nr:=@of_eq_true
theorem nB:type_of%@Nat.ble_eq_true_of_le:=@Nat.ble_eq_true_of_le
def nY:=@List.all_nil
def nZ:type_of%@List.getElem?_append_left:=@List.getElem?_append_left
def pG:=@Classical.em
def pH:=@List.all_cons
def pI:=@List.sizeOf_lt_of_mem
theorem pJ:type_of%@Nat.beq_refl:=@Nat.beq_refl
theorem ql:type_of%@List.getElem?_append_right:=@List.getElem?_append_right
def qJ:type_of%@List.map_append:=@List.map_append
def qL:=@Nat.mul_le_mul
def rJ:=@Option.isNone_none
def rK:=@Option.map_none
def sL:type_of%@List.length_take:=@List.length_take
def sN:=@Option.isNone_some
def sO:=@Option.isSome_none
def ue:=@of_decide_eq_true
theorem uu:type_of%@List.append_assoc:=@List.append_assoc
def ux:=@Option.bind_assoc
theorem vq:type_of%@Nat.add_zero:=@Nat.add_zero
def xz:=@Bool.and_self
def xA:=@Bool.and_true
theorem xB:type_of%@Bool.false_or:=@Bool.false_or
def xC:=@Bool.not_true
theorem xH:type_of%@List.drop_zero:=@List.drop_zero
def xI:type_of%@List.getElem?_drop:=@List.getElem?_drop
def xJ:type_of%@List.length_replicate:=@List.length_replicate
def xK:type_of%@Nat.add_mul:=@Nat.add_mul
def xL:=@Option.some.injEq
def ze:=@Bool.not_false
def zf:=@Bool.true_and
theorem zo:type_of%@List.any_cons:=@List.any_cons
def zp:=@List.drop_append
def AW:type_of%@Bool.or_eq_true:=@Bool.or_eq_true
def A0:type_of%@List.all_eq_true:=@List.all_eq_true
def A7:type_of%@List.foldl_cons:=@List.foldl_cons
def A8:type_of%@List.take_length:=@List.take_length
def A9:type_of%@Nat.add_assoc:=@Nat.add_assoc
def Bq:type_of%@decide_eq_false:=@decide_eq_false
def CD:=@Bool.not_not
def CG:type_of%@List.getElem?_take_of_lt:=@List.getElem?_take_of_lt
def CH:type_of%@List.mem_append:=@List.mem_append
theorem CI:type_of%@List.mem_cons:=@List.mem_cons
def CJ:type_of%@List.mem_singleton:=@List.mem_singleton
def C0:type_of%@decide_eq_false_iff_not:=@decide_eq_false_iff_not
theorem Eh:type_of%@List.drop_drop:=@List.drop_drop
theorem Ei:type_of%@List.drop_eq_getElem_cons:=@List.drop_eq_getElem_cons
def Ej:=@List.ext_getElem?
theorem Ek:type_of%@List.filter_cons:=@List.filter_cons
theorem El:type_of%@List.tail_drop:=@List.tail_drop
def Eo:=@Option.getD_some
def G6:type_of%@Array.getD_eq_getD_getElem?:=@Array.getD_eq_getD_getElem?
def G7:=@Classical.byContradiction
def Hh:type_of%@List.flatMap_cons:=@List.flatMap_cons
theorem Hj:type_of%@List.getElem_mem:=@List.getElem_mem
theorem Hk:type_of%@List.head?_drop:=@List.head?_drop
theorem Hl:type_of%@List.take_append_drop:=@List.take_append_drop
def Hm:=@List.take_of_length_le
def Hr:=@Nat.lt_succ_self
def Hs:=@Nat.not_lt_zero
def J8:type_of%@Bool.or_eq_false_iff:=@Bool.or_eq_false_iff
def Kb:=@Int.ofNat_eq_natCast
def Kc:=@List.append_of_mem
theorem Ke:type_of%@List.getElem?_cons_succ:=@List.getElem?_cons_succ
def Kf:type_of%@List.getElem?_range:=@List.getElem?_range
def Kg:=@List.mem_append_left
theorem Kh:type_of%@List.take_add_one:=@List.take_add_one
def Ki:=@Nat.le_succ
def Ob:=@Array.ext_getElem?
theorem Of:type_of%@Nat.le_of_ble_eq_true:=@Nat.le_of_ble_eq_true
def Og:=@Nat.lt_of_le_of_lt
def Oj:=@Prod.mk.injEq
def Ss:=@Bool.not_eq_true'
def Sy:=@List.length_singleton
def Sz:=@List.mem_append_right
def SA:=@List.mem_of_mem_drop
def SB:=@List.mem_of_mem_take
def SC:=@List.take_append
def SE:=@Option.isSome_some
def Wu:=@of_decide_eq_false
namespace Go
abbrev aE:=List Nat
abbrev cG:=List Int
abbrev ah:=Option.{0}
end Go
namespace Go.AM
inductive Pos where|e|o(p:Pos)|i(p:Pos)
def xr(f:Nat):Nat->Pos:=Nat.rec (λ_=>.e) (λ_ i n=>Bool.rec (Bool.rec (.i (i (Nat.pred (Nat.div n 2)))) (.o (i (Nat.div n 2))) (aw (Nat.mod n 2) 1)) .e (aw n 0)) f
def toPos(n:Nat):Pos:=xr (fj n) n
inductive Tr(α:Type)where|nil|node(l:Tr α)(v:Option α)(r:Tr α)
def Bz{a:Type}(t:Tr a):Pos->ah a:=Tr.rec (λ_=>Z) (λ_ v _ gl gr p=>Pos.rec v (λp _=>gl p) (λp _=>gr p) p) t
def Dx{a:Type}(p:Pos)(x:a):Tr a->Tr a:=Pos.rec (λt=>Tr.rec (.node .nil (J x) .nil) (λl _ r _ _=>.node l (J x) r) t) (λ_ i t=>Tr.rec (.node (i .nil) Z .nil) (λl v r _ _=>.node (i l) v r) t) (λ_ i t=>Tr.rec (.node .nil Z (i .nil)) (λl v r _ _=>.node l v (i r)) t) p
def Tr.get{a:Type}(t:Tr a)(n:Nat):ah a:=Bz t (toPos n)
def Tr.ins{a:Type}(t:Tr a)(n:Nat)(x:a):Tr a:=Dx (toPos n) x t
def fg{a:Type}(l:List a):Nat:=ja 0 (λ_ _ i=>fj i) l
def dL{b:Type}(l m:List b):List b:=ja m (λa _ i=>a::i) l
def zK{a:Type}(n:Nat):List a->List a:=Nat.rec (λl=>l) (λ_ i l=>ja [] (λ_ t _=>i t) l) n
def wo{b:Type}(n:Nat):List b->List b:=Nat.rec (λ_=>[]) (λ_ i l=>ja [] (λa t _=>a::i t) l) n
def pj{b:Type}(l:List b)(n:Nat):ah b:=ja Z (λa _ _=>J a) (zK n l)
def yD{b c:Type}(f:b->c)(l:List b):List c:=ja [] (λa _ i=>f a::i) l
def cB{c d:Type}(f:c->ah d)(l:List c):ah (List d):=ja (J []) (λa _ i=>(f a).bind λb=>i.bind λt=>J (b::t)) l
def fV{d c:Type}(f:c->d->c)(l:List d):c->c:=ja (λb=>b) (λa _ i b=>i (f b a)) l
def lE{d c:Type}(f:c->d->ah c)(l:List d):c->ah c:=ja (λb=>J b) (λa _ i b=>(f b a).bind i) l
def jW{a:Type}(n:Nat)(z:List a):List a:=Nat.rec [] (λ_ i=>dL z i) n
def lx{b:Type}(f:b->Bool)(l:List b):Bool:=ja V (λa _ i=>bif f a then i else C) l
def xZ(l:aE):aE->Bool:=ja (λm=>ja V (λ_ _ _=>C) m) (λa _ i m=>ja C (λb t _=>bif aw a b then i t else C) m) l
def fZ{a:Type}(l:List a)(o:Nat)(v:List a):List a:=dL (wo o l) (dL v (zK (iw o (fg v)) l))
def vV{a:Type}(l:List a)(i:Nat)(x:a):List a:=dL (wo i l) (x::zK (fj i) l)
def aj:Int->Int->Bool|.ofNat a,.ofNat b=>aw a b|.negSucc a,.negSucc b=>aw a b|_,_=>C
def aA:Int->Int->Bool|.ofNat a,.ofNat b=>cw a b|.negSucc _,.ofNat _=>V|.ofNat _,.negSucc _=>C|.negSucc a,.negSucc b=>cw b a
def Fv:Int->ah Nat|.ofNat n=>J n|.negSucc _=>Z
def dQ(k:fT)(n:Int):Int:=match k,n with|.i64,.ofNat m=>bif cw m 9223372036854775808 then n else k.wrap n|_,_=>k.wrap n
end Go.AM
namespace Go.AM
variable{α:Type}
inductive AV where|top|bool(b:Bool)|int(k:fT)(n:Int)|str(s:List Nat)|ptr(id off:Nat)|eS|sl(id off len:Nat)(cap:Option Nat)(esz:Nat)|bH|map(r:Nat)|fY|func(f:bY)(first captured:List AV)|yield(l:Nat)|nilFunc|agg(l:List AV)|cO(l:List AV)
abbrev aJ:=List AV
def fD:AV:=.cO []
def AV.aV:AV->Bool|.agg _|.cO _=>C|_=>V
def AV.cells:AV->ah aJ|.agg l=>J l|.cO _|.top=>Z|v=>J [v]
inductive N' where|fn(f:bY)(captured:List AV)|yield(l:Nat)|builtin(b:Builtin)(argTypes:Array an)
structure Sr where
 target:N'
 args:aJ
structure AT where
 state:LoopState
 pending:ah bM
 fn:bY
 n:Nat
 tmps:Tr AV
 params:List Tmp
 assign:bM
 body:bM
 defers:Nat
abbrev eL:=AV×AV×Nat
inductive fS where|ro|ex|op
def fS.wr:fS->Bool|.ro=>C|_=>V
inductive cq where|cells(l:List AV)(root:Nat)(fl:fS)(e:an)|map(es:List eL)(clock:Nat)|mapIter(m:Option Nat)(since:Nat)(seen:List Nat)(D2:Nat)|loop(l:AT)|deferred(b:Bool)
structure Heap where
 tr:Tr cq
 dz:Tr (Nat×Nat)next:Nat
 bA:Nat
 bX:aE
 cL:aE
namespace Heap
def get(H:Heap)(i:Nat):ah cq:=H.tr.get i
def br(H:Heap)(r:Nat):Nat×Nat:=(H.dz.get r).getD (0,r)
def alloc(H:Heap)(o:cq):Heap:={H with tr:=H.tr.ins H.next o,next:=fj H.next}
def cT(H:Heap)(l:aJ)(f:fS)(e:an):Heap:=H.alloc (.cells l H.next f e)
def note(b r:Nat)(l:aE):aE:=bif cw r b then r::l else l
def put(H:Heap)(i r:Nat)(o:cq):Heap:={H with tr:=H.tr.ins i o,bX:=note H.bA r H.bX}
def dM(H:Heap)(i r:Nat)(o:cq):Heap:=bif aw r i then H.put i r o else{H.put i r o with dz:=(H.put i r o).dz.ins r (i,i)}
def gV(H:Heap)(r f:Nat)(g:Bool)(c:aJ)(e:an):Heap:={tr:=H.tr.ins H.next (.cells c r .op e),dz:=H.dz.ins r (bif g then H.next else f,H.next),next:=fj H.next,bA:=H.bA,bX:=bif g then note H.bA r H.bX else H.bX,cL:=note H.bA r H.cL}
def cellsOf(H:Heap)(i:Nat):ah aJ:=match H.get i with|some (.cells l root _ _)=>bif bz (H.br root).1 i then J l else Z|_=>Z
def load(H:Heap)(i o n:Nat):ah aJ:=(H.cellsOf i).bind λl=>bif bz (iw o n) (fg l)then J (wo n (zK o l))else Z
def store(H:Heap)(i o:Nat)(v:aJ):ah Heap:=match H.get i with
 |some (.cells l root f e)=>let m:=H.br root
 bif bz m.1 i&&(aw m.2 i&&(bz (iw o (fg v)) (fg l)&&f.wr))then J (H.dM i root (.cells (fZ l o v) root f e))else Z|_=>Z
def jU(H:Heap)(r:Nat):ah (List eL×Nat):=match H.get r with|some (.map e c)=>J (e,c)|_=>Z
end Heap
def DF:aD->ah AV|.bool b=>J (.bool b)|.int k n=>J (.int k n)|.string s=>J (.str (s.data.toList.map ko))|.pointer Z=>J .eS|.slice Z 0 0=>J .bH|.map Z=>J .fY|.nilFunc=>J .nilFunc|_=>Z
def xb:aD->ah AV|.agg c=>(cB DF c.toList).map .agg|v=>DF v
structure cJ where
 fn:bY
 n:Nat
 tmps:Tr AV
 todo:List Item
 defers:aE
 mode:FrameMode
 roundOf:ah Nat
def cJ.tmp(f:cJ)(t:Nat):AV:=(f.tmps.get t).getD fD
inductive Out where|ret(v:AV)(H:Heap)
def Li{a:Type}(n:Nat)(k:Nat->a):a:=Nat.rec (k 0) (λm _=>k (fj m)) n
theorem Uv(n:Nat)(k:Nat->α):Li n k=k n:=by cases n<;>rfl
def Uu{b c:Type}(l:List c)(k:List c->b):b:=ja (k []) (λa l _=>k (a::l)) l
theorem auk{a:Type}(l:List a)(k:List a->α):Uu l k=k l:=by cases l<;>rfl
def Lj{a b:Type}(t:Tr b)(k:Tr b->a):a:=Tr.rec (k .nil) (λl v r _ _=>k (.node l v r)) t
theorem Pt{a:Type}(t:Tr a)(k:Tr a->α):Lj t k=k t:=by cases t<;>rfl
def NQ{a:Type}(k:Heap->a)(H:Heap):a:=Heap.rec (λt d next b X c=>Lj t λt=>Lj d λd=>Li next λnext=>Li b λb=>Uu X λX=>Uu c λc=>k ⟨t,d,next,b,X,c⟩) H
theorem akg(k:Heap->α)(H:Heap):NQ k H=k H:=by cases H;simp only[NQ,Uv,auk,Pt]
def cJ.vi(f:cJ)(x:List Item):cJ:=cJ.rec (λfn n t _ d m ro=>⟨fn,n,t,x,d,m,ro⟩) f
def cJ.RG(f:cJ)(x:FrameMode):cJ:=cJ.rec (λfn n t todo d _ ro=>⟨fn,n,t,todo,d,x,ro⟩) f
def cJ.RF(f:cJ)(x:aE):cJ:=cJ.rec (λfn n t todo _ m ro=>⟨fn,n,t,todo,x,m,ro⟩) f
abbrev Rec:=cJ->Heap->ah Out
abbrev ct:=bY->aJ->Heap->ah (ah (AV×Heap))
section
variable(P:aH)
def bN(t:an):ah Bool:=match P.underlying t with|some (.struct _)|some (.array _ _)=>J V|some _=>J C|none=>Z
def aW(t:an):ah Nat:=(P.info? t).map (·.size)
def zd(t:an):ah AV:=(P.info? t).bind λi=>i.zero.bind xb
def mq(t:an):ah aJ:=(zd P t).bind AV.cells
def bJ(m:Tr AV):aK->ah AV
 |.tmp t=>match(m.get t).getD fD with|.top=>Z|v=>J v
 |.const v=>xb v|.global g=>bif cw g P.globals.size then J (.ptr g 0)else Z|.func f=>J (.func f [] [])
def kC(t:an)(c:aJ)(o:Nat):ah AV:=match bN P t with|some V=>(aW P t).bind λn=>bif bz (iw o n) (fg c)then J (.agg (wo n (zK o c)))else Z|some C=>pj c o|none=>Z
def loadVar(H:Heap)(t:an)(i o:Nat):ah AV:=match bN P t with|some V=>(aW P t).bind λn=>(H.load i o n).map .agg|some C=>(H.cellsOf i).bind λl=>pj l o|none=>Z
def storeVar(H:Heap)(t:an)(i o:Nat)(v:AV):ah Heap:=(aW P t).bind λn=>v.cells.bind λs=>bif aw (fg s) n then H.store i o s else Z
def zU(l:Nat->ah (Nat×Nat))(s:List (Nat×AV)):aJ->ah aJ:=lE (λcells p=>(l p.1).bind λo=>p.2.cells.bind λv=>bif aw (fg v) o.2&&bz (iw o.1 o.2) (fg cells)then J (fZ cells o.1 v)else Z) s
def EF(h:an->AV->AV->ah Bool)(t:an)(x y:AV):ah Bool:=match P.underlying t,x,y with|some .bool,.bool a,.bool b=>J (a==b)|some (.int _),.int k a,.int g b=>if k=g then J (aj a b)else Z|some .string,.str a,.str b=>J (xZ a b)|some (.struct l),.agg s,.agg d=>bif P.stoodInHeld t then Z else lE (λc(f:Field)=>bif c then(bif f.name== "_"then J V else(kC P f.type s f.offset).bind λa=>(kC P f.type d f.offset).bind λb=>h f.type a b)else J C) l.toList V|some (.array n e),.agg s,.agg d=>(aW P e).bind λz=>lE (λc i=>bif c then(kC P e s (fA i z)).bind λa=>(kC P e d (fA i z)).bind λb=>h e a b else J C) (qm n) V|some (.pointer _),.eS,.eS=>J V|some (.pointer _),.eS,.ptr _ _|some (.pointer _),.ptr _ _,.eS=>J C|some (.slice _),.bH,.bH=>J V|some (.slice _),.bH,.sl ..|some (.slice _),.sl ..,.bH=>J C|_,_,_=>Z
def lD(f:Nat):an->AV->AV->ah Bool:=Nat.rec (λ_ _ _=>Z) (λ_ i=>EF P i) f
def ia(n:Nat):AV:=.int .i64 (.ofNat n)
def IY(o:BinOp)(k:fT)(a b:Int):ah AV:=match o with
 |.add=>J (.int k (dQ k (jX a b)))|.sub=>J (.int k (dQ k (Int.sub a b)))|.mul=>J (.int k (dQ k (Int.mul a b)))|.quo=>bif aj b 0 then Z else J (.int k (dQ k (a.tdiv b)))|.rem=>bif aj b 0 then Z else J (.int k (a.tmod b))|.and|.xor=>match(Op.intBits o k a b).run P default with|.ok (.int k n) _=>J (.int k n)|_=>Z
 |.eql=>J (.bool (aj a b))|.neq=>J (.bool (!(aj a b)))|.lss=>J (.bool (aA a b))|.leq=>J (.bool (!(aA b a)))|.gtr=>J (.bool (aA b a))|.geq=>J (.bool (!(aA a b)))|_=>Z
def BZ(a:aE):aE->Bool:=ja (λb=>ja C (λ_ _ _=>V) b) (λx _ i b=>ja C (λy t _=>bif cw x y then V else bif cw y x then C else i t) b) a
def R0(o:BinOp)(a b:aE):ah AV:=match o with|.add=>bif bz (iw (fg a) (fg b)) 1000000000 then J (.str (dL a b))else Z|.eql=>J (.bool (xZ a b))|.neq=>J (.bool (!(xZ a b)))|.lss=>J (.bool (BZ a b))|.gtr=>J (.bool (!(BZ a b||xZ a b)))|_=>Z
def zW(t:an)(o a:aK)(x y:AV):Bool:=match x,y with|.agg _,.agg _=>!P.eqGuardType P.depth t|_,_=>V
def xU(op:BinOp)(t:an)(o c:aK)(x y:AV):ah AV:=match op,x,y with
 |.shr,.int k a,.int e b=>match(Op.shift op k a e b).run P default with|.ok (.int k n) _=>J (.int k n)|_=>Z
 |op,.int k a,.int d b=>if k=d then IY P op k a b else Z|op,.str a,.str b=>R0 op a b|.eql,x,y=>bif zW P t o c x y then(lD P 50 t x y).map .bool else Z|.neq,x,y=>bif zW P t o c x y then(lD P 50 t x y).map λb=>.bool (!b)else Z|_,_,_=>Z
def Sc(o:UnOp)(x:AV):ah AV:=match o,x with|.neg,.int k n=>J (.int k (dQ k (Int.sub 0 n)))|.not,.bool b=>J (.bool (!b))|_,_=>Z
def nO:AV->ah Nat|.bH=>J 0|.sl _ _ n _ _=>J n|_=>Z
def re:AV->ah Nat|.str s=>J (fg s)|v=>nO v
def qT(H:Heap)(z n:Nat):AV->ah aJ|.bH=>J []|.sl id o _ _ e=>bif aw n 0 then J []else bif aw e z then H.load id o (fA n z)else Z|.str s=>bif aw z 1 then J (yD (λ(b:Nat)=>AV.int .u8 (.ofNat b)) (wo n s))else Z|_=>Z
def bm:Nat:=1099511627776
def nE(H:Heap)(m:an)(z b:Nat)(s:AV)(w:aJ)(n:Nat):ah (AV×Heap):=bif aw z 0 then Z else match s with
 |.bH=>bif aw n 0 then J (.bH,H)else bif bz (fA n b) bm&&bz n bm then J (.sl H.next 0 n Z z,H.cT w .op m)else Z|.sl id o len p e=>bif aw e z&&(bz (fA (iw len n) b) bm&&bz (iw len n) bm)then bif aw n 0 then J (s,H)else match H.get id with
 |some (.cells l root d e0)=>let f:=H.br root
 bif bz f.1 id then let a:=iw o (fA len z)
 let fresh:ah (AV×Heap):=J (.sl H.next 0 (iw len n) Z z,H.cT (dL (wo (fA len z) (zK o l)) w) .op m)
 match p with
 |some c=>bif bz (iw len n) c then(H.store id a w).map λH=>(.sl id o (iw len n) p z,H)else fresh|none=>bif bz (iw a (fA n z)) (fg l)then(H.store id a w).map λH=>(.sl id o (iw len n) Z z,H)else bif d.wr&&(aw f.2 id&&aw e0 m)then let cells:=dL (wo (fA len z) (zK o l)) w
 let g:=cw a (fg l)
 J (.sl H.next 0 (iw len n) Z z,H.gV root f.1 g cells m)else Z else Z|_=>Z else Z|_=>Z
def oY(t:an)(k:AV)(s:List eL):Nat->ah (ah (Nat×eL)):=ja (λ_=>J Z) (λe _ h i=>(lD P 50 t k e.1).bind λb=>bif b then J (J (i,e))else h (fj i)) s
def BU(h:an->AV->Bool)(t:an)(k:AV):Bool:=match P.underlying t,k with|some .bool,.bool _|some (.int _),.int _ _|some .string,.str _=>V|some (.struct i),.agg c=>lx (λ(f:Field)=>f.name== "_"||(match kC P f.type c f.offset with|some v=>h f.type v|none=>C)) i.toList|_,_=>C
def I5(f:Nat):an->AV->Bool:=Nat.rec (λ_ _=>C) (λ_ i=>BU P i) f
def qB(t:an)(k:AV):Bool:=I5 P 5 t k
def yO:AV->AV->Bool|.bool a,.bool b=>a==b|.int j a,.int k b=>j==k&&aj a b|.str a,.str b=>xZ a b|_,_=>C
def sameKey:AV->AV->Bool|.agg a,.agg b=>aw (fg a) (fg b)&&lx (λ(p:AV×AV)=>yO p.1 p.2) (List.zip a b)|x,y=>yO x y
def OA(b:Nat)(l:List eL):Nat->ah (Nat×eL):=ja (λ_=>Z) (λ(e:eL)_ h i=>bif aw e.2.2 b then J (i,e)else h (fj i)) l
def Dz(n:aE)(l:List eL):List eL:=ja [] (λ(e:eL)_ i=>bif lx (λs=>!(aw s e.2.2)) n then e::i else i) l
def mT(x:AV)(y:Nat):ah Nat:=match x with|.int _ (.ofNat n)=>bif bz n y then J n else Z|_=>Z
def ff(x:ah AV)(y d:Nat):ah Nat:=match x with|some v=>mT v y|none=>J d
def sliceB(H:Heap)(t:an)(x:AV)(b i d:ah AV):ah AV:=match P.underlying t,x with|some (.slice a),.bH=>(aW P a).bind λ_=>(ff d 0 0).bind λm=>(ff i m 0).bind λh=>(ff b h 0).bind λ_=>J .bH|some (.slice a),.sl id o len (J c) e=>(aW P a).bind λn=>bif aw n e then(ff d c c).bind λm=>(ff i m len).bind λh=>(ff b h 0).bind λl=>bif bz l h&&bz h m then J (.sl id (iw o (fA l e)) (Nat.sub h l) (J (Nat.sub m l)) e)else Z else Z|some (.slice a),.sl id o len Z e=>(aW P a).bind λn=>bif aw n e then match d with|some m=>(mT m bm).bind λm=>(ff i m len).bind λh=>(ff b h 0).bind λl=>(H.cellsOf id).bind λc=>bif bz (iw o (fA m e)) (fg c)&&(bz h m&&bz l h)then J (.sl id (iw o (fA l e)) (Nat.sub h l) (J (Nat.sub m l)) e)else Z|none=>(ff i bm len).bind λh=>(ff b h 0).bind λl=>bif bz l h then bif bz h len then J (.sl id (iw o (fA l e)) (Nat.sub h l) Z e)else(H.cellsOf id).bind λc=>bif bz (iw o (fA h e)) (fg c)then J (.sl id (iw o (fA l e)) (Nat.sub h l) Z e)else Z else Z else Z|_,_=>Z
def qb(H:Heap)(t:an)(x:AV)(l h m:ah AV):ah AV:=match m,h with|some _,Z=>Z|_,_=>sliceB P H t x l h m
inductive fo where|val(v:AV)(H:Heap)|call(fr:cJ)(H:Heap)
def iC(H:Heap)(b:Builtin)(t:Array an)(h:aJ):ah (AV×Heap):=match b,h with
 |.append,[s,x]=>match t[0]?.bind P.underlying with
  |some (.slice e)=>match P.info? e with|some i=>(mq P e).bind λz=>bif aw (fg z) i.size then match t[1]?.bind P.underlying with
  |some (.int _)=>match x with|.int .i64 (.ofNat n)=>bif bz n bm then nE H e i.size i.bytes s (jW n z) n else Z|_=>Z
  |some _=>(re x).bind λn=>(qT H i.size n x).bind λw=>nE H e i.size i.bytes s w n|none=>Z else Z|none=>Z
  |_=>Z
 |.len,[x]=>match t[0]?.bind P.underlying with
  |some (.array n _)=>J (ia n,H)|some (.pointer a)=>match P.underlying a with|some (.array n _)=>J (ia n,H)|_=>Z
  |some .string=>match x with|.str s=>J (ia (fg s),H)|_=>Z
  |some (.slice _)=>(nO x).map λn=>(ia n,H)|some (.map _ _)=>match x with|.fY=>J (ia 0,H)|.map r=>(H.jU r).map λm=>(ia (fg m.1),H)|_=>Z
  |_=>Z
 |.cap,[x]=>match t[0]?.bind P.underlying,x with|some (.slice _),.bH=>J (ia 0,H)|some (.slice _),.sl _ _ _ (J c) _=>J (ia c,H)|_,_=>Z
 |.copy,[d,s]=>match t[0]?.bind P.underlying with
  |some (.slice e)=>(aW P e).bind λf=>(re s).bind λa=>(nO d).bind λc=>let n:=Nat.min a c
  (qT H f n s).bind λcells=>match d with|.sl id o _ _ _=>bif aw n 0 then J (ia 0,H)else(H.store id o cells).map λH=>(ia n,H)|_=>J (ia n,H)
  |_=>Z
 |.max,x::rest=>(lE (λx y=>match x,y with|.int k a,.int _ b=>J (.int k (bif aA a b then b else a))|_,_=>Z) rest x).map λv=>(v,H)|.min,x::rest=>(lE (λx y=>match x,y with|.int k a,.int _ b=>J (.int k (bif aA b a then b else a))|_,_=>Z) rest x).map λv=>(v,H)|.clear,[x]=>match t[0]?.bind P.underlying,x with|some _,.fY|some _,.bH=>J (fD,H)|some _,.map r=>(H.jU r).map λm=>(fD,H.put r r (.map [] m.2))|some (.slice e),.sl id o n _ f=>bif aw n 0 then J (fD,H)else(mq P e).bind λz=>bif aw (fg z) f then(H.store id o (jW n z)).map λH=>(fD,H)else Z|_,_=>Z
 |.delete,[m,k]=>match t[0]?.bind P.underlying with
  |some (.map j _)=>bif qB P j k then match m with
  |.fY=>J (fD,H)|.map r=>(H.jU r).bind λg=>(oY P j k g.1 0).map λ|some (i,_)=>(fD,H.put r r (.map (dL (wo i g.1) (zK (fj i) g.1)) g.2))|none=>(fD,H.put r r (.map g.1 g.2))
  |_=>Z else Z|_=>Z
 |_,_=>Z
def wJ(f:bY)(r:aJ):ah cJ:=(P.funcs[f]?).bind λfn=>fn.body.bind λb=>bif bz (fg r) fn.ntmps then J {fn:=f,n:=fn.ntmps,tmps:=(fV (λ(p:Tr AV×Nat)a=>(p.1.ins p.2 a,fj p.2)) r (Tr.nil,0)).1,todo:=[.code b],defers:=[],mode:=.run,roundOf:=Z}else Z
variable(ak:ct)
def xW(f:bY)(a:aJ)(H:Heap):ah fo:=match ak f a H with|some r=>r.map λv=>.val v.1 v.2|none=>(wJ P f a).map λfr=>.call fr H
def uU(t:N')(a:aJ)(H:Heap):ah fo:=match t with|.builtin b s=>(iC P H b s a).map λv=>.val v.1 v.2|.fn f c=>xW P ak f (dL a c) H|.yield l=>match H.get l with|some (.loop r)=>bif aw (fg a) (fg r.params)then J (.call {fn:=r.fn,n:=r.n,tmps:=fV (λt(p:Tmp×AV)=>bif cw p.1 r.n then t.ins p.1 p.2 else t) (List.zip r.params a) r.tmps,todo:=[.code r.assign,.beginRound,.code r.body],defers:=[],mode:=.run,roundOf:=J l} H)else Z|_=>Z
def yK(t:Tr AV)(c:Call):ah Sr:=(cB (bJ P t) c.args.toList).bind λargs=>match c.callee with|.builtin b=>J {target:=.builtin b c.argTypes,args}|.invoke ..=>Z|.value f=>(bJ P t f).bind λ|.func f first a=>J {target:=.fn f a,args:=dL first args}|.yield l=>J {target:=.yield l,args}|_=>Z
def fc(H:Heap)(v:ah AV):ah fo:=v.map λv=>.val v H
def Eb(t:Tr AV)(H:Heap)(x:aK):ah fo:=fc H (bJ P t x)
def CB(t:Tr AV)(H:Heap)(c:aK)(a:aK)(b:aK):ah fo:=match bJ P t c with|some (.bool V)=>fc H (bJ P t a)|some (.bool C)=>fc H (bJ P t b)|_=>Z
def GV(t:Tr AV)(H:Heap)(e:an):ah fo:=(mq P e).map λz=>.val (.ptr H.next 0) (H.cT z .ex e)
def GX(t:Tr AV)(H:Heap)(e:an)(x:aK):ah fo:=(bJ P t x).bind λv=>v.cells.map λs=>.val (.ptr H.next 0) (H.cT s .ex e)
def Cx(b:Tr AV)(H:Heap)(t:an)(a:Array (Nat×aK)):ah fo:=(mq P t).bind λz=>(cB (λ(p:Nat×aK)=>(bJ P b p.2).map λv=>(p.1,v)) a.toList).bind λs=>match P.underlying t with|some (.struct e)=>(cB (λ(f:Field)=>(aW P f.type).map λn=>(f.offset,n)) e.toList).bind λl=>fc H ((zU (λi=>pj l i) s z).map .agg)|some (.array _ m)=>(aW P m).bind λn=>fc H ((zU (λi=>J (fA i n,n)) s z).map .agg)|_=>Z
def GY(m:Tr AV)(H:Heap)(t:an)(l:Nat)(a:Array (Nat×aK)):ah fo:=match P.underlying t with|some (.slice e)=>(aW P e).bind λn=>bif aw n 0||!(bz (fA l n) 16777216)then Z else(cB (λ(p:Nat×aK)=>(bJ P m p.2).map λv=>(p.1,v)) a.toList).bind λs=>(bif aw l 0 then J []else mq P e).bind λz=>bif !(aw l 0||aw (fg z) n)then Z else(zU (λi=>J (fA i n,n)) s (jW l z)).map λcells=>.val (.sl H.next 0 l (J l) n) (H.cT cells .ex e)|_=>Z
def G1(m:Tr AV)(H:Heap)(t:an)(a:aK):ah fo:=match bJ P m a with|some (.ptr id o)=>fc H (loadVar P H t id o)|_=>Z
def Ed(m:Tr AV)(H:Heap)(t:an)(a:aK)(x:aK):ah fo:=match bJ P m a with|some (.ptr id o)=>(bJ P m x).bind λv=>(storeVar P H t id o v).map λH=>.val fD H|_=>Z
def Ec(t:Tr AV)(H:Heap)(x:aK):ah fo:=match bJ P t x with|some (.ptr id o)=>fc H (J (.ptr id o))|some (.func f a b)=>fc H (J (.func f a b))|some (.yield l)=>fc H (J (.yield l))|_=>Z
def GW(m:Tr AV)(H:Heap)(o:BinOp)(t:an)(x:aK)(y:aK):ah fo:=(bJ P m x).bind λa=>(bJ P m y).bind λb=>fc H (xU P o t x y a b)
def G5(t:Tr AV)(H:Heap)(o:UnOp)(x:aK):ah fo:=(bJ P t x).bind λa=>fc H (Sc o a)
def GZ(t:Tr AV)(H:Heap)(r:an)(d:an)(x:aK):ah fo:=(bJ P t x).bind λv=>match P.underlying r,P.underlying d,v with
 |some _,J (.int k),.int _ n=>fc H (J (.int k (dQ k n)))|some .string,J (.slice e),.str s=>match P.underlying e with|some (.int .u8)=>J (.val (.sl H.next 0 (fg s) Z 1) (H.cT (yD (λ(b:Nat)=>AV.int .u8 (.ofNat b)) s) .ro e))|_=>Z
 |_,_,_=>Z
def G2(t:Tr AV)(H:Heap)(f:bY)(i:Array aK)(c:Array aK):ah fo:=(cB (bJ P t) i.toList).bind λa=>(cB (bJ P t) c.toList).bind λb=>fc H (J (.func f a b))
def G3(m:Tr AV)(H:Heap)(t:an)(r:ah aK):ah fo:=match r with|none=>J (.val (.map H.next) (H.alloc (.map [] 0)))|some x=>match P.underlying t,bJ P m x with|some (.map _ _),J (.int _ _)=>J (.val (.map H.next) (H.alloc (.map [] 0)))|_,_=>Z
def G4(m:Tr AV)(H:Heap)(t:an)(l:aK)(c:aK):ah fo:=match P.underlying t with
 |some (.slice e)=>match P.info? e,bJ P m l,bJ P m c with|some i,J (.int _ (.ofNat l)),J (.int _ (.ofNat c))=>bif !(aw i.size 0)&&(bz l c&&(bz (fA c i.bytes) bm&&bz c bm))then(bif aw c 0 then J []else mq P e).bind λz=>bif aw c 0||aw (fg z) i.size then J (.val (.sl H.next 0 l (J c) i.size) (H.cT (jW c z) .ex e))else Z else Z|_,_,_=>Z
 |_=>Z
def N7(m:Tr AV)(H:Heap)(t:an)(x:aK)(l:ah aK)(h:ah aK)(a:ah aK):ah fo:=(bJ P m x).bind λv=>(match l with|some x=>(bJ P m x).map J|none=>J Z).bind λl=>(match h with|some x=>(bJ P m x).map J|none=>J Z).bind λh=>(match a with|some x=>(bJ P m x).map J|none=>J Z).bind λa=>fc H (qb P H t v l h a)
def D9(t:Tr AV)(H:Heap)(s:an)(x:aK)(f:Nat):ah fo:=match P.underlying s with
 |some (.struct i)=>(i[f]?).bind λd=>(aW P d.type).bind λn=>match n,bJ P t x with|fj _,J (.ptr id o)=>fc H (J (.ptr id (iw o d.offset)))|_,_=>Z
 |_=>Z
def G0(m:Tr AV)(H:Heap)(t:an)(x:aK)(f:Nat):ah fo:=match P.underlying t with
 |some (.struct i)=>(i[f]?).bind λd=>match bJ P m x with|some (.agg c)=>fc H (kC P d.type c d.offset)|_=>Z
 |_=>Z
def Cz(m:Tr AV)(H:Heap)(t:an)(x:aK)(i:aK):ah fo:=match bJ P m i with
 |some (.int _ (.ofNat i))=>match P.underlying t,bJ P m x with|some (.array len e),J (.ptr id o)=>(aW P e).bind λn=>bif cw i len then fc H (J (.ptr id (iw o (fA i n))))else Z|some (.slice e),J (.sl id o len _ s)=>(aW P e).bind λn=>bif cw i len&&aw n s then fc H (J (.ptr id (iw o (fA i s))))else Z|_,_=>Z
 |_=>Z
def D'(m:Tr AV)(H:Heap)(t:an)(x:aK)(i:aK):ah fo:=match bJ P m i with
 |some (.int _ (.ofNat i))=>match P.underlying t,bJ P m x with|some (.array len e),J (.agg c)=>(aW P e).bind λn=>bif cw i len then fc H (kC P e c (fA i n))else Z|some .string,J (.str s)=>fc H ((pj s i).map λb=>.int .u8 (.ofNat b))|_,_=>Z
 |_=>Z
def CA(m:Tr AV)(H:Heap)(t:an)(x:aK)(k:aK)(o:Bool):ah fo:=match P.underlying t with|some (.map a b)=>(match bJ P m x with|some .fY=>J []|some (.map r)=>(H.jU r).map Prod.fst|_=>Z).bind λs=>(bJ P m k).bind λk=>bif qB P a k then(oY P a k s 0).bind λ|some (_,e)=>fc H (J (bif o then .cO [e.2.1,.bool V]else e.2.1))|none=>(zd P b).bind λz=>fc H (J (bif o then .cO [z,.bool C]else z))else Z|_=>Z
def Ea(a:Tr AV)(H:Heap)(t:an)(m:aK)(k:aK)(x:aK):ah fo:=match P.underlying t,bJ P a m with|some (.map b _),J (.map r)=>(H.jU r).bind λo=>(bJ P a k).bind λk=>(bJ P a x).bind λx=>bif qB P b k then(oY P b k o.1 0).bind λ|some (i,e)=>bif sameKey e.1 k then J (.val fD (H.put r r (.map (vV o.1 i (e.1,x,e.2.2)) o.2)))else Z|none=>J (.val fD (H.put r r (.map (dL o.1 [(k,x,o.2)]) (fj o.2))))else Z|_,_=>Z
def J6(b:Tr AV)(H:Heap)(t:an)(m:aK)(k:aK):ah fo:=match P.underlying t,bJ P b m with|some (.map a c),J (.map r)=>(H.jU r).bind λo=>(bJ P b k).bind λk=>bif qB P a k then(oY P a k o.1 0).bind λ|some (_,e)=>bif sameKey e.1 k then J (.val (.cO [e.2.1,ia e.2.2]) (H.put r r (.map o.1 o.2)))else Z|none=>(zd P c).map λz=>.val (.cO [z,ia o.2]) (H.put r r (.map (dL o.1 [(k,z,o.2)]) (fj o.2)))else Z|_,_=>Z
def Sj(t:Tr AV)(H:Heap)(m:aK)(s:aK)(x:aK):ah fo:=match bJ P t m,bJ P t s with|some (.map r),J (.int _ (.ofNat b))=>(H.jU r).bind λo=>(bJ P t x).bind λx=>(OA b o.1 0).map λi=>.val fD (H.put r r (.map (vV o.1 i.1 (i.2.1,x,i.2.2.2)) o.2))|_,_=>Z
def Sm(a:Tr AV)(H:Heap)(t:an)(x:aK):ah fo:=match P.underlying t,bJ P a x with|some (.map _ _),J .fY=>J (.val (.ptr H.next 0) (H.alloc (.mapIter Z 0 [] 0)))|some (.map _ _),J (.map m)=>(H.jU m).map λo=>.val (.ptr H.next 0) (H.alloc (.mapIter (J m) o.2 [] o.2))|_,_=>Z
def Sk(t:Tr AV)(H:Heap)(i:aK):ah fo:=match bJ P t i with
 |some (.ptr r 0)=>match H.get r with|some (.mapIter Z _ _ _)=>fc H (J (.cO [.bool C]))|some (.mapIter (J m) s seen l)=>(H.jU m).bind λo=>bif aw o.2 s&&(aw l s&&lx (λ(e:eL)=>cw e.2.2 s) o.1)then match Dz seen o.1 with|[]=>fc H (J (.cO [.bool C]))|[e]=>J (.val (.cO [.bool V,e.1,e.2.1]) (H.put r r (.mapIter (J m) s (dL seen [e.2.2]) l)))|_=>Z else Z|_=>Z
 |_=>Z
def Si(t:Tr AV)(H:Heap)(i:aK):ah fo:=match bJ P t i with
 |some (.ptr r 0)=>match H.get r with
  |some (.mapIter (J m) _ seen D)=>(H.jU m).bind λo=>bif aw o.2 D then match seen with
  |[s]=>match o.1 with|[e]=>bif aw e.2.2 s then fc H (J (.cO [e.1,e.2.1]))else Z|_=>Z
  |_=>Z else Z|_=>Z
 |_=>Z
def J5(m:Tr AV)(H:Heap)(t:aK)(i:Nat):ah fo:=match bJ P m t with|some (.cO v)=>fc H (pj v i)|_=>Z
def Cy(t:Tr AV)(H:Heap)(c:Call):ah fo:=(yK P t c).bind λd=>uU P ak d.target d.args H
def dY(d:Tr AV)(H:Heap)(o:aB):ah fo:=match o.op with|.move x|.assign x=>Eb P d H x|.pick c a b=>CB P d H c a b|.alloc e=>GV P d H e|.box e x=>GX P d H e x|.build t parts=>Cx P d H t parts|.buildSlice t len parts=>GY P d H t len parts|.load t a=>G1 P d H t a|.store t a x=>Ed P d H t a x|.nilCheck x=>Ec P d H x|.binOp op t x y _=>GW P d H op t x y|.unOp op _ x=>G5 P d H op x|.convert src g x=>GZ P d H src g x|.makeFunc (.func f) first p=>G2 P d H f first p|.makeMap t r=>G3 P d H t r|.makeSlice t l c=>G4 P d H t l c|.slice t x lo j n=>N7 P d H t x lo j n|.fieldAddr s x f=>D9 P d H s x f|.field t x f=>G0 P d H t x f|.indexAddr t x i=>Cz P d H t x i|.index t x i=>D' P d H t x i|.lookup t x k ok=>CA P d H t x k ok|.mapUpdate t m k x|.insert t m k x=>Ea P d H t m k x|.mapEntry t m k=>J6 P d H t m k|.entryStore _ m s x=>Sj P d H m s x|.range t x=>Sm P d H t x|.next h C=>Sk P d H h|.entry h=>Si P d H h|.extract t i=>J5 P d H t i|.call c=>Cy P ak d H c|_=>Z
def tu(f:cJ)(d:ah Tmp)(v:AV):ah cJ:=match d with|some d=>cJ.rec (λfn n t todo e m ro=>bif cw d n then Lj (t.ins d v) λt=>J ⟨fn,n,t,todo,e,m,ro⟩else Z) f|none=>J f
theorem DY(f:cJ)(d:ah Tmp)(v:AV):tu f d v=match d with|some d=>bif cw d f.n then J {f with tmps:=f.tmps.ins d v}else Z|none=>J f:=by cases d with|none=>rfl|some d=>simp only[tu,Pt]
def wv(p:Array aB)(t:Tr AV)(o:aB):ah Bool:=match o.guard with|none=>J V|some (j,w)=>match(p[j]?).bind (·.dst)with
 |some d=>match t.get d with|some (.bool b)=>J (b==w)|some .top=>Z|_=>J C
 |none=>J C
def Eu(a:List aB):Tr Nat×Nat:=fV (λ(p:Tr Nat×Nat)(o:aB)=>(p.1.ins p.2 (fV (λs(e:Edge)=>bif uy .any e then Nat.lor s (Nat.lor (Nat.shiftLeft 1 e.on) ((p.1.get e.on).getD 0))else s) o.after.toList 0),fj p.2)) a (Tr.nil,0)
def before(a:Tr Nat)(i j:Nat):Bool:=aw (Nat.mod (Nat.shiftRight ((a.get j).getD 0) i) 2) 1
def tied(a:Tr Nat)(i j:Nat):Bool:=before a i j||before a j i
def oJ:Op->Bool|.move _|.assign _|.pick ..|.build ..|.nilCheck _|.unOp ..|.makeInterface ..|.makeFunc ..|.fieldAddr ..|.field ..|.indexAddr ..|.index ..|.typeAssert ..|.extract ..=>V|.binOp ..=>V|_=>C
def xh:Op->Bool|.load ..|.lookup ..|.slice ..|.alloc _|.box ..|.buildSlice ..|.makeMap ..|.makeSlice ..=>V|.call {callee:=.builtin .len,..}|.call {callee:=.builtin .cap,..}=>V|_=>C
def JR(s:List aB)(j:Nat):Bool:=let a:=(Eu s).1
 (fV (λ(p:Bool×Nat)(o:aB)=>(p.1&&(oJ o.op||xh o.op||aw p.2 j||tied a p.2 j),fj p.2)) s (V,0)).1
def rA(o:List aB)(i j:Nat):Bool:=tied (Eu o).1 i j
def tmpsOf(o:aB):List Tmp:=fV (λa x=>match x with|.tmp t=>t::a|_=>a) o.op.operands.toList []
def m7(s:List aB):ah (Tr Nat):=(lE (λ(p:Tr Nat×Nat)(o:aB)=>match o.dst with|none=>J (p.1,fj p.2)|some t=>match p.1.get t with|none=>J (p.1.ins t p.2,fj p.2)|some _=>Z) s (Tr.nil,0)).map Prod.fst
def wa(s:List aB):Bool:=match m7 s with|none=>C|some w=>let a:=(Eu s).1
 (fV (λ(p:Bool×Nat)(o:aB)=>(p.1&&(lx (λ(e:Edge)=>!(uy .any e)||cw e.on p.2) o.after.toList&&(match o.guard with|none=>V|some (g,_)=>before a g p.2&&(match pj s g with|some q=>q.dst.isSome|none=>C))&&lx (λt=>match w.get t with|none=>V|some k=>aw k p.2||tied a k p.2) (tmpsOf o)),fj p.2)) s (V,0)).1
def tq(H:Heap)(i:Nat):ah Nat:=match H.get i with|some (.cells _ root _ _)=>J root|_=>Z
inductive Touch where|rd|wr|look(t:an)(k:AV)|entry(t:an)(k:AV)
def Gx(t:an)(k:AV):Bool:=match P.underlying t with|some (.map a _)=>(match lD P 50 a k k with|some V=>V|_=>C)|_=>C
def eF(b:Tr AV)(H:Heap)(o:aB):ah (List (Touch×Nat)):=match o.op with
 |.alloc _|.box ..|.buildSlice ..|.makeMap ..|.makeSlice ..=>J []|.load _ a=>match bJ P b a with|some (.ptr id _)=>(tq H id).map λr=>[(.rd,r)]|_=>Z
 |.store _ a _=>match bJ P b a with|some (.ptr id _)=>(tq H id).map λr=>[(.wr,r)]|_=>Z
 |.lookup t m k C=>match bJ P b m,bJ P b k with|some (.map r),J k=>J [(bif Gx P t k then .look t k else .rd,r)]|some .fY,_=>J []|_,_=>Z
 |.lookup _ m _ V=>match bJ P b m with|some (.map r)=>J [(.rd,r)]|some .fY=>J []|_=>Z
 |.mapEntry t m k=>match bJ P b m,bJ P b k with|some (.map r),J k=>J [(.entry t k,r)]|_,_=>Z
 |.slice _ x _ _ _=>match bJ P b x with|some (.sl id _ _ _ _)=>(tq H id).map λr=>[(.rd,r)]|some (.str _)|some .bH=>J []|_=>Z
 |.call {callee:=.builtin .len,args,..}=>match args.toList with
  |[x]=>match bJ P b x with|some (.map r)=>J [(.rd,r)]|some _=>J []|none=>Z
  |_=>Z
 |.call {callee:=.builtin .cap,..}=>J []|_=>Z
structure jv where reads:ah (List (Touch×Nat))writes:aE
def B7(x:Nat)(l:aE):Bool:=!(lx (λy=>!(aw x y)) l)
def clear(w:aE)(r:ah (List (Touch×Nat))):Bool:=match w,r with|[],_=>V|_,Z=>C|w,J l=>lx (λt=>!(B7 t.2 w)) l
def QJ(a b:jv):Bool:=match a.reads,b.reads with|some [(.look t k,r)],J [(.entry e c,d)]=>aw r d&&(aw t e&&sameKey k c)|_,_=>C
def apart(a b:jv):Bool:=(clear a.writes b.reads&&clear b.writes a.reads&&lx (λx=>!(B7 x b.writes)) a.writes)||QJ a b
inductive Ba where|next(fr:cJ)(H:Heap)
inductive En where|val(v:AV)(H:Heap)
def fF(r:Rec)(t:Tr AV)(H:Heap)(o:aB):ah En:=(dY P ak t H o).bind λ|.val v H=>J (.val v H)|.call c H=>(r c H).bind λ|.ret v H=>J (.val v H)
def Bs(r:Rec)(p:Array aB)(f:cJ)(H:Heap)(o:aB):ah Ba:=(wv p f.tmps o).bind λw=>bif w then(fF P ak r f.tmps H o).bind λ|.val v H=>(tu f o.dst v).map λf=>NQ (λH=>.next f H) H else(tu f o.dst fD).map λf=>NQ (λH=>.next f H) H
theorem KM(r:Rec)(p:Array aB)(f:cJ)(H:Heap)(o:aB):Bs P ak r p f H o=(wv p f.tmps o).bind λw=>bif w then(fF P ak r f.tmps H o).bind λ|.val v H=>(tu f o.dst v).map λf=>.next f H else(tu f o.dst fD).map λf=>.next f H:=by unfold Bs;simp only[akg]
def AE(r:Rec)(p:Array aB)(l:List aB):cJ->Heap->ah Ba:=ja (λfr H=>J (.next fr H)) (λo _ i fr H=>(Bs P ak r p fr H o).bind λ|.next fr H=>i fr H) l
def Heap.resume(a H:Heap):Heap:={H with bA:=a.bA,bX:=fV (λl r=>Heap.note a.bA r l) H.bX a.bX,cL:=fV (λl r=>Heap.note a.bA r l) H.cL a.cL}
def Heap.fresh(H:Heap):Heap:={H with bA:=H.next,bX:=[],cL:=[]}
def rT(p:Array aB)(o:aB)(j:Nat)(d:jv)(H:Heap):Bool:=match H.cL with|[]=>V|_=>JR p.toList j&&(!(xh o.op)&&(match d.reads with|none=>V|some _=>C))
def tj(o:aB)(H:Heap):Bool:=bif xh o.op then(match H.bX,H.cL with|[],[]=>V|_,_=>C)else V
def within(d:jv):Bool:=match d.reads with|none=>V|some l=>lx (λr=>B7 r (yD (λ(t:Touch×Nat)=>t.2) l)) d.writes
def wg(r:Rec)(p:Array aB)(l:List aB):Nat->List (Nat×jv)->cJ->Heap->ah Ba:=ja (λ_ _ fr H=>J (.next fr H)) (λo _ i j g fr H=>(wv p fr.tmps o).bind λw=>bif !w then(tu fr o.dst fD).bind λfr=>i (fj j) g fr H else(fF P ak r fr.tmps H.fresh o).bind λ
 |.val v a=>(tu fr o.dst v).bind λf=>bif oJ o.op then i (fj j) g f H else let gH:jv:=⟨eF P fr.tmps H o,a.bX⟩
 bif lx (λ(e:Nat×jv)=>apart e.2 gH||rA p.toList e.1 j) g&&(rT p o j gH a&&(tj o a&&within gH))then NQ (λH=>i (fj j) ((j,gH)::g) f H) (H.resume a)else Z) l
def Jx(n:Func)(f:cJ)(H:Heap):ah AV:=(cB (λ|.tmp t=>J (f.tmp t)|.cell a t=>match f.tmp a with|.ptr id o=>loadVar P H t id o|_=>Z) n.results.toList).map λ|[v]=>v|s=>.cO s
def F1:List Item->ah bM|[]=>Z|_=>J .ret
def wE(e:Rec)(f:cJ)(H:Heap):ah Out:=match f.roundOf with|none=>e (f.RG (.returning)) H|some l=>match H.get l with
 |some (.loop r)=>let j:ah bM:=F1 f.todo
 J (.ret (.bool j.isNone) (H.put l l (.loop {r with state:=(match j with|none=>.ready|some _=>.done),pending:=j})))|_=>Z
def xR(r:Rec)(f:cJ)(H:Heap)(c:aK)(t:bM)(T:bM)(k:List Item):ah Out:=match bJ P f.tmps c with|some (.bool V)=>r (f.vi (.code t::k)) H|some (.bool C)=>r (f.vi (.code T::k)) H|_=>Z
def xS(e:Rec)(f:cJ)(H:Heap)(i:Nat)(k:List Item):ah Out:=match exitTo i k with|some k=>e (f.vi (k)) H|none=>match f.roundOf with|none=>Z|some l=>match H.get l with|some (.loop r)=>J (.ret (.bool C) (H.put l l (.loop {r with state:=.done,pending:=J (.exit i)})))|_=>Z
def xT(r:Rec)(f:cJ)(H:Heap)(o:Array aB)(d:Bool)(k:List Item):ah Out:=let f:=(f.vi (k))
 (bif d then(bif wa o.toList then wg P ak r o o.toList 0 [] f H else Z)else AE P ak r o o.toList f H).bind λ|.next f H=>r f H
def Ku(e:Rec)(d:cJ)(H:Heap)(f:aK)(p:Array Tmp)(s:bM)(b:bM)(k:List Item):ah Out:=match bJ P d.tmps f with
 |some (.func g first a)=>let h:ah (Nat×aE×Heap):=match d.roundOf with
  |some l=>match H.get l with|some (.loop r)=>J (r.defers,[],H)|_=>Z
  |none=>J (H.next,[H.next],H.alloc (.deferred V))
 h.bind λm=>let l:=m.2.2.next
  let H:=m.2.2.alloc (.loop {state:=.ready,pending:=Z,fn:=d.fn,n:=d.n,tmps:=d.tmps,params:=p.toList,assign:=s,body:=b,defers:=m.1})
  let d:=((d.vi (k)).RF (dL m.2.1 d.defers))
  match xW P ak g (dL (dL first [.yield l]) a) H with
  |some (.call c H)=>(e c H).bind λ|.ret _ H=>match H.get l with
   |some (.loop r)=>match r.state with|.busy=>Z|_=>let H:=H.put l l (.loop {r with state:=.exhausted})
   match r.pending with|some c=>e (d.vi (.code c::k)) H|none=>e d H
   |_=>Z
  |_=>Z
 |_=>Z
def Bl(e:Rec)(f:cJ)(H:Heap)(k:List Item):ah Out:=match f.roundOf with
 |some l=>match H.get l with
  |some (.loop r)=>match r.state with|.ready=>e (f.vi (k)) (H.put l l (.loop {r with state:=.busy}))|_=>Z
  |_=>Z
 |none=>Z
def vw(r:Rec)(d:cJ)(H:Heap):ah Out:=match d.todo with|[]|.code .ret::_=>wE r d H|.code .skip::k|.code (.label _)::k|.inBlock _::k|.inScope _::k=>r (d.vi (k)) H|.code (.seq a b)::k=>r (d.vi (.code a::.code b::k)) H|.code (.cond c t T)::k=>xR P r d H c t T k|.code (.block id b)::k=>r (d.vi (.code b::.inBlock id::k)) H|.code (.loop b)::k|.inLoop b::k=>r (d.vi (.code b::.inLoop b::k)) H|.code (.scope b)::k=>r (d.vi (.code b::.inScope b::k)) H|.code (.exit id)::k=>xS r d H id k|.code (.region _ o w)::k=>xT P ak r d H o w k|.code (.rangeFunc f p s b)::k=>Ku P ak r d H f p s b k|.beginRound::k=>Bl r d H k|_=>Z
def Ex(e:Rec)(a:cJ)(H:Heap):ah Out:=match a.roundOf with|some _=>Z|none=>match a.defers with
 |r::d=>match H.get r with|some (.deferred V)=>e (a.RF d) (H.put r r (.deferred C))|_=>Z
 |[]=>(Li a.fn λf=>P.funcs[f]?).bind λfn=>(Jx P fn a H).map λv=>.ret v H
def body(r:Rec)(f:cJ)(H:Heap):ah Out:=match f.mode with|.run=>vw P ak r f H|.returning=>Ex P r f H|_=>Z
def run(n:Nat):Rec:=Nat.rec (λ_ _=>Z) (λ_ i=>body P ak i) n
end
end Go.AM
namespace Go.VM
open Go Go.AM
inductive DV where|bool(b:Bool)|int(k:fT)(n:Int)|str(s:List Nat)|nl|ay(l:List DV)(e:an)(esz:Nat)|ptr(id off:Nat)|eS|map(r:Nat)|fY|func(f:bY)(first captured:List DV)|eu(l:Nat)|cY(id off len:Nat)(e:an)(esz:Nat)|nilFunc|agg(l:List DV)|jk
abbrev ao:=List DV
mutual
def DV.gY (e : an) : DV -> Bool
  | .ay l e1 _ => !(aw e1 e) && js e l
  | .agg l => js e l
  | .func _ a b => js e a && js e b
  | _ => V
def js (e : an) : ao -> Bool
  | [] => V
  | d :: t => d.gY e && js e t
end
inductive aN where|no|any|ty(e:an)|ex(e:an)|full(e:an)
inductive SV where|dv(d:DV)(o:aN)|tp(l:List (DV×aN))|lp(s off:Nat)|ev(d:DV)|sr(t:Nat)|se(t i off:Nat)|gr(id off:Nat)|hd(n:Nat)|dd
abbrev db:=List (Nat×SV)
structure LB where
 cells:ao
 own:List (Nat×aN)
abbrev ew:=List (Nat×LB)
def DV.aV:DV->Bool|.agg _=>C|_=>V
def DV.flat:DV->ao|.agg l=>l|v=>[v]
abbrev lr:=DV×DV×Nat
structure aa9 where
 state:LoopState
 pending:ah bM
 fn:bY
 n:Nat
 sl:db
 params:List Tmp
 assign:bM
 body:bM
inductive GO where|box(b:LB)|map(es:List lr)(clock:Nat)|loop(l:aa9)
structure GH where
 next:Nat
 kj:List (Nat×GO)
def look{a:Type}(l:List (Nat×a))(n:Nat):ah a:=match l with|[]=>Z|(m,x)::t=>bif aw m n then J x else look t n
def put{a:Type}(l:List (Nat×a))(n:Nat)(x:a):List (Nat×a):=match l with|[]=>[(n,x)]|(m,y)::t=>bif aw m n then(n,x)::t else(m,y)::put t n x
def GH.get(g:GH)(i:Nat):ah GO:=look g.kj i
def GH.set(g:GH)(i:Nat)(o:GO):GH:={g with kj:=put g.kj i o}
def GH.alloc(g:GH)(o:GO):GH:={next:=g.next+1,kj:=put g.kj g.next o}
def GH.empty:GH:={next:=0,kj:=[]}
structure St where
 fn:bY
 n:Nat
 sl:db
 lb:ew
 g:GH
def Oz:AV->ah DV|.bool b=>J (.bool b)|.int k n=>J (.int k n)|.str s=>J (.str s)|.eS=>J .eS|.bH=>J .nl|.fY=>J .fY|.nilFunc=>J .nilFunc|_=>Z
def Bk:aJ->ah ao|[]=>J []|a::t=>(Oz a).bind λd=>(Bk t).bind λl=>J (d::l)
def Bj:AV->ah DV|.agg l=>(Bk l).map .agg|v=>Oz v
def C1:SV->ah DV|.dv d _=>J d|_=>Z
def uf(d:DV):aN:=match d with|.nl=>.any|_=>.no
section
variable(P:aH)(aq:Nat->ah ao)
def cE(t:an):ah DV:=(zd P t).bind Bj
def cZ(s:St):aK->ah SV|.tmp t=>(match look s.sl t with|some .dd=>Z|r=>r)|.const v=>(xb v).bind λa=>(Bj a).map λd=>.dv d (uf d)|.global g=>(aq g).map λl=>.ev (.agg l)|.func f=>J (.dv (.func f [] []) .no)
def bj(s:St)(x:aK):ah DV:=(cZ aq s x).bind C1
def jt(t:an)(c:ao)(o:Nat):ah DV:=match bN P t with|some V=>(aW P t).bind λn=>bif bz (o+n) c.length then J (.agg ((c.drop o).take n))else Z|some C=>c[o]?|none=>Z
def lj(c:ao)(o:Nat)(v:ao):ao:=c.take o++v++c.drop (o+v.length)
def yd(l:Nat->ah (Nat×Nat)):List (Nat×DV)->ao->ah ao|[],cells=>J cells|p::t,cells=>(l p.1).bind λo=>bif aw p.2.flat.length o.2&&bz (o.1+o.2) cells.length then yd l t (lj cells o.1 p.2.flat)else Z
def zR(h:an->DV->DV->ah Bool)(t:an)(x y:DV):ah Bool:=match P.underlying t,x,y with|some .bool,.bool a,.bool b=>J (a==b)|some (.int _),.int k a,.int g b=>if k=g then J (aj a b)else Z|some .string,.str a,.str b=>J (xZ a b)|some (.struct l),.agg s,.agg d=>bif P.stoodInHeld t then Z else lE (λc(f:Field)=>bif c then(bif f.name== "_"then J V else(jt P f.type s f.offset).bind λa=>(jt P f.type d f.offset).bind λb=>h f.type a b)else J C) l.toList V|some (.array n e),.agg s,.agg d=>(aW P e).bind λz=>lE (λc i=>bif c then(jt P e s (fA i z)).bind λa=>(jt P e d (fA i z)).bind λb=>h e a b else J C) (qm n) V|some (.slice _),.nl,.nl=>J V|some (.slice _),.nl,.ay ..|some (.slice _),.ay ..,.nl|some (.slice _),.nl,.cY ..|some (.slice _),.cY ..,.nl=>J C|some (.pointer _),.eS,.eS=>J V|some (.pointer _),.eS,.ptr ..|some (.pointer _),.ptr ..,.eS=>J C|_,_,_=>Z
def gw(f:Nat):an->DV->DV->ah Bool:=Nat.rec (λ_ _ _=>Z) (λ_ i=>zR P i) f
def Lm(t:an)(x y:DV):Bool:=match x,y with|.agg _,.agg _=>!P.eqGuardType P.depth t|_,_=>V
def agu(k:fT)(a:Int)(y:fT)(b:Int):ah AV:=match(Op.shift .shr k a y b).run P default with|.ok (.int k n) _=>J (.int k n)|_=>Z
def gu(op:BinOp)(t:an)(x y:DV):ah DV:=match op,x,y with|.shr,.int k a,.int d b=>(agu P k a d b).bind Bj|.shr,_,_=>Z|op,.int k a,.int c b=>if k=c then(IY P op k a b).bind Bj else Z|op,.str a,.str b=>(R0 op a b).bind Bj|.eql,x,y=>bif Lm P t x y then(gw P 50 t x y).map .bool else Z|.neq,x,y=>bif Lm P t x y then(gw P 50 t x y).map λb=>.bool (!b)else Z|_,_,_=>Z
def JW(o:UnOp)(x:DV):ah DV:=match o,x with|.neg,.int k n=>J (.int k (dQ k (Int.sub 0 n)))|.not,.bool b=>J (.bool (!b))|_,_=>Z
inductive iM where|none|len|ref|take|copy
def iM.join:iM->iM->iM|.none,u|u,.none=>u|.len,.len=>.len|.len,.ref|.ref,.len|.ref,.ref=>.ref|.take,_|_,.take=>.take|_,_=>.copy
def qA(d:Tmp):aK->Bool|.tmp t=>aw t d|_=>C
def fm(k:bY->Nat)(d:Tmp)(o:Op):iM:=match o with|.assign x=>bif qA d x then .take else .none|.store _ a x=>bif qA d x then .take else bif qA d a then .copy else .none|.indexAddr _ x i=>bif qA d x then .ref else bif qA d i then .copy else .none|.call {callee:=.builtin .len,args,..}=>bif args.toList.any (qA d)then .len else .none|.call {callee:=.builtin .append,args,..}=>(match args.toList with|x::l=>bif qA d x then .take else bif l.any (qA d)then .copy else .none|[]=>.none)|.call {callee:=.value (.func f),args,..}=>(match args.toList with|x::l=>bif qA d x&&aw (k f) 1||aw (k f) 3&&(qA d x||l.any (qA d))then .ref else bif qA d x&&aw (k f) 2 then .take else bif qA d x||l.any (qA d)then .copy else .none|[]=>.none)|o=>bif o.operands.toList.any (qA d)then .copy else .none
def JY(f:bY->Nat)(l:List aB)(d:Tmp):iM:=match l with|[]=>.none|o::t=>iM.join (fm f d o.op) (JY f t d)
def GR(f:bY->Nat)(c:aE)(l:List aB)(d:Tmp):iM:=bif c.any (aw d)then .copy else JY f l d
def oL:aN->aN|.ex e=>.ty e|o=>o
def share:SV->SV|.dv d o=>.dv d (oL o)|.tp _=>.dd|v=>v
def leave:SV->SV|.dv d (.ex _)=>.dv .jk .no|.dv d _=>.dv d .no|.tp _=>.dd|v=>v
def aQ(f:SV->SV)(s:St)(x:aK):St:=match x with
 |.tmp t=>match look s.sl t with|some v=>{s with sl:=put s.sl t (f v)}|none=>s
 |_=>s
def p8(s:Nat):SV->SV|.sr t=>bif aw t s then .dd else .sr t|.se t i o=>bif aw t s then .dd else .se t i o|v=>v
def ix(l:db)(s:Nat):db:=l.map λx=>(x.1,p8 s x.2)
def Gn(d:Nat):SV->Bool|.sr s|.se s _ _=>aw s d|_=>C
def aG(s:St)(d:ah Tmp)(v:SV):ah St:=match d with|none=>J s|some d=>bif cw d s.n&&!(Gn d v)then J {s with sl:=put (ix s.sl d) d v}else Z
def vQ(s:Nat):SV->SV|.lp t o=>bif aw t s then .dd else .lp t o|v=>v
def EO(l:db)(s:Nat):db:=l.map λx=>(x.1,vQ s x.2)
def DC(t:Bool)(s:St)(d:ah Tmp)(c:ao):ah St:=match d with|none=>Z|some d=>bif cw d s.n then(bif t then J {s with sl:=put (ix s.sl d) d (.dv (.ptr s.g.next 0) .no),g:=s.g.alloc (.box ⟨c,[]⟩)}else J {s with sl:=put (ix (EO s.sl d) d) d (.lp d 0),lb:=put s.lb d ⟨c,[]⟩})else Z
def p7:SV->SV|.gr _ _=>.dd|v=>v
def cP(s:db):db:=s.map λx=>(x.1,p7 x.2)
def iJ(l:ao)(i:Nat)(v:DV):ao:=l.take i++v::l.drop (i+1)
def ni:DV->ah Nat|.nl=>J 0|.ay l _ _=>J l.length|.cY _ _ n _ _=>J n|_=>Z
def eB(b:LB)(o:Nat):aN:=match b.cells[o]? with|some .nl=>.any|_=>(look b.own o).getD .no
def dg(l:List (Nat×aN))(o n:Nat):List (Nat×aN):=l.filter λx=>cw x.1 o||bz (o+n) x.1
def pB(u:iM)(b:LB)(o:Nat)(d:DV)(w:aN):SV×LB:=match u,w with|.take,.ex e=>(.dv d (.ex e),{cells:=iJ b.cells o .jk,own:=dg b.own o 1})|.take,.ty e=>(.dv d (.ty e),{b with own:=dg b.own o 1})|.take,.any=>(.dv d .any,b)|.take,_=>(.dv d .no,b)|.len,.ex e=>(match ni d with|some n=>(.hd n,b)|none=>(.dv d .no,{b with own:=(o,.ty e)::dg b.own o 1}))|_,.ex e=>(.dv d .no,{b with own:=(o,.ty e)::dg b.own o 1})|_,_=>(.dv d .no,b)
def fI(u:iM)(t:an)(b:LB)(o:Nat):ah (SV×LB):=match bN P t with|some V=>(aW P t).bind λn=>bif bz (o+n) b.cells.length then J (.dv (.agg ((b.cells.drop o).take n)) .no,{b with own:=b.own.map λx=>(x.1,oL x.2)})else Z|some C=>(b.cells[o]?).map λd=>pB u b o d (eB b o)|none=>Z
def mM(f:Nat)(v:DV)(o:aN):List (Nat×aN):=match v.aV,o with|true,.ty e=>[(f,.ty e)]|true,.ex e=>[(f,.ex e)]|_,_=>[]
def yU(t:an)(b:LB)(f:Nat)(v:DV)(o:aN):ah LB:=(aW P t).bind λn=>bif aw v.flat.length n&&bz (f+n) b.cells.length then J {cells:=lj b.cells f v.flat,own:=mM f v o++dg b.own f n}else Z
def findD(t:an)(k:DV):List lr->Nat->ah (ah (Nat×lr))|[],_=>J Z|e::l,i=>(gw P 50 t k e.1).bind λb=>bif b then J (J (i,e))else findD t k l (i+1)
def Fy(t:an)(k:DV):Bool:=match P.underlying t,k with|some .bool,.bool _|some (.int _),.int _ _|some .string,.str _=>V|_,_=>C
def ta(t:an)(k:DV):Bool:=match P.underlying t,k with
 |some (.struct i),.agg c=>i.toList.all λf=>match jt P f.type c f.offset with|some v=>Fy P f.type v|none=>C
 |_,_=>Fy P t k
def QI:DV->ah ao|.nl=>J []|.ay l _ _=>J l|_=>Z
def w8(e:Nat):DV->ah ao|.str s=>bif aw e 1 then J (s.map λb=>.int .u8 (.ofNat b))else Z|v=>QI v
def goN(n:Nat):DV:=.int .i64 (.ofNat n)
def n7(x:ah DV)(y d:Nat):ah Nat:=match x with|some (.int _ (.ofNat n))=>bif bz n y then J n else Z|some _=>Z|none=>J d
def oM(t:an)(x:DV)(o i b:ah DV):ah (DV×aN):=match P.underlying t,x with|some (.slice a),.nl=>bif b.isSome&&i.isNone then Z else(aW P a).bind λ_=>(n7 b 0 0).bind λ_=>(n7 i 0 0).bind λh=>(n7 o h 0).bind λ_=>J (.nl,.any)|some (.slice a),.ay c e s=>(aW P a).bind λn=>bif aw n s&&aw e a then match b with|none=>(n7 i c.length c.length).bind λh=>bif i.isNone||bz h bm then(n7 o h 0).map λl=>(.ay ((c.take h).drop l) e s,.no)else Z|some _=>match i with|none=>Z|some _=>(n7 b c.length 0).bind λm=>bif bz m bm then(n7 i m 0).bind λh=>(n7 o h 0).map λl=>(.ay ((c.take h).drop l) e s,bif aw h m then .full a else .no)else Z else Z|some (.slice a),.cY id f len e s=>(aW P a).bind λn=>bif aw n s&&(aw e a&&b.isNone)then(n7 i len len).bind λh=>bif i.isNone||bz h bm then(n7 o h 0).map λl=>(.cY id (f+l*s) (h-l) e s,.no)else Z else Z|_,_=>Z
def fE(m:an)(s b:Nat)(d:DV)(o:aN)(n:ao):ah (DV×aN):=bif aw s 0 then Z else match d with|.nl=>bif bz (n.length*b) bm&&bz n.length bm then(match n with|[]=>J (.nl,.any)|_=>J (.ay n m s,.ex m))else Z|.ay l e0 e=>bif aw e s&&aw e0 m&&(bz ((l.length+n.length)*b) bm&&bz (l.length+n.length) bm)then(match n with|[]=>J (.ay l e0 e,o)|_=>match o with|.ty e1=>bif aw e1 m then J (.ay (l++n) m s,.ty m)else Z|.ex e1=>bif aw e1 m then J (.ay (l++n) m s,.ex m)else Z|.full e1=>bif aw e1 m then J (.ay (l++n) m s,.ex m)else Z|_=>Z)else Z|_=>Z
def Db(g:aE):ah Tmp->Bool|some d=>g.any (aw d)|none=>C
def ru(g:aE)(s:ah Tmp)(d:DV)(o:aN)(n:ao):Bool:=match d,o,n with|.ay [] _ _,.full _,_::_=>Db g s|_,_,_=>C
def nK(t:St)(s:Nat):ah (ao×an×Nat):=match look t.sl s with|some (.dv (.ay l e n) (.ex _))=>J (l,e,n)|_=>Z
def reshape(e:DV)(s:ao):ah DV:=match e,s with|.agg _,s=>J (.agg s)|_,[c]=>bif c.aV then J c else Z|_,_=>Z
def EI(s:St)(i o:Nat):ah DV:=match s.g.get i with|some (.box b)=>(match b.cells[o]?,eB b o with|some d,.ex _=>J d|_,_=>Z)|_=>Z
def zF(t:St)(x:aK):ah DV:=(cZ aq t x).bind λ|.dv d _=>J d|.sr s=>(nK t s).map λy=>.ay y.1 y.2.1 y.2.2|.gr id o=>EI t id o|_=>Z
def dF(T:bY->Nat)(K S:aE)(E:List aB)(h:St)(o:aB):ah St:=match o.op with
 |.move x=>(cZ aq h x).bind λv=>match o.dst with|none=>J h|some d=>(match v with|.tp _=>aG (aQ leave h x) (J d) v|.dv dd F=>(match GR T S E d,F,x with|.take,.ex _,_=>(aG h (J d) v).map λh=>aQ (λ_=>.sr d) h x|.take,_,_=>aG (aQ leave h x) (J d) v|.len,.ex _,_=>(ni dd).bind λn=>aG h (J d) (.hd n)|.ref,.ex _,.tmp t=>aG h (J d) (.sr t)|_,.any,_=>aG h (J d) v|_,_,_=>aG (aQ share h x) (J d) (.dv dd .no))|v=>aG h (J d) v)
 |.assign x=>(cZ aq h x).bind λv=>aG (aQ leave h x) o.dst v|.pick c a b=>match bj aq h c with|some (.bool c)=>bif c then(bj aq h a).bind λv=>aG h o.dst (.dv v .no)else(bj aq h b).bind λv=>aG h o.dst (.dv v .no)|_=>Z
 |.alloc e=>(cE P e).bind λz=>DC (match o.dst with|some d=>K.any (aw d)|none=>C) h o.dst z.flat|.box _ x=>(bj aq h x).bind λv=>DC (match o.dst with|some d=>K.any (aw d)|none=>C) h o.dst v.flat|.build t parts=>(cE P t).bind λz=>(cB (λ(p:Nat×aK)=>(bj aq h p.2).map λv=>(p.1,v)) parts.toList).bind λM=>match P.underlying t with|some (.struct w)=>(cB (λ(f:Field)=>(aW P f.type).map λn=>(f.offset,n)) w.toList).bind λG=>(yd (λi=>pj G i) M z.flat).bind λl=>aG h o.dst (.dv (.agg l) .no)|some (.array _ j)=>(aW P j).bind λn=>(yd (λi=>J (fA i n,n)) M z.flat).bind λl=>aG h o.dst (.dv (.agg l) .no)|_=>Z
 |.buildSlice t len parts=>match P.underlying t with|some (.slice j)=>(aW P j).bind λn=>bif aw n 0||!(bz (len*n) 16777216)then Z else(cB (λ(p:Nat×aK)=>(bj aq h p.2).map λv=>(p.1,v)) parts.toList).bind λM=>(cE P j).bind λz=>bif aw z.flat.length n then(lE (λ(l:ao)(p:Nat×DV)=>bif cw p.1 l.length&&(aw p.2.flat.length n&&(p.2.aV==z.aV))then J (iJ l p.1 p.2)else Z) M (mr len z)).bind λl=>aG h o.dst (.dv (.ay l j n) (bif aw len 0&&Db K o.dst then .full j else .ex j))else Z|_=>Z
 |.load t a=>let u:=match o.dst with|some d=>GR T S E d|none=>.none
  match cZ aq h a with
  |some (.lp s q)=>(look h.lb s).bind λb=>(fI P u t b q).bind λr=>aG {h with lb:=put h.lb s r.2} o.dst r.1|some (.ev d)=>match bN P t with|some V=>(aW P t).bind λn=>bif !d.aV&&aw d.flat.length n then aG h o.dst (.dv d .no)else Z|some C=>bif d.aV then aG h o.dst (.dv d .no)else Z|none=>Z
  |some (.se s i q)=>(nK h s).bind λx=>(x.1[i]?).bind λd=>(jt P t d.flat q).bind λd=>aG h o.dst (.dv d .no)|some (.dv (.ptr id q) _)=>match h.g.get id with|some (.box b)=>(match u,eB b q,bN P t with|.ref,.ex _,J C=>bif cw q b.cells.length then aG h o.dst (.gr id q)else Z|_,_,_=>(fI P u t b q).bind λr=>aG {h with g:=h.g.set id (.box r.2)} o.dst r.1)|_=>Z
  |_=>Z
 |.store t a x=>(cZ aq h x).bind λv=>match v with
  |.dv d F=>match cZ aq h a with
   |some (.lp s q)=>(look h.lb s).bind λb=>(yU P t b q d F).bind λb=>aG {aQ leave h x with sl:=cP (aQ leave h x).sl,lb:=put h.lb s b} o.dst (.tp [])|some (.dv (.ptr id q) _)=>match h.g.get id with|some (.box b)=>(yU P t b q d F).bind λb=>aG {aQ leave h x with sl:=cP (aQ leave h x).sl,g:=h.g.set id (.box b)} o.dst (.tp [])|_=>Z
   |some (.se s i q)=>(nK (aQ share h x) s).bind λy=>(y.1[i]?).bind λel=>(aW P t).bind λn=>bif aw d.flat.length n&&bz (q+n) el.flat.length then(reshape el (lj el.flat q d.flat)).bind λO=>aG {aQ share h x with sl:=put (cP (aQ share h x).sl) s (.dv (.ay (iJ y.1 i O) y.2.1 y.2.2) (.ex y.2.1))} o.dst (.tp [])else Z|_=>Z
  |_=>Z
 |.nilCheck x=>(cZ aq h x).bind λv=>match v with|.lp s _=>(look h.lb s).bind λ_=>aG h o.dst v|.ev _|.se ..=>aG h o.dst v|.dv (.ptr id q) _=>aG h o.dst (.dv (.ptr id q) .no)|_=>Z
 |.binOp op t x y _=>(bj aq h x).bind λa=>(bj aq h y).bind λb=>(gu P op t a b).bind λv=>aG h o.dst (.dv v .no)|.unOp op _ x=>(bj aq h x).bind λa=>(JW op a).bind λv=>aG h o.dst (.dv v .no)|.convert src N x=>(bj aq h x).bind λv=>match P.underlying src,P.underlying N,v with|some _,J (.int k),.int _ n=>aG h o.dst (.dv (.int k (dQ k n)) .no)|some .string,J (.slice e),.str s=>(match P.underlying e with|some (.int .u8)=>aG h o.dst (.dv (.ay (s.map λb=>.int .u8 (.ofNat b)) e 1) .no)|_=>Z)|_,_,_=>Z
 |.makeFunc (.func f) first D=>(cB (bj aq h) first.toList).bind λa=>(cB (bj aq h) D.toList).bind λb=>aG h o.dst (.dv (.func f a b) .no)|.makeMap _ Z=>aG {h with g:=h.g.alloc (.map [] 0)} o.dst (.dv (.map h.g.next) .no)|.makeSlice t l c=>match P.underlying t,bj aq h l,bj aq h c with
  |some (.slice j),J (.int _ (.ofNat n)),J (.int _ (.ofNat m))=>match P.info? j,cE P j with|some i,J z=>bif !(aw i.size 0)&&aw n m&&aw z.flat.length i.size&&bz (m*i.bytes) bm&&bz m bm&&Db K o.dst then aG {h with g:=h.g.alloc (.box ⟨(mr n z).flatMap DV.flat,[(((mr n z).flatMap DV.flat).length,.full j)]⟩)} o.dst (.dv (.cY h.g.next 0 n j i.size) .no)else Z|_,_=>Z
  |_,_,_=>Z
 |.slice t x lo Q R=>(bj aq h x).bind λv=>(match lo with|some x=>(bj aq h x).map J|none=>J Z).bind λlo=>(match Q with|some x=>(bj aq h x).map J|none=>J Z).bind λQ=>(match R with|some x=>(bj aq h x).map J|none=>J Z).bind λR=>(oM P t v lo Q R).bind λr=>aG h o.dst (.dv r.1 r.2)|.fieldAddr s x f=>match P.underlying s with
  |some (.struct w)=>(w[f]?).bind λI=>(aW P I.type).bind λn=>match n,cZ aq h x with|fj _,J (.lp b q)=>(look h.lb b).bind λ_=>aG h o.dst (.lp b (q+I.offset))|fj _,J (.dv (.ptr id q) _)=>aG h o.dst (.dv (.ptr id (q+I.offset)) .no)|fj _,J (.se s i q)=>aG h o.dst (.se s i (q+I.offset))|fj _,J (.ev (.agg l))=>(jt P I.type l I.offset).bind λd=>aG h o.dst (.ev d)|_,_=>Z
  |_=>Z
 |.indexAddr t x i=>match bj aq h i with
  |some (.int _ (.ofNat i))=>match P.underlying t,cZ aq h x with|some (.slice j),J (.dv (.ay l e A) F)=>(aW P j).bind λn=>bif aw n A&&aw e j then(match F,x with|.ex _,.tmp s=>bif cw i l.length then aG h o.dst (.se s i 0)else Z|_,_=>(l[i]?).bind λd=>aG h o.dst (.ev d))else Z|some (.slice j),J (.dv (.cY id q len e A) _)=>(aW P j).bind λn=>bif aw n A&&aw e j&&cw i len then aG h o.dst (.dv (.ptr id (q+i*A)) .no)else Z|some (.slice j),J (.sr s)=>(nK h s).bind λy=>(aW P j).bind λn=>bif aw n y.2.2&&(aw y.2.1 j&&cw i y.1.length)then aG h o.dst (.se s i 0)else Z|some (.array len j),J (.ev (.agg l))=>(aW P j).bind λn=>bif cw i len then(jt P j l (i*n)).bind λd=>aG h o.dst (.ev d)else Z|some (.array len j),J (.lp s q)=>(aW P j).bind λn=>bif cw i len then(look h.lb s).bind λ_=>aG h o.dst (.lp s (q+i*n))else Z|_,_=>Z
  |_=>Z
 |.index t x i=>match bj aq h i with
  |some (.int _ (.ofNat i))=>match P.underlying t,bj aq h x with|some .string,J (.str s)=>(s[i]?).bind λb=>aG h o.dst (.dv (.int .u8 (.ofNat b)) .no)|_,_=>Z
  |_=>Z
 |.lookup t x k ok=>match P.underlying t,bj aq h x with
  |some (.map L U),J (.map r)=>match h.g.get r with|some (.map H _)=>(bj aq h k).bind λk=>bif ta P L k then(findD P L k H 0).bind λ|some (_,e)=>aG h o.dst (bif ok then .tp [(e.2.1,.no),(.bool V,.no)]else .dv e.2.1 .no)|none=>(cE P U).bind λz=>aG h o.dst (bif ok then .tp [(z,.no),(.bool C,.no)]else .dv z .no)else Z|_=>Z
  |_,_=>Z
 |.mapUpdate t m k x=>match P.underlying t,bj aq h m with
  |some (.map L _),J (.map r)=>match h.g.get r with|some (.map H c)=>(bj aq h k).bind λk=>(bj aq h x).bind λx=>bif ta P L k then(findD P L k H 0).bind λ|some (i,e)=>bif k.aV then aG {h with sl:=cP h.sl,g:=h.g.set r (.map (H.take i++(e.1,x,e.2.2)::H.drop (i+1)) c)} o.dst (.tp [])else Z|none=>aG {h with sl:=cP h.sl,g:=h.g.set r (.map (H++[(k,x,c)]) (c+1))} o.dst (.tp [])else Z|_=>Z
  |_,_=>Z
 |.extract t i=>match t with
  |.tmp s=>match look h.sl s with|some (.tp l)=>(l[i]?).bind λx=>aG {h with sl:=put h.sl s (.tp (l.take i++(match x.2 with|.ex _=>(DV.jk,aN.no)|_=>(x.1,.no))::l.drop (i+1)))} o.dst (.dv x.1 x.2)|_=>Z
  |_=>Z
 |.call c=>match c.callee with
  |.builtin .len=>match c.args.toList with
   |[x]=>(cZ aq h x).bind λv=>match c.argTypes[0]?.bind P.underlying,v with|some (.array n _),.dv _ _=>aG h o.dst (.dv (goN n) .no)|some .string,.dv (.str s) _=>aG h o.dst (.dv (goN s.length) .no)|some (.slice _),.dv d _=>(ni d).bind λn=>aG h o.dst (.dv (goN n) .no)|some (.slice _),.hd n=>aG h o.dst (.dv (goN n) .no)|some (.slice _),.sr s=>(nK h s).bind λy=>aG h o.dst (.dv (goN y.1.length) .no)|some (.slice _),.gr id q=>(EI h id q).bind λd=>(ni d).bind λn=>aG h o.dst (.dv (goN n) .no)|_,_=>Z
   |_=>Z
  |.builtin .append=>match c.args.toList with
   |[s,x]=>match c.argTypes[0]?.bind P.underlying,c.argTypes[1]?.bind P.underlying with
    |some (.slice j),J (.slice _)|some (.slice j),J .string=>match P.info? j,cE P j,cZ aq h s,bj aq h x with|some i,J z,J (.dv d F),J v=>bif aw z.flat.length i.size then(w8 i.size v).bind λB=>bif B.all (λy=>aw y.flat.length i.size)then bif ru K o.dst d F B then(fE j i.size i.bytes d F B).bind λ_=>aG {aQ leave h s with sl:=cP (aQ leave h s).sl,g:=h.g.alloc (.box ⟨B.flatMap DV.flat,[((B.flatMap DV.flat).length,.full j)]⟩)} o.dst (.dv (.cY h.g.next 0 B.length j i.size) .no)else(fE j i.size i.bytes d F B).bind λr=>bif o.dst.isSome then aG {aQ leave h s with sl:=cP (aQ leave h s).sl} o.dst (.dv r.1 r.2)else Z else Z else Z|_,_,_,_=>Z
    |_,_=>Z
   |_=>Z
  |.builtin .clear=>match c.args.toList with
   |[x]=>match c.argTypes[0]?.bind P.underlying with|some (.slice j)=>((bj aq h x).bind λ|.nl=>aG h o.dst (.tp [])|.cY id q n _ A=>(match h.g.get id,cE P j with|some (.box b),J z=>bif bz (q+n*A) b.cells.length&&aw z.flat.length A then aG {h with sl:=cP h.sl,g:=h.g.set id (.box {cells:=lj b.cells q ((mr n z).flatMap DV.flat),own:=dg b.own q (n*A)})} o.dst (.tp [])else Z|_,_=>Z)|_=>Z)|_=>Z
   |_=>Z
  |.builtin .min=>(cB (bj aq h) c.args.toList).bind λ|[.int k a,.int _ b]=>aG h o.dst (.dv (.int k (bif aA b a then b else a)) .no)|_=>Z
  |.builtin .max=>(cB (bj aq h) c.args.toList).bind λ|[.int k a,.int _ b]=>aG h o.dst (.dv (.int k (bif aA a b then b else a)) .no)|_=>Z
  |_=>Z
 |_=>Z
end
mutual
def DV.pure : DV -> Bool
  | .ptr .. | .map _ | .eu _ | .jk | .cY .. => C
  | .ay l _ _ => cj l
  | .agg l => cj l
  | .func _ a b => cj a && cj b
  | _ => V
def cj : ao -> Bool
  | [] => V
  | d :: t => d.pure && cj t
end
def SV.pure:SV->Bool|.dv d _=>d.pure|.tp l=>l.all λx=>x.1.pure|_=>C
mutual
def DV.plain : DV -> Bool
  | .bool _ | .int .. | .str _ | .nl | .eS | .fY | .nilFunc => V
  | .agg l => MX l
  | _ => C
def MX : ao -> Bool
  | [] => V
  | d :: t => d.plain && MX t
end
def SV.plain:SV->Bool|.dv d _=>d.plain|.tp l=>l.all λx=>x.1.plain|_=>C
def aN.yz:aN->Bool|.no=>V|_=>C
inductive eH where|fJ(st:St)|ext(id:Nat)(st:St)|rt(st:St)
inductive CF where|call(f:bY)(args:List DV)(ow:aN)(g:GH)|loop(b:bM)(st:St)(rd:Option Nat)|eu(l:Nat)(args:List DV)(g:GH)
inductive bh where|val(v:SV)(g:GH)|out(o:eH)
abbrev dW:=CF->ah bh
structure bV where
 aq:Nat->ah ao
 iW:bY->ao->ah (ah SV)iz:bY->Bool
 tL:bY->aE
 zI:bY->aE
 rz:bY->Bool
 AQ:bY->Bool
 oo:bY->Bool
 fk:bY->Nat
 qz:bY->DV->ao->ah (DV×SV)live:bY->Nat->aE
 keep:bY->Nat->aE
def mg(l:db):db:=l.map λx=>(x.1,match x.2 with|.dv d .no=>.dv d .no|.dv d .any=>.dv d .any|.ev d=>.ev d|_=>.dd)
def Dk:bM->Nat|.region id _ _=>id|.seq a _=>Dk a|.block _ b|.loop b|.scope b=>Dk b|_=>0
def za:SV->aE|.lp s _=>[s]|_=>[]
def mask(l:aE)(t:St):St:=let sl:=l.filterMap λs=>(look t.sl s).map λv=>(s,v)
 {t with sl:=sl,lb:=(sl.flatMap λx=>za x.2).eraseDups.filterMap λs=>(look t.lb s).map λb=>(s,b)}
def handsOn:Op->List aK|.move _|.assign _|.store ..|.load ..|.fieldAddr ..|.indexAddr ..|.nilCheck _|.binOp ..|.unOp ..|.extract ..|.index ..|.call {callee:=.builtin _,..}=>[]|o=>o.operands.toList
inductive Kd where|no|rd|wr
def Kd.apart:Kd->Kd->Bool|.no,_|_,.no=>V|.rd,.rd=>V|_,_=>C
def kindOf(c:bV)(s:St)(o:Op):Kd:=bif oJ o then .no else match o with|.alloc _|.box ..|.buildSlice ..|.makeMap ..|.makeSlice ..=>.no|.load ..|.lookup ..|.slice ..|.convert ..=>.rd|.call {callee:=.builtin .len,..}|.call {callee:=.builtin .max,..}|.call {callee:=.builtin .min,..}|.call {callee:=.builtin .append,..}=>.rd|.call {callee:=.value (.func f),..}=>bif(c.iz f||c.oo f)&&!(aw (c.fk f) 1||aw (c.fk f) 2)then .rd else .wr|_=>.wr
def isApp:Op->Bool|.call {callee:=.builtin .append,..}=>V|_=>C
def Mg(c:bV)(s:St)(o:Op):Bool:=match o with|.call {callee:=.value _,..}=>(match kindOf c s o with|.wr=>V|_=>C)|_=>C
def nI(c:bV)(s:St)(o:List aB):Bool:=wa o&&o.zipIdx.all λx=>!(isApp x.1.op||Mg c s x.1.op)||JR o x.2
inductive Kx where|s(k:Kd)|pt(t:Option Nat)(g:GH)(w:Bool)
def jI(c:bV)(s:St)(o:Op):Kx:=match o with|.load _ a=>(match cZ c.aq s a with|some (.dv (.ptr id _) _)=>.pt (J id) s.g C|_=>.s (kindOf c s o))|.store _ a _=>(match cZ c.aq s a with|some (.dv (.ptr id _) _)=>.pt (J id) s.g V|some (.se ..)|some (.lp ..)=>.pt Z s.g V|_=>.s (kindOf c s o))|o=>.s (kindOf c s o)
def Kx.kd:Kx->Kd|.s k=>k|.pt _ _ w=>bif w then .wr else .rd
def Kx.yc:Kx->Kx->Bool|.pt t g _,.pt (J id) _ _=>(g.get id).isSome&&(match t with|some x=>!(aw x id)|none=>V)|_,_=>C
def Kx.apart(a b:Kx):Bool:=Kd.apart a.kd b.kd||(Kx.yc a b||Kx.yc b a)
def I'(o:List aB)(l:List (Nat×Kx))(j:Nat)(k:Kx):Bool:=l.all λe=>Kx.apart e.2 k||rA o e.1 j
section
variable(P:aH)(cf:bV)(rec:dW)
def y8(p:Array aB)(s:St)(o:aB):ah Bool:=match o.guard with|none=>J V|some (j,w)=>match(p[j]?).bind (·.dst)with
 |some d=>match look s.sl d with|some (.dv (.bool b) _)=>J (b==w)|some (.tp [])=>J C|_=>Z
 |none=>J C
def xp(l:List (DV×aN))(j:Nat)(x:DV×aN):DV×aN:=match x.1,x.2 with|.ay d e n,.ty e1=>bif aw e e1&&(js e d&&l.zipIdx.all λy=>aw y.2 j||y.1.1.gY e)then(.ay d e n,.ex e)else x|_,_=>x
def rz(t:Bool):SV->SV|.tp l=>bif t then .tp (l.zipIdx.map λx=>xp l x.2 x.1)else .tp l|v=>v
def FT(g a:GH):Bool:=bz g.next a.next&&a.kj.all λx=>bz g.next x.1
def jA{c:Type}(f:bY)(a:ao)(o:aN)(g:GH)(k:SV->GH->ah c):ah c:=bif cf.iz f then(bif cj a then(rec (.call f a o .empty)).bind λ|.val v _=>bif v.pure then k (rz (cf.rz f&&o.yz) v) g else Z|_=>Z else Z)else bif cf.oo f then(bif cj a then(rec (.call f a o ⟨g.next,[]⟩)).bind λ|.val v b=>bif FT g b then k v ⟨b.next,b.kj++g.kj⟩else Z|_=>Z else Z)else(rec (.call f a o g)).bind λ|.val v g=>k v g|_=>Z
def Qr(t:St)(f:bY)(x:aK)(S:ao):ah (St×SV):=(cZ cf.aq t x).bind λv=>let a:=λ(s:Nat)=>match look t.sl s with|some (.dv d (.ex e))=>(cf.qz f d S).map λr=>({t with sl:=put (ix t.sl s) s (match r.1 with|.jk=>.dv .jk .no|d=>.dv d (.ex e))},r.2)|_=>Z
 match v with|.dv .nl _=>(cf.qz f .nl S).map λr=>(t,r.2)|.dv _ (.ex _)=>(match x with|.tmp s=>a s|_=>Z)|.sr s=>a s|.gr id o=>(match t.g.get id with|some (.box b)=>(match b.cells[o]?,eB b o with|some d,.ex e=>(cf.qz f d S).map λr=>({t with g:=t.g.set id (.box {cells:=iJ b.cells o r.1,own:=(match r.1 with|.jk=>dg b.own o 1|_=>b.own)})},r.2)|_,_=>Z)|_=>Z)|_=>Z
def qP(s:St)(o:Op)(i:aK)(a:List aK):ah (St×SV):=(bj cf.aq s i).bind λv=>match v with
 |.func h first c=>bif aw (cf.fk h) 1 then match first,c,a with|[],[],x::b=>(cB (bj cf.aq (b.foldl (aQ share) s)) b).bind λS=>Qr cf (b.foldl (aQ share) s) h x S|_,_,_=>Z else bif aw (cf.fk h) 2 then match first,a with|[],x::b=>(match cZ cf.aq s x with|some (.dv d w)=>(cB (bj cf.aq ((handsOn o).foldl (aQ share) (aQ leave s x))) b).bind λS=>jA cf rec h (d::(S++c)) w ((handsOn o).foldl (aQ share) (aQ leave s x)).g λv g=>J ({((handsOn o).foldl (aQ share) (aQ leave s x))with g:=g},v)|_=>Z)|_,_=>Z else bif aw (cf.fk h) 3 then bif cf.iz h then(cB (zF cf.aq s) a).bind λS=>jA cf rec h (first++S++c) .no s.g λv _=>bif v.plain then J (s,v)else Z else Z else(cB (bj cf.aq ((handsOn o).foldl (aQ share) s)) a).bind λS=>jA cf rec h (first++S++c) .no ((handsOn o).foldl (aQ share) s).g λv g=>J ({((handsOn o).foldl (aQ share) s)with g:=g},v)|.eu l=>(cB (bj cf.aq ((handsOn o).foldl (aQ share) s)) a).bind λS=>(rec (.eu l S ((handsOn o).foldl (aQ share) s).g)).bind λ|.val v g=>J ({((handsOn o).foldl (aQ share) s)with g:=g},v)|_=>Z
 |_=>Z
def dK(g c:aE)(l:List aB)(s:St)(o:aB):ah St:=match o.op with|.call {callee:=.value f,args,..}=>(qP cf rec s o.op f args.toList).bind λr=>aG {r.1 with sl:=cP r.1.sl} o.dst r.2|_=>dF P cf.aq cf.fk g c l ((handsOn o.op).foldl (aQ share) s) o
def km(s c:aE)(d:Bool)(p:Array aB):List aB->Nat->List (Nat×Kx)->St->ah St|[],_,_,st=>J st|o::l,j,g,st=>(y8 p st o).bind λw=>bif w then bif !d||I' p.toList g j (jI cf st o.op)then(dK P cf rec s c l st o).bind λt=>km s c d p l (j+1) (bif d then(j,jI cf st o.op)::g else g) t else Z else(aG st o.dst (.tp [])).bind λst=>km s c d p l (j+1) g st
def fL(k:eH->ah bh):bh->ah bh|.out o=>k o|.val ..=>Z
variable(rd:ah Nat)
def AB(g:GH):Bool:=match rd with|none=>V|some l=>(match g.get l with|some (.loop _)=>V|_=>C)
def exec:bM->St->(eH->ah bh)->ah bh
 |.skip,st,k|.label _,st,k=>k (.fJ st)|.seq a b,st,k=>exec a st λ|.fJ st=>exec b st k|.ext i st=>k (.ext i st)|.rt st=>k (.rt st)
 |.cond c a b,st,k=>match bj cf.aq st c with|some (.bool x)=>bif x then exec a st k else exec b st k|_=>Z
 |.block id b,st,k=>exec b st λ|.fJ st=>k (.fJ st)|.ext i st=>bif aw i id then k (.fJ st)else k (.ext i st)|.rt st=>k (.rt st)
 |.loop b,st,k=>(rec (.loop b (mask (cf.live st.fn (Dk b)) st) rd)).bind (fL k)|.scope b,st,k=>exec b st k|.exit id,st,k=>k (.ext id st)|.ret,st,k=>k (.rt st)|.region id o d,st,k=>bif !d||nI cf st o.toList then(km P cf rec (cf.tL st.fn) (cf.zI st.fn) d o o.toList 0 [] st).bind λt=>k (.fJ (mask (cf.keep st.fn id) t))else Z|.rangeFunc f m S b,st,k=>match bj cf.aq st f with
  |some (.func h first p)=>bif(cf.iW h (first++[.eu st.g.next]++p)).isSome||!(AB rd st.g)then Z else(rec (.call h (first++[.eu st.g.next]++p) .no (st.g.alloc (.loop {state:=.ready,pending:=Z,fn:=st.fn,n:=st.n,sl:=mg st.sl,params:=m.toList,assign:=S,body:=b})))).bind λ
   |.val _ g=>(match g.get st.g.next with|some (.loop r)=>(match r.state with|.busy=>Z|_=>let s:={st with sl:=cP st.sl,g:=g.set st.g.next (.loop {r with state:=.exhausted})}
   (match r.pending with|none=>k (.fJ s)|some .ret=>k (.rt s)|some (.exit id)=>k (.ext id s)|_=>Z))|_=>Z)|_=>Z
  |_=>Z
 |.goto _,_,_|.refuse _,_,_=>Z
def vf(s:St)(t:Tmp):ah ((DV×aN)×St):=match look s.sl t with|some (.dv d o)=>J ((d,o),{s with sl:=put s.sl t (leave (.dv d o))})|_=>Z
def Jv(c:St):oS->ah ((DV×aN)×St)|.tmp t=>vf c t|.cell a t=>match look c.sl a with|some (.lp s o)=>(look c.lb s).bind λb=>(fI P .take t b o).bind λr=>(aG {c with lb:=put c.lb s r.2} (J a) r.1).bind λc=>vf c a|some (.dv (.ptr id o) _)=>(match c.g.get id with|some (.box b)=>(fI P .take t b o).bind λr=>(aG {c with g:=c.g.set id (.box r.2)} (J a) r.1).bind λc=>vf c a|_=>Z)|_=>Z
def tK:List oS->St->ah (List (DV×aN)×St)|[],st=>J ([],st)|r::l,st=>(Jv P st r).bind λx=>(tK l x.2).bind λy=>J (x.1::y.1,y.2)
def we:oS->Tmp|.tmp t=>t|.cell a _=>a
def yF:aE->Bool|[]=>V|x::l=>!(l.any (aw x))&&yF l
def DH:List (DV×aN)->SV|[x]=>.dv x.1 x.2|l=>.tp l
def yM(b:LB)(o l e:Nat)(a:Bool):ao:=(qm l).map λi=>bif a then .agg ((b.cells.drop (o+i*e)).take e)else((b.cells.drop (o+i*e)).headD .nl)
def isFull(e:an):aN->Bool|.full t=>aw t e|_=>C
def xu(g:GH):DV->ah DV|.cY id o len e s=>(match g.get id,bN P e with|some (.box b),J a=>bif bz (o+len*s) b.cells.length&&bz 1 s&&(a||aw s 1)&&b.own.any (λx=>isFull e x.2)then J (.ay (yM b o len s a) e s)else Z|_,_=>Z)|d=>J d
def Sd(g:GH):DV->ah DV|.agg l=>(cB (xu P g) l).map .agg|d=>xu P g d
def AR:bh->ah bh|.val (.dv d _) g=>(Sd P g d).map λd=>.val (.dv d .no) {g with kj:=[]}|.val (.tp l) g=>(cB (λ(x:DV×aN)=>(Sd P g x.1).map λd=>(d,aN.no)) l).map λl=>.val (.tp l) {g with kj:=[]}|_=>Z
def ye(f:Func)(s:St):ah bh:=bif yF (f.results.toList.map we)then(tK P f.results.toList s).map λy=>.val (DH y.1) y.2.g else Z
def uB:Nat->aN->ao->db|_,_,[]=>[]|i,o,d::t=>(i,.dv d o)::uB (i+1) .no t
def Ct:List Tmp->ao->db->db|p::a,d::s,sl=>Ct a s (put sl p (.dv d .no))|_,_,sl=>sl
def wL(l:Nat)(s:St)(p:ah bM):ah bh:=match s.g.get l with|some (.loop r)=>J (.val (.dv (.bool p.isNone) .no) (s.g.set l (.loop {r with state:=(match p with|none=>.ready|some _=>.done),pending:=p})))|_=>Z
def vZ:aN->Bool|.ex _|.any=>V|_=>C
def y7:CF->ah bh
 |.call f args w g=>match cf.iW f args with|some r=>bif aw (cf.fk f) 2&&!vZ w then Z else r.map λv=>.val v g|none=>(P.funcs[f]?).bind λfn=>fn.body.bind λb=>bif bz args.length fn.ntmps then exec P cf rec Z b {fn:=f,n:=fn.ntmps,sl:=uB 0 w args,lb:=[],g:=g} λ|.fJ st|.rt st=>bif cf.AQ f then(ye P fn st).bind (AR P)else ye P fn st|.ext ..=>Z else Z
 |.loop b st rd=>exec P cf rec rd b st λ|.fJ st=>rec (.loop b (mask (cf.live st.fn (Dk b)) st) rd)|o=>J (.out o)
 |.eu l args g=>match g.get l with|some (.loop r)=>bif aw args.length r.params.length&&r.params.all (λp=>cw p r.n)then exec P cf rec (J l) r.assign {fn:=r.fn,n:=r.n,sl:=Ct r.params args r.sl,lb:=[],g:=g} λ|.fJ st=>(match st.g.get l with|some (.loop r1)=>(match r1.state with|.ready=>exec P cf rec (J l) r.body {st with sl:=cP st.sl,g:=st.g.set l (.loop {r1 with state:=.busy})} λo=>(match o with|.fJ st=>wL l st Z|.rt st=>wL l st (J .ret)|.ext id st=>wL l st (J (.exit id)))|_=>Z)|_=>Z)|_=>Z else Z|_=>Z
end
def J1(P:aH)(c:bV):Nat->dW|0=>λ_=>Z|n+1=>y7 P c (J1 P c n)
end Go.VM
namespace Go.AM
theorem Bm{a b:Nat}(h:a≠b):aw a b=C:=by grind[Nat.eq_of_beq_eq_true]
theorem Kw{a b:Nat}(h:a=b):aw a b=V:=by simp_all
theorem aMV(f:Nat):xr f 0=.e:=by cases f<;>rfl
theorem aMU(f n:Nat)(a:n≠0)(h:n%2=1):xr (f+1) n=.o (xr f (n/2)):=by have e:xr (f+1) n=@Bool.rec (λ_=>Pos) (@Bool.rec (λ_=>Pos) _ (.o (xr f (n/2))) (aw (n%2) 1)) .e _:=rfl;simp_all[Bm]
theorem aMS(f n:Nat)(a:n≠0)(h:n%2≠1):xr (f+1) n=.i (xr f (n/2-1)):=by have e:xr (f+1) n=@Bool.rec (λ_=>Pos) (@Bool.rec (λ_=>Pos) (.i (xr f (n/2-1))) _ (aw (n%2) 1)) .e _:=rfl;simp_all[Bm]
def aMT:∀(f g n m:Nat),n<f->m<g->xr f n=xr g m->n=m:=by intro f;induction f with|zero=>omega|succ f i=>intro g n m b a h;cases g<;>grind[aMV,aMU,aMS]
def aMW{n m:Nat}(h:toPos n=toPos m):n=m:=aMT _ _ n m (Hr n) (Hr m) h
def Iq{a:Type}(x:a):∀(p q:Pos)(t:Tr a),(p=q->Bz (Dx p x t) q=J x)/\(p≠q->Bz (Dx p x t) q=Bz t q):=by intro p;induction p with
 |e=>intro q t;cases t<;>cases q<;>simp[Dx,Bz]|o p h=>
 intro q t;rcases t with _|⟨l,v,r⟩;.cases q<;>simp_all[Dx,Bz]
 cases q<;>simp_all[Dx,Bz]|i p h=>
 intro q t;rcases t with _|⟨l,v,r⟩;.cases q<;>simp_all[Dx,Bz]
 cases q<;>simp_all[Dx,Bz]
theorem Tr.lG{a:Type}(t:Tr a)(n:Nat)(x:a):(t.ins n x).get n=J x:=(Iq x _ _ t).1 rfl
def a17:=@Tr.lG
theorem Tr.jC{a:Type}(t:Tr a){n m:Nat}(x:a)(h:n≠m):(t.ins n x).get m=t.get m:=(Iq x _ _ t).2 λe=>h (aMW e)
def a11:=@Tr.jC
def Tr.get_nil{a:Type}(n:Nat):(Tr.nil:Tr a).get n=Z:=by rfl
theorem dZ{a:Type}(l:List a):fg l=l.length:=by induction l<;>grind[fg]
theorem lz{a:Type}(l m:List a):dL l m=l++m:=by induction l<;>grind[dL]
theorem qQ{b:Type}(n:Nat):∀l:List b,zK n l=l.drop n:=by induction n with|zero=>intro l;rfl|succ n i=>intro l;cases l with|nil=>rfl|cons a l=>exact i l
theorem qg{a:Type}(n:Nat):∀l:List a,wo n l=l.take n:=by induction n with|zero=>intro l;rfl|succ n i=>intro l;cases l<;>simp_all[wo]
theorem xa{a:Type}(l:List a)(n:Nat):pj l n=l[n]?:=by
 unfold pj;rw[qQ];have:l[n]?=(l.drop n)[0]?:=by simp
 rw[this];cases l.drop n<;>rfl
theorem Aq{a b:Type}(f:a->b)(l:List a):yD f l=l.map f:=by induction l<;>grind[yD]
theorem FH{a b:Type}(f:a->ah b):cB f []=J []:=rfl
def QN{c d:Type}(f:c->ah d)(a:c)(l:List c):cB f (a::l)=(f a).bind λb=>(cB f l).bind λt=>J (b::t):=rfl
theorem FI{c d:Type}{f:c->ah d}:∀{l:List c}{r:List d},cB f l=J r->l.length=r.length/\∀(i:Nat)(a:c),l[i]?=J a->∃b,f a=J b/\r[i]?=J b:=by intro l;induction l with|nil=>simp[FH]|cons a l j=>
 intro r h;rw[QN]at h;rcases e:f a with _|b;.grind
 cases g:cB f l<;>grind
theorem pR{d c:Type}(f:c->d->c):∀(l:List d)(b:c),fV f l b=l.foldl f b:=by intro l;induction l with|nil=>intro b;rfl|cons a l i=>intro b;exact i _
theorem EN{c a:Type}(f:a->c->ah a)(b:a):lE f [] b=J b:=rfl
theorem EM{c d:Type}(f:d->c->ah d)(a:c)(l:List c)(b:d):lE f (a::l) b=(f b a).bind (lE f l):=rfl
theorem Ru{a:Type}(z:List a):jW 0 z=[]:=rfl
theorem ZW{a:Type}(n:Nat)(z:List a):jW (n+1) z=z++jW n z:=by grind[jW,lz]
theorem Gp{a:Type}(n:Nat)(z:List a):(jW n z).length=n*z.length:=by induction n<;>grind[Ru,ZW]
def ZV{a:Type}(n:Nat)(z:List a)(i:Nat)(h:i<n*z.length):(jW n z)[i]?=z[i%z.length]?:=by induction n generalizing i<;>grind[ZW,Nat.mod_eq_of_lt,ql,Nat.mod_eq_sub_mod]
theorem alQ{b:Type}(f:b->Bool)(a:b)(l:List b):lx f (a::l)=(f a&&lx f l):=by simp[lx]
theorem qN{b:Type}(f:b->Bool)(l:List b):lx f l=l.all f:=by induction l with|nil=>rfl|cons a l i=>grind[alQ]
theorem ya:∀l m:aE,xZ l m=decide (l=m):=by intro l;induction l with|nil=>intro m;cases m<;>simp[xZ]|cons a l i=>
 intro m;rcases m with _|⟨b,t⟩;.rfl
 show(bif aw a b then xZ l t else C)=_;by_cases h:a=b<;>simp_all
theorem D1{a:Type}(l:List a)(o:Nat)(v:List a):fZ l o v=l.take o++v++l.drop (o+v.length):=by simp[fZ,lz,qg,qQ,dZ]
theorem yT{a:Type}(l:List a)(o:Nat)(v:List a)(h:o+v.length<=l.length):(fZ l o v).length=l.length:=by grind[D1]
theorem yS{a:Type}(l:List a)(o:Nat)(v:List a)(h:o+v.length<=l.length)(i:Nat):(fZ l o v)[i]?=if o<=i/\i<o+v.length then v[i-o]? else l[i]?:=by
 rw[D1];have t:(l.take o).length=o:=by grind
 grind
theorem zQ(a b:Int):aj a b=decide (a=b):=by
 have k:∀x y,aw x y=decide (x=y):=λx y=>by grind[Kw,Bm]
 rcases a with a|a
 . rcases b with b|b;.grind[aj]
   rfl
 cases b<;>simp_all[aj]
def Cw(k:fT)(n:Int):dQ k n=k.wrap n:=by
 unfold dQ;split
 . rename_i m;rcases h:cw m _ with _|_;.rfl
   have a:m<9223372036854775808:=by simp_all
   unfold IntKind.wrap;have e:(2^IntKind.i64.bits:Int)=18446744073709551616:=by rfl
   have e2:(2^(IntKind.i64.bits-1):Int)=9223372036854775808:=by rfl
   grind
 rfl
theorem eP(a b:Nat):cw a b=decide (a<b):=by grind[Nat.blt_eq]
theorem dp(a b:Nat):bz a b=decide (a<=b):=by grind[Of,nB]
theorem bQ(a b:Nat):aw a b=decide (a=b):=by grind[Kw,Bm]
def Jb(a b:Int):aA a b=decide (a<b):=by
 rcases a with a|a
 . rcases b with b|b;.show cw a b=_;simp[eP]
   rfl
 rcases b with b|b;.show V=_;grind
 show cw b a=_;grind[eP]
structure Pl where
 ba:Nat
 base:Nat
 oO:Nat
 len:Nat
abbrev bc:=Nat->ah Pl
variable{a k x:AV}{cs:Array aD}{ats:Array an}{H H':Heap}{es:List eL}{ms:List kS}{cap h I r y:Nat}{S:Nat->Prop}{fz:Nat×Nat}{p:Pl}{kv u v xv zv:aD}{P:aH}{l vs:aJ}{xo yo:aK}{w w':aT}{q:ah (Nat×eL)}{hi:ah AV}{base:ah Addr}{e elem kt t vt xt:an}{Y A:bc}{fl:fS}{m:kS}
def wi:aD->Bool|.agg _|.tuple _=>C|_=>V
inductive VR(Y:bc):AV->aD->Prop where|top(n:Int):VR Y .top (.int .i64 n)|bool(b:Bool):VR Y (.bool b) (.bool b)|int(k:fT)(n:Int):VR Y (.int k n) (.int k n)|str(l:List Nat)(s:ByteArray)(h:s.data.toList.map ko=l):VR Y (.str l) (.string s)|eS:VR Y .eS (.pointer Z)|ptr(id I:Nat)(p:Pl)(h:Y id=J p):VR Y (.ptr id I) (.pointer (J ⟨p.ba,p.base+I,Z⟩))|bH:VR Y .bH (.slice Z 0 0)|sl(id I len:Nat)(c:Option Nat)(esz:Nat)(p:Pl)(ad:Addr)(cap:Nat)(h:Y id=J p)(hl:len<=cap)(ht:p.base+I+cap*esz<=p.oO)(hc:∀k,c=J k->cap=k/\I+k*esz<=p.len)(ho:c=Z->p.len<=I+cap*esz)(hr:cap≠0->ad=⟨p.ba,p.base+I,Z⟩)(he:0<esz)(hn:I+len*esz<=p.len):VR Y (.sl id I len c esz) (.slice (J ad) len cap)|fY:VR Y .fY (.map Z)|map(r:Nat)(p:Pl)(h:Y r=J p):VR Y (.map r) (.map (J p.ba))|func(f:bY)(l1 l2:List AV)(c1 c2:Array aD)(h1:l1.length=c1.size)(h2:l2.length=c2.size)(g1:∀(i:Nat)(a:AV)(c:aD),l1[i]?=J a->c1[i]?=J c->VR Y a c)(g2:∀(i:Nat)(a:AV)(c:aD),l2[i]?=J a->c2[i]?=J c->VR Y a c):VR Y (.func f l1 l2) (.func (.func f) c1 c2)|yield(l:Nat)(p:Pl)(h:Y l=J p):VR Y (.yield l) (.func (.yield p.ba) #[] #[])|nilFunc:VR Y .nilFunc .nilFunc|agg(l:List AV)(c:Array aD)(h:l.length=c.size)(hs:∀a,a∈l->a.aV=V)(g:∀(i:Nat)(a:AV)(v:aD),l[i]?=J a->c[i]?=J v->VR Y a v):VR Y (.agg l) (.agg c)|cO(l:List AV)(c:Array aD)(h:l.length=c.size)(g:∀(i:Nat)(a:AV)(v:aD),l[i]?=J a->c[i]?=J v->VR Y a v):VR Y (.cO l) (.tuple c)
def aZ(b:bc)(l:aJ)(c:List aD):Prop:=l.length=c.length/\∀(i:Nat)(a:AV)(v:aD),l[i]?=J a->c[i]?=J v->VR b a v
def Ext(a b:bc):Prop:=∀id p,a id=J p->b id=J p
theorem Ext.refl(a:bc):Ext a a:=λ_ _ h=>h
def a41:=@Ext.refl
def Ext.trans{a b c:bc}(h:Ext a b)(k:Ext b c):Ext a c:=λ_ _ e=>k _ _ (h _ _ e)
theorem VR.mono(h:Ext Y A)(r:VR Y a v):VR A a v:=by induction r with|top n=>exact .top n|bool b=>exact .bool b|int k n=>exact .int k n|str l s h=>exact .str l s h|eS=>exact .eS|ptr id I p d=>exact .ptr id _ p (h _ _ d)|bH=>exact .bH|sl id I len c z p F cap d e E t B hr u w=>exact .sl id _ _ c _ p _ _ (h _ _ d) e E t B hr u w|fY=>exact .fY|map r p d=>exact .map r p (h _ _ d)|func f l1 l2 j m o q _ _ G H=>exact .func f l1 l2 j m o q ab ab|yield l p d=>exact .yield l p (h _ _ d)|nilFunc=>exact .nilFunc|agg l c e D _ g=>exact .agg l c e D λi a v x y=>g i a v x y|cO l c e _ g=>exact .cO l c e λi a v x y=>g i a v x y
theorem aZ.mono(h:Ext Y A){c:List aD}(r:aZ Y l c):aZ A l c:=⟨r.1,λi a v x y=>(r.2 i a v x y).mono h⟩
theorem aZ.nil(a:bc):aZ a [] []:=⟨rfl,aP⟩
def a04:=@aZ.nil
theorem aZ.cons{c:List aD}(h:VR Y a v)(t:aZ Y l c):aZ Y (a::l) (v::c):=by
 refine⟨by simp[t.1],λi x y b d=>?_⟩;rcases i with _|i;.grind
 exact t.2 i x y ai ai
def a05:=@aZ.cons
theorem aZ.cons_inv{c:List aD}(h:aZ Y (a::l) c):∃v t,c=v::t/\VR Y a v/\aZ Y l t:=by
 rcases c with _|⟨v,t⟩;.have:=h.1;grind
 exact⟨v,t,rfl,h.2 0 a v rfl rfl,by have:=h.1;grind,λi x y b d=>h.2 (i+1) x y ai ai⟩
theorem aZ.sB{c:List aD}(h:aZ Y [] c):c=[]:=by
 rcases c with _|⟨v,t⟩;.rfl
 have:=h.1;grind
theorem aZ.append{m:aJ}{c d:List aD}(h:aZ Y l c)(k:aZ Y m d):aZ Y (l++m) (c++d):=by
 refine⟨by simp[h.1,k.1],λi a v x y=>?_⟩;by_cases hi:i<l.length;.rw[nZ hi]at x;rw[nZ (by rw[<-h.1];omega)]at y;exact h.2 i a v x y
 .rw[ql ab]at x;rw[ql (by rw[<-h.1];omega),<-h.1]at y;exact k.2 _ a v x y
theorem aZ.take{c:List aD}(h:aZ Y l c)(n:Nat):aZ Y (l.take n) (c.take n):=by
 refine⟨by simp[h.1],λi a v x y=>?_⟩;by_cases hi:i<n;.rw[CG hi]at x y;exact h.2 i a v x y
 grind
theorem aZ.drop{c:List aD}(h:aZ Y l c)(n:Nat):aZ Y (l.drop n) (c.drop n):=by refine⟨by simp[h.1],λi a v x y=>?_⟩;rw[xI]at x y;exact h.2 _ a v x y
theorem aZ.get{c:List aD}(h:aZ Y l c){i:Nat}(x:l[i]?=J a):∃v,c[i]?=J v/\VR Y a v:=by
 obtain⟨hi,_⟩:=am.1 x;have N:i<c.length:=by rw[<-h.1];omega
 exact⟨_,aU,h.2 i a _ x (dC N)⟩
theorem aZ.aae{c w:List aD}(h:aZ Y l c)(k:aZ Y vs w)(o:Nat):aZ Y (fZ l o vs) (c.take o++w++c.drop (o+w.length)):=by rw[D1,k.1];exact((h.take _).append k).append (h.drop _)
theorem VR.aV(h:VR Y a v)(b:a.aV=V):wi v=V:=by cases h<;>first|rfl|assumption|simp[AV.aV]at b
theorem VR.cells(h:VR Y a v)(d:a.cells=J l):aZ Y l v.cells.toList/\(∀x,x∈l->x.aV=V):=by cases h with|top v=>grind[AV.cells]|cO l c j g=>grind[AV.cells]|agg l c j E g=>simp[AV.cells]at d;subst d;exact⟨⟨by grind[Value.cells],λi a v x y=>g i a v x (by grind[Value.cells])⟩,E⟩|bool b=>simp[AV.cells]at d;subst d;exact⟨a05 (.bool b) (a04 Y),by simp[AV.aV]⟩|int k n=>simp[AV.cells]at d;subst d;exact⟨a05 (.int k n) (a04 Y),by simp[AV.aV]⟩|str l s h=>simp[AV.cells]at d;subst d;exact⟨a05 (.str l s h) (a04 Y),by simp[AV.aV]⟩|eS=>simp[AV.cells]at d;subst d;exact⟨a05 .eS (a04 Y),by simp[AV.aV]⟩|ptr id I p e=>simp[AV.cells]at d;subst d;exact⟨a05 (.ptr id _ p e) (a04 Y),by simp[AV.aV]⟩|bH=>simp[AV.cells]at d;subst d;exact⟨a05 .bH (a04 Y),by simp[AV.aV]⟩|sl id I len c z p F cap e j u A D hr w B=>simp[AV.cells]at d;subst d;exact⟨a05 (.sl id _ _ c _ p _ _ e j u A D hr w B) (a04 Y),by simp[AV.aV]⟩|fY=>simp[AV.cells]at d;subst d;exact⟨a05 .fY (a04 Y),by simp[AV.aV]⟩|map r p e=>simp[AV.cells]at d;subst d;exact⟨a05 (.map r p e) (a04 Y),by simp[AV.aV]⟩|func f l1 l2 m o q t g1 g2=>simp[AV.cells]at d;subst d;exact⟨a05 (.func f l1 l2 m o q t g1 g2) (a04 Y),by simp[AV.aV]⟩|yield l p e=>simp[AV.cells]at d;subst d;exact⟨a05 (.yield l p e) (a04 Y),by simp[AV.aV]⟩|nilFunc=>simp[AV.cells]at d;subst d;exact⟨a05 .nilFunc (a04 Y),by simp[AV.aV]⟩
theorem aZ.agg{c:List aD}(h:aZ Y l c)(s:∀x,x∈l->x.aV=V)(a:Array aD)(b:a.toList=c):VR Y (.agg l) (.agg a):=by subst b;exact .agg l a (by simpa using h.1) s λi x v d e=>h.2 i x v d aU
theorem VR.tF(h:VR Y (.agg l) v):∃c,v=.agg c/\aZ Y l c.toList/\∀x,x∈l->x.aV=V:=by cases h with|agg l c b s g=>exact⟨c,rfl,⟨ab,λi a v x y=>g i a v x ai⟩,s⟩
theorem VR.aM2(h:VR Y (.cO l) v):∃c,v=.tuple c/\aZ Y l c.toList:=by cases h with|cO l c b g=>exact⟨c,rfl,ab,λi a v x y=>g i a v x ai⟩
theorem aZ.cO{c:List aD}(h:aZ Y l c)(a:Array aD)(b:a.toList=c):VR Y (.cO l) (.tuple a):=by subst b;exact .cO l a (by simpa using h.1) λi x v d e=>h.2 i x v d aU
def a39:=@aZ.cO
theorem Wr(h:DF v=J a):VR Y a v/\a.aV=V:=by
 unfold DF at h;split at h<;>simp at h<;>subst h;.exact⟨.bool _,rfl⟩
 .exact⟨.int _ _,rfl⟩
 .exact⟨.str _ _ rfl,rfl⟩
 .exact⟨.eS,rfl⟩
 .exact⟨.bH,rfl⟩
 .exact⟨.fY,rfl⟩
 .exact⟨.nilFunc,rfl⟩
theorem Ws(h:xb v=J a):VR Y a v:=by
 unfold xb at h;split at h
 . rename_i cs;rcases m:cB DF cs.toList with _|l;.grind
   simp[m]at h;subst h;obtain⟨g,d⟩:=FI m;refine .agg l cs ai ?_ ?_;.intro x f;obtain⟨i,hi⟩:=a8.1 f;have N:i<cs.toList.length:=ai;obtain⟨b,e,j⟩:=d i _ (dC N);rw[hi]at j;simp at j;subst j;exact(Wr (Y:=Y) e).2
   .intro i x c f k;obtain⟨b,e,j⟩:=d i c ai;grind[Wr]
 grind[Wr]
theorem aFd(h:xb v=J a):a≠.top:=by
 intro e;unfold xb at h;split at h;.simp_all
 .unfold DF at h;grind
def gl:List (aJ×an):=[(yD .bool [V,V,V,C,C,C,V,C,C,C,V,V,V,C,V,V],314),([(0,0,V,V,C,C),(2,64,C,C,C,C),(2,64,C,C,C,C),(2,64,C,C,C,C),(1,1,C,C,C,C),(1,1,V,V,V,C),(1,1,C,C,V,V),(1,1,C,V,C,C),(2,2,C,C,C,C),(1,1,V,V,V,C),(1,1,C,C,V,V)].flatMap λ(a,b,p,q,r,s)=>[.int .i64 a,.int .i64 b,.bool p,.bool q,.bool r,.bool s],339),([.top],3),(yD (λi=>.int .u64 (10^i)) (List.range 20),708),(yD (.int .u8) [0,1,28,2,29,14,24,3,30,22,20,15,25,17,4,8,31,27,13,23,21,19,16,7,26,12,18,6,11,5,10,9],714),(yD (.int .u8) [0,1,56,2,57,49,28,3,61,58,42,50,38,29,17,4,62,47,59,36,45,43,51,22,53,39,33,30,24,18,12,5,63,55,48,27,60,41,37,16,46,35,44,21,52,32,23,11,54,26,40,15,34,20,31,10,25,14,19,9,13,8,7,6],715)]
open Go
def rootOf(H:Heap)(i:Nat):Nat:=match H.get i with|some (.cells _ r _ _)=>r|_=>i
def fQ(H:Heap)(i:Nat):Prop:=∃l r e,H.get i=J (.cells l r .ro e)
def jg(H:Heap)(i:Nat):Prop:=∀l r fl e,H.get i=J (.cells l r fl e)->(H.br r).1<=i
def wx(a:bc)(e:eL)(m:kS):Prop:=VR a e.1 m.key/\VR a e.2.1 m.val/\m.born=e.2.2
def nA(a:bc)(l:List eL)(m:List kS):Prop:=l.length=m.length/\∀(i:Nat)(e:eL)(x:kS),l[i]?=J e->m[i]?=J x->wx a e x
inductive Er(Y:bc):N'->Target->Prop where|fn(f:bY)(l:List AV)(c:Array aD)(h:aZ Y l c.toList):Er Y (.fn f l) (.fn (.func f) c)|yield(l:Nat)(p:Pl)(h:Y l=J p):Er Y (.yield l) (.fn (.yield p.ba) #[])|builtin(b:Builtin)(ts:Array an)(t:an)(cs:Array Bool):Er Y (.builtin b ts) (.builtin b ts t cs)
structure akO(Y:bc)(d:Sr)(e:Deferred):Prop where
 target:Er Y d.target e.target
 args:aZ Y d.args e.args.toList
def zh(a:bc):aE->List Deferred->Prop|[],[]=>True|r::l,x::m=>(∃p,a r=J p/\x=⟨.collected p.ba,#[]⟩)/\zh a l m|_,_=>False
def rL(a:bc)(n:Nat)(t:Tr AV)(c:Array aD):Prop:=c.size=n/\∀i,VR a ((t.get i).getD fD) (c.getD i undef)
structure Hp(Y:bc)(a:AT)(r:Loop):Prop where
 state:r.state=a.state
 pending:r.pending=a.pending
 fn:r.fn=a.fn
 tmps:rL Y a.n a.tmps r.tmps
 params:r.params.toList=a.params
 assign:r.assign=a.assign
 body:r.body=a.body
 defers:∃p,Y a.defers=J p/\r.defers=p.ba
def my(f:bc)(w:aT)(o:cq)(p:Pl):Prop:=match o with|.cells l _ fl e=>∃cs fz e1,w.heap[p.ba]?=J (.cells cs e1 fz)/\cs.size=p.oO/\p.base+p.len<=p.oO/\(∀(i:Nat)(a:AV),l[i]?=J a->∃c,cs[p.base+i]?=J c/\VR f a c)/\(∀a,a∈l->a.aV=V)/\(fl≠.ro->fz=(0,0)/\e1=e)/\(fl=.ex->p.base=0/\p.oO=p.len)|.map es k=>p.base=0/\∃d:Array kS,w.heap[p.ba]?=J (.map d k)/\nA f es d.toList|.mapIter m s seen D=>p.base=0/\∃g:ah Nat,w.heap[p.ba]?=J (.mapIter g s seen.toArray D)/\(match m with|none=>g=Z|some r=>∃q,f r=J q/\g=J q.ba)|.loop r=>p.base=0/\∃R:Loop,w.heap[p.ba]?=J (.loop R)/\Hp f r R|.deferred b=>p.base=0/\w.heap[p.ba]?=J (.deferred (bif b then J []else Z))
structure bg(H:Heap):Prop where
 get:∀id o,H.get id=J o->id<H.next
 root:∀id l r fl e,H.get id=J (.cells l r fl e)->r<=id/\id<=(H.br r).2
 oK:∀id l r fl e,H.get id=J (.cells l r fl e)->∃l' fl' e',H.get r=J (.cells l' r fl' e')dz:∀r f,H.dz.get r=J f->r<H.next/\f.2<H.next
 bA:H.bA<=H.next
structure Stat(Y:bc)(H:Heap)(n:Nat):Prop where
 cF:∀id p,Y id=J p->p.ba<n/\(H.get id).isSome
 len:∀id p l r fl e,Y id=J p->H.get id=J (.cells l r fl e)->l.length=p.len
 inj:∀i j p q,Y i=J p->Y j=J q->p.ba=q.ba->¬fQ H i->rootOf H i=rootOf H j
 mono:∀i j p q,Y i=J p->Y j=J q->p.ba=q.ba->(¬fQ H i\/¬fQ H j)->i<j->p.base+p.len<=q.base+q.len
structure bS(S:Nat->Prop)(Y:bc)(H:Heap)(w:aT):Prop where
 stat:Stat Y H w.heap.size
 obj:∀id p o,Y id=J p->S (rootOf H id)->jg H id->H.get id=J o->my Y w o p
def rF(o b:cq):Prop:=(∀l r fl e,o=.cells l r fl e->∃a f,b=.cells a r f e/\a.length=l.length)/\((∀l r fl e,o≠.cells l r fl e)->∀l r fl e,b≠.cells l r fl e)
theorem rF.refl(o:cq):rF o o:=⟨λl r fl e h=>⟨l,fl,h,rfl⟩,λh=>h⟩
def a44:=@rF.refl
theorem rF.trans{a b c:cq}(h:rF a b)(k:rF b c):rF a c:=by refine⟨λl r fl e d=>?_,λd=>k.2 (h.2 d)⟩;obtain⟨i,f,g,j⟩:=h.1 l r fl e d;obtain⟨l2,y,n,m⟩:=k.1 i r _ e g;grind
structure Fr(Y:bc)(H:Heap)(w:aT)(A:bc)(H':Heap)(w':aT):Prop where
 ext:Ext Y A
 size:w.heap.size<=w'.heap.size
 os:w'.os=w.os
 tape:w'.tape=w.tape
 output:w'.output=w.output
 next:H.next<=H'.next
 bA:H'.bA=H.bA
 bX:∀r,r∈H.bX->r∈H'.bX
 cL:∀r,r∈H.cL->r∈H'.cL
 root:∀id,id<H.next->rootOf H' id=rootOf H id
 view:∀id o,id<H.next->rootOf H id<H.bA->rootOf H id∉H'.bX->H.get id=J o->H'.get id=J o/\(jg H id->jg H' id)/\(jg H' id->jg H id)nF:∀b,b<w.heap.size->w'.heap[b]?=w.heap[b]?\/∃id p,Y id=J p/\p.ba=b/\¬fQ H id/\(H.bA<=rootOf H id\/rootOf H id∈H'.bX\/rootOf H id∈H'.cL)new:∀id p,A id=J p->Y id=Z->H.next<=id/\(w.heap.size<=p.ba\/∃j q,Y j=J q/\q.ba=p.ba/\¬fQ H j/\rootOf H j=rootOf H' id/\(H.bA<=rootOf H j\/rootOf H j∈H'.cL))ro:∀id,id<H.next->fQ H id->fQ H' id
 keep:∀id o,id<H.next->H.get id=J o->∃o',H'.get id=J o'/\rF o o'
 cover:∀id,H.next<=id->id<H'.next->∃p,A id=J p
 mJ:∀id p,A id=J p->Y id=Z->rootOf H' id<H.bA->rootOf H' id∈H'.cL/\∃j q,Y j=J q/\rootOf H j=rootOf H' id
 vm:∀r,r∈H'.bX->r∈H.bX\/(r<H.bA/\∃id p,Y id=J p/\rootOf H id=r)vC:∀r,r∈H'.cL->r∈H.cL\/(r<H.bA/\∃id p,Y id=J p/\rootOf H id=r)
theorem Fr.refl(b:bc)(H:Heap)(w:aT):Fr b H w b H w where
 ext:=a41 b
 size:=bT _
 os:=rfl
 tape:=rfl
 output:=rfl
 next:=bT _
 bA:=rfl
 bX:=λ_ h=>h
 cL:=λ_ h=>h
 root:=λ_ _=>rfl
 view:=λ_ _ _ _ _ h=>⟨h,λh=>h,λh=>h⟩
 nF:=λ_ _=>.inl rfl
 new:=λid p h a=>by rw[h]at a;simp at a
 ro:=λ_ _ h=>h
 keep:=λ_ o _ h=>⟨o,h,a44 o⟩
 cover:=λid h a=>ab
 mJ:=λid p h a=>by rw[h]at a;simp at a
 vm:=λ_ h=>.inl h
 vC:=λ_ h=>.inl h
theorem Fr.trans{χ:bc}{H1 Q:Heap}{w1 w2:aT}(h:Fr Y H w A H1 w1)(k:Fr A H1 w1 χ Q w2)(B:∀id p,Y id=J p->id<H.next)(R:∀id p,A id=J p->id<H1.next):Fr Y H w χ Q w2 where
 ext:=h.ext.trans k.ext
 size:=gj h.size k.size
 os:=k.os.trans h.os
 tape:=k.tape.trans h.tape
 output:=k.output.trans h.output
 next:=gj h.next k.next
 bA:=k.bA.trans h.bA
 bX:=λr hr=>k.bX r (h.bX r hr)
 cL:=λr hr=>k.cL r (h.cL r hr)
 root:=λid hid=>(k.root id (gE hid h.next)).trans (h.root id hid)
 view:=λid o hid X hw O=>by have hr:=h.root id hid;obtain⟨a1,a2,a3⟩:=h.view id o hid X (λE=>hw (k.bX _ E)) O;obtain⟨b1,b2,b3⟩:=k.view id o (gE hid h.next) (by rw[hr,h.bA];exact X) (by rw[hr];exact hw) a1;exact⟨b1,λx=>b2 (a2 x),λx=>a3 (b3 x)⟩
 nF:=λb S=>by
  rcases k.nF b (gE S h.size)with e|⟨id,p,y,G,M,m⟩
  . rcases h.nF b S with e'|⟨id,p,y,G,M,m⟩;.exact .inl (e.trans e')
    . refine .inr ⟨id,p,y,G,M,?_⟩;rcases m with m|m|m;.exact .inl m
      .exact .inr (.inl (k.bX _ m))
      .exact .inr (.inr (k.cL _ m))
  .cases f:Y id with|some q=>
      have:=h.ext id q f;rw[y]at this;obtain rfl:p=q:=by simpa using this
      have hid:=B id p f;rw[h.root id hid,h.bA]at m;exact .inr ⟨id,p,f,G,λE=>M (h.ro id hid E),m⟩|none=>
      obtain⟨_,W⟩:=h.new id p y f;rcases W with W|⟨j,q,v,t,z,I,i⟩;.omega
      . refine .inr ⟨j,q,v,by rw[t];exact G,z,?_⟩;rcases i with i|i;.exact .inl i
        .exact .inr (.inr (k.cL _ i))
 new:=λid p n f=>by cases g:A id with
  |some F=>
    have:=k.ext id F g;rw[n]at this;obtain rfl:p=F:=by simpa using this
    obtain⟨s,l⟩:=h.new id p g f;refine⟨s,?_⟩;rcases l with l|⟨j,q,v,t,z,I,i⟩;.exact .inl l
    . refine .inr ⟨j,q,v,t,z,by rw[k.root id (R id p g)];exact I,?_⟩;rcases i with i|i;.exact .inl i
      .exact .inr (k.cL _ i)|none=>
    obtain⟨s,l⟩:=k.new id p n g;refine⟨gj h.next s,?_⟩;rcases l with l|⟨j,q,v,t,z,I,i⟩;.exact .inl (gj h.size l)
    .cases D:Y j with|some u=>
        have:=h.ext j u D;rw[v]at this;obtain rfl:q=u:=by simpa using this
        have K:=B j q D;rw[h.root j K]at I;rw[h.root j K,h.bA]at i;exact .inr ⟨j,q,D,t,λE=>z (h.ro j K E),I,i⟩|none=>
        obtain⟨_,N⟩:=h.new j q v D;rcases N with N|⟨j0,q0,BI,P,U,T,L⟩;.exact .inl (by rw[<-t];exact N)
        . refine .inr ⟨j0,q0,BI,P.trans t,U,T.trans I,?_⟩;rcases L with L|L;.exact .inl L
          .exact .inr (k.cL _ L)
 ro:=λid hid hr=>k.ro id (gE hid h.next) (h.ro id hid hr)
 keep:=λid o hid O=>by obtain⟨o1,s,l1⟩:=h.keep id o hid O;obtain⟨o2,l,l2⟩:=k.keep id o1 (gE hid h.next) s;exact⟨o2,l,l1.trans l2⟩
 cover:=λid s l=>by
  by_cases bZ:id<H1.next;.obtain⟨p,y⟩:=h.cover id s bZ;exact⟨p,k.ext _ _ y⟩
  .exact k.cover id ab l
 mJ:=λid p n f hr=>by cases g:A id with|some F=>have e:=k.root id (R id F g);rw[e]at hr;obtain⟨a,j,q,b,c⟩:=h.mJ id F g f hr;rw[e];exact⟨k.cL _ a,j,q,b,c⟩|none=>obtain⟨a,j,q,b,c⟩:=k.mJ id p n g (by rw[h.bA];exact hr);refine⟨a,?_⟩;cases D:Y j with|some u=>exact⟨j,u,D,by rw[<-h.root j (B j u D)];exact c⟩|none=>obtain⟨_,j',u,b',c'⟩:=h.mJ j q b D (by rw[c];exact hr);exact⟨j',u,b',c'.trans c⟩
 vm:=λr hr=>by
  rcases k.vm r hr with x|⟨x,id,p,a,b⟩;.exact h.vm r x
  .rw[h.bA]at x;cases f:Y id with|some q=>exact .inr ⟨x,id,q,f,by rw[<-h.root id (B id q f)];exact b⟩|none=>obtain⟨_,j,q,c,d⟩:=h.mJ id p a f (by rw[b];exact x);exact .inr ⟨x,j,q,c,d.trans b⟩
 vC:=λr hr=>by
  rcases k.vC r hr with x|⟨x,id,p,a,b⟩;.exact h.vC r x
  .rw[h.bA]at x;cases f:Y id with|some q=>exact .inr ⟨x,id,q,f,by rw[<-h.root id (B id q f)];exact b⟩|none=>obtain⟨_,j,q,c,d⟩:=h.mJ id p a f (by rw[b];exact x);exact .inr ⟨x,j,q,c,d.trans b⟩
theorem nA.mono(h:Ext Y A){l:List eL}{m:List kS}(r:nA Y l m):nA A l m:=⟨r.1,λi e x a b=>let⟨p,q,s⟩:=r.2 i e x a b;⟨p.mono h,q.mono h,s⟩⟩
theorem Er.mono(h:Ext Y A){a:N'}{t:Target}(r:Er Y a t):Er A a t:=by
 rcases r with⟨f,l,c,d⟩|⟨l,p,e⟩|⟨b,s,t,cs⟩;.exact .fn f l c (d.mono h)
 .exact .yield l p (h _ _ e)
 exact .builtin b s t cs
theorem zh.mono(h:Ext Y A):∀{l:aE}{m:List Deferred},zh Y l m->zh A l m|[],[],_=>trivial|_::_,_::_,⟨⟨p,a,b⟩,r⟩=>⟨⟨p,h _ _ a,b⟩,r.mono h⟩|[],_::_,r|_::_,[],r=>r
theorem rL.mono(h:Ext Y A){n:Nat}{t:Tr AV}{c:Array aD}(r:rL Y n t c):rL A n t c:=⟨r.1,λi=>(r.2 i).mono h⟩
theorem Hp.mono(h:Ext Y A){a:AT}{r:Loop}(k:Hp Y a r):Hp A a r:=⟨k.state,k.pending,k.fn,k.tmps.mono h,k.params,k.assign,k.body,let⟨p,b,e⟩:=k.defers;⟨p,h _ _ b,e⟩⟩
theorem my.mono(h:Ext Y A){o:cq}(g:w'.heap[p.ba]?=w.heap[p.ba]?)(r:my Y w o p):my A w' o p:=by
 rcases o with⟨l,root,fl,e⟩|⟨es,k⟩|⟨m,s,seen,F⟩|a|c;.obtain⟨cs,fz,n,b,d,t,u,v,x,y⟩:=r;exact⟨cs,fz,n,g.trans b,d,t,λi a hi=>let⟨c,z,D⟩:=u i a hi;⟨c,z,D.mono h⟩,v,x,y⟩
 .obtain⟨f,j,b,d⟩:=r;exact⟨f,_,g.trans b,d.mono h⟩
 . obtain⟨f,E,b,d⟩:=r;refine⟨f,E,g.trans b,?_⟩;rcases m with _|r;.omega
   obtain⟨q,B,e⟩:=d;exact⟨q,h _ _ B,e⟩
 .obtain⟨f,R,b,d⟩:=r;exact⟨f,R,g.trans b,d.mono h⟩
 exact⟨r.1,g.trans r.2⟩
def fu(a:bc)(d:Nat)(p:Pl):bc:=λi=>if i=d then J p else a i
theorem jN(a:bc)(i:Nat)(p:Pl):fu a i p i=J p:=by simp[fu]
theorem lq(a:bc){d i:Nat}(p:Pl)(h:i≠d):fu a d p i=a i:=by grind[fu]
theorem aks{d:Nat}(p:Pl)(h:Y d=Z):Ext Y (fu Y d p):=λi q a=>by grind[lq]
def World.push(w:aT)(o:Obj):aT:={w with heap:=w.heap.push o}
def World.eW(w:aT)(b:Nat)(o:Obj):aT:={w with heap:=w.heap.setIfInBounds b o}
theorem DN(w:aT)(o:Obj):(World.push w o).heap.size=w.heap.size+1:=by simp[World.push]
theorem Gg(w:aT)(o:Obj){b:Nat}(h:b<w.heap.size):(World.push w o).heap[b]?=w.heap[b]?:=by grind[World.push]
theorem xf(w:aT)(o:Obj):(World.push w o).heap[w.heap.size]?=J o:=by show(w.heap.push o)[w.heap.size]?=J o;simp
theorem Cs(w:aT)(b:Nat)(o:Obj):(World.eW w b o).heap.size=w.heap.size:=by simp[World.eW]
theorem AJ(w:aT){b:Nat}(o:Obj)(h:b<w.heap.size):(World.eW w b o).heap[b]?=J o:=by grind[World.eW]
theorem Cr(w:aT){b c:Nat}(o:Obj)(h:c≠b):(World.eW w b o).heap[c]?=w.heap[c]?:=by grind[World.eW]
def more(S:Nat->Prop)(n:Nat):Nat->Prop:=λr=>S r\/n<=r
theorem bg.Wh(h:bg H){i:Nat}(n:H.next<=i):H.get i=Z:=by
 rcases e:H.get i with _|o;.rfl
 have:=h.get i o e;omega
theorem Stat.lt{n:Nat}(h:Stat Y H n)(a:bg H){i:Nat}(e:Y i=J p):i<H.next:=by
 obtain⟨_,s⟩:=h.cF i p e;rcases g:H.get i with _|o;.grind
 exact a.get i o g
theorem Stat.Wh{n:Nat}(h:Stat Y H n)(a:bg H){i:Nat}(b:H.next<=i):Y i=Z:=by
 rcases e:Y i with _|p;.rfl
 have:=h.lt a e;omega
theorem rq{H:Heap}(h:bg H){i:Nat}(d:i<H.next):rootOf H i<H.next:=by
 unfold rootOf;split;.rename_i l r fl e g;have:=(h.root i l r fl e g).1;omega
 omega
theorem mF(H:Heap)(o:cq):(H.alloc o).get H.next=J o:=a17 _ _ _
theorem nL(H:Heap)(o:cq){i:Nat}(h:i≠H.next):(H.alloc o).get i=H.get i:=a11 _ _ (Ne.symm h)
theorem aec(H:Heap)(o:cq)(r:Nat):(H.alloc o).br r=H.br r:=rfl
theorem Bv(h:bg H)(a:H.next<=r):H.br r=(0,r):=by
 unfold Heap.br;rcases e:H.dz.get r with _|f;.rfl
 have:=(h.dz r f e).1;omega
theorem bS.same(h:bS S Y H w)(e:w'.heap=w.heap):bS S Y H w':=⟨by rw[e];exact h.stat,λid p o a b c d=>(h.obj id p o a b c d).mono (a41 Y) ai⟩
theorem Fr.same(e:w'.heap=w.heap)(a:w'.os=w.os)(c:w'.tape=w.tape)(d:w'.output=w.output):Fr Y H w Y H w':={Fr.refl Y H w with
 size:=ai
 os:=a
 tape:=c
 output:=d
 nF:=λb _=>.inl ai
 new:=λid p h f=>by grind}
theorem wC(i:bg H)(o:cq)(c:∀l r fl e,o=.cells l r fl e->r=H.next):bg (H.alloc o)where
 get:=λid b h=>by
  show id<H.next+1;by_cases e:id=H.next;.omega
  .rw[nL H o e]at h;have:=i.get id b h;omega
 root:=λid l r fl e h=>by
  rw[aec];by_cases n:id=H.next;.subst n;rw[mF]at h;have:=c l r fl e (by simpa using h);subst this;rw[Bv i (bT _)];exact⟨bT _,bT _⟩
  .rw[nL H o n]at h;exact i.root id l r fl e h
 oK:=λid l r fl e h=>by
  by_cases n:id=H.next
  . subst n;rw[mF]at h;have:=c l r fl e (by simpa using h);subst this;have a:o=.cells l H.next fl e:=by simpa using h
    exact⟨l,fl,e,by rw[mF,a]⟩
  .rw[nL H o n]at h;have hr:=(i.root id l r fl e h).1;have hid:=i.get id _ h;rw[nL H o ab];exact i.oK id l r fl e h
 dz:=λr f h=>by have:=i.dz r f h;exact⟨Nat.lt_succ_of_lt this.1,Nat.lt_succ_of_lt this.2⟩
 bA:=Nat.le_succ_of_le i.bA
theorem Rz(o:cq){i:Nat}(h:i≠H.next):rootOf (H.alloc o) i=rootOf H i:=by grind[rootOf,nL]
theorem VF(o:cq){i:Nat}(h:i≠H.next):fQ (H.alloc o) i↔fQ H i:=by grind[fQ,nL]
theorem abi(o:cq){i:Nat}(h:i≠H.next):jg (H.alloc o) i↔jg H i:=by grind[jg,nL,aec]
theorem Kr(d:bg H)(s:bS S Y H w)(o:cq)(O:Obj)(p:Pl)(B:p.ba=w.heap.size)(x:∀l r fl e,o=.cells l r fl e->r=H.next/\l.length=p.len)(y:my Y (World.push w O) o p):bg (H.alloc o)/\bS (more S H.next) (fu Y H.next p) (H.alloc o) (World.push w O)/\Fr Y H w (fu Y H.next p) (H.alloc o) (World.push w O):=by
 have I:=s.stat.Wh d (bT _);have X:=aks p I;have N:=wC d o λl r fl e h=>(x l r fl e h).1;have P:rootOf (H.alloc o) H.next=H.next:=by grind[rootOf,mF]
 refine⟨N,⟨⟨?_,?_,?_,?_⟩,?_⟩,?_⟩
 . intro id q a;by_cases e:id=H.next;.grind[jN,DN,mF]
   .rw[lq Y p e]at a;obtain⟨u,m⟩:=s.stat.cF id q a;grind[DN,nL]
 . intro id q l r fl e a g;by_cases n:id=H.next;.grind[jN,mF]
   .rw[lq Y p n]at a;rw[nL H o n]at g;exact s.stat.len id q l r fl e a g
 . intro i j q r a hr k K;by_cases c:i=H.next
   . subst c;rw[jN]at a;obtain rfl:p=q:=ai;by_cases b:j=H.next;.grind
     .rw[lq Y p b]at hr;have:=(s.stat.cF j r hr).1;omega
   . rw[lq Y p c]at a;by_cases b:j=H.next;.subst b;rw[jN]at hr;obtain rfl:p=r:=ai;have:=(s.stat.cF i q a).1;omega
     .rw[lq Y p b]at hr;rw[Rz o c,Rz o b];exact s.stat.inj i j q r a hr k λh=>K ((VF o c).2 h)
 . intro i j q r a hr k K M;by_cases c:i=H.next;.subst c;rw[jN]at a;obtain rfl:p=q:=ai;rw[lq Y p ab]at hr;have:=(s.stat.cF j r hr).1;omega
   . rw[lq Y p c]at a;by_cases b:j=H.next;.subst b;rw[jN]at hr;obtain rfl:p=r:=ai;have:=(s.stat.cF i q a).1;omega
     .rw[lq Y p b]at hr;refine s.stat.mono i j q r a hr k ?_ M;grind[VF]
 . intro id q f a t v g;by_cases n:id=H.next;.subst n;rw[jN]at a;obtain rfl:p=q:=ai;rw[mF]at g;obtain rfl:o=f:=ai;exact y.mono X rfl
   . rw[lq Y p n]at a;rw[nL H o n]at g;have hid:=s.stat.lt d a;rw[Rz o n]at t;have U:S (rootOf H id):=by
      rcases t with h|h;.omega
      .have:=rq d hid;omega
     refine(s.obj id q f a U ((abi o n).1 v) g).mono X (Gg w O (s.stat.cF id q a).1)
 . refine{ext:=X,size:=by simp[DN],os:=rfl,tape:=rfl,output:=rfl,next:=Ki _,bA:=rfl,bX:=λ_ h=>h,cL:=λ_ h=>h,root:=?_,view:=?_,nF:=?_,new:=?_,ro:=?_,keep:=λid f hid g=>⟨f,by grind[nL],a44 f⟩,cover:=λid u m=>⟨p,by have A:id<H.next+1:=m;grind[jN]⟩,mJ:=?_,vm:=λ_ h=>.inl h,vC:=λ_ h=>.inl h};.grind[Rz]
   .grind[nL,abi]
   .grind[Gg]
   .grind[jN,lq]
   .grind[VF]
   . intro id q a z hr;by_cases n:id=H.next;.subst n;have:=d.bA;omega
     grind[lq]
def cq.eA:cq->Bool|.cells ..=>V|_=>C
theorem qC{i:Nat}{l r f e}(h:H.get i=J (.cells l r f e)):rootOf H i=r:=by grind[rootOf]
theorem yL{i:Nat}{o:cq}(h:H.get i=J o)(a:o.eA=C):rootOf H i=i:=by grind[rootOf,cq.eA]
theorem oq(H:Heap)(i r:Nat)(o:cq):(H.dM i r o).get i=J o:=by unfold Heap.dM;cases aw _ i<;>exact a17 _ _ _
theorem nM(H:Heap){d:Nat}(r:Nat)(o:cq){i:Nat}(h:i≠d):(H.dM d r o).get i=H.get i:=by unfold Heap.dM;cases aw _ d<;>exact a11 _ _ (Ne.symm h)
theorem w9(H:Heap)(i r:Nat)(o:cq):(H.dM i r o).next=H.next:=by unfold Heap.dM;cases aw _ i<;>rfl
theorem Cu(H:Heap)(i r:Nat)(o:cq):(H.dM i r o).bA=H.bA:=by unfold Heap.dM;cases aw _ i<;>rfl
theorem yj(H:Heap)(i r:Nat)(o:cq):(H.dM i r o).cL=H.cL:=by unfold Heap.dM;cases aw _ i<;>rfl
theorem xy(H:Heap)(i r:Nat)(o:cq):(H.dM i r o).bX=Heap.note H.bA r H.bX:=by unfold Heap.dM;cases aw _ i<;>rfl
theorem H9(H:Heap)(i t:Nat)(o:cq)(h:r≠t):(H.dM i t o).br r=H.br r:=by unfold Heap.dM Heap.br;cases aw _ i with|true=>rfl|false=>simp only[ch];rw[a11 _ _ (Ne.symm h)];rfl
theorem EL(H:Heap)(i:Nat)(o:cq):(H.dM i i o).br i=H.br i:=by unfold Heap.dM Heap.br;rw[Kw rfl];rfl
theorem Pg(H:Heap){i r:Nat}(o:cq)(h:r≠i):(H.dM i r o).br r=(i,i):=by grind[Heap.dM,Heap.br,Bm,Tr.lG]
theorem QP{b x:Nat}{l:aE}:x∈l->x∈Heap.note b r l:=by grind[Heap.note]
theorem vU{b x:Nat}{l:aE}(h:x∈Heap.note b r l):x∈l\/(x=r/\x<b):=by grind[Heap.note,eP]
theorem FX{b:Nat}(l:aE)(h:r<b):r∈Heap.note b r l:=by grind[Heap.note,eP]
theorem zz(k:bg H)(t:bS S Y H w){d:Nat}{a:cq}(o:cq)(O:Obj)(hp:Y d=J p)(P:H.get d=J a)(eK:¬fQ H d)(Dh:∀l r fl e,a=.cells l r fl e->(H.br r).1<=d/\(H.br r).2=d/\∃v b,o=.cells v r b e/\v.length=l.length)(afF:a.eA=C->o.eA=C)(ho:my Y (World.eW w p.ba O) o p):bg (H.dM d (rootOf H d) o)/\bS S Y (H.dM d (rootOf H d) o) (World.eW w p.ba O)/\Fr Y H w Y (H.dM d (rootOf H d) o) (World.eW w p.ba O):=by
 obtain⟨root,X⟩:∃root,root=rootOf H d:=⟨_,rfl⟩;rw[<-X];have hid:=k.get d a P;have vL:=(t.stat.cF d p hp).1;have M:∀i,rootOf (H.dM d root o) i=rootOf H i:=λi=>by
   by_cases e:i=d;.subst e;cases c:a.eA with|true=>cases a<;>simp[cq.eA]at c;grind[qC,oq]|false=>grind[yL,oq]
   grind[rootOf,nM]
 have B:∀i,fQ H i->fQ (H.dM d root o) i:=λi h=>by grind[fQ,nM]
 have aPT:∀i,i≠d->fQ (H.dM d root o) i->fQ H i:=λi e h=>by grind[fQ,nM]
 have D:∀i l r fl e,i≠d->H.get i=J (.cells l r fl e)->r=root->¬((H.dM d root o).br root).1<=i:=by
   intro i l r fl e I R hr hle;subst hr;have sX:=k.root i l r fl e R;by_cases U:r=d;.subst U;cases c:a.eA with|true=>cases a<;>simp[cq.eA]at c;grind[qC]|false=>obtain⟨v,b,N,hh⟩:=k.oK i l r fl e R;grind
   grind[Pg,rootOf]
 have SO:∀i,i≠d->jg (H.dM d root o) i->jg H i:=λi I F l r fl e R=>by
   have L:(H.dM d root o).get i=J (.cells l r fl e):=by grind[nM]
   have:=F l r fl e L;grind[H9]
 refine⟨⟨?_,?_,?_,?_,?_⟩,⟨⟨?_,?_,?_,?_⟩,?_⟩,?_⟩
 . intro i z h;rw[w9];by_cases e:i=d;.omega
   .rw[nM H root o e]at h;exact k.get i z h
 . intro i l r fl e h;have u:∃l0 m e0,H.get i=J (.cells l0 r m e0):=by
     by_cases n:i=d;.subst n;rw[oq]at h;have E:o=.cells l r fl e:=ai;cases c:a.eA with|true=>cases a<;>simp[cq.eA]at c;grind|false=>grind[cq.eA]
     grind[nM]
   obtain⟨l0,m,e0,W⟩:=u;obtain⟨T,h2⟩:=k.root i l0 r m e0 W;grind[EL,Pg,H9]
 . intro i l r fl e h;have back:∀j l r fl e,H.get j=J (.cells l r fl e)->∃v b N,(H.dM d root o).get j=J (.cells v r b N):=by grind[oq,nM]
   have u:∃l0 m e0,H.get i=J (.cells l0 r m e0):=by
     by_cases n:i=d;.subst n;rw[oq]at h;have E:o=.cells l r fl e:=ai;cases c:a.eA with|true=>cases a<;>simp[cq.eA]at c;grind|false=>grind[cq.eA]
     grind[nM]
   obtain⟨l0,m,e0,W⟩:=u;obtain⟨l1,mY,e1,T⟩:=k.oK i l0 r m e0 W;grind
 .intro r f h;rw[w9];unfold Heap.dM at h;cases s:aw root d with|true=>rw[s]at h;exact k.dz r f h|false=>
     rw[s]at h;simp only[ch]at h;by_cases hr:r=root;.subst hr;rw[a17]at h;have:f=(d,d):=ai;simp_all[rq]
     .rw[a11 _ _ (Ne.symm hr)]at h;exact k.dz r f h
 .rw[w9,Cu];exact k.bA
 .intro i q g;rw[Cs];obtain⟨T,h2⟩:=t.stat.cF i q g;grind[oq,nM]
 . intro i q l r fl e g R;by_cases n:i=d;.subst n;rw[oq]at R;have E:o=.cells l r fl e:=ai;cases c:a.eA with|true=>cases a<;>simp[cq.eA]at c;rename_i l0 r0 m e0;obtain⟨_,_,v,b,he,G⟩:=Dh l0 r0 _ e0 rfl;rw[he]at E;obtain⟨rfl,_,_,_⟩:=cq.cells.inj E;rw[G];exact t.stat.len i q l0 r0 _ e0 g P|false=>grind[cq.eA]
   .rw[nM H _ o n]at R;exact t.stat.len i q l r fl e g R
 .intro i j q r g hr s A;rw[M,M];exact t.stat.inj i j q r g hr s λh=>A (B i h)
 .intro i j q r g hr s A;exact t.stat.mono i j q r g hr s ai
 . intro i q z g hS F R;rw[M]at hS;by_cases n:i=d;.grind[oq]
   . have K:=R;rw[nM H _ o n]at K;have Q:q.ba≠p.ba:=by intro s;have hr:=t.stat.inj d i p q hp g s.symm eK;rw[<-X]at hr;cases wW:z.eA with|true=>cases z<;>simp[cq.eA]at wW;rename_i l r fl e;have sX:=qC K;exact D i l r fl e n K ab (by have:=F l r fl e R;grind)|false=>have sX:=yL K wW;rw[sX]at hr;cases c:a.eA with|true=>cases a<;>simp[cq.eA]at c;rename_i l0 r0 m e0;have:=qC P;rw[<-X,hr]at this;subst this;obtain⟨v,b,N,hh⟩:=k.oK d l0 i _ e0 P;grind[cq.eA]|false=>grind[yL]
     exact(t.obj i q z g hS aU K).mono (a41 Y) (Cr w O Q)
 . refine{ext:=a41 Y,size:=by simp[Cs],os:=rfl,tape:=rfl,output:=rfl,next:=by simp[w9],bA:=Cu ..,bX:=?_,cL:=?_,root:=λi _=>M i,view:=?_,nF:=?_,new:=?_,ro:=λi _ h=>B i h,keep:=?_,cover:=λi T h2=>by grind[w9],mJ:=λi q h E=>ai,vm:=?_,vC:=λr hr=>.inl (by grind[yj])};.grind[xy,QP]
   .simp[yj]
   .intro i z jD ht hw R;rw[xy]at hw;have I:rootOf H i≠root:=λe=>hw (by grind[FX]);have n:i≠d:=λe=>I ai;refine⟨by grind[nM],?_,aU⟩;intro F l r fl e L;rw[nM H _ o n]at L;have hr:r≠root:=λN=>I (by grind[qC]);rw[H9 H d _ o hr];exact F l r fl e L
   .grind[xy,FX,Cr]
   .grind
   . intro i z jD R;by_cases n:i=d
     . subst n;refine⟨o,oq H i _ o,?_⟩;refine⟨λl r fl e he=>?_,λI=>?_⟩;.grind
       . have c:a.eA=C:=by cases a<;>first|rfl|grind
         grind[cq.eA]
     grind[nM,rF.refl]
   .intro r hr;rw[xy]at hr;rcases vU hr with x|⟨x,y⟩;all_goals grind
theorem yi(H:Heap)(r f:Nat)(k:Bool)(c:aJ)(e:an):(H.gV r f k c e).get H.next=J (.cells c r .op e):=a17 _ _ _
theorem lF(H:Heap)(r f:Nat)(k:Bool)(c:aJ)(e:an){i:Nat}(h:i≠H.next):(H.gV r f k c e).get i=H.get i:=a11 _ _ (Ne.symm h)
theorem zT(H:Heap)(r f:Nat)(k:Bool)(c:aJ)(e:an):(H.gV r f k c e).br r=(bif k then H.next else f,H.next):=by simp[Heap.br,Heap.gV,a17]
theorem H8(H:Heap)(o f:Nat)(k:Bool)(c:aJ)(e:an)(h:r≠o):(H.gV o f k c e).br r=H.br r:=by grind[Heap.br,Heap.gV,Tr.jC]
theorem UC(E:bg H)(B:bS S Y H w){z:Nat}{t:Nat}(N:Y z=J p)(hg:H.get z=J (.cells l t fl e))(ou:fl≠.ro)(E5:(H.br t).2=z)(n:Nat)(BQ:n=(H.br t).1)(c:aJ)(d:Bool)(q:Pl)(hc:c.length=q.len)(h0:w.heap.size<=w'.heap.size)(vK:w'.os=w.os/\w'.tape=w.tape/\w'.output=w.output)(hold:∀b,b<w.heap.size->b≠p.ba->w'.heap[b]?=w.heap[b]?)(hw:(q.ba=p.ba/\p.base+p.len<=q.base+q.len)\/(w.heap.size<=q.ba/\q.ba<w'.heap.size))(afN:d=C->∀cs e1 fz,w.heap[p.ba]?=J (.cells cs e1 fz)->∃rQ,w'.heap[p.ba]?=J (.cells rQ e1 fz)/\rQ.size=cs.size/\∀k,k<p.base+p.len->rQ[k]?=cs[k]?)(nd:my Y w' (.cells c t .op e) q):bg (H.gV t n d c e)/\bS (more S H.next) (fu Y H.next q) (H.gV t n d c e) w'/\Fr Y H w (fu Y H.next q) (H.gV t n d c e) w':=by
 have hid:=E.get z _ hg;have vL:=(B.stat.cF z p N).1;have cI:Y H.next=Z:=B.stat.Wh E (bT _);have kX:=aks q cI;have Q:rootOf H z=t:=qC hg;have axH:t<H.next:=by have:=(E.root z l t fl e hg).1;omega
 have W:¬fQ H z:=by rintro⟨F,G,A,h⟩;rw[hg]at h;simp at h;exact ou h.2.2.1
 have fP:=h0;have Vl:q.ba<w'.heap.size:=by
   rcases hw with⟨D,_⟩|⟨_,D⟩;.rw[D];omega
   .exact D
 have JA:∀i,i≠H.next->rootOf (H.gV t n d c e) i=rootOf H i:=λi h=>by unfold rootOf;rw[lF H t n d c e h]
 have ZX:rootOf (H.gV t n d c e) H.next=t:=qC (yi ..);have DT:∀i,i≠H.next->(fQ (H.gV t n d c e) i↔fQ H i):=λi h=>by unfold fQ;rw[lF H t n d c e h]
 have lt:∀{i r},Y i=J r->i≠H.next:=λh A=>by have:=B.stat.lt E h;omega
 have SO:∀i,i<H.next->jg (H.gV t n d c e) i->jg H i/\(rootOf H i=t->H.get i≠Z->(∃l r fl e,H.get i=J (.cells l r fl e))->d=C):=by
   intro i jD O;have hn:i≠H.next:=ab;constructor
   . intro F G m A R;have:=O F G m A (by rw[lF H t n d c e hn];exact R);by_cases hr:G=t;.subst hr;rw[zT]at this;cases d with|true=>simp at this;omega|false=>simp at this;rw[<-BQ];exact this
     .rw[H8 H t n d c e hr]at this;exact this
   . intro hr _⟨F,G,m,A,R⟩;have:=O F G m A (by rw[lF H t n d c e hn];exact R);have LU:G=t:=by rw[<-hr,qC R]
     subst LU;rw[zT]at this;cases d with|true=>simp at this;omega|false=>rfl
 refine⟨⟨?_,?_,?_,?_,?_⟩,⟨⟨?_,?_,?_,?_⟩,?_⟩,?_⟩
 . intro i o h;show i<H.next+1;by_cases u:i=H.next;.omega
   .rw[lF H t n d c e u]at h;have:=E.get i o h;omega
 . intro i F G m A h;by_cases u:i=H.next;.subst u;rw[yi]at h;obtain⟨_,rfl,_,_⟩:=cq.cells.inj (by simpa using h);rw[zT];exact⟨ab,bT _⟩
   . rw[lF H t n d c e u]at h;obtain⟨D,U⟩:=E.root i F G m A h;refine⟨D,?_⟩;by_cases hr:G=t;.subst hr;rw[zT];have:=E.get i _ h;show i<=H.next;omega
     .rw[H8 H t n d c e hr];exact U
 . intro i F G m A h;by_cases u:i=H.next;.subst u;rw[yi]at h;obtain⟨_,rfl,_,_⟩:=cq.cells.inj (by simpa using h);rw[lF H t n d c e ab];exact E.oK z l t fl e hg
   .rw[lF H t n d c e u]at h;have D:=(E.root i F G m A h).1;have U:=E.get i _ h;rw[lF H t n d c e ab];exact E.oK i F G m A h
 . intro r f h;show r<H.next+1/\f.2<H.next+1;by_cases hr:r=t
   . subst hr;have h':(H.gV r n d c e).dz.get r=J (bif d then H.next else n,H.next):=a17 _ _ _;rw[h']at h;have:f=(bif d then H.next else n,H.next):=by simpa using h.symm
     subst this;exact⟨ab,by show H.next<H.next+1;omega⟩
   .have h':(H.gV t n d c e).dz.get r=H.dz.get r:=a11 _ _ (Ne.symm hr);rw[h']at h;have:=E.dz r f h;omega
 .exact Nat.le_succ_of_le E.bA
 . intro i r hr;by_cases u:i=H.next
   . subst u;rw[jN]at hr;obtain rfl:q=r:=by simpa using hr
     exact⟨Vl,by rw[yi];rfl⟩
   .rw[lq Y q u]at hr;obtain⟨D,U⟩:=B.stat.cF i r hr;exact⟨ab,by rw[lF H t n d c e u];exact U⟩
 . intro i r F G m A hr R;by_cases u:i=H.next
   . subst u;rw[jN]at hr;obtain rfl:q=r:=by simpa using hr
     rw[yi]at R;obtain⟨rfl,_,_,_⟩:=cq.cells.inj (by simpa using R);exact hc
   .rw[lq Y q u]at hr;rw[lF H t n d c e u]at R;exact B.stat.len i r F G m A hr R
 . intro i j r s hr I M eK;by_cases T:i=H.next
   . subst T;rw[jN]at hr;obtain rfl:q=r:=by simpa using hr
     by_cases L:j=H.next;.subst L;rfl
     . rw[lq Y q L]at I;rw[ZX,JA j L];rcases hw with⟨D,_⟩|⟨D,_⟩;.rw[<-Q];exact B.stat.inj z j p s N I (by rw[<-D,M]) W
       .have:=(B.stat.cF j s I).1;omega
   . rw[lq Y q T]at hr;have IL:¬fQ H i:=λh=>eK ((DT i T).2 h);by_cases L:j=H.next
     . subst L;rw[jN]at I;obtain rfl:q=s:=by simpa using I
       rw[ZX,JA i T];rcases hw with⟨D,_⟩|⟨D,_⟩;.rw[<-Q];exact B.stat.inj i z r p hr N (by rw[M,D]) IL
       .have:=(B.stat.cF i r hr).1;omega
     .rw[lq Y q L]at I;rw[JA i T,JA j L];exact B.stat.inj i j r s hr I M IL
 . intro i j r s hr I M eK kM;have T:i≠H.next:=by
     intro A;subst A;by_cases L:j=H.next;.omega
     .rw[lq Y q L]at I;have:=B.stat.lt E I;omega
   rw[lq Y q T]at hr;by_cases L:j=H.next
   . subst L;rw[jN]at I;obtain rfl:q=s:=by simpa using I
     rcases hw with⟨D,U⟩|⟨D,_⟩
     . by_cases LF:i=z
       . subst LF;rw[N]at hr;obtain rfl:p=r:=by simpa using hr
         exact U
       . have uL:r.ba=p.ba:=by rw[M,D]
         have X:=(B.stat.inj z i p r N hr uL.symm W).symm;have bZ:i<z:=by cases R:H.get i with|none=>have:=(B.stat.cF i r hr).2;rw[R]at this;simp at this|some o=>cases P:o.eA with
            |true=>
            cases o<;>simp[cq.eA]at P;rename_i l1 r1 mY e1;have h3:=(E.root i l1 r1 mY e1 R).2;have h4:r1=t:=by rw[<-qC R,X,Q]
            rw[h4,E5]at h3;omega|false=>
            have h4:=yL R P;rw[h4,Q]at X;obtain⟨F,m,A,hh⟩:=E.oK z l t fl e hg;rw[<-X,R]at hh;have:o=.cells F i m A:=by simpa using hh
            rw[this]at P;simp[cq.eA]at P
         have:=B.stat.mono i z r p hr N uL (.inr W) bZ;omega
     .have:=(B.stat.cF i r hr).1;omega
   .rw[lq Y q L]at I;exact B.stat.mono i j r s hr I M (eK.imp (λg h=>g ((DT i T).2 h)) λg h=>g ((DT j L).2 h)) kM
 . intro i r o hr hS O R;by_cases u:i=H.next
   . subst u;rw[jN]at hr;obtain rfl:q=r:=by simpa using hr
     rw[yi]at R;obtain rfl:cq.cells c t .op e=o:=by simpa using R
     exact nd.mono kX rfl
   . rw[lq Y q u]at hr;have K:=R;rw[lF H t n d c e u]at K;have jD:=B.stat.lt E hr;rw[JA i u]at hS;have UM:S (rootOf H i):=by
       rcases hS with h|h;.exact h
       .have:=rq E jD;omega
     obtain⟨wM,hk⟩:=SO i jD O;have PZ:=B.obj i r o hr UM wM K;by_cases M:r.ba=p.ba;.have X:=B.stat.inj z i p r N hr M.symm W;rw[Q]at X;cases P:o.eA with
       |true=>
         cases o<;>simp[cq.eA]at P;rename_i l1 r1 mY e1;have aw0:=hk X.symm (by rw[K];simp) ⟨_,_,_,_,K⟩;have hle:r.base+r.len<=p.base+p.len:=by
          by_cases LF:i=z
          . subst LF;rw[N]at hr;obtain rfl:p=r:=by simpa using hr
            exact bT _
          . have h7:=(E.root i l1 r1 mY e1 K).2;have h8:r1=t:=by rw[<-qC K,<-X]
            rw[h8,E5]at h7;exact B.stat.mono i z r p hr N M (.inr W) ab
         obtain⟨ds,gz,ge,g1,g2,g3,g4,g5,g6,g7⟩:=PZ;rw[M]at g1;obtain⟨rQ,k1,k2,k3⟩:=afN aw0 _ _ _ g1;refine my.mono kX (w:=w') rfl ⟨rQ,gz,ge,by rw[M];exact k1,by rw[k2];exact g2,g3,?_,g5,g6,g7⟩;intro k a vG;obtain⟨v,hv,Fo⟩:=g4 k a vG;have Ac:k<r.len:=by have:=(am.1 vG).1;have:=B.stat.len i r l1 r1 mY e1 hr K;omega
         exact⟨v,by rw[k3 _ ab];exact hv,Fo⟩|false=>
         have h7:=yL K P;rw[h7]at X;obtain⟨F,m,A,hh⟩:=E.oK z l t fl e hg;rw[X,K]at hh;have:o=.cells F i m A:=by simpa using hh
         rw[this]at P;simp[cq.eA]at P
     .exact PZ.mono kX (hold _ (B.stat.cF i r hr).1 M)
 . refine{ext:=kX,size:=fP,os:=vK.1,tape:=vK.2.1,output:=vK.2.2,next:=Ki _,bA:=rfl,bX:=?_,cL:=λr h=>QP h,root:=?_,view:=?_,nF:=?_,new:=?_,ro:=?_,keep:=λi o' jD R=>⟨o',by rw[lF H t n d c e ab];exact R,a44 o'⟩,cover:=λi D U=>⟨q,by have h3:i<H.next+1:=U;have:i=H.next:=ab;rw[this];exact jN _ _ _⟩,mJ:=?_,vm:=?_,vC:=?_};.intro r h;show r∈(bif d then Heap.note H.bA t H.bX else H.bX);cases d with|true=>exact QP h|false=>exact h
   .intro i jD;exact JA i ab
   . intro i o jD ht L8 R;have hn:i≠H.next:=ab;refine⟨by rw[lF H t n d c e hn];exact R,?_,λO=>(SO i jD O).1⟩;intro O F G m A K;rw[lF H t n d c e hn]at K;by_cases hr:G=t;.subst hr;rw[zT];cases d with|true=>exfalso;apply L8;rw[qC K];exact FX _ (by grind[qC])|false=>simp only[ch];rw[BQ];exact O F G m A K
     .rw[H8 H t n d c e hr];exact O F G m A K
   . intro b M;by_cases A:b=p.ba
     . refine .inr ⟨z,p,N,A.symm,W,?_⟩;rw[Q];by_cases ht:t<H.bA;.exact .inr (.inr (FX _ ht))
       omega
     simp_all
   . intro i r hr hφ;by_cases u:i=H.next
     . subst u;rw[jN]at hr;obtain rfl:q=r:=aU;refine⟨bT _,?_⟩;rcases hw with⟨D,_⟩|⟨D,_⟩
       . refine .inr ⟨z,p,N,D.symm,W,ab,?_⟩;rw[Q];by_cases ht:t<H.bA;.exact .inr (FX _ ht)
         omega
       omega
     grind[lq]
   .grind
   . intro i r hr hφ bZ;by_cases u:i=H.next;.subst u;rw[ZX]at bZ|-;exact⟨FX _ bZ,z,p,N,Q⟩
     grind[lq]
   .intro r hr;have LU:r∈(bif d then Heap.note H.bA t H.bX else H.bX):=hr;cases d with|true=>rcases vU LU with x|⟨x,y⟩;all_goals grind|false=>exact .inl LU
   . intro r hr;rcases vU hr with x|⟨x,y⟩;.exact .inl x
     .exact .inr ⟨y,z,p,N,by rw[x];exact Q⟩
theorem wB(b o n:Nat):(⟨b,o,Z⟩:Addr).add n=⟨b,o+n,Z⟩:=by simp[Addr.add]
theorem Tf{b:Nat}(h:w.heap[b]?=J (.cells cs e fz))(o:Nat):w.cell? ⟨b,o,Z⟩=cs[o]?:=by grind[World.cell?]
theorem IA{b:Nat}(h:w.heap[b]?=J (.cells cs e (0,0)))(o:Nat):w.frozen? ⟨b,o,Z⟩=C:=by grind[World.frozen?]
theorem Z9{b:Nat}(h:w.heap[b]?=J (.cells cs e fz)):w.shape? b=J (e,cs.size):=by grind[World.shape?]
theorem aJl{b:Nat}(h:w.heap[b]?=J (.cells cs e fz))(o:Nat):∀(n i:Nat)(a:Array aD),o+i+n<=cs.size->(loadCellsFrom ⟨b,o,Z⟩ i n a).run P w=.ok (a++cs.extract (o+i) (o+i+n)) w:=by intro n;induction n with|zero=>simp_all[loadCellsFrom]|succ n d=>
 intro i a l;have f:o+i<cs.size:=ab;have c:w.cell? ⟨b,o+i,Z⟩=J cs[o+i]:=by rw[Tf h,mS _]
 simp only[loadCellsFrom,wB,Sem.run_bind,run_load,c,bi];rw[d _ _ ab];congr 1;apply Array.ext';simp only[Array.toList_append,Array.toList_push,Array.toList_extract,uu];have e3:o+i+(n+1)-(o+i)=n+1:=ab;have e4:o+i+(n+1)-(o+i+1)=n:=ab;grind[Ei]
theorem JF{b:Nat}(h:w.heap[b]?=J (.cells cs e fz)){n:Nat}(a:I+n<=cs.size):(loadCells ⟨b,I,Z⟩ n).run P w=.ok (cs.extract I (I+n)) w:=by unfold loadCells;rw[aJl h _ n 0 _ ab];simp
def over(c:Array aD)(o:Nat)(v:List aD):Array aD:=(c.toList.take o++v++c.toList.drop (o+v.length)).toArray
theorem Ay(c:Array aD)(o:Nat)(v:List aD)(h:o+v.length<=c.size):(over c o v).size=c.size:=by grind[over]
theorem u6(c:Array aD)(o:Nat)(v:List aD)(h:o+v.length<=c.size)(i:Nat):(over c o v)[i]?=if o<=i/\i<o+v.length then v[i-o]? else c[i]?:=by grind[over]
theorem aJq{b:Nat}(h:w.heap[b]?=J (.cells cs e (0,0))){o:Nat}(a:o<cs.size)(d:wi v=V):(store ⟨b,o,Z⟩ v).run P w=.ok () (w.setCell ⟨b,o,Z⟩ v):=by
 have c:w.cell? ⟨b,o,Z⟩=J cs[o]:=by rw[Tf h,mS a]
 have f:=IA h o;unfold store;cases v<;>simp[wi]at d<;>simp[Sem.run,c,f]
theorem aJ6{b:Nat}(h:w.heap[b]?=J (.cells cs e fz))(o:Nat)(v:aD):w.setCell ⟨b,o,Z⟩ v=World.eW w b (.cells (cs.setIfInBounds o v) e fz):=by unfold World.setCell World.eW;congr 1;grind
theorem Z6(w:aT)(b:Nat)(o a:Obj):World.eW (World.eW w b o) b a=World.eW w b a:=by simp[World.eW]
theorem aJ5{b:Nat}{o:Obj}(h:w.heap[b]?=J o):World.eW w b o=w:=by
 unfold World.eW;have:w.heap.setIfInBounds b o=w.heap:=by grind
 simp_all
theorem aJr:∀(vs:List aD)(w:aT)(b:Nat)(cs:Array aD)(e:an)(I i:Nat),w.heap[b]?=J (.cells cs e (0,0))->I+i+vs.length<=cs.size->(∀v,v∈vs->wi v=V)->(storeCells ⟨b,I,Z⟩ vs i).run P w=.ok () (World.eW w b (.cells (over cs (I+i) vs) e (0,0))):=by intro vs;induction vs with|nil=>simp_all[over,aJ5,storeCells]|cons v vs c=>intro w b cs e I i h l s;have a:=(ap.1 h).1;have o:I+i<cs.size:=ai;simp only[storeCells,wB,Sem.run_bind];rw[aJq h o aU];simp only[bi];rw[aJ6 h];rw[c _ b _ e _ _ (AJ w _ a) ai aU];rw[Z6];congr 3;apply Ob;grind[u6]
theorem Nq{b:Nat}(h:w.heap[b]?=J (.cells cs e (0,0))){vs:List aD}(n:I+vs.length<=cs.size)(s:∀v,v∈vs->wi v=V):(storeCells ⟨b,I,Z⟩ vs).run P w=.ok () (World.eW w b (.cells (over cs I vs) e (0,0))):=aJr vs w b cs e I 0 h ab s
def dG{d:TypeDesc}(h:P.underlying t=J d)(w:aT):(underlying t).run P w=.ok d w:=run_underlying h w
theorem Cp{i:TypeInfo}(h:P.info? t=J i)(w:aT):(typeInfo t).run P w=.ok i w:=by simp[typeInfo,h]
theorem mi{t n:Nat}(h:aW P t=J n)(w:aT):(sizeOf t).run P w=.ok n w:=by cases hi:P.info? t<;>simp_all[aW,sizeOf,Cp]
theorem RD{b:Bool}(h:bN P t=J b)(w:aT):(Go.isAgg t).run P w=.ok b w:=by
 unfold bN at h;rcases u:P.underlying t with _|d;.grind
 cases d<;>simp[u]at h<;>subst h<;>simp[Go.isAgg,dG u]
theorem Gv{z:AV}(h:zd P t=J z)(w:aT):∃v,(zeroValue t).run P w=.ok v w/\VR Y z v:=by
 unfold zd at h;rcases hi:P.info? t with _|i;.grind
 cases a:i.zero<;>simp_all[zeroValue,Cp,Ws]
def ik(S:Nat->Prop)(d:bc)(H:Heap)(w:aT)(c:bc)(a:Heap)(b:aT):Prop:=bg a/\bS (more S H.next) c a b/\Fr d H w c a b
section
variable{P:aH}{S:Nat->Prop}{Y:bc}{H:Heap}{w:aT}
theorem bS.more(i:bg H)(s:bS S Y H w):bS (AM.more S H.next) Y H w:=⟨s.stat,λid p o a b c d=>s.obj id p o a (by
 rcases b with h|h;.omega
 .have:=rq i (s.stat.lt i a);omega) c d⟩
theorem ik.refl(h:bg H)(s:bS S Y H w):ik S Y H w Y H w:=⟨h,s.more h,Fr.refl Y H w⟩
def a23:=@ik.refl
def bS.up{T:Nat->Prop}(s:bS S Y H w)(h:∀r,T r->S r):bS T Y H w:=⟨s.stat,λid p o a b=>s.obj id p o a (h _ b)⟩
theorem KD{i:Nat}(h:H.cellsOf i=J l):∃r fl e,H.get i=J (.cells l r fl e)/\(H.br r).1<=i:=by grind[Heap.cellsOf,dp]
theorem alN{i:Nat}{l r f e}(g:H.get i=J (.cells l r f e))(h:(H.br r).1<=i):jg H i:=by intro c d a b I;grind
def CT(s:bS S Y H w){i:Nat}(b:Y i=J p)(c:S (rootOf H i))(h:H.get i=J (.cells l r fl e))(a:(H.br r).1<=i):my Y w (.cells l r fl e) p/\l.length=p.len:=⟨s.obj i p _ b c (alN h a) h,s.stat.len i p l r fl e b h⟩
theorem my.slice(h:my Y w (.cells l r fl e) p)(g:l.length=p.len){n:Nat}(i:I+n<=l.length):∃cs fz e1,w.heap[p.ba]?=J (.cells cs e1 fz)/\p.base+I+n<=cs.size/\aZ Y ((l.drop I).take n) (cs.extract (p.base+I) (p.base+I+n)).toList/\(∀x,x∈(l.drop I).take n->x.aV=V):=by obtain⟨cs,fz,e1,a,c,d,f,b,_,_⟩:=h;refine⟨cs,fz,e1,a,ab,⟨ai,?_⟩,λx j=>b x ai⟩;grind
theorem Hq(t:bS S Y H w){i n:Nat}(s:Y i=J p)(j:S (rootOf H i))(h:H.load i I n=J l):∃cs:Array aD,(loadCells ⟨p.ba,p.base+I,Z⟩ n).run P w=.ok cs w/\aZ Y l cs.toList/\(∀x,x∈l->x.aV=V):=by
 unfold Heap.load at h;rcases c:H.cellsOf i with _|m;.grind
 simp only[c,cU,dp,dZ,qg,qQ]at h;by_cases a:I+n<=m.length;.obtain rfl:(m.drop I).take n=l:=ai;obtain⟨r,fl,e,k,v⟩:=KD c;obtain⟨q,o⟩:=CT t s j k v;obtain⟨cs,fz,e1,b,d,f,g⟩:=q.slice o a;exact⟨_,JF b d,f,g⟩
 grind
theorem HA(s:bS S Y H w){i:Nat}(o:Y i=J p)(g:S (rootOf H i))(h:AM.loadVar P H t i I=J a):∃v,(Go.loadVar t ⟨p.ba,p.base+I,Z⟩).run P w=.ok v w/\VR Y a v:=by
 unfold AM.loadVar at h;rcases d:bN P t with _|b;.grind
 cases b with|true=>
 simp only[d]at h;rcases z:aW P t with _|n;.grind
 simp only[z,cU,iK]at h;obtain⟨l,k,rfl⟩:=h;obtain⟨cs,hr,f,A⟩:=Hq (P:=P) s o g k;exact⟨_,by simp_all[Go.loadVar,RD,mi],f.agg A cs rfl⟩|false=>
 simp only[d]at h;rcases j:H.cellsOf i with _|m;.grind
 simp only[j,cU,xa]at h;obtain⟨r,fl,e,x,f⟩:=KD j;obtain⟨y,k⟩:=CT s o g x f;obtain⟨cs,fz,e1,q,D,E,u,F,_,_⟩:=y;obtain⟨c,B,hr⟩:=u _ a h;exact⟨c,by simp[Go.loadVar,RD d,Tf q,B],hr⟩
theorem NJ(u:bg H)(s:bS S Y H w){d:Nat}{f:List aD}(c:Y d=J p)(q:S (rootOf H d))(h:H.store d I vs=J H')(v:aZ Y vs f)(M:∀x,x∈vs->x.aV=V):∃w',(storeCells ⟨p.ba,p.base+I,Z⟩ f).run P w=.ok () w'/\bg H'/\bS S Y H' w'/\Fr Y H w Y H' w':=by
 unfold Heap.store at h;split at h
 . rename_i l r fl e g;simp only[dp,bQ,dZ]at h;by_cases t:((H.br r).1<=d/\(H.br r).2=d/\I+vs.length<=l.length)/\fl≠.ro
   . obtain⟨⟨k,E,m⟩,A⟩:=t;have o:H.dM d r (.cells (fZ l I vs) r fl e)=H':=by grind
     obtain⟨y,G⟩:=CT s c q g k;have n:=v.1;obtain⟨cs,fz,e1,g1,g2,g3,g4,g5,g6,g7⟩:=y;obtain⟨rfl,rfl⟩:=g6 A;have K:¬fQ H d:=by rintro⟨Q,R,B,F⟩;grind
     have U:∀x,x∈f->wi x=V:=by intro x j;obtain⟨i,O⟩:=a8.1 j;have N:i<vs.length:=ai;exact(v.2 i _ _ (dC N) O).aV aU
     have z:=qC g;refine⟨_,Nq g1 ab U,?_⟩;rw[<-o,<-z];refine zz u s _ _ c g K ?_ (λh=>by grind[cq.eA]) ?_;.grind[yT]
     . have L:=(s.stat.cF d p c).1;refine⟨_,_,_,AJ w _ L,?_,g3,?_,?_,λ_=>⟨rfl,rfl⟩,g7⟩;.grind[Ay]
       . intro i a b;rw[yS l _ vs m]at b;rw[u6 _ _ _ ab];by_cases D:I<=i/\i<I+vs.length;.rw[if_pos D]at b;obtain⟨x,j,hr⟩:=v.get b;grind
         grind
       grind[D1]
   grind[fS.wr]
 grind
theorem aLT(g:bg H)(s:bS S Y H w){i:Nat}(j:Y i=J p)(f:S (rootOf H i))(h:AM.storeVar P H t i I a=J H')(k:VR Y a v):∃w',(Go.storeVar t ⟨p.ba,p.base+I,Z⟩ v).run P w=.ok () w'/\bg H'/\bS S Y H' w'/\Fr Y H w Y H' w':=by
 unfold AM.storeVar at h;rcases z:aW P t with _|n;.grind
 rcases c:a.cells with _|vs;.grind
 simp only[z,c,cU,bQ,dZ]at h;by_cases d:vs.length=n
 . simp only[d,dX,aR]at h;obtain⟨b,e⟩:=k.cells c;obtain⟨w',m,A⟩:=NJ (P:=P) g s j f h b e;have l:v.cells.size=n:=by rw[<-d,b.1];rfl
   simp_all[Go.storeVar,mi]
 grind
theorem QX(d:bg H)(s:bS S Y H w)(l:aJ)(f:fS)(e:an)(c:Array aD)(h:aZ Y l c.toList)(u:∀x,x∈l->x.aV=V):∃p:Pl,p.ba=w.heap.size/\p.base=0/\p.oO=c.size/\p.len=l.length/\(newRow e c).run P w=.ok ⟨p.ba,0,Z⟩ (World.push w (.cells c e))/\ik S Y H w (fu Y H.next p) (H.cT l f e) (World.push w (.cells c e)):=by
 have g:=by simpa using h.1
 refine⟨⟨_,0,_,_⟩,rfl,rfl,rfl,rfl,?_,?_⟩;.rfl
 . refine Kr d s _ _ _ rfl ?_ ?_;.grind
   .refine⟨c,_,_,xf w _,rfl,ai,?_,u,λ_=>⟨rfl,rfl⟩,λ_=>⟨rfl,g.symm⟩⟩;intro i a b;obtain⟨v,j,k⟩:=h.get b;grind
theorem TF(u o e t:Nat):u<=(Question.appendCap u o e).cut t:=by simp[Question.cut]
def Ad(u o e:Nat):(Question.appendCap u o e).forced=C:=rfl
theorem A6(u o:Nat)(h:o<u):Builtin.nextslicecap u o<=2*u+192:=by grind[Builtin.nextslicecap,Builtin.growBy]
theorem ajz{y t:an}{d:TypeDesc}{s:Nat}{b j n:Nat}{e:Array aD}(h:ats[0]?=J t)(u:P.underlying t=J (.slice elem))(f:aW P elem=J s)(g:ats[1]?=J xt)(i:P.underlying xt=J d)(Q:∀k,d≠.int k)(l:(Builtin.lenOf xv).run P w=.ok n w)(o:(oQ s n xv).run P w=.ok e w)(m:b+n<=j)(c:(match base with|some a=>storeCells (a.add (b*s)) e.toList|none=>pure ()).run P w=.ok () w'):(tz ats y #[.slice base b j,xv]).run P w=.ok (.slice base (b+n) j) w':=by
 rcases base with _|a;.simp at c;subst c;simp[tz,h,g,dG u,mi f,dG i,l,o,m]
 simp[tz,h,g,dG u,mi f,dG i,l,o,m,c]
theorem ajm{u b:Nat}(k:cap<=2*u+192)(h:u*b<=bm)(a:1<=u):¬(cap*b>2^48):=by have L:u*b<=1099511627776:=h;have c:cap*b<=(194*u)*b:=lW _ ab;grind
theorem run_append_grow{ty s:an}{d:TypeDesc}{i:TypeInfo}{eV je n:Nat}{old e:Array aD}(a:ats[0]?=J s)(u:P.underlying s=J (.slice elem))(j:P.info? elem=J i)(z:i.zero=J zv)(b:ats[1]?=J xt)(g:P.underlying xt=J d)(Q:∀k,d≠.int k)(l:(Builtin.lenOf xv).run P w=.ok n w)(p:(oQ i.size n xv).run P w.drew=.ok e w.drew)(m:¬eV+n<=je)(o:(oQ i.size eV (.slice base eV je)).run P w.drew=.ok old w.drew)(Y:(eV+n)*i.bytes<=bm)(h:eV+n<=bm):∃c,eV+n<=c/\(tz ats ty #[.slice base eV je,xv]).run P w=.ok (.slice (J ⟨w.heap.size,0,Z⟩) (eV+n) c) (World.push w.drew (.cells (old++e++nX zv.cells (c-(eV+n))) elem)):=by
 refine⟨_,TF (eV+n) je elem (w.tape w.drawn (.appendCap (eV+n) je elem)),?_⟩;have f:aW P elem=J i.size:=by grind[aW]
 have T:¬((9223372036854775807:Int)<((eV:Int)+(n:Int))):=by have:eV+n<=1099511627776:=h;omega
 have t:¬(2^48<Builtin.nextslicecap (eV+n) je*i.bytes):=ajm (A6 _ _ ab) Y ab;simp[tz,a,b,dG u,mi f,dG g,l,m,Cp j,T,t,p,o,zeroValue,z,newRow,newObj,Sem.run,World.push,Ad];rfl
theorem aJi{t s:an}{k:fT}{i:TypeInfo}{e j n:Nat}(d:ats[0]?=J s)(u:P.underlying s=J (.slice elem))(m:P.info? elem=J i)(z:i.zero=J zv)(g:ats[1]?=J xt)(l:P.underlying xt=J (.int k))(r:n*i.bytes<=bm)(X:n<=bm)(p:e+n<=j)(L:i.size≠0)(c:(match base with|some a=>storeCells (a.add (e*i.size)) (nX zv.cells n).toList|none=>pure ()).run P w=.ok () w'):(tz ats t #[.slice base e j,.int .i64 (.ofNat n)]).run P w=.ok (.slice base (e+n) j) w':=by
 have f:aW P elem=J i.size:=by grind[aW]
 have q:IntKind.i64.wrap (du n)=du n:=by rw[<-Cw];have:n<=1099511627776:=X;show(bif cw n 9223372036854775808 then du n else _)=_;grind[eP]
 have o:IntKind.i64.wrap (n:Int)=(n:Int):=q;have W:¬((n:Int)<0):=ab;have b:¬((281474976710656:Int)<(n:Int)*(i.bytes:Int)):=by have v:n*i.bytes<=1099511627776:=r;omega
 have D:(zeroValue elem).run P w=.ok zv w:=by simp_all[zeroValue,Cp]
 have F:n*i.size=0->n=0:=λh=>(Nat.mul_eq_zero.1 h).resolve_right L;rcases base with _|a;.simp at c;subst c;simp[tz,d,g,dG u,mi f,dG l,asInt,asIntOf,o,W,Cp m,b,p,D]
 simp[tz,d,g,dG u,mi f,dG l,asInt,asIntOf,o,W,Cp m,b,p,D];by_cases T:n*i.size=0<;>simp_all[nX]
theorem sy{ty t:an}{k:fT}{i:TypeInfo}{eV je n:Nat}{old:Array aD}(b:ats[0]?=J t)(u:P.underlying t=J (.slice elem))(j:P.info? elem=J i)(p:i.zero=J zv)(d:ats[1]?=J xt)(g:P.underlying xt=J (.int k))(r:¬eV+n<=je)(L:i.size≠0)(o:(oQ i.size eV (.slice base eV je)).run P w.drew=.ok old w.drew)(s:(eV+n)*i.bytes<=bm)(l:eV+n<=bm):∃c,eV+n<=c/\(tz ats ty #[.slice base eV je,.int .i64 (.ofNat n)]).run P w=.ok (.slice (J ⟨w.heap.size,0,Z⟩) (eV+n) c) (World.push w.drew (.cells (old++nX zv.cells n++nX zv.cells (c-(eV+n))) elem)):=by
 refine⟨_,TF _ je elem (w.tape w.drawn (.appendCap (eV+n) je elem)),?_⟩;have f:aW P elem=J i.size:=by grind[aW]
 have E:eV+n<=1099511627776:=l;have m:IntKind.i64.wrap (du n)=du n:=by rw[<-Cw];show(bif cw n _ then du n else _)=_;grind[eP]
 have q:IntKind.i64.wrap (n:Int)=(n:Int):=m;have W:=ab;have a:¬((281474976710656:Int)<(n:Int)*(i.bytes:Int)):=by have v:(eV+n)*i.bytes<=1099511627776:=s;grind
 have T:¬((9223372036854775807:Int)<((eV:Int)+(n:Int))):=ab;have Q:¬(2^48<Builtin.nextslicecap _ je*i.bytes):=ajm (A6 _ _ ab) s ab;have z:¬(n*i.size=0)\/n=0:=by grind[Nat.mul_eq_zero]
 simp[tz,b,d,dG u,mi f,dG g,asInt,asIntOf,q,Cp j,a,r,T,Q,o,zeroValue,p,newRow,newObj,Sem.run,World.push,Ad];rcases z with h|h;.rw[if_neg h];rfl
 . subst h;have e:nX zv.cells 0=#[]:=by simp[nX]
   rw[e,Array.empty_append];simp;rfl
def ik.drew(h:ik S Y H w.drew A H' w'):ik S Y H w A H' w':=⟨h.1,h.2.1,⟨h.2.2.ext,h.2.2.size,h.2.2.os,h.2.2.tape,h.2.2.output,h.2.2.next,h.2.2.bA,h.2.2.bX,h.2.2.cL,h.2.2.root,h.2.2.view,h.2.2.nF,h.2.2.new,h.2.2.ro,h.2.2.keep,h.2.2.cover,h.2.2.mJ,h.2.2.vm,h.2.2.vC⟩⟩
def bS.drew(h:bS S Y H w):bS S Y H w.drew:=h.same rfl
theorem ln{z:aJ}(c:aZ Y z zv.cells.toList)(n:Nat):aZ Y (jW n z) (nX zv.cells n).toList:=by
 have l:z.length=zv.cells.size:=by simpa using c.1
 refine⟨by grind[Gp,nX],λi a v b h=>?_⟩;have hi:i<n*z.length:=by grind[Gp]
 rw[ZV n z i hi]at b;have N:i<n*zv.cells.size:=ai;have o:0<zv.cells.size:=by grind
 simp only[nX,Array.toList_map,jZ,Array.toList_range]at h;rw[Kf N]at h;simp only[gM,xL]at h;have m:i%zv.cells.size<zv.cells.size:=Nat.mod_lt _ o;rw[getElem!_pos zv.cells _ m]at h;refine c.2 (i%z.length) a v b ?_;grind
theorem eg(z:Array aD)(n:Nat):(nX z n).size=n*z.size:=by simp[nX]
theorem Rv{z:aJ}(h:∀x,x∈z->x.aV=V)(n:Nat):∀x,x∈jW n z->x.aV=V:=by induction n<;>grind[Ru,ZW]
theorem aJj{b g l e:Nat}{w:aT}(h:(loadCells ⟨b,g,Z⟩ (l*e)).run P w=.ok cs w):(oQ e l (.slice (J ⟨b,g,Z⟩) l cap)).run P w=.ok cs w:=by grind[oQ]
theorem abz{i:TypeInfo}(L:bg H)(B:bS S Y H w)(hS:∀r,S r){aa:Sem aD}{s:AV}{sv:aD}{g:aJ}{d:Nat}{y:Array aD}{r:AV}(Ma:zv.cells.size=i.size)(h:nE H elem i.size i.bytes s g d=J (r,H'))(jq:VR Y s sv)(hx:aZ Y g y.toList)(iu:∀x,x∈g->x.aV=V)(u:g.length=d*i.size)(mc:∀base t N w',sv=.slice base t N->t+d<=N->(match base with|some a=>storeCells (a.add (t*i.size)) y.toList|none=>pure ()).run P w=.ok () w'->d*i.bytes<=bm->d<=bm->aa.run P w=.ok (.slice base (t+d) N) w')(PK:∀base t N f,sv=.slice base t N->¬t+d<=N->(oQ i.size t (.slice base t N)).run P w.drew=.ok f w.drew->(t+d)*i.bytes<=bm->t+d<=bm->∃c,t+d<=c/\aa.run P w=.ok (.slice (J ⟨w.heap.size,0,Z⟩) (t+d) c) (World.push w.drew (.cells (f++y++nX zv.cells (c-(t+d))) elem))):∃A v' w',aa.run P w=.ok v' w'/\VR A r v'/\ik S Y H w A H' w':=by
 obtain⟨z,awt⟩:∃z,z=i.size:=⟨_,rfl⟩;rw[<-awt]at h u mc PK Ma;have Qi:y.size=d*z:=by rw[<-u];simpa using hx.1.symm
 unfold nE at h;simp only[bQ,dp,dZ,qg,qQ,lz]at h;by_cases he0:z=0;.grind
 have aws:0<z:=Nat.pos_of_ne_zero he0;simp only[he0,lC,ch]at h;have fresh:∀(f:Array aD)(F:aJ)(m c:Nat),aZ Y F f.toList->(∀x,x∈F->x.aV=V)->f.size=m*z->m+d<=c->∃q:Pl,q.ba=w.heap.size/\q.base=0/\q.len=(F++g).length/\(∀A,A H.next=J q->VR A (.sl H.next 0 (m+d) Z z) (.slice (J ⟨w.heap.size,0,Z⟩) (m+d) c))/\(∀root,my Y (World.push w.drew (.cells (f++y++nX zv.cells (c-(m+d))) elem)) (.cells (F++g) root .op elem) q):=by
  intro f F m c M vK X E;have Vs:(f++y++nX zv.cells (c-(m+d))).size=c*z:=by simp only[Array.size_append,eg,X,Qi,Ma];rw[<-xK,<-xK];grind
  have aPq:(F++g).length=(m+d)*z:=by rw[gR,u,show F.length=f.size from by simpa using M.1,X,<-xK]
  have hle:(m+d)*z<=c*z:=lW _ E;refine⟨⟨w.heap.size,0,c*z,(F++g).length⟩,rfl,rfl,rfl,?_,?_⟩;.intro A hψ;refine .sl H.next 0 (m+d) Z z _ _ c hψ E aP (λk hk=>ai) (λ_=>?_) (λ_=>rfl) aws ?_;all_goals grind
  . intro root;refine⟨_,(0,0),_,xf w.drew _,Vs,?_,?_,?_,λ_=>⟨rfl,rfl⟩,λh=>ai⟩;.grind
    .intro k a ha;have kx:=M.append hx;obtain⟨v,hv,hr⟩:=kx.get ha;grind
    grind
 cases jq with
 |bH=>
  simp only at h;by_cases jT:d=0;.subst jT;simp at h;obtain⟨rfl,rfl⟩:=h;refine⟨Y,.slice Z 0 0,w,?_,.bH,a23 L B⟩;simp_all
  . simp only[jT,lC,ch]at h;by_cases oB:d*i.bytes<=bm/\d<=bm;.have:(decide (d.mul i.bytes<=bm)&&decide (d<=bm))=V:=ai;rw[this]at h;simp at h;obtain⟨rfl,rfl⟩:=h;obtain⟨c,E,O⟩:=PK Z 0 0 #[] rfl ab (by rfl) ai ab;obtain⟨q,R,h2,h3,h4,T⟩:=fresh #[] [] 0 c (a04 Y) aP aP E;simp only[jO]at h3 T;have wN:=Kr L B.drew (.cells g H.next .op elem) _ q R (λl r fl e hh=>by grind) (T H.next);refine⟨fu Y H.next q,_,_,O,?_,ik.drew wN⟩;grind[jN]
    grind|sl id I len cap e p K j D hl ht E M hr Dl pW=>
  simp only at h;by_cases EW:(e=z/\(len+d)*i.bytes<=bm)/\len+d<=bm
  . obtain⟨⟨rfl,sY⟩,Vo⟩:=EW;have:(decide (e=e)&&(decide ((len.add d).mul i.bytes<=bm)&&decide (len.add d<=bm)))=V:=by grind
    rw[this]at h;simp only[aR]at h;have m9:d*i.bytes<=bm:=gj (lW _ ab) sY;by_cases jT:d=0
    . subst jT;simp at h;obtain⟨rfl,rfl⟩:=h;have Fp:y=#[]:=by grind
      subst Fp;refine⟨Y,.slice (J K) (len+0) j,w,?_,?_,a23 L B⟩;.exact mc _ len j w rfl ab (by rfl) m9 ab
      .exact .sl id I len cap e p K j D hl ht E M hr Dl pW
    .simp only[jT,lC,ch]at h;cases hg:H.get id with|none=>grind|some o=>cases o with|map _ _|mapIter _ _ _ _|loop _|deferred _=>grind|cells l root fl e0=>
      simp only[hg]at h;by_cases BQ:(H.br root).1<=id
      . simp only[BQ,dX,aR]at h;obtain⟨ic,uO⟩:=CT B D (hS _) hg BQ;have tT:j≠0->K=⟨p.ba,p.base+I,Z⟩:=hr;obtain⟨cs,fz,e1,kV,jb,US,UT⟩:=ic.slice uO (I:=I) (n:=len*e) ab;have ym:cs.size=p.oO:=by obtain⟨rQ,Ux,_,g1,g2,_⟩:=ic;grind
        have hold:∃f:Array aD,(oQ e len (.slice (J K) len j)).run P w.drew=.ok f w.drew/\aZ Y ((l.drop I).take (len*e)) f.toList/\f.size=len*e:=by
         by_cases vE:j=0;.have wT:len=0:=ab;subst wT;simp[oQ,loadCells,loadCellsFrom,a04]
         .rw[tT vE];refine⟨cs.extract (p.base+I) (p.base+I+len*e),?_,US,ai⟩;exact aJj (JF (w:=w.drew) kV jb)
        obtain⟨f,U,II,Vh⟩:=hold;have Qc:∀{G:Heap},H.store id (I+len*e) g=J G->len+d<=j->∃w',aa.run P w=.ok (.slice (J K) (len+d) j) w'/\ik S Y H w Y G w':=by intro G Q W;have IL:=tT ab;obtain⟨w',ld,k1,k2,k3⟩:=NJ (P:=P) L B D (hS _) Q hx iu;refine⟨w',mc _ len j w' rfl W ?_ m9 ab,k1,k2.up λr _=>hS r,k3⟩;grind[wB]
        cases cap with|some c=>
         obtain⟨rfl,kA⟩:=E c rfl;simp only at h;by_cases W:len+d<=j;.have:decide (len.add d<=j)=V:=mE W;rw[this]at h;simp only[aR,iK]at h;obtain⟨G,Q,heq⟩:=h;obtain⟨rfl,rfl⟩:AV.sl id I (len.add d) (J j) e=r/\G=H':=ai;obtain⟨w',ld,Vj⟩:=Qc Q W;refine⟨Y,_,w',ld,?_,Vj⟩;refine .sl id I (len+d) (J j) e p K j D W ht E M hr Dl ?_;have:(len+d)*e<=j*e:=lW _ W;omega
         .have:decide (len.add d<=j)=C:=Bq W;rw[this]at h;simp only[ch,xL,Oj]at h;obtain⟨rfl,rfl⟩:=h;obtain⟨c',yl,O⟩:=PK _ len j f rfl W U sY Vo;obtain⟨q,R,h2,h3,h4,T⟩:=fresh f _ len c' II UT Vh yl;have wN:=Kr L B.drew (.cells ((l.drop I).take (len*e)++g) H.next .op elem) _ q R (λl r fl e hh=>by grind) (T H.next);exact⟨fu Y H.next q,_,_,O,h4 _ (jN ..),ik.drew wN⟩|none=>
         have wW:=M rfl;simp only at h;by_cases jD:I+len*e+d*e<=l.length
         . have:decide (((I.add (len.mul e))).add (d.mul e)<=l.length)=V:=mE jD;rw[this]at h;simp only[aR,iK]at h;obtain⟨G,Q,heq⟩:=h;obtain⟨rfl,rfl⟩:AV.sl id I (len.add d) Z e=r/\G=H':=ai;have W:len+d<=j:=by have:(len+d)*e<=j*e:=ai;grind[Nat.le_of_mul_le_mul_right]
           obtain⟨w',ld,Vj⟩:=Qc Q W;refine⟨Y,_,w',ld,?_,Vj⟩;refine .sl id I (len+d) Z e p K j D W ht E M hr Dl ?_;grind
         . have:decide (((I.add (len.mul e))).add (d.mul e)<=l.length)=C:=Bq jD;rw[this]at h;simp only[ch]at h;by_cases hw3:(fl≠.ro/\(H.br root).2=id)/\e0=elem
           . obtain⟨⟨ou,E5⟩,rfl⟩:=hw3;have:(fl.wr&&(decide ((H.br root).snd=id)&&decide (e0=e0)))=V:=by grind
             rw[this]at h;simp only[aR,xL,Oj]at h;obtain⟨rfl,rfl⟩:=h;have kA:((l.drop I).take (len*e)++g).length=(len+d)*e:=by rw[gR,u,show((l.drop I).take (len*e)).length=f.size from by simpa using II.1,Vh,<-xK]
             by_cases W:len+d<=j;.
              have IL:=tT ab;obtain⟨rQ,Ux,e',g1,g2,g3,g4,g5,g6,g7⟩:=ic;rw[kV]at g1;obtain⟨rfl,rfl,rfl⟩:=Obj.cells.inj (bE g1);obtain⟨rfl,rfl⟩:=g6 ou;have kg:p.base+I+(len+d)*e<=cs.size:=by have:(len+d)*e<=j*e:=lW _ W;omega
              have IU:∀x,x∈y.toList->wi x=V:=by intro x gO;obtain⟨k,hk⟩:=a8.1 gO;have kN:k<g.length:=ai;exact(hx.2 k _ _ (dC kN) hk).aV (iu _ (Hj kN))
              have aPE:y.toList.length=d*e:=ab;have hmul:(len+d)*e=len*e+d*e:=xK _ _ _;have Q:=Nq (P:=P) kV (I:=p.base+I+len*e) (vs:=y.toList) ab IU;have O:=mc _ len j _ rfl W (by simp only;rw[IL,wB];omega) m9 ab;have qu:=UC (w':=World.eW w p.ba (.cells (over cs (p.base+I+len*e) y.toList) e1 (0,0))) L B D hg ou E5 (H.br root).1 rfl ((l.drop I).take (len*e)++g) (decide (I+len*e<l.length)) ⟨p.ba,p.base+I,p.oO,((l.drop I).take (len*e)++g).length⟩ rfl (by simp[Cs]) ⟨rfl,rfl,rfl⟩ (λb _ h=>Cr w _ h) (.inl ⟨rfl,?_⟩) (λhk cs1 e1 Pu h=>?_) ?_
              . rw[eP]at*;refine⟨fu Y H.next ⟨p.ba,p.base+I,p.oO,((l.drop I).take (len*e)++g).length⟩,_,_,O,?_,qu⟩;rw[IL];refine .sl H.next 0 (len+d) Z e ⟨p.ba,p.base+I,p.oO,((l.drop I).take (len*e)++g).length⟩ ⟨p.ba,p.base+I,Z⟩ j (jN ..) W ?_ (λk hk=>ai) (λ_=>?_) (λ_=>rfl) Dl ?_;.omega
                .show((l.drop I).take (len*e)++g).length<=0+j*e;rw[kA];have:(len+d)*e<=j*e:=lW _ W;omega
                grind
              .grind
              .rw[kV]at h;obtain⟨rfl,rfl,rfl⟩:=Obj.cells.inj (bE h);refine⟨_,AJ w _ (B.stat.cF id p D).1,Ay _ _ _ ab,λk Ac=>?_⟩;have rU:¬(I+len*e<l.length):=ai;rw[u6 _ _ _ ab,if_neg ab]
              . refine⟨over cs (p.base+I+len*e) y.toList,(0,0),_,AJ w _ (B.stat.cF id p D).1,?_,?_,?_,?_,λ_=>⟨rfl,rfl⟩,λh=>ai⟩;.grind[Ay]
                .grind
                . intro k a ha;have Ac:k<(len+d)*e:=ai;have LQ:((l.drop I).take (len*e)).length=len*e:=ai;show∃c,(over cs (p.base+I+len*e) y.toList)[p.base+I+k]?=J c/\_;rw[u6 _ _ _ ab];by_cases yr:k<len*e;.rw[nZ ab,CG yr,xI]at ha;grind
                  .rw[ql ab,LQ]at ha;obtain⟨v,hv,Fo⟩:=hx.get ha;refine⟨v,?_,Fo⟩;rw[if_pos ab,show p.base+I+k-(p.base+I+len*e)=k-len*e from ab];omega
                grind
             .obtain⟨c',yl,O⟩:=PK _ len j f rfl W U sY Vo;obtain⟨q,R,h2,h3,h4,T⟩:=fresh f _ len c' II UT Vh yl;have qu:=UC (w':=World.push w.drew (.cells (f++y++nX zv.cells (c'-(len+d))) e0)) L B.drew D hg ou E5 (H.br root).1 rfl ((l.drop I).take (len*e)++g) (decide (I+len*e<l.length)) q h3.symm (by simp[DN]) ⟨rfl,rfl,rfl⟩ (λb hb _=>Gg _ _ hb) (.inr ⟨by rw[R];simp,by rw[R,DN];simp⟩) (λ_ cs1 e1 Pu h=>⟨cs1,(Gg _ _ (B.stat.cF id p D).1).trans h,rfl,λ_ _=>rfl⟩) (T root);rw[eP];exact⟨fu Y H.next q,_,_,O,h4 _ (jN ..),ik.drew qu⟩
           grind[fS.wr]
      grind
  grind|_=>simp at h
end
def iZ(P:aH)(a:bc):Prop:=∀g,g<P.globals.size->∃p,a g=J p/\p.ba=g/\p.base=0
theorem iZ.mono(h:Ext Y A)(g:iZ P Y):iZ P A:=λi hi=>let⟨p,a,b⟩:=g i hi;⟨p,h _ _ a,b⟩
structure Reads(ρ:aK->aD):Prop where
 const:∀v,ρ (.const v)=v
 aq:∀g,ρ (.global g)=.pointer (J ⟨g,0,Z⟩)func:∀f,ρ (.func f)=.func (.func f) #[] #[]
def fp(b:bc)(m:Tr AV)(a:aK->aD)(x:aK):Prop:=∀t,x=.tmp t->VR b ((m.get t).getD fD) (a x)
section
variable{P:aH}{S:Nat->Prop}{Y:bc}{H:Heap}{w:aT}{tm:Tr AV}{ρ:aK->aD}
theorem fK(d:iZ P Y)(r:Reads ρ){x:aK}(o:fp Y tm ρ x)(h:bJ P tm x=J a):VR Y a (ρ x)/\a≠.top:=by
 rcases x with t|v|g|f;.have j:=o t rfl;grind[bJ]
 .simp only[bJ]at h;rw[r.const];grind[Ws,aFd]
 . simp only[bJ,eP]at h;by_cases b:g<P.globals.size;.obtain⟨p,c,e,i⟩:=d g b;rw[r.aq];have:=VR.ptr g 0 p c;grind
   grind
 simp[bJ]at h;subst h;rw[r.func];exact⟨.func f [] [] _ _ rfl rfl aP aP,aP⟩
theorem MP(g:iZ P Y)(r:Reads ρ):∀{l:List aK}{S:aJ},(∀x,x∈l->fp Y tm ρ x)->cB (bJ P tm) l=J S->aZ Y S (l.map ρ):=by intro l;induction l with|nil=>simp[FH,a04]|cons x l i=>
 intro S o h;rw[QN]at h;rcases b:bJ P tm x with _|a;.grind
 rcases c:cB (bJ P tm) l with _|t;.grind
 simp[b,c]at h;subst h;exact a05 (fK g r ai b).1 ai
theorem F8{s:aJ}{c:Array aD}(h:kC P t s I=J a)(d:aZ Y s c.toList)(u:∀x,x∈s->x.aV=V):∃v,(∀w:aT,(part t c I).run P w=.ok v w)/\VR Y a v:=by
 unfold kC at h;rcases f:bN P t with _|b;.grind
 cases b with
 |true=>
 rcases z:aW P t with _|n;.grind
 simp only[z,cU,dp,dZ,qg,qQ]at h;by_cases l:I+n<=s.length
 . have e:AV.agg ((s.drop I).take n)=a:=by grind
   subst e;refine⟨.agg (c.extract I (I+n)),λw=>by simp_all[part,RD,mi],?_⟩;have:=(d.drop I).take n;refine this.agg ai _ ?_;simp_all
 grind|false=>simp only[f,xa]at h;obtain⟨v,g,i⟩:=d.get h;simp_all[part,RD]
theorem Ta{a b:ByteArray}{l m:aE}(h:a.data.toList.map ko=l)(c:b.data.toList.map ko=m):(a.toList==b.toList)=xZ l m:=by
 rw[ya,ByteArray.toList_eq,ByteArray.toList_eq];rw[Bool.eq_iff_iff];constructor;.grind
 . have i:∀(x y:List _),x.map ko=y.map ko->x=y:=by intro x;induction x with|nil=>simp_all|cons a x e=>intro y d;cases y<;>grind[UInt8.toNat_inj]
   grind
theorem aqU{e:Nat}(H:∀{t:an}{x y:AV}{b:Bool}{u v:aD},lD P e t x y=J b->VR Y x u->VR Y y v->∀d,e<=d->∀w:aT,(Op.equalIn d t u v).run P w=.ok b w){j k:aJ}{l m:Array aD}(F:aZ Y j l.toList)(G:aZ Y k m.toList)(I:∀x,x∈j->x.aV=V)(D:∀x,x∈k->x.aV=V)(d:Nat)(E:e<=d)(w:aT):∀(s:List Field)(c r:Bool),lE (λc(f:Field)=>bif c then(bif f.name== "_"then J V else(kC P f.type j f.offset).bind λa=>(kC P f.type k f.offset).bind λb=>lD P e f.type a b)else J C) s c=J r->(c=C->r=C)/\(c=V->(Op.eqFields d l m s).run P w=.ok r w):=by intro s;induction s with|nil=>simp[EN,Op.eqFields]|cons f s i=>
 intro c r h;rw[EM]at h;rcases c with _|_;.grind
 by_cases z:f.name= "_";.grind[Op.eqFields]
 . have L:(f.name== "_")=C:=ai;simp only[L,ch]at h;rcases n:kC P f.type j f.offset with _|a;.grind
   rcases o:kC P f.type k f.offset with _|b;.grind
   simp only[n,o,cU]at h;rcases p:lD P e f.type a b with _|q;.grind
   simp only[p]at h;obtain⟨u,B,A⟩:=F8 n F I;obtain⟨v,S,K⟩:=F8 o G D;have g:=H p A K d E w;cases q with|true=>have:=(i V r h).2 rfl;simp[Op.eqFields,z,B,S,g,this]|false=>have:=(i C r h).1 rfl;subst this;simp[Op.eqFields,z,B,S,g]
theorem aq0{l:Nat}(L:∀{t:an}{x y:AV}{b:Bool}{u v:aD},lD P l t x y=J b->VR Y x u->VR Y y v->∀d,l<=d->∀w:aT,(Op.equalIn d t u v).run P w=.ok b w){k m:aJ}{n o:Array aD}(H:aZ Y k n.toList)(K:aZ Y m o.toList)(I:∀x,x∈k->x.aV=V)(E:∀x,x∈m->x.aV=V)(d:Nat)(G:l<=d)(w:aT)(e:an)(z:Nat):∀(s:aE)(c r:Bool),lE (λc i=>bif c then(kC P e k (fA i z)).bind λa=>(kC P e m (fA i z)).bind λb=>lD P l e a b else J C) s c=J r->(c=C->r=C)/\(c=V->(Op.eqItems d e z n o s).run P w=.ok r w):=by intro s;induction s with|nil=>simp[EN,Op.eqItems]|cons f N j=>
 intro c r h;rw[EM]at h;rcases c with _|_;.grind
 simp only[aR]at h;rcases p:kC P e k (fA f z)with _|a;.grind
 rcases A:kC P e m (fA f z)with _|b;.grind
 simp only[p,A,cU]at h;rcases D:lD P l e a b with _|q;.grind
 simp only[D]at h;obtain⟨u,B,F⟩:=F8 p H I;obtain⟨v,S,M⟩:=F8 A K E;have g:=L D F M d G w;refine⟨λh=>(by cases h),λ_=>?_⟩;have B:(part e n (f*z)).run P w=.ok u w:=B w;have S:(part e o (f*z)).run P w=.ok v w:=S w;cases q with|true=>have:=(j V r h).2 rfl;simp[Op.eqItems,B,S,g,this]|false=>have:=(j C r h).1 rfl;subst this;simp[Op.eqItems,B,S,g]
set_option maxHeartbeats 1600000 in theorem TT:∀(f:Nat){t:an}{x y:AV}{b:Bool}{u v:aD},lD P f t x y=J b->VR Y x u->VR Y y v->∀d,f<=d->∀w:aT,(Op.equalIn d t u v).run P w=.ok b w:=by intro f;induction f with|zero=>simp[lD]|succ f s=>
 intro t x y b u v h a c d hd w;obtain⟨d,rfl⟩:∃p,d=p+1:=⟨d-1,ab⟩;have W:f<=d:=ab;have U:lD P (f+1) t x y=EF P (lD P f) t x y:=rfl;rw[U]at h;unfold EF at h;split at h;.rename_i T;cases a;cases c;simp at h;subst h;simp[Op.equalIn,dG T]
 .rename_i T;cases a;cases c;split at h<;>simp at h;rename_i r;subst r;subst h;rw[zQ];simp[Op.equalIn,dG T];rfl
 .rename_i T;cases a with|str _ E e1=>cases c with|str _ F e2=>simp at h;subst h;rw[<-Ta e1 e2,<-beq_toListBytes];simp[Op.equalIn,dG T]
 .rename_i l A B T;obtain⟨j,rfl,m,I⟩:=a.tF;obtain⟨k,rfl,o,D⟩:=c.tF;grind[Program.fieldsOf,run_equalIn_struct,aqU]
 . rename_i n e A B T;obtain⟨j,rfl,m,I⟩:=a.tF;obtain⟨k,rfl,o,D⟩:=c.tF;rcases g:aW P e with _|z;.simp[g]at h
   rw[g,cU]at h;obtain⟨i,hi,rfl⟩:=iK.1 g;have q:P.cellsOf e=i.size:=by simp[Program.cellsOf,hi]
   rw[run_equalIn_array w d j k T hi,q];exact(aq0 s m o I D d W w e i.size _ _ _ h).2 rfl
 iterate 6·rename_i T;cases a;cases c;simp at h;subst h;simp[Op.equalIn,dG T]
 grind
theorem ayU{o:BinOp}{k:fT}{a b:Int}{r:AV}(h:IY P o k a b=J r)(t:an):∃v,(∀w:aT,(binOp o t (.int k a) (.int k b)).run P w=.ok v w)/\VR Y r v:=by
 unfold IY at h;split at h;.simp at h;subst h;exact⟨_,λw=>by simp[binOp,Op.intArith];rfl,by rw[Cw];exact .int k _⟩
 .simp at h;subst h;exact⟨_,λw=>by simp[binOp,Op.intArith];rfl,by rw[Cw];exact .int k _⟩
 .simp at h;subst h;exact⟨_,λw=>by simp[binOp,Op.intArith];rfl,by rw[Cw];exact .int k _⟩
 . rw[zQ]at h;by_cases c:b=0;.simp[c]at h
   .simp[c]at h;subst h;exact⟨_,λw=>by simp[binOp,Op.intDiv,c];rfl,by rw[Cw];exact .int k _⟩
 . rw[zQ]at h;by_cases c:b=0;.simp[c]at h
   .simp[c]at h;subst h;exact⟨_,λw=>by simp[binOp,Op.intDiv,c],.int k _⟩
 .obtain⟨n,d⟩:∃n,∀w,(Op.intBits .and k a b).run P w=.ok (.int k n) w:=⟨_,λw=>by rfl⟩;rw[d _]at h;simp at h;subst h;exact⟨_,λw=>by grind[binOp],.int k n⟩
 .obtain⟨n,d⟩:∃n,∀w,(Op.intBits .xor k a b).run P w=.ok (.int k n) w:=⟨_,λw=>by rfl⟩;rw[d _]at h;simp at h;subst h;exact⟨_,λw=>by grind[binOp],.int k n⟩
 .simp at h;subst h;refine⟨.bool (a==b),λw=>by simp[binOp,Op.intCmp],?_⟩;rw[zQ];exact .bool _
 .simp at h;subst h;refine⟨.bool (a !=b),λw=>by simp[binOp,Op.intCmp],?_⟩;rw[zQ];exact .bool _
 .simp at h;subst h;refine⟨.bool (a<b),λw=>by simp[binOp,Op.intCmp],?_⟩;rw[Jb];exact .bool _
 .simp at h;subst h;refine⟨.bool (a<=b),λw=>by simp[binOp,Op.intCmp],?_⟩;rw[Jb,<-decide_not,decide_eq_decide.2 (Int.not_lt)];exact .bool _
 .simp at h;subst h;refine⟨.bool (b<a),λw=>by simp[binOp,Op.intCmp],?_⟩;rw[Jb];exact .bool _
 .simp at h;subst h;refine⟨.bool (b<=a),λw=>by simp[binOp,Op.intCmp],?_⟩;rw[Jb,<-decide_not,decide_eq_decide.2 (Int.not_lt)];exact .bool _
 grind
theorem NA{s:ByteArray}{l:aE}(h:s.data.toList.map ko=l):s.size=l.length:=by subst h;simp_all
theorem aBY:∀a b:List UInt8,Op.bytesLess a b=BZ (a.map ko) (b.map ko):=by intro a;induction a with|nil=>intro b;cases b<;>rfl|cons x a i=>
 intro b;rcases b with _|⟨y,b⟩;.rfl
 show(decide (x<y)||(x==y&&Op.bytesLess a b))=(bif cw x.toNat y.toNat then V else bif cw y.toNat x.toNat then C else BZ (a.map ko) (b.map ko));rw[i b,eP,eP];have c:(x<y)↔x.toNat<y.toNat:=Iff.rfl;have f:(x==y)=decide (x.toNat=y.toNat):=by rw[Bool.eq_iff_iff,beq_iff_eq,jB];exact⟨λh=>by rw[h],λh=>UInt8.toNat_inj.1 h⟩
 rw[f];by_cases d:x.toNat<y.toNat;.simp[c,d]
 . by_cases e:y.toNat<x.toNat;.have:¬x.toNat=y.toNat:=ab;simp[c,d,e,this]
   .have:x.toNat=y.toNat:=ab;simp[c,this]
theorem aL3{o:BinOp}{a b:aE}{r:AV}{u v:ByteArray}(h:R0 o a b=J r)(c:u.data.toList.map ko=a)(d:v.data.toList.map ko=b)(t:an):∃x,(∀w:aT,(binOp o t (.string u) (.string v)).run P w=.ok x w)/\VR Y r x:=by
 have e:=Ta c d;have f:Op.bytesLess u.toList v.toList=BZ a b:=by rw[aBY,ByteArray.toList_eq,ByteArray.toList_eq,c,d]
 unfold R0 at h;split at h
 . rw[dp,dZ,dZ,lz]at h;by_cases l:a.length+b.length<=1000000000
   . have:decide (a.length.add _<=1000000000)=V:=mE l;rw[this]at h;simp at h;subst h;have g:=NA c;have i:=NA d;refine⟨.string (u++v),λw=>?_,.str _ _ ?_⟩
     . have:¬(((u.size+v.size:Nat):Int)>IntKind.i64.max):=by
        have:IntKind.i64.max=9223372036854775807:=by rfl
        omega
       simp_all[binOp,Op.stringOp]
     simp_all
   grind
 .simp at h;subst h;exact⟨_,λw=>by rfl,by rw[e];exact .bool _⟩
 .simp at h;subst h;exact⟨_,λw=>by rfl,by rw[e];exact .bool _⟩
 .simp at h;subst h;exact⟨_,λw=>by rfl,by rw[f];exact .bool _⟩
 .simp only[xL]at h;subst h;exact⟨_,λw=>by rfl,by rw[e,f];exact .bool _⟩
 grind
theorem aJp{o:BinOp}{k y c:fT}{a b n:Int}{d:aT}(h:(Op.shift o k a y b).run P default=.ok (.int c n) d):∀w:aT,(Op.shift o k a y b).run P w=.ok (.int c n) w:=by
 unfold Op.shift at*;split at h;.simp_all[runtimePanic]
 .cases o<;>simp at h|-<;>grind
theorem binOp_eql(i:∀k a c b,u=.int k a->v=.int c b->False)(s:∀a b,u=.string a->v=.string b->False)(f:∀k a,u=.float k a->False)(h:∀k a b,u=.complex k a b->False):binOp .eql t u v=(do pure (.bool (<-Op.equal t u v)):Sem aD):=by simp_all[binOp]
theorem binOp_neq(i:∀k a c b,u=.int k a->v=.int c b->False)(s:∀a b,u=.string a->v=.string b->False)(f:∀k a,u=.float k a->False)(h:∀k a b,u=.complex k a b->False):binOp .neq t u v=(do pure (.bool (!(<-Op.equal t u v))):Sem aD):=by simp_all[binOp]
theorem If{o:BinOp}(h:o≠.eql)(a:o≠.neq)(w:aT):(eqGuard o t xo yo u v).run P w=.ok () w:=by simp[eqGuard]
theorem Py{o:BinOp}(h:u≠.nilIface)(e:∀a b,u=.agg a->v=.agg b->P.eqGuardType P.depth t=C)(w:aT):(eqGuard o t xo yo u v).run P w=.ok () w:=by
 by_cases c:o=.eql;.subst c;unfold eqGuard;simp;split<;>simp_all
 . by_cases d:o=.neq;.subst d;unfold eqGuard;simp;split<;>simp_all
   grind[If]
set_option maxHeartbeats 1600000 in theorem amC{o:BinOp}{y r:AV}(h:xU P o t xo yo x y=J r)(d:VR Y x u)(f:VR Y y v)(g:x≠.top)(i:y≠.top):∃z,(∀w:aT,((do eqGuard o t xo yo u v;binOp o t u v:Sem aD)).run P w=.ok z w)/\VR Y r z:=by
 have fin:∀{z},(∀w:aT,(eqGuard o t xo yo u v).run P w=.ok () w)->(∀w:aT,(binOp o t u v).run P w=.ok z w)->∀w:aT,((do eqGuard o t xo yo u v;binOp o t u v:Sem aD)).run P w=.ok z w:=λp q w=>aU;have n:∀k a,u=.float k a->False:=λk a e=>by subst e;cases d
 have m:∀k a b,u=.complex k a b->False:=λk a b e=>by subst e;cases d
 unfold xU at h;split at h
 . cases d;cases f;split at h;.simp at h;subst h;exact⟨_,fin (If aP aP) (λw=>by grind[binOp,aJp]),.int _ _⟩
   grind
 .cases d;cases f;simp_all[ayU,Py]
 .cases d with|str _ B e1=>cases f with|str _ D e2=>obtain⟨z,p,q⟩:=aL3 (P:=P) (Y:=Y) h e1 e2 t;grind[Py]
 . have hi:∀k a j b,u=.int k a->v=.int j b->False:=λk a j b e1 e2=>by subst e1;cases d<;>cases f<;>first|exact g rfl|exact i rfl|grind
   have s:∀a b,u=.string a->v=.string b->False:=λa b e1 e2=>by subst e1;cases d<;>cases f<;>first|exact g rfl|exact i rfl|grind
   obtain⟨G,b,l,hr⟩:zW P t xo yo x y=V/\∃b,lD P 50 t x y=J b/\r=.bool b:=by
     revert h;generalize zW P t xo yo x y=c;rcases c with _|_;.grind
     cases A:lD P 50 t x y<;>simp_all
   subst hr;refine⟨_,fin (Py ?_ ?_) (λw=>?_),.bool _⟩;.intro e1;subst e1;cases d
   . intro a c e1 e2;subst e1;subst e2;cases d<;>first|exact absurd rfl g|skip
     cases f<;>first|exact absurd rfl i|skip
     grind[zW]
   .rw[binOp_eql hi s n m];have:=TT 50 l d f Op.maxDepth ft w;simp_all[Op.equal]
 . have hi:∀k a j b,u=.int k a->v=.int j b->False:=λk a j b e1 e2=>by subst e1;cases d<;>cases f<;>first|exact g rfl|exact i rfl|grind
   have s:∀a b,u=.string a->v=.string b->False:=λa b e1 e2=>by subst e1;cases d<;>cases f<;>first|exact g rfl|exact i rfl|grind
   obtain⟨G,b,l,hr⟩:zW P t xo yo x y=V/\∃b,lD P 50 t x y=J b/\r=.bool (!b):=by
     revert h;generalize zW P t xo yo x y=c;rcases c with _|_;.grind
     cases A:lD P 50 t x y<;>simp_all
   subst hr;refine⟨_,fin (Py ?_ ?_) (λw=>?_),.bool _⟩;.intro e1;subst e1;cases d
   . intro a c e1 e2;subst e1;subst e2;cases d<;>first|exact absurd rfl g|skip
     cases f<;>first|exact absurd rfl i|skip
     grind[zW]
   .rw[binOp_neq hi s n m];have:=TT 50 l d f Op.maxDepth ft w;simp_all[Op.equal]
 grind
end
def pL(P:aH)(a:bc)(A:Sem aD)(r:AV):Prop:=∃v,(∀w:aT,A.run P w=.ok v w)/\VR a r v
section
variable{P:aH}{S:Nat->Prop}{Y:bc}{H:Heap}{w:aT}{tm:Tr AV}{ρ:aK->aD}
theorem aM9{o:UnOp}{r:AV}(h:Sc o x=J r)(a:VR Y x u):pL P Y (Op.unary o u) r:=by
 unfold Sc at h;split at h;.cases a;simp at h;subst h;rename_i k n;refine⟨_,λw=>by rfl,?_⟩;rw[Cw];exact .int k _
 .cases a;simp at h;subst h;exact⟨_,λw=>by rfl,.bool _⟩
 grind
theorem aGa(c:Array aD)(o:Nat)(v:aD)(s:List aD)(h:o+(s.length+1)<=c.size):over (c.setIfInBounds o v) (o+1) s=over c o (v::s):=by apply Ob;grind[u6]
theorem aud:∀(l:List aD)(k:Nat)(cells:Array aD)(I:Nat),I+k+l.length<=cells.size->(l.zipIdx k).foldl (λcs(p:aD×Nat)=>cs.setIfInBounds (I+p.2) p.1) cells=over cells (I+k) l:=by intro l;induction l with|nil=>intro k cells I h;apply Ob;simp_all[u6,if_neg]|cons v l i=>intro k cells I h;rw[List.zipIdx_cons,A7];rw[i _ _ _ ai,show I+(k+1)=I+k+1 from rfl,aGa _ _ _ _ ab]
theorem aue(v e:Array aD)(o:Nat)(h:o+v.size<=e.size):v.zipIdx.foldl (λcs(c,j)=>cs.setIfInBounds (o+j) c) e=over e o v.toList:=by have:=aud _ 0 _ _ ab;grind[Array.toList_zipIdx]
theorem Ud(l f:Nat->ah (Nat×Nat)):∀(e:List (Nat×AV))(s:List (Nat×aD))(cs:aJ)(c:Array aD)(r:aJ),(∀i x,l i=J x->f i=J x)->e.length=s.length->(∀(i:Nat)(p:Nat×AV)(q:Nat×aD),e[i]?=J p->s[i]?=J q->p.1=q.1/\VR Y p.2 q.2)->aZ Y cs c.toList->(∀x,x∈cs->x.aV=V)->zU l e cs=J r->∃d,Instr.fill f c s=J d/\aZ Y r d.toList/\(∀x,x∈r->x.aV=V)/\r.length=cs.length:=by intro e;induction e with|nil=>intro s cs c r W y I g u h;obtain rfl:s=[]:=ai;unfold zU at h;rw[EN]at h;obtain rfl:cs=r:=ai;exact⟨c,rfl,g,u,rfl⟩|cons p e B=>intro s cs c r W y I g u h;cases s with|nil=>grind|cons q s=>obtain⟨e1,j⟩:=I 0 p q rfl rfl;obtain⟨K,v⟩:=q;simp only at e1 j;replace h:((l p.1).bind λo=>p.2.cells.bind λvs=>bif aw (fg vs) o.2&&bz (iw o.1 o.2) (fg cs)then J (fZ cs o.1 vs)else Z).bind (zU l e)=J r:=h;cases A:l p.1 with|none=>grind|some o=>cases k:p.2.cells with|none=>grind|some vs=>
 obtain⟨T,P⟩:=j.cells k;have X:vs.length=v.cells.size:=by simpa using T.1
 have w:cs.length=c.size:=by simpa using g.1
 simp only[A,k,cU,bQ,dp,dZ]at h;by_cases m:vs.length=o.2
 . by_cases n:o.1+o.2<=cs.length;.have e2:decide (o.1.add o.2<=cs.length)=V:=mE n;rw[e2,mE m]at h;simp only[xz,aR,cU]at h;have z:=g.aae T o.1;have H:o.1+v.cells.size<=c.size:=ab;obtain⟨d,N,G,D,t⟩:=B s _ (over c o.1 v.cells.toList) r W ai (λi a b E F=>I (i+1) a b ai ai) (by grind[over]) (by grind[D1]) h;grind[yT,Instr.fill,aue]
   grind
 grind
theorem atx{f:Nat}{i:Array Field}{d:Field}{s:aJ}{r:AV}(l:P.underlying t=J (.struct i))(k:i[f]?=J d)(e:VR Y (.agg s) v)(h:kC P d.type s d.offset=J r):pL P Y (Instr.field t v f) r:=by obtain⟨c,rfl,b,g⟩:=e.tF;obtain⟨u,j,a⟩:=F8 h b g;exact⟨u,λw=>by simp_all[Instr.field,dG,asAgg],a⟩
theorem atj{i:Nat}{r:AV}(d:VR Y (.cO vs) v)(h:pj vs i=J r):pL P Y (Instr.extract v i) r:=by obtain⟨c,rfl,b⟩:=d.aM2;rw[xa]at h;obtain⟨u,e,a⟩:=b.get h;exact⟨u,λw=>by simp_all[Instr.extract],a⟩
theorem aL4{s:ByteArray}{l:aE}(h:s.data.toList.map ko=l){i b:Nat}(a:l[i]?=J b):∃c:UInt8,s[i]?=J c/\c.toNat=b:=by
 subst h;rcases d:s.data.toList[i]? with _|c;.grind
 simp[d]at a;refine⟨c,?_,a⟩;obtain⟨hi,e⟩:=am.1 d;have N:=by show i<s.data.size;omega
 rw[getElem?_pos s i N];congr 1
end
section
variable{P:aH}{S:Nat->Prop}{Y:bc}{H:Heap}{w:aT}
theorem IZ{k:fT}{i:Nat}(h:VR Y (.int k (.ofNat i)) v):v=.int k (.ofNat i):=by cases h;rfl
theorem ayH{l:Nat}{k:fT}{i n:Nat}{s:aJ}{r:AV}(o:P.underlying t=J (.array l elem))(z:aW P elem=J n)(m:i<l)(f:VR Y (.agg s) v)(h:kC P elem s (fA i n)=J r):pL P Y (Instr.index t v (.int k (.ofNat i))) r:=by obtain⟨c,rfl,e,g⟩:=f.tF;obtain⟨u,b,d⟩:=F8 h e g;refine⟨u,λw=>?_,d⟩;have j:=b w;have a:(part elem c (i*n)).run P w=.ok u w:=j;simp_all[Instr.index,asIntOf,dG,mi]
theorem ayI{k:fT}{i b:Nat}{s:aE}(u:P.underlying t=J .string)(d:VR Y (.str s) v)(h:pj s i=J b):pL P Y (Instr.index t v (.int k (.ofNat i))) (.int .u8 (.ofNat b)):=by cases d with|str _ x e=>rw[xa]at h;obtain⟨c,f,a⟩:=aL4 e h;subst a;exact⟨.int .u8 (.ofNat c.toNat),λw=>by simp_all[Instr.index,asIntOf,dG],.int _ _⟩
theorem atv{s:an}{f n a:Nat}{i:Array Field}{d:Field}(u:P.underlying s=J (.struct i))(c:i[f]?=J d)(z:aW P d.type=J (n+1))(b:VR Y (.ptr a I) v):pL P Y (Instr.fieldAt s v f) (.ptr a (iw I d.offset)):=by cases b with|ptr _ _ p h=>refine⟨.pointer (J ⟨p.ba,p.base+(I+d.offset),Z⟩),λw=>?_,.ptr a _ p h⟩;simp_all[Instr.fieldAt,dG,Instr.sureAddr,fieldPlace,mi,wB,A9]
theorem ayD{l n d i:Nat}{k:fT}(u:P.underlying t=J (.array l elem))(z:aW P elem=J n)(h:i<l)(b:VR Y (.ptr d I) v):pL P Y (Instr.indexAt t v (.int k (.ofNat i))) (.ptr d (iw I (fA i n))):=by cases b with|ptr _ _ p a=>refine⟨.pointer (J ⟨p.ba,p.base+(I+i*n),Z⟩),λw=>?_,.ptr d _ p a⟩;simp[Instr.indexAt,asIntOf,dG u,Instr.sureAddr,mi z,wB,A9,h]
theorem ayF{l e d i:Nat}{c:ah Nat}{k:fT}(u:P.underlying t=J (.slice elem))(z:aW P elem=J e)(h:i<l)(b:VR Y (.sl d I l c e) v):pL P Y (Instr.indexAt t v (.int k (.ofNat i))) (.ptr d (iw I (fA i e))):=by cases b with|sl _ _ _ _ _ p g cap a m q f o hr j n=>have T:=hr ab;subst T;refine⟨.pointer (J ⟨p.ba,p.base+(I+i*e),Z⟩),λw=>?_,.ptr d _ p a⟩;simp[Instr.indexAt,asIntOf,dG u,mi z,wB,A9,h]
theorem HG(h:mT x y=J r)(a:VR Y x v):r<=y/\∀c,∀w:aT,(Instr.sliceBound v y c).run P w=.ok r w:=by
 unfold mT at h;split at h;.rw[dp]at h;cases a;rename_i n;by_cases l:n<=y<;>simp_all[Instr.sliceBound,asIntOf]
 grind
def qH(b:bc):ah AV->ah aD->Prop|none,Z=>True|some a,J v=>VR b a v|_,_=>False
theorem P6{b:AV}{z:Nat}(a:mT b y=J h)(c:h<=z):mT b z=J h:=by unfold mT at a|-;split at a<;>grind[dp]
theorem S6{l:Nat}{o:ah AV}{b:ah aD}(U:qH Y o b)(d:ff o h 0=J l):(b=Z/\l=0)\/∃u,b=J u/\∀c,∀w:aT,(Instr.sliceBound u h c).run P w=.ok l w:=by
 rcases o with _|a;.grind[qH,ff]
 rcases b with _|u;.grind[qH]
 exact .inr ⟨u,rfl,(HG (show mT a _=J l from d) U).2⟩
theorem UI{isSlice:Bool}{e l:Nat}{o:ah AV}{d r:ah aD}(U:qH Y o d)(B:qH Y hi r)(a:ff hi y e=J h)(c:ff o h 0=J l)(f:h<=cap):∀w:aT,(Instr.sliceBounds isSlice e cap d r Z).run P w=.ok (l,h,cap) w:=by
 intro w;rcases hi with _|b;.cases r with|some v=>grind[qH]|none=>simp[ff]at a;subst a;rcases S6 (P:=P) U c with⟨rfl,rfl⟩|⟨u,rfl,g⟩<;>simp_all[Instr.sliceBounds]
 rcases r with _|v;.grind[qH]
 have f3:=(HG (P:=P) (P6 (show mT b y=J h from a) f) B).2;rcases S6 (P:=P) U c with⟨rfl,rfl⟩|⟨u,rfl,g⟩;all_goals simp_all[Instr.sliceBounds]
theorem UK{isSlice:Bool}{e l m:Nat}{o:ah AV}{x:AV}{a r:ah aD}{E:aD}(U:qH Y o a)(B:qH Y hi r)(I:VR Y x E)(i:hi≠Z)(c:mT x y=J m)(d:ff hi m e=J h)(f:ff o h 0=J l)(g:m<=cap):∀w:aT,(Instr.sliceBounds isSlice e cap a r (J E)).run P w=.ok (l,h,m) w:=by
 have e2:=(HG (P:=P) (P6 c g) I).2;intro w;rcases hi with _|b;.grind
 rcases r with _|v;.grind[qH]
 have f2:=(HG (P:=P) (show mT b m=J h from d) B).2;rcases S6 (P:=P) U f with⟨rfl,rfl⟩|⟨u,rfl,j⟩<;>simp_all[Instr.sliceBounds]
theorem TE{i e:Nat}{a:Addr}(g:Y i=J p)(t:p.base+I+cap*e<=p.oO)(j:cap≠0->a=⟨p.ba,p.base+I,Z⟩)(b:0<e){l m:Nat}(f:l<=h)(d:h<=m)(D:m<=cap)(n:I+h*e<=p.len)(c:ah Nat)(y:∀k,c=J k->m-l=k/\I+m*e<=p.len)(w:c=Z->p.len<=I+m*e):∃r:Addr,(if m=l then a else a.add (l*e))=r/\VR Y (.sl i (iw I (fA l e)) (Nat.sub h l) c e) (.slice (J r) (h-l) (m-l)):=by
 have e1:(I+l*e)+(m-l)*e=I+m*e:=by rw[A9,<-xK];grind
 have e2:(I+l*e)+(h-l)*e=I+h*e:=by rw[A9,<-xK];grind
 have e3:m*e<=cap*e:=lW _ D;refine⟨_,rfl,?_⟩;.refine .sl i (I+l*e) (h-l) c e p _ (m-l) g ab ?_ ?_ ?_ ?_ b ?_<;>grind[wB]
theorem EQ(s:bS S Y H w){i:Nat}(a:Y i=J p)(h:H.cellsOf i=J l):l.length=p.len:=by obtain⟨r,fl,e,g,_⟩:=KD h;exact s.stat.len i p l r fl e a g
set_option maxHeartbeats 1600000 in theorem aKL(hs:bS S Y H w){D f:ah AV}{r:AV}{O N E:ah aD}(h:qb P H t x D hi f=J r)(hv:VR Y x v)(wU:qH Y D O)(BF:qH Y hi N)(ID:qH Y f E)(hS:∀id I,x=.ptr id I->S (rootOf H id)):∃z,(Instr.sliceAt t v O N E).run P w=.ok z w/\VR Y r z:=by
 unfold qb at h;have his:f=Z\/hi≠Z:=by cases f<;>grind
 have hmn:f=Z->E=Z:=λe=>by grind[qH]
 have hms:∀m,f=J m->∃mv,E=J mv/\VR Y m mv:=λm e=>by subst e;cases E<;>grind[qH]
 have d:sliceB P H t x D hi f=J r:=by grind
 clear h;have X:∀(i:Bool)(len cap y m a b:Nat),ff f y y=J m->(f=Z->y=cap)->ff hi m len=J b->ff D b 0=J a->m<=cap->b<=m->∀w:aT,(Instr.sliceBounds i len cap O N E).run P w=.ok (a,b,m) w:=by intro i len cap y m a b h0 hy B g A hbm;cases aPn:f<;>grind[ff,UI,UK]
 unfold sliceB at d;split at d;.
  rename_i elem T;cases hv;rcases u:aW P elem with _|n;.grind
  simp only[u,cU]at d;cases A:ff f 0 0 with|none=>grind|some m=>cases o:ff hi m 0 with|none=>grind|some b=>cases j:ff D b 0 with|none=>grind|some a=>
  simp[A,o,j]at d;subst d;have zer:∀{x:ah AV}{xv:ah aD}{q z:Nat},qH Y x xv->ff x q q=J z->z<=q:=by intro x xv q z hx u;cases x with|none=>grind[ff]|some y=>cases xv with|none=>grind[qH]|some yv=>exact(HG (P:=P) (show mT y q=J z from u) hx).1
  have m0:m=0:=ai;subst m0;have b0:b=0:=ai;subst b0;have a0:a=0:=ai;subst a0;have:=X V 0 0 0 0 0 0 A (λ_=>rfl) o j (bT _) (bT _) w;exact⟨.slice Z 0 0,by simp[Instr.sliceAt,dG T,Instr.slice,this,mi u],.bH⟩
 .rename_i elem id I len c s T;cases hv with|sl _ _ _ _ _ p gZ cap L hl M hc ho hr K hn=>obtain⟨qU,mc⟩:=hc c rfl;subst qU;cases u:aW P elem with|none=>grind|some n=>
  simp only[u,cU,bQ]at d;by_cases W:n=s;.subst W;simp only[dX,aR]at d;cases A:ff f cap cap with|none=>grind|some m=>cases o:ff hi m len with|none=>grind|some b=>cases j:ff D b 0 with|none=>grind|some a=>
   simp only[A,o,j,cU,dp]at d;by_cases B:a<=b
   . by_cases g:b<=m
     . simp[B,g]at d;subst d;have F:m<=cap:=by cases f with|none=>grind[ff]|some q=>cases E with|none=>grind|some qv=>exact(HG (P:=P) (show mT q cap=J m from A) ID).1
       have U:=X V len cap cap m a b A (λ_=>rfl) o j F g w;have k1:m*n<=cap*n:=lW _ F;have k2:b*n<=m*n:=lW _ g;obtain⟨q,g1,g2⟩:=TE L M hr K B g F ab (J (m-a)) (λk hk=>⟨ai,ab⟩) aP;refine⟨_,?_,g2⟩;simp only[Instr.sliceAt,Sem.run_bind,dG T,bi,Instr.slice,U,mi u,Sem.run_pure,<-g1];grind
     grind
   grind
  grind
 .rename_i elem id I len s T;cases hv with|sl _ _ _ _ _ p gZ cap L hl M hc ho hr K hn=>have iH:=ho rfl;have fits:∀k,I+k*s<=p.len->k<=cap:=λk hk=>Nat.le_of_mul_le_mul_right (show k*s<=cap*s by omega) K;cases u:aW P elem with|none=>grind|some n=>
  simp only[u,cU,bQ]at d;by_cases W:n=s;.subst W;simp only[dX,aR]at d;cases f with
  |some q=>simp only at d;obtain⟨mv,rfl,vH⟩:=hms q rfl;have R:hi≠Z:=ai;cases A:mT q bm with|none=>grind|some m=>cases o:ff hi m len with|none=>grind|some b=>cases j:ff D b 0 with|none=>grind|some a=>cases Q:H.cellsOf id with|none=>grind|some l=>
       have uO:=EQ hs L Q;simp only[A,o,j,Q,cU,dp,dZ]at d;by_cases h0:I+m*n<=l.length
       . have e0:decide (iw I (fA m n)<=l.length)=V:=mE h0;rw[e0]at d;by_cases g:b<=m
         . by_cases B:a<=b;.simp[B,g]at d;subst d;have F:=fits m ab;have U:=UK (P:=P) (isSlice:=V) (cap:=cap) wU BF vH R A o j F w;have k2:b*n<=m*n:=lW _ g;obtain⟨q',g1,g2⟩:=TE L M hr K B g F ab (J (m-a)) (λk hk=>⟨ai,ab⟩) aP;refine⟨_,?_,g2⟩;simp only[Instr.sliceAt,Sem.run_bind,dG T,bi,Instr.slice,U,mi u,Sem.run_pure,<-g1];grind
           grind
         grind
       grind|none=>rw[hmn rfl];simp only at d;cases o:ff hi bm len with|none=>grind|some b=>cases j:ff D b 0 with|none=>grind|some a=>
   simp only[o,j,cU,dp]at d;by_cases B:a<=b
   . rw[mE B]at d;simp only[aR]at d;have key:b<=cap->I+b*n<=p.len->r=.sl id (iw I (fA a n)) (Nat.sub b a) Z n->∃z,(Instr.sliceAt t (.slice (J gZ) len cap) O N Z).run P w=.ok z w/\VR Y r z:=by intro G UW hre;subst hre;have U:=UI (P:=P) (isSlice:=V) wU BF o j G w;obtain⟨q',g1,g2⟩:=TE L M hr K B G (bT cap) UW Z aP (λ_=>ab);refine⟨_,?_,g2⟩;simp only[Instr.sliceAt,Sem.run_bind,dG T,bi,Instr.slice,U,mi u,Sem.run_pure,<-g1];grind
     by_cases g:b<=len;.simp[g]at d;have k2:b*n<=len*n:=lW _ g;grind
     .cases Q:H.cellsOf id<;>grind[EQ,dZ]
   grind
  grind
 grind
def NT{b:AV}(h:VR Y a u)(k:VR Y b v):VR Y (.cO [a,b]) (.tuple #[u,v]):=a39 (a05 h (a05 k (a04 Y))) _ rfl
def aM1{b c:AV}{x:aD}(h:VR Y a u)(k:VR Y b v)(m:VR Y c x):VR Y (.cO [a,b,c]) (.tuple #[u,v,x]):=a39 (a05 h (a05 k (a05 m (a04 Y)))) _ rfl
def akk(h:VR Y a u):VR Y (.cO [a]) (.tuple #[u]):=a39 (a05 h (a04 Y)) _ rfl
theorem aJB{d:TypeDesc}{k c:aD}{b:Bool}(u:P.underlying t=J d)(h:Instr.sameNow d k c=J b):∀w:aT,(Op.equal t k c).run P w=.ok b w:=by
 intro w;obtain⟨n,a⟩:∃n,Op.maxDepth=n+1:=⟨9999,rfl⟩;unfold Instr.sameNow at h;split at h
 . split at h;.rename_i e;subst e;simp at h;subst h;unfold Op.equal;rw[a];simp[Op.equalIn,dG u]
   grind
 .simp at h;subst h;unfold Op.equal;rw[a];simp[Op.equalIn,dG u]
 .simp at h;subst h;unfold Op.equal;rw[a];simp[Op.equalIn,dG u]
 grind
theorem atN{d:TypeDesc}{k:aD}(u:P.underlying t=J d):∀(es:List kS)(i:Nat)(r:ah (Nat×aD)),Instr.findNow d k es i=J r->∀w:aT,(Instr.findAsking t k es i).run P w=.ok r w:=by intro es;induction es with|nil=>simp[Instr.findNow,Instr.findAsking]|cons e es a=>
 intro i r h w;unfold Instr.findNow at h;rcases s:Instr.sameNow d k e.key with _|b;.grind
 have:=aJB u s w;cases b<;>simp_all[Instr.findAsking]
theorem aej{d:TypeDesc}{k:aD}{e:List kS}{r:ah (Nat×aD)}(u:P.underlying t=J d)(h:∀w:aT,(Instr.findAsking t k e).run P w=.ok r w):∀w:aT,(Instr.findKey t k e).run P w=.ok r w:=by cases f:Instr.findNow d k e 0<;>simp_all[Instr.findKey,dG,atN]
theorem atK(s:VR Y k kv):∀(es:List eL)(ms:List kS)(i:Nat)(r:ah (Nat×eL)),nA Y es ms->oY P t k es i=J r->(r=Z/\∀w:aT,(Instr.findAsking t kv ms i).run P w=.ok Z w)\/∃j e m,r=J (i+j,e)/\es[j]?=J e/\ms[j]?=J m/\∀w:aT,(Instr.findAsking t kv ms i).run P w=.ok (J (i+j,m.val)) w:=by intro es;induction es with
 |nil=>
 intro ms i r c h;have:ms=[]:=by have:=c.1;grind
 have:r=Z:=by have d:J _=J r:=h;grind
 simp_all[Instr.findAsking]|cons e es u=>
 intro ms i r c h;rcases ms with _|⟨m,ms⟩;.have:=c.1;grind
 have l:=c.2 0 e m rfl rfl;have A:nA Y es ms:=⟨by have:=c.1;grind,λj a b y z=>c.2 (j+1) a b ai ai⟩;have d:((lD P 50 t k e.1).bind λb=>bif b then J (J (i,e))else oY P t k es (i+1))=J r:=h;rcases f:lD P 50 t k e.1 with _|b;.grind
 have q:∀w,(Op.equal t kv _).run P w=.ok b w:=λw=>TT 50 f s l.1 _ ft w;cases b with|true=>simp[f]at d;right;exact⟨0,e,m,ai,rfl,rfl,λw=>by simp_all[Instr.findAsking]⟩|false=>
 simp[f]at d;rcases u ms (i+1) r A d with⟨n,o⟩|⟨j,g,v,n,o,x,p⟩;.simp_all[Instr.findAsking]
 . refine .inr ⟨j+1,g,v,?_,ai,ai,λw=>?_⟩;.grind
   .have:=p w;simp[Instr.findAsking,q,this];omega
theorem azG:∀(b:Nat){t:an}{k:AV}{v:aD}{empty:Bool},I5 P b t k=V->VR Y k v->∀d,b<=d->∀w:aT,(Instr.checkKey empty d t v).run P w=.ok () w:=by intro b;induction b with|zero=>simp[I5]|succ b s=>
 intro t k v e h r d hd w;obtain⟨d,rfl⟩:∃o,d=o+1:=⟨d-1,ab⟩;have g:BU P (I5 P b) t k=V:=h;unfold BU at g;split at g;.simp_all[Instr.checkKey,dG]
 .simp_all[Instr.checkKey,dG]
 .simp_all[Instr.checkKey,dG]
 .rename_i i cs T;obtain⟨c,rfl,q,x⟩:=r.tF;simp only[Instr.checkKey,Sem.run_bind,dG T,bi];rw[qN]at g;rw[<-Array.forIn_toList];generalize i.toList=l at g;induction l with|nil=>rfl|cons f l m=>
  simp only[pH,gD]at g;have y:=m g.2;by_cases z:f.name= "_";.grind
  . have j:=g.1;have n:(f.name== "_")=C:=ai;rw[n]at j;rcases p:kC P f.type cs f.offset with _|a;.grind
    simp[p]at j;obtain⟨u,B,I⟩:=F8 p q x;have:=s (empty:=e) j I d ab w;simp_all
 grind
theorem bytes_inj{u v:ByteArray}{l:aE}(h:u.data.toList.map ko=l)(a:v.data.toList.map ko=l):u=v:=by have b:=Ta h a;grind[ya,ByteArray.toList_eq,ByteArray.ext,Array.toList_inj]
theorem rV{b:AV}(c:VR Y a u)(d:VR Y b v)(h:yO a b=V):u=v/\∀n,Instr.sameBits n u v=V:=by
 unfold yO at h;split at h;.cases c;cases d;grind[Instr.sameBits]
 .cases c;cases d;grind[zQ,Instr.sameBits]
 .rw[ya,jB]at h;subst h;cases c with|str _ s e1=>cases d with|str _ e e2=>have:=bytes_inj e1 e2;grind[Instr.sameBits,beq_toListBytes]
 grind
theorem aJA:∀(b s:aJ)(a vs:List aD),aZ Y b a->aZ Y s vs->b.length=s.length->(List.zip b s).all (λp=>yO p.1 p.2)=V->a=vs/\∀n,(a.zip vs).all (λp=>Instr.sameBits n p.1 p.2)=V:=by intro b;induction b with
 |nil=>intro s a vs c d l _;cases s with|cons=>grind|nil=>rw[c.sB,d.sB];simp_all
 |cons x b j=>
 intro s a vs c d l h;rcases s with _|⟨y,s⟩;.grind
 obtain⟨u,a,rfl,e,f⟩:=c.cons_inv;obtain⟨v,vs,rfl,g,i⟩:=d.cons_inv;simp only[List.zip_cons_cons,pH,gD]at h;obtain⟨e1,e2⟩:=rV e g h.1;obtain⟨e3,e4⟩:=j s a vs f i ai h.2;simp_all
theorem sameKey_eq{b:AV}(f:VR Y a u)(g:VR Y b v)(h:sameKey a b=V):u=v/\Instr.sameBits 10000 u v=V:=by
 unfold sameKey at h;split at h;.obtain⟨c,rfl,e,_⟩:=f.tF;obtain⟨d,rfl,hd,_⟩:=g.tF;rw[gD,bQ,jB,dZ,dZ,qN]at h;obtain⟨e1,e2⟩:=aJA _ _ _ _ e hd h.1 h.2;simp_all[Instr.sameBits]
 grind[rV]
theorem tc{c:Nat}(h:H.jU r=J (es,c)):H.get r=J (.map es c):=by grind[Heap.jU]
theorem Ar(s:bS S Y H w){c:Nat}(f:Y r=J p)(b:S (rootOf H r))(g:H.get r=J (.map es c)):∃a:Array kS,w.heap[p.ba]?=J (.map a c)/\nA Y es a.toList/\p.base=0:=by have d:jg H r:=λl m fl e h=>ai;obtain⟨i,a,j,k⟩:=s.obj r p _ f b d g;grind
theorem yN{b:Nat}{o:Obj}(h:w.heap[b]?=J o)(a:∀c e f,o≠.cells c e f):(getObj b).run P w=.ok o w:=by grind[getObj,Sem.run]
theorem JH{b:Nat}{o o':Obj}(h:w.heap[b]?=J o)(a:∀c e f,o≠.cells c e f):(setObj b o').run P w=.ok () (World.eW w b o'):=by unfold setObj;unfold Sem.run;rw[h];cases o<;>first|rfl|grind
theorem vg{b c:Nat}{e:Array kS}(h:w.heap[b]?=J (.map e c)):(getObj b).run P w=.ok (.map e c) w:=by grind[yN]
theorem DU{b c:Nat}{e:Array kS}{o:Obj}(h:w.heap[b]?=J (.map e c)):(setObj b o).run P w=.ok () (World.eW w b o):=by grind[JH]
theorem aHE(H:Heap)(r:Nat)(o:cq):H.put r r o=H.dM r r o:=by simp[Heap.dM]
theorem Rr(i:bg H)(s:bS S Y H w){a o:cq}(O:Obj)(d:Y r=J p)(g:H.get r=J a)(h:a.eA=C)(b:o.eA=C)(c:my Y (World.eW w p.ba O) o p):bg (H.put r r o)/\bS S Y (H.put r r o) (World.eW w p.ba O)/\Fr Y H w Y (H.put r r o) (World.eW w p.ba O):=by have hr:=yL g h;grind[fQ,cq.eA,zz,aHE]
theorem RM(w:aT){b:Nat}(h:b<w.heap.size)(o:Obj):(World.eW w b o).heap[b]?=J o:=by show(w.heap.setIfInBounds b o)[b]?=J o;grind
theorem DO(i:bg H)(s:bS S Y H w){e:List eL}{c b:Nat}(a:Array kS)(h:Y r=J p)(g:H.get r=J (.map es c))(d:p.base=0)(f:nA Y e a.toList):bg (H.put r r (.map e b))/\bS S Y (H.put r r (.map e b)) (World.eW w p.ba (.map a b))/\Fr Y H w Y (H.put r r (.map e b)) (World.eW w p.ba (.map a b)):=Rr i s _ h g rfl rfl ⟨d,a,RM w (s.stat.cF r p h).1 _,f⟩
theorem Pm{d:TypeDesc}{r:ah (Nat×eL)}(u:P.underlying t=J d)(i:VR Y k kv)(g:nA Y es ms)(h:oY P t k es 0=J r):(r=Z/\∀w:aT,(Instr.findKey t kv ms).run P w=.ok Z w)\/∃j e m,r=J (j,e)/\es[j]?=J e/\ms[j]?=J m/\wx Y e m/\∀w:aT,(Instr.findKey t kv ms).run P w=.ok (J (j,m.val)) w:=by
 rcases atK i es ms 0 r g h with⟨a,b⟩|⟨j,e,m,a,b,c,f⟩;.grind[aej]
 .simp only[kG]at a f;exact .inr ⟨j,e,m,a,b,c,g.2 j e m b c,aej u f⟩
theorem QA(h:qB P t k=V):∃d,P.underlying t=J d:=by have a:BU P _ t k=V:=h;unfold BU at a;grind
theorem Mk{empty:Bool}(h:qB P t k=V)(a:VR Y k kv)(w:aT):(Instr.checkKey empty 10000 t kv).run P w=.ok () w:=azG 5 h a 10000 ab w
def Ao(P:aH)(a t:an)(s:List eL)(k:AV)(o:Bool):ah AV:=(oY P a k s 0).bind λ|some (_,e)=>J (bif o then .cO [e.2.1,.bool V]else e.2.1)|none=>(zd P t).bind λz=>J (bif o then .cO [z,.bool C]else z)
theorem VY{a:an}{arr:Array kS}{r:AV}{mv:aD}{o:Bool}(T:P.underlying t=J (.map kt a))(p:(∃b c,mv=.map (J b)/\w.heap[b]?=J (.map arr c))\/(mv=.map Z/\arr=#[]))(y:nA Y es arr.toList)(n:VR Y k kv)(l:qB P kt k=V)(h:Ao P kt a es k o=J r):∃z,(Instr.lookup t mv kv o).run P w=.ok z w/\VR Y r z:=by
 obtain⟨d,hd⟩:=QA l;have v:=λe=>Mk (empty:=e) l n w;unfold Ao at h;rcases s:oY P kt k es 0 with _|q;.grind
 simp only[s,cU]at h;rcases Pm hd n y s with⟨rfl,g⟩|⟨j,e,m,rfl,g,D,i,x⟩
 . rcases u:zd P a with _|z;.grind
   simp[u]at h;obtain⟨zv,A,B⟩:=Gv (Y:=Y) u w;refine⟨if o then .tuple #[zv,.bool C]else zv,?_,?_⟩
   . rcases p with⟨b,c,rfl,f⟩|⟨rfl,rfl⟩;.simp[Instr.lookup,dG T,vg f,v,g w,A]
     simp_all[Instr.lookup,dG]
   . subst h;cases o;.grind
     .exact NT B (.bool _)
 . simp at h;refine⟨if o then .tuple #[m.val,.bool V]else m.val,?_,?_⟩
   . rcases p with⟨b,c,rfl,f⟩|⟨rfl,rfl⟩;.simp[Instr.lookup,dG T,vg f,v,x w]
     grind
   . subst h;cases o;.exact i.2.1
     .exact NT i.2.1 (.bool _)
theorem nA.append(h:nA Y es ms){e:eL}(k:wx Y e m):nA Y (es++[e]) (ms++[m]):=by
 refine⟨by simp[h.1],λi a b d c=>?_⟩;by_cases hi:i<es.length;.rw[nZ hi]at d;rw[nZ (by rw[<-h.1];omega)]at c;exact h.2 i a b d c
 .rw[ql (by rw[<-h.1];omega),<-h.1]at c;grind
theorem ahq{a:Type}(l:List a)(i:Nat)(x:a)(h:i<l.length):vV l i x=l.set i x:=by grind[vV,lz,qg,qQ,List.set_eq_take_append_cons_drop]
theorem nA.set(h:nA Y es ms){i:Nat}{e:eL}(k:wx Y e m):nA Y (es.set i e) (ms.set i m):=by
 refine⟨by simp[h.1],λj a b c d=>?_⟩;rw[List.getElem?_set]at c d;by_cases M:i=j;.grind
 .rw[if_neg M]at c d;exact h.2 j a b c d
theorem So(s:Array kS)(i:Nat)(f:kS->kS)(h:s.toList[i]?=J m):(s.modify i f).toList=s.toList.set i (f m):=by apply Ej;grind
theorem aNl(z:bg H)(u:bS S Y H w){c:Nat}(T:P.underlying t=J (.map kt vt))(s:Y r=J p)(G:S (rootOf H r))(o:H.get r=J (.map es c))(f:VR Y k kv)(y:qB P kt k=V)(A:VR Y x xv)(h:oY P kt k es 0=J q):(q=Z/\∃w',(Instr.mapUpdate t (.map (J p.ba)) kv xv).run P w=.ok () w'/\bg (H.put r r (.map (dL es [(k,x,c)]) (fj c)))/\bS S Y (H.put r r (.map (dL es [(k,x,c)]) (fj c))) w'/\Fr Y H w Y (H.put r r (.map (dL es [(k,x,c)]) (fj c))) w')\/∃i e,q=J (i,e)/\(sameKey e.1 k=V->∃w',(Instr.mapUpdate t (.map (J p.ba)) kv xv).run P w=.ok () w'/\bg (H.put r r (.map (vV es i (e.1,x,e.2.2)) c))/\bS S Y (H.put r r (.map (vV es i (e.1,x,e.2.2)) c)) w'/\Fr Y H w Y (H.put r r (.map (vV es i (e.1,x,e.2.2)) c)) w'):=by
 obtain⟨d,hd⟩:=QA y;obtain⟨a,b,n,v⟩:=Ar u s G o;have B:=Mk (empty:=C) y f w;rcases Pm hd f n h with⟨rfl,g⟩|⟨j,e,m,rfl,g,E,l,F⟩
 . left;refine⟨rfl,_,?_,DO z u (a.push {key:=kv,val:=xv,born:=c}) s o v ?_⟩;.simp[Instr.mapUpdate,dG T,vg b,B,g w,DU b]
   .rw[lz,Array.toList_push];exact n.append ⟨f,A,rfl⟩
 . right;refine⟨j,e,rfl,λK=>?_⟩;obtain⟨e1,e2⟩:=sameKey_eq l.1 f K;have I:=(am.1 g).1;have D:a[j]?=J m:=ai;refine⟨_,?_,DO z u (a.modify j λe=>{e with key:=kv,val:=xv}) s o v ?_⟩;.simp[Instr.mapUpdate,dG T,vg b,B,F w,DU b,D,Instr.keyThatStays,e2]
   .rw[ahq _ _ _ I,So _ _ _ E];exact n.set ⟨by rw[<-e1];exact l.1,A,l.2.2⟩
theorem aCk(s:Array kS)(i:Nat)(f:kS->kS)(h:s.toList[i]?=J m)(a:f m=m):s.modify i f=s:=ai
theorem aqR(A:bg H)(s:bS S Y H w){c:Nat}(T:P.underlying t=J (.map kt vt))(o:Y r=J p)(I:S (rootOf H r))(n:H.get r=J (.map es c))(f:VR Y k kv)(y:qB P kt k=V)(h:oY P kt k es 0=J q):(q=Z/\∀z,zd P vt=J z->∃u w',(Instr.mapEntry t (.map (J p.ba)) kv).run P w=.ok u w'/\VR Y (.cO [z,ia c]) u/\bg (H.put r r (.map (dL es [(k,z,c)]) (fj c)))/\bS S Y (H.put r r (.map (dL es [(k,z,c)]) (fj c))) w'/\Fr Y H w Y (H.put r r (.map (dL es [(k,z,c)]) (fj c))) w')\/∃i e,q=J (i,e)/\(sameKey e.1 k=V->∃u w',(Instr.mapEntry t (.map (J p.ba)) kv).run P w=.ok u w'/\VR Y (.cO [e.2.1,ia e.2.2]) u/\bg (H.put r r (.map es c))/\bS S Y (H.put r r (.map es c)) w'/\Fr Y H w Y (H.put r r (.map es c)) w'):=by
 obtain⟨d,hd⟩:=QA y;obtain⟨a,b,l,x⟩:=Ar s o I n;have B:=Mk (empty:=C) y f w;rcases Pm hd f l h with⟨rfl,v⟩|⟨j,e,m,rfl,v,F,g,G⟩
 . left;refine⟨rfl,λz L=>?_⟩;obtain⟨zv,N,D⟩:=Gv L w;refine⟨.tuple #[zv,goInt c],_,?_,NT D (.int _ _),DO A s (a.push {key:=kv,val:=zv,born:=c}) o n x ?_⟩;.simp[Instr.mapEntry,dG T,vg b,B,v w,DU b,N]
   .rw[lz,Array.toList_push];exact l.append ⟨f,D,rfl⟩
 .right;refine⟨j,e,rfl,λM=>?_⟩;obtain⟨e1,e2⟩:=sameKey_eq g.1 f M;have E:a[j]?=J m:=ai;refine⟨.tuple #[m.val,goInt _],_,?_,NT g.2.1 (by rw[<-g.2.2];exact .int _ _),DO A s _ o n x l⟩;have K:a.modify j (λe=>{e with key:=kv})=a:=aCk _ _ _ F (by rw[<-e1]);simp[Instr.mapEntry,dG T,vg b,B,G w,DU b,E,Instr.keyThatStays,e2,K]
theorem apd(K:bg H)(B:bS S Y H w){ty:an}{c:Nat}(u:ats[0]?=J t)(T:P.underlying t=J (.map kt vt))(A:Y r=J p)(G:S (rootOf H r))(y:H.get r=J (.map es c))(z:VR Y k kv)(x:qB P kt k=V)(h:oY P kt k es 0=J q):∃w',(Builtin.delete_ ats ty #[.map (J p.ba),kv]).run P w=.ok (.tuple #[]) w'/\(∀s,s=(match q with|some (i,_)=>dL (wo i es) (zK (fj i) es)|none=>es)->bg (H.put r r (.map s c))/\bS S Y (H.put r r (.map s c)) w'/\Fr Y H w Y (H.put r r (.map s c)) w'):=by
 obtain⟨d,hd⟩:=QA x;obtain⟨f,l,n,I⟩:=Ar B A G y;have E:=λe=>Mk (empty:=e) x z w;rcases Pm hd z n h with⟨rfl,v⟩|⟨j,e,m,rfl,v,N,O,F⟩
 . refine⟨World.eW w p.ba (.map f c),?_,λs D=>?_⟩;.simp[Builtin.delete_,u,dG T,vg l,E,v w,DU l]
   grind[DO]
 . refine⟨World.eW w p.ba (.map (f.eraseIdxIfInBounds j) c),?_,λs D=>?_⟩;.simp[Builtin.delete_,u,dG T,vg l,E,F w,DU l]
   . subst D;refine DO K B _ A y I ?_;have L:j<f.size:=ai;simp only[lz,qg,qQ];rw[Array.eraseIdxIfInBounds,dif_pos L,Array.toList_eraseIdx,List.eraseIdx_eq_take_drop_succ];refine⟨by simp[n.1],λi a b g o=>?_⟩;have t1:(es.take j).length=j:=ai;have t2:(f.toList.take j).length=j:=ai;by_cases M:i<j;.rw[nZ ab,CG M]at g;rw[nZ ab,CG M]at o;exact n.2 i a b g o
     .rw[ql ab,t1,xI]at g;rw[ql ab,t2,xI]at o;exact n.2 _ a b g o
