/- Proved: what functions of the program answer, within the sizes that each theorem names. -/
import Derived.Test.YtnjhghmdcoaceaaGreatDoorAe
open Option renaming some->J,none->Z
open Bool renaming true->V,false->C
open Go renaming TypeId->an,Oper->aB,Program->aH,Operand->aK,Code->bM,FuncId->bY,IntKind->fT,ResultVar->oS
open Go.Lib renaming compact->tB
open Int renaming ofNat->du,add->jX
open List renaming range->qm
open Nat renaming beq->aw,ble->bz,blt->cw
open Option renaming bind->sM
open SizeOf renaming sizeOf->pM
noncomputable section
set_option maxRecDepth 100000
set_option maxHeartbeats 4000000
set_option linter.all false
namespace Go.VM
open Go Go.AM Proofs.Tryz
variable{α:Type}{z:Bool}{v:DV}{g g':GH}{ps:List Tmp}{a e f fn k m I s t:Nat}{Q:SV->GH->Prop}{P:aH}{x:aK}{ow:aN}{p:ae}{r:ah bh}{l:ao}{rec:dW}{lb:ew}{u:iM}{ψ ω:sP}
attribute[local congr]bB bC
def sI(k n:Int)(s:aE):Int:=bif aA k 0 then 1 else bif aA 2 k then 1 else bif aj k 2 then bif aj n 0 then bif aA 64 (.ofNat s.length)then 13 else 0 else 3 else bif decide (s=[])then bif aj k 1 then bif aA n 0 then 2 else bif aA 1 n then 2 else 0 else bif aA n (-1099511627776)then 2 else bif aA 1099511627776 n then 2 else 0 else 3
def aaa(k n:Int)(s:aE):Int:=bif bif aj k 0 then bif aA n (-1099511627776)then V else aA 1099511627776 n else C then 2 else bif bif aj k 1 then bif aj n 0 then C else !aj n 1 else C then 2 else bif aA 64 (.ofNat s.length)then 13 else 0
theorem arZ(k n:Int)(s:aE):CC 136 [.agg [iD k,iD n,.str s]] (vI (aaa k n s)):=by refine aO func136 ?_;simp only[go_sem,f136,aaa];repeat'(with_reducible apply sp<;>intro h<;>simp only[h,go_sem])
theorem O8(k n:Int)(s:aE):CC 75 [.agg [iD k,iD n,.str s]] (vI (sI k n s)):=by
 refine aO func75 ?_;have a:=arZ k n s;simp only[go_sem,f75];repeat'(with_reducible apply sp<;>intro h<;>simp only[h,a,go_sem])
 all_goals grind[sI,aaa,fX,jl]
def arity(o:Int):Int:=bif aA o 0 then-1 else bif aA 12 o then-1 else bif aA o 5 then 0 else bif aj o 12 then 1 else 2
theorem arD(o:Int):CC 316 [iD o] (.val (.tp [(iD (bif aA (arity o) 0 then 0 else arity o),.no),(.bool (!aA (arity o) 0),.no)]) .empty):=by
 refine aO func316 ?_;simp only[go_sem,f316,arity];repeat'(with_reducible apply sp<;>intro h<;>simp only[h,go_sem])
 all_goals rfl
def yZ(o:Int):Bool:=aj o 1||(aj o 4||(aj o 2||aj o 3))
def yY(o:Int):Bool:=aj o 1||aj o 4
theorem arE(o:Int):CC 317 [iD o] (.val (.tp [(.bool (yZ o),.no),(.bool (yY o),.no)]) .empty):=by refine aO func317 ?_;simp only[go_sem,f317,yZ,yY];repeat'(with_reducible apply sp<;>intro h<;>simp only[h,go_sem])
def R5(k a:Int):Bool:=aj a 0||(aj k 4||aj k 5)
theorem Lt(k a b:Int)(s:aE):CC 319 [iD k,.agg [iD a,iD b,.str s]] (vB (R5 k a)):=by refine aO func319 ?_;simp only[go_sem,f319,R5];repeat'(with_reducible apply sp<;>intro h<;>simp only[h,go_sem])
def OO(o e k n:Int)(s:aE):Int:=bif aj (sI k n s) 0 then bif aj o 4&&(!R5 e k||(aj e 1&&!DX k n s 0 0 []))then 9 else 0 else sI k n s
theorem arF(o l a v Q e k n s):CC 318 [.agg (Expr.mk o l a v Q e k n s).cells] (vI (OO o e k n s)):=by refine aO func318 ?_;have b:=O8 k n s;have c:=Lt e k n s;simp only[go_sem]at b c;simp only[go_sem,f318,Expr.cells,OO,b];repeat'(with_reducible apply sp<;>intro h<;>simp only[h,c,go_sem])
def iV(o n v Q e k u:Int)(s:aE):Int:=bif aA (arity o) 0 then 1 else bif aj n (arity o)then bif(yZ o&&(aA v 0||!aA v 16))||(yY o&&(aA Q 0||!aA Q 8))then 2 else bif aj o 4&&(aA e 1||aA 5 e)then 1 else bif(aj o 4||aj o 0)&&!aj (OO o e k u s) 0 then OO o e k u s else bif(!yZ o&&!aj v 0)||((!yY o&&!aj Q 0)||((!aj o 4&&!aj e 0)||(!(aj o 4||aj o 0)&&!DX k u s 0 0 [])))then 3 else 0 else 15
def Expr.iV:Expr->Int|.mk op _ args var e n k num str=>VM.iV op (.ofNat args.length) var e n k num str
def wk{c:bV}(h:kn P c rec ψ=r):W P c rec ψ=r:=h
theorem VS(o:Int):(yZ o=V/\yY o=V/\aj o 4=C/\aj o 0=C)\/(yZ o=V/\yY o=V/\aj o 4=V/\aj o 0=C)\/(yZ o=V/\yY o=C/\aj o 4=C/\aj o 0=C)\/(yZ o=C/\yY o=C/\aj o 4=C/\aj o 0=V)\/(yZ o=C/\yY o=C/\aj o 4=C/\aj o 0=C):=by grind[yZ,yY,jl]
theorem ars(e:Expr):CC 262 [.agg e.cells] (vI e.iV):=by obtain⟨op,nl,args,var,Q,n,k,num,str⟩:=e;have f:=arF op nl args var Q n k num str;simp only[Expr.cells]at f;refine aO func262 ?_;simp only[go_sem,f262,Expr.cells,Expr.iV,iV,arD];apply sp<;>intro h<;>simp only[h,go_sem];apply sp<;>intro h<;>simp only[h,arE,go_sem];rcases VS op with⟨a,b,c,d⟩|⟨a,b,c,d⟩|⟨a,b,c,d⟩|⟨a,b,c,d⟩|⟨a,b,c,d⟩<;>simp only[a,b,c,d,go_sem]<;>refine wk ?_<;>simp only[c,d,f,go_sem]<;>repeat'(with_reducible apply sp<;>intro h<;>simp only[h,c,d,f,go_sem])
abbrev vT(l:List (DV×aN)):bh:=.val (.tp l) .empty
abbrev iO(n:Int):DV×aN:=(.int .i64 n,.no)
abbrev bO(b:Bool):DV×aN:=(.bool b,.no)
theorem adz:∀e:Expr,e.nn<100000000->CC 260 [.agg e.cells] (vT [iO (.ofNat e.nn),iO (.ofNat e.dep)])
 |.mk o f args v Q g k num str,n=>by
  simp only[Expr.nn]at n;refine aO func260 ?_;have hd:=Expr.Br args 0;simp only[go_sem,f260,Expr.cells,Expr.dep,Expr.nn];refine tb args ((1,0):Nat×Nat) (λi s=>[(13,iS i),(4,iS s.1),(5,iS s.2)]) (λ_ l s=>vT [iO (.ofNat (s.1+Expr.bP l)),iO (.ofNat (Expr.nH l s.2+1))]) (λ_ l s=>s.1+Expr.bP l<100000000/\s.2+Expr.bP l<100000000) (by have:=a50 args;omega) rfl (by simp only;omega) (by simp only[Nat.add_comm]) (λs h=>?_) (λi x l s b a w h c=>?_);.simp only[Expr.bP]at h;simp only[go_sem,Expr.nH,Expr.bP,vq,vn (show s.2+1<9223372036854775808 by omega)]
  .simp only[Expr.bP]at h;have hr:=adz x ab;have d:=Expr.EB x;simp only[go_sem,b,a,w,hr,Expr.nH,Expr.bP,Ou,AS (show s.1+x.nn<9223372036854775808 by omega),<-A9];exact c (s.1+x.nn,max s.2 x.dep) (by simp only;omega)termination_by e=>pM e decreasing_by simp_wf;have:=pI (dw a);omega
mutual
def Expr.wu : Expr -> Int
  | .mk o l args v e n k num str => bif aj (Expr.iV (.mk o l args v e n k num str)) 0 then Expr.D7 args else Expr.iV (.mk o l args v e n k num str)
def Expr.D7 : List Expr -> Int
  | [] => 0
  | e :: l => bif aj e.wu 0 then Expr.D7 l else e.wu
end
theorem aL9(o c a v e n k u s)(m:a.length<100000000)(Y:∀x,x∈a->CC 261 [.agg x.cells,.func 262 [] []] (vI x.wu)):CC 261 [.agg (Expr.mk o c a v e n k u s).cells,.func 262 [] []] (vI (Expr.mk o c a v e n k u s).wu):=by
 have b:=ars (.mk o c a v e n k u s);generalize j:Expr.iV _=z at b;simp only[Expr.cells]at b;refine aO func261 ?_;simp only[go_sem,f261,Expr.cells,Expr.wu,b,j];apply sp<;>intro h<;>simp only[h,go_sem];refine gC _ (λi=>[(18,iS i)]) (λ_ l=>vI (Expr.D7 l)) ab rfl rfl ?_ (λi x l f g w d=>?_);.simp only[go_sem,Expr.D7]
 .have hr:=Y x ai;simp only[go_sem,f,g,hr,Expr.D7]at d|-;apply sp<;>intro h<;>simp only[h,w,d,go_sem]
theorem L5:∀e:Expr,e.nn<100000000->CC 261 [.agg e.cells,.func 262 [] []] (vI e.wu)|.mk o l args v Q g k num str,n=>by simp only[Expr.nn]at n;exact aL9 _ _ _ _ _ _ _ _ _ (by have:=a50 args;omega) λx h=>L5 x (by have:=Expr.sC args _ h;omega)termination_by e=>pM e decreasing_by simp_wf;have:=pI h;omega
def Expr.nG(e:Expr):Int:=bif aA 64 (.ofNat e.nn)then 5 else bif aA 12 (.ofNat e.dep)then 12 else e.wu
theorem HU(e:Expr)(n:e.nn<100000000):CC 214 [.agg e.cells] (vI e.nG):=by refine aO func214 ?_;simp only[go_sem,f214,adz e n,Expr.nG];repeat'(with_reducible apply sp<;>intro h<;>simp only[h,L5 e n,go_sem])
def gh:ao->Nat->Nat->SV|[],_,_=>.dv .nl .any|a::l,e,n=>.dv (.ay (a::l) e n) (.ex e)
theorem zy{n:Nat}:gh [] e n=.dv .nl .any:=rfl
theorem On{a:DV}{n:Nat}:gh (a::l) e n=.dv (.ay (a::l) e n) (.ex e):=rfl
theorem amd{n b:Nat}{o:aN}(a:n≠0)(h:b<=1200000):fE e n b .nl o [v]=J (.ay [v] e n,.ex e):=by grind[fE,kT,bm,nB]
theorem amc{n b:Nat}(d:n≠0)(a:b<=1000)(c:l.length<1200000):fE e n b (.ay l e n) (.ex e) [v]=J (.ay (l++[v]) e n,.ex e):=by have h:(l.length+1)*b<=1200000*1000:=qL ab a;grind[qO,bm]
theorem aA7{n:Nat}:ni (.ay l e n)=J l.length:=(rfl)
theorem aBv{t:an}{l:ao}(h:bN P t=J C):fI P .take t ⟨l,[]⟩ I=(l[I]?).bind λd=>J (.dv d (uf d),⟨l,[]⟩):=by
 unfold fI;rw[h];rcases e:l[I]? with _|c;.rfl
 unfold eB;rw[show(⟨_,[]⟩:LB).cells[I]?=J c from e];cases c<;>rfl
theorem aGt{k:fT}{n:Int}:uf (.int k n)=.no:=rfl
theorem aGv{s:aE}:uf (.str s)=.no:=rfl
theorem aGr{b:Bool}:uf (.bool b)=.no:=rfl
theorem aGq:uf (.agg l)=.no:=rfl
theorem aGs{a b:ao}:uf (.func f a b)=.no:=rfl
theorem auo:bG PP 322 0=J (22,0):=aL
theorem aup:bG PP 322 1=J (71,1):=aL
theorem aul:bG PP 267 0=J (22,0):=aL
theorem aum:bG PP 267 1=J (71,1):=aL
theorem aun:bG PP 267 2=J (3,2):=aL
def Pe:SV->ah (ao×an×Nat)|.dv (.ay l e n) (.ex _)=>J (l,e,n)|_=>Z
theorem T9{n:Nat}{a:db}:nK ⟨fn,n,a,lb,g⟩ s=(look a s).bind Pe:=by show(match look a s with|some (.dv (.ay l e n) (.ex _))=>J _|_=>Z)=_;cases look a s with|none=>rfl|some v=>cases v with|dv d o=>cases d<;>cases o<;>rfl|_=>rfl
theorem asD{a n:Nat}:Pe (.dv (.ay l e n) (.ex a))=J (l,e,n):=(rfl)
theorem aqX{n:Int}:aj n n=V:=by simp[jl]
theorem alS{a:α}{p:α->Bool}:[a].all p=p a:=aP
theorem aBy{t:an}{i:Nat}{l:db}{d:ah Tmp}:Mv P t u ⟨fn,m,l,lb,g⟩ d (.se s i I)=((look l s).bind Pe).bind λx=>(x.1[i]?).bind λv=>(jt P t v.flat I).bind λv=>aG ⟨fn,m,l,lb,g⟩ d (.dv v .no):=by show(nK _ s).bind _=_;rw[T9]
attribute[go_sem]aBy alS aqX T9 asD aBv aGt aGv aGr aGq aGs auo aup aul aum aun aA7 zy On amd amc Nat.reduceLeDiff
def Sat(x:ah bh)(Q:SV->GH->Prop):Prop:=∃v g,x=J (.val v g)/\Q v g
theorem alo{v:SV}:Sat (J (.val v g)) Q=Q v g:=propext ⟨λ⟨_,_,h,k⟩=>ai,λh=>⟨_,_,rfl,h⟩⟩
theorem hJ{c:bV}(h:z=V->Sat (kn P c rec ψ) Q)(a:z=C->Sat (kn P c rec ω) Q):Sat (bif z then W P c rec ψ else W P c rec ω) Q:=by
 cases z;.exact a rfl
 .exact h rfl
theorem nw{c:bV}{n:Nat}{b:Func}{d:bM}{r:List oS}{a:ao}(i:P.funcs[f]?=J b)(h:Sat (exec P c (ev P c) Z d ⟨f,n,uB 0 ow a,[],g⟩ (Cm P r)) Q)(e:b.body=J d:=by rfl)(k:b.results=⟨r⟩:=by rfl)(t:b.ntmps=n:=by rfl)(p:c.iW f a=Z:=by rfl)(j:(yF (r.map we)&&bz a.length n&&!c.AQ f)=V:=by rfl):Sat (ev P c (.call f a ow g)) Q:=by obtain⟨v,g',h,q⟩:=h;exact⟨v,g',aO i h e k t p j,q⟩
theorem lpQ{d:Type}{b:bM}{t:Tg b}{r:ah Nat}{k:eH->ah bh}{j:St}(a:List α)(f:d)(S:Nat->d->St)(I:Nat->List α->d->Prop)(A:a.length<9223372036854775807)(e:S 0 f=j)(z:I 0 a f)(n:∀s,I a.length [] s->Sat ((exec PP cf (ev PP cf) r b (S a.length s) (nj PP cf (.mk b t) r)).bind (fL k)) Q)(o:∀i x l s,(i<a.length)=True->a[i]?=J x->dQ .i64 (jX (du i) 1)=du (i+1)->I i (x::l) s->(∀c,I (i+1) l c->Sat ((lg (ev PP cf) (.mk b t) (S (i+1) c) r).bind (fL k)) Q)->Sat ((exec PP cf (ev PP cf) r b (S i s) (nj PP cf (.mk b t) r)).bind (fL k)) Q):Sat ((lg (ev PP cf) (.mk b t) j r).bind (fL k)) Q:=by
 have y:∀(l:List α)(i:Nat)(s:d),i+l.length=a.length->a.drop i=l->I i l s->Sat ((lg (ev PP cf) (.mk b t) (S i s) r).bind (fL k)) Q:=by intro l;induction l with|nil=>intro i s p _ h;obtain rfl:i=a.length:=ab;obtain⟨v,g,h,q⟩:=n s h;grind[im]|cons x l w=>
  intro i s p hd h;have E:i<a.length:=ai;have u:a[i]?=J x:=by grind[Hk]
  obtain⟨v,g,h,q⟩:=o i x l s (il E) u (vn ab) h λc m=>w (i+1) c ai (by grind[El]) m;exact⟨v,g,im h,q⟩
 grind
theorem Ap{f:Type}{b:bM}{t:Tg b}{r:ah Nat}{k:eH->ah bh}{a:St}(c:List α)(d:f)(u:Nat->f->db)(g:f->GH)(I:Nat->List α->f->Prop)(o:c.length<9223372036854775807)(e:fu a.sl (u 0 d)=a.sl)(p:g d=a.g)(n:I 0 c d)(j:∀s,I c.length [] s->Sat ((exec PP cf (ev PP cf) r b ⟨a.fn,a.n,fu a.sl (u c.length s),a.lb,g s⟩ (nj PP cf (.mk b t) r)).bind (fL k)) Q)(m:∀i x l s,(i<c.length)=True->c[i]?=J x->dQ .i64 (jX (du i) 1)=du (i+1)->I i (x::l) s->(∀h,I (i+1) l h->Sat ((lg (ev PP cf) (.mk b t) ⟨a.fn,a.n,fu a.sl (u (i+1) h),a.lb,g h⟩ r).bind (fL k)) Q)->Sat ((exec PP cf (ev PP cf) r b ⟨a.fn,a.n,fu a.sl (u i s),a.lb,g s⟩ (nj PP cf (.mk b t) r)).bind (fL k)) Q):Sat ((lg (ev PP cf) (.mk b t) a r).bind (fL k)) Q:=lpQ c d (λi s=>⟨a.fn,a.n,fu a.sl (u i s),a.lb,g s⟩) I o aU n j m
theorem VX{c:Type}(n:Nat)(x:c)(m:Nat):∀l:List (Nat×c),look (put l n x) m=if m=n then J x else look l m
 |[]=>by
  show(bif aw n m then J x else Z)=_;by_cases h:m=n;.rw[if_pos h,h,show aw n n=V from pJ n];rfl
  .rw[if_neg h,kT (λe=>h e.symm)];rfl|(a,y)::t=>by
  show look (bif aw a n then(n,x)::t else(a,y)::put t n x) m=_;by_cases b:a=n
  . subst b;rw[show aw a a=V from pJ a];show(bif aw a m then J x else look t m)=if m=a then J x else(bif aw a m then J y else look t m);by_cases h:m=a;.rw[if_pos h,h,show aw a a=V from pJ a];rfl
    .rw[if_neg h,kT (λe=>h e.symm)];rfl
  . rw[kT b];show(bif aw a m then J y else look (put t n x) m)=if m=n then J x else(bif aw a m then J y else look t m);rw[VX n x m t];by_cases h:m=n;.rw[if_pos h,if_pos h,kT (λe=>b (e.trans h))];rfl
    .rw[if_neg h,if_neg h]
theorem dS{o:GO}:(g.alloc o).next=g.next+1:=rfl
theorem gU{i:Nat}{o:GO}:(g.set i o).next=g.next:=rfl
theorem kr{o:GO}{i:Nat}:(g.alloc o).get i=if i=g.next then J o else g.get i:=VX _ _ _ _
theorem lI{o:GO}{i j:Nat}:(g.set j o).get i=if i=j then J o else g.get i:=VX _ _ _ _
def Hi(k:Nat)(g a:GH):Prop:=g.next<=a.next/\∀i,k<=i->i<g.next->a.get i=g.get i
def Lo(k:Nat)(g a:GH):Prop:=g.next<=a.next/\∀i,i<k->a.get i=g.get i
theorem Hi.refl:Hi k g g:=⟨bT _,λ_ _ _=>rfl⟩
def Hi.trans{a b c:GH}(h:Hi k a b)(d:Hi k b c):Hi k a c:=⟨gj h.1 d.1,λi e j=>(d.2 i e (gE j h.1)).trans (h.2 i e j)⟩
theorem Lo.refl:Lo k g g:=⟨bT _,λ_ _=>rfl⟩
def a18:=@Lo.refl
def Lo.trans{a b c:GH}(h:Lo k a b)(d:Lo k b c):Lo k a c:=⟨gj h.1 d.1,λi e=>(d.2 i e).trans (h.2 i e)⟩
theorem Lo.mono{l:Nat}{a b:GH}(h:Lo k a b)(d:l<=k):Lo l a b:=⟨h.1,λi c=>h.2 i ab⟩
theorem Hi.mono{l:Nat}{a b:GH}(h:Hi k a b)(d:k<=l):Hi l a b:=⟨h.1,λi c j=>h.2 i ab j⟩
theorem Lo.alloc{o:GO}(h:k<=g.next):Lo k g (g.alloc o):=⟨by simp[dS],λi a=>by grind[kr]⟩
def a13:=@Lo.alloc
theorem Hi.alloc{o:GO}:Hi k g (g.alloc o):=⟨by simp[dS],λi _ h=>by grind[kr]⟩
theorem Lo.set{i:Nat}{o:GO}(h:k<=i):Lo k g (g.set i o):=⟨bT _,λj a=>by grind[lI]⟩
def a48:=@Lo.set
theorem Hi.set{i:Nat}{o:GO}(h:i<k):Hi k g (g.set i o):=⟨bT _,λj a _=>by grind[lI]⟩
def Hi.sa{o:GO}(h:Hi k g g'):Hi k g (g'.alloc o):=h.trans Hi.alloc
def Hi.sl{i:Nat}{o:GO}(a:i<k)(h:Hi k g g'):Hi k g (g'.set i o):=h.trans (Hi.set a)
theorem Hi.sg{i:Nat}{o:GO}(c:g.next<=i)(h:Hi k g g'):Hi k g (g'.set i o):=⟨h.1,λj a b=>by rw[lI,if_neg ab];exact h.2 j a b⟩
theorem oz(h:Hi k g g':=by repeat(first|exact Hi.refl|refine Hi.sa ?_|refine Hi.sl ab ?_|refine Hi.sg (by first|exact bT _|omega|(simp only[dS,gU];omega)) ?_)):Hi k g g':=h
theorem tI{z:Int}(h:aj z 0=V):z=0:=by grind[jl]
section
variable{X σ:Type}
def cR(t:X->σ->ah bM×σ):List X->σ->ah bM×σ|[],s=>(Z,s)|x::l,s=>match(t x s).1 with|none=>cR t l (t x s).2|some c=>(J c,(t x s).2)
theorem yh(t:X->σ->ah bM×σ):∀(a b:List X)(s:σ),cR t (a++b) s=match(cR t a s).1 with|none=>cR t b (cR t a s).2|some c=>(J c,(cR t a s).2)
 |[],_,_=>rfl|x::a,b,s=>by simp only[lU,cR];cases h:(t x s).1 with|none=>exact yh t a b _|some c=>rfl
theorem vA(t:X->σ->ah bM×σ)(x:X)(l:List X)(s:σ):cR t (x::l) s=match(t x s).1 with|none=>cR t l (t x s).2|some c=>(J c,(t x s).2):=rfl
def tD(t:X->σ->ah bM×σ)(b:List X)(a:σ)(x:X)(s:σ):Prop:=∃pre post,b=pre++x::post/\cR t pre a=(Z,s)
theorem tD.mem{t:X->σ->ah bM×σ}{c:List X}{d s:σ}{x:X}(h:tD t c d x s):x∈c:=by obtain⟨a,b,rfl,_⟩:=h;simp
structure CM(enc:X->ao)(ok:X->σ->Prop)(n k:Nat)(rel:ah bM->σ->GH->Prop)(step:X->σ->ah bM×σ):Prop where
 run:∀x s g,ok x s->rel Z s g->k<=g.next->∃g',ev PP cf (.eu n (enc x) g)=J (.val (.dv (.bool (step x s).1.isNone) .no) g')/\rel (step x s).1 (step x s).2 g'/\Hi k g g'
 stay:∀c s g g',rel c s g->Lo k g g'->rel c s g'
def wz(e:X->ao)(h:Nat)(f b:ao)(a:GH->Prop)(x:List X):Prop:=∀(n k:Nat)(σ:Type)(r:ah bM->σ->GH->Prop)(step:X->σ->ah bM×σ)(s:σ),CM e (tD step x s) n k r step->(∀c s g,r c s g->a g)->∀g,r Z s g->k<=g.next->∃g',ev PP cf (.call h (f++[.eu n]++b) .no g)=J (.val (.tp []) g')/\r (cR step x s).1 (cR step x s).2 g'/\Hi k g g'
end
def uc(f n:Nat)(l:db)(s:List Tmp)(a b:Hd bM)(t:LoopState)(p:ah bM):GO:=.loop ⟨t,p,f,n,l,s,a.get,b.get⟩
def HQ(k:eH->ah bh)(s:St):ah bM->ah bh|none=>k (.fJ s)|some .ret=>k (.rt s)|some (.exit id)=>k (.ext id s)|_=>Z
def Rw(P:aH)(f:bV)(e:dW)(d:ah Nat)(p:List Tmp)(a b:Hd bM)(s:St)(k:eH->ah bh):DV->ah bh
 |.func h first c=>bif(f.iW h (first++[.eu s.g.next]++c)).isSome||!(AB d s.g)then Z else(e (.call h (first++[.eu s.g.next]++c) .no (s.g.alloc (uc s.fn s.n (mg s.sl) p a b .ready Z)))).bind λ|.val _ g=>(match g.get s.g.next with|some (.loop r)=>(match r.state with|.busy=>Z|_=>HQ k {s with sl:=cP s.sl,g:=g.set s.g.next (.loop {r with state:=.exhausted})} r.pending)|_=>Z)|_=>Z
 |_=>Z
theorem atd{d:bV}{r:ah Nat}{s:St}{k:eH->ah bh}{f:aK}{a b:bM}:exec P d rec r (.rangeFunc f ⟨ps⟩ a b) s k=(bj d.aq s f).bind (Rw P d rec r ps (.mk a (.mk a)) (.mk b (.mk b)) s k):=by show(match bj d.aq s f with|some (.func h first c)=>_|_=>Z)=_;cases bj d.aq s f with|none=>rfl|some v=>cases v with|func h first c=>show(bif _ then Z else sM _ _)=(bif _ then Z else sM _ _);congr 1|_=>rfl
def Nl(l:Nat):eH->ah bh|.fJ st=>wL l st Z|.rt st=>wL l st (J .ret)|.ext id st=>wL l st (J (.exit id))
def SY(P:aH)(c:bV)(r:dW)(l:Nat)(b:Hd bM):eH->ah bh|.fJ st=>(match st.g.get l with|some (.loop r1)=>(match r1.state with|.ready=>exec P c r (J l) b.get {st with sl:=cP st.sl,g:=st.g.set l (.loop {r1 with state:=.busy})} (Nl l)|_=>Z)|_=>Z)|_=>Z
theorem asx{l n:Nat}{s:ao}{c:db}{a b:bM}{t:Tg a}{u:Tg b}{r:bh}(d:g.get l=J (uc fn n c ps (.mk a t) (.mk b u) .ready Z))(e:(aw s.length ps.length&&ps.all (λp=>cw p n))=V)(h:exec PP cf (ev PP cf) (J l) a ⟨fn,n,Ct ps s c,[],g⟩ (SY PP cf (ev PP cf) l (.mk b u))=J r):ev PP cf (.eu l s g)=J r:=by apply K4;show(match g.get l with|some (.loop r)=>_|_=>Z)=_;rw[d];show(bif aw s.length ps.length&&ps.all (λp=>cw p n)then _ else Z)=_;rw[e];exact h
theorem AH{l n:Nat}{r:ao}{s:db}{a b:bM}{t:Tg a}{u:Tg b}(c:g.get l=J (uc fn n s ps (.mk a t) (.mk b u) .ready Z))(d:(aw r.length ps.length&&ps.all (λp=>cw p n))=V)(h:Sat (exec PP cf (ev PP cf) (J l) a ⟨fn,n,Ct ps r s,[],g⟩ (SY PP cf (ev PP cf) l (.mk b u))) Q):Sat (ev PP cf (.eu l r g)) Q:=by obtain⟨v,g',h,q⟩:=h;exact⟨v,g',asx c d h,q⟩
section
variable{P:aH}{cf:bV}{rec:dW}{l f m fn n:Nat}{s sl:db}{ps:List Tmp}{a c:Hd bM}{b:bM}{u:Tg b}{lb:ew}{g:GH}{sta:LoopState}{pd:ah bM}{k:eH->ah bh}{O:St}
def R3(P:aH)(c:bV)(r:dW)(l:Nat)(b:Hd bM)(s:St):GO->ah bh|.loop r1=>(match r1.state with|.ready=>exec P c r (J l) b.get {s with sl:=cP s.sl,g:=s.g.set l (.loop {r1 with state:=.busy})} (Nl l)|_=>Z)|_=>Z
theorem ams:SY P cf rec l (.mk b u) (.fJ ⟨fn,n,sl,lb,g⟩)=(g.get l).bind (R3 P cf rec l (.mk b u) ⟨fn,n,sl,lb,g⟩):=by
 show(match g.get l with|some (.loop r1)=>_|_=>Z)=_;rcases g.get l with _|o;.rfl
 cases o<;>rfl
theorem amr:R3 P cf rec l (.mk b u) ⟨fn,n,sl,lb,g⟩ (uc f m s ps a c .ready pd)=exec P cf rec (J l) b ⟨fn,n,cP sl,lb,g.set l (uc f m s ps a c .busy pd)⟩ (Nl l):=(rfl)
def uK(l:Nat)(g:GH)(p:ah bM):GO->ah bh|.loop r=>J (.val (.dv (.bool p.isNone) .no) (g.set l (.loop {r with state:=(match p with|none=>.ready|some _=>.done),pending:=p})))|_=>Z
theorem aef{p:ah bM}:wL l ⟨fn,n,sl,lb,g⟩ p=(g.get l).bind (uK l g p):=by
 show(match g.get l with|some (.loop r)=>_|_=>Z)=_;rcases g.get l with _|o;.rfl
 cases o<;>rfl
theorem aIT:Nl l (.fJ ⟨fn,n,sl,lb,g⟩)=(g.get l).bind (uK l g Z):=aef
theorem aIU:Nl l (.rt ⟨fn,n,sl,lb,g⟩)=(g.get l).bind (uK l g (J .ret)):=aef
theorem atD:uK l g Z (uc f m s ps a c sta pd)=J (.val (.dv (.bool V) .no) (g.set l (uc f m s ps a c .ready Z))):=(rfl)
theorem atE{p:bM}:uK l g (J p) (uc f m s ps a c sta pd)=J (.val (.dv (.bool C) .no) (g.set l (uc f m s ps a c .done (J p)))):=(rfl)
theorem set_set{l:Nat}{o a:GO}:(g.set l o).set l a=g.set l a:=by
 have:∀t:List (Nat×GO),put (put t l o) l a=put t l a:=by intro t;induction t<;>grind[pJ,put]
 show(⟨g.next,put (put g.kj l o) l a⟩:GH)=⟨g.next,put g.kj l a⟩;grind
theorem aqI:HQ k O Z=k (.fJ O):=(rfl)
theorem aqJ:HQ k O (J .ret)=k (.rt O):=(rfl)
end
theorem aG7:mg []=[]:=rfl
theorem aG8{d:DV}{l:db}:mg ((t,.dv d .no)::l)=(t,.dv d .no)::mg l:=rfl
theorem aG1{d:DV}{l:db}:mg ((t,.dv d .any)::l)=(t,.dv d .any)::mg l:=rfl
theorem aG4{d:DV}{l:db}:mg ((t,.ev d)::l)=(t,.ev d)::mg l:=rfl
theorem aG5{d:DV}{l:db}:mg ((t,.dv d (.ex e))::l)=(t,.dd)::mg l:=rfl
theorem aG6{b:Nat}{l:db}:mg ((t,.lp a b)::l)=(t,.dd)::mg l:=rfl
theorem aG2{l:db}:mg ((t,.dd)::l)=(t,.dd)::mg l:=rfl
theorem aJ9{d:ao}{s:db}:Ct [] d s=s:=by cases d<;>rfl
theorem aJ8{p:Nat}{a:aE}{d:DV}{s:ao}{l:db}:Ct (p::a) (d::s) l=Ct a s (put l p (.dv d .no)):=rfl
attribute[go_sem]amr atD atE set_set ams aIT aIU aqI aqJ aG7 aG8 aG1 aG4 aG5 aG6 aG2 aJ9 aJ8 atd alo dS gU
attribute[go_sem]kr lI
theorem anG{c:bV}{s:St}{o:Op}{a:List aK}{i:Nat}:OC c rec s o x a (.eu i)=(opsV c.aq (dh s (handsOn o)) a).bind λar=>(rec (.eu i ar (dh s (handsOn o)).g)).bind λ|.val v g=>J ({dh s (handsOn o)with g:=g},v)|_=>Z:=(rfl)
theorem ul{c:Type}{n:Nat}{x:c}:∀{l:List (Nat×c)},look l n=J x->put l n x=l
 |[],h=>by cases h|(a,y)::t,h=>by
  show(bif aw a n then(n,x)::t else(a,y)::put t n x)=_;by_cases b:a=n
  . subst b;have:look ((a,y)::t) a=J y:=by show(bif aw a a then J y else look t a)=_;rw[show aw a a=V from pJ a];rfl
    rw[this]at h;cases h;rw[show aw a a=V from pJ a];rfl
  . have:look ((a,y)::t) n=look t n:=by show(bif aw a n then J y else look t n)=_;rw[kT b];rfl
    rw[this]at h;rw[kT b,ul h];rfl
theorem Z8{i:Nat}{o:GO}(h:g.get i=J o):g.set i o=g:=by show(⟨g.next,put g.kj i o⟩:GH)=g;rw[ul h]
def sj(P:aH)(t:an)(u:iM)(s:St)(d:ah Tmp)(i o:Nat):GO->ah St|.box b=>(match u,eB b o,bN P t with|.ref,.ex _,J C=>bif cw o b.cells.length then aG s d (.gr i o)else Z|_,_,_=>(fI P u t b o).bind λr=>aG {s with g:=s.g.set i (.box r.2)} d r.1)|_=>Z
theorem aBz{t:an}{n:Nat}{s:db}{d:ah Tmp}{i:Nat}{o:aN}:Mv P t u ⟨fn,n,s,lb,g⟩ d (.dv (.ptr i I) o)=(g.get i).bind (sj P t u ⟨fn,n,s,lb,g⟩ d i I):=by
 show(match g.get i with|some (.box b)=>_|_=>Z)=_;rcases g.get i with _|o;.rfl
 cases o<;>rfl
theorem aBu{t:an}{e:ao}:∀r,fI P u t ⟨e,[]⟩ I=J r->r.2=⟨e,[]⟩:=by
 intro r hr;unfold fI at hr;rcases b:bN P t with _|a;.grind
 rw[b]at hr;cases a with|true=>cases s:aW P t<;>grind|false=>
 rcases h:e[I]? with _|c;.grind
 simp only[h,gM,xL]at hr;rw[<-hr];unfold eB;simp only[h];cases c<;>cases u<;>rfl
theorem aAV{t:an}{n:Nat}{s:db}{d:ah Tmp}{i:Nat}{e:ao}:sj P t u ⟨fn,n,s,lb,g⟩ d i I (.box ⟨e,[]⟩)=(fI P u t ⟨e,[]⟩ I).bind λr=>aG ⟨fn,n,s,lb,g.set i (.box ⟨e,[]⟩)⟩ d r.1:=by
 have h:(fI P u t ⟨e,[]⟩ I).bind (λr=>aG ⟨fn,n,s,lb,g.set i (.box r.2)⟩ d r.1)=(fI P u t ⟨e,[]⟩ I).bind λr=>aG ⟨fn,n,s,lb,g.set i (.box ⟨e,[]⟩)⟩ d r.1:=by grind[fI,aBu]
 refine Eq.trans ?_ h;have:eB ⟨e,[]⟩ I=.any\/eB ⟨e,[]⟩ I=.no:=by
  unfold eB;rcases(⟨e,[]⟩:LB).cells[I]? with _|c;.exact .inr rfl
  cases c<;>first|exact .inl rfl|exact .inr rfl
 show(match u,eB ⟨e,[]⟩ I,bN P t with|.ref,.ex _,J C=>_|_,_,_=>_)=_;grind
def hD(P:aH)(t:an)(s:St)(d:ah Tmp)(x:aK)(v:DV)(w:aN)(i o:Nat):GO->ah St|.box b=>(yU P t b o v w).bind λb=>aG {aQ leave s x with sl:=cP (aQ leave s x).sl,g:=s.g.set i (.box b)} d (.tp [])|_=>Z
theorem aLQ{t:an}{n:Nat}{s:db}{d:ah Tmp}{o:aN}{i:Nat}:RW P t ⟨fn,n,s,lb,g⟩ d x v ow (.dv (.ptr i I) o)=(g.get i).bind (hD P t ⟨fn,n,s,lb,g⟩ d x v ow i I):=by
 show(match g.get i with|some (.box b)=>_|_=>Z)=_;rcases g.get i with _|o;.rfl
 cases o<;>rfl
theorem aLw{t:an}{n:Nat}{s:db}{d:ah Tmp}{i:Nat}{b:LB}:hD P t ⟨fn,n,s,lb,g⟩ d x v ow i I (.box b)=(yU P t b I v ow).bind λb=>aG {aQ leave ⟨fn,n,s,lb,g⟩ x with sl:=cP (aQ leave ⟨fn,n,s,lb,g⟩ x).sl,g:=g.set i (.box b)} d (.tp []):=(rfl)
theorem aC1{n:Nat}{l:List (Nat×GO)}:(GH.mk n l).next=n:=rfl
theorem amq{a b:List α}:((⟨a⟩:Array α)++(⟨b⟩:Array α)).toList=a++b:=aP
def Td(P:aH)(s:St)(a t i o:Nat):GO->ah ((DV×aN)×St)|.box b=>(fI P .take t b o).bind λr=>(aG {s with g:=s.g.set i (.box r.2)} (J a) r.1).bind λs=>vf s a|_=>Z
def Te(P:aH)(c:St)(a t:Nat):SV->ah ((DV×aN)×St)|.lp s I=>(look c.lb s).bind λb=>(fI P .take t b I).bind λr=>(aG {c with lb:=put c.lb s r.2} (J a) r.1).bind λc=>vf c a|.dv (.ptr id I) _=>(c.g.get id).bind (Td P c a t id I)|_=>Z
theorem aIE{c:St}:Jv P c (.cell a t)=(look c.sl a).bind (Te P c a t):=by show(match look c.sl a with|some (.lp s I)=>_|some (.dv (.ptr id I) _)=>_|_=>Z)=_;cases look c.sl a with|none=>rfl|some v=>cases v with
 |dv d o=>cases d with
  |ptr id I=>
  show(match c.g.get id with|some (.box b)=>_|_=>Z)=(c.g.get id).bind _;rcases c.g.get id with _|o;.rfl
  cases o<;>rfl|_=>rfl
 |_=>rfl
theorem an6{c:St}:Te P c a t (.lp s I)=(look c.lb s).bind λb=>(fI P .take t b I).bind λr=>(aG {c with lb:=put c.lb s r.2} (J a) r.1).bind λc=>vf c a:=(rfl)
theorem an7{s:St}{i:Nat}{o:aN}:Te P s a t (.dv (.ptr i I) o)=(s.g.get i).bind (Td P s a t i I):=(rfl)
theorem an5{s:St}{i:Nat}{b:LB}:Td P s a t i I (.box b)=(fI P .take t b I).bind λr=>(aG {s with g:=s.g.set i (.box r.2)} (J a) r.1).bind λs=>vf s a:=(rfl)
attribute[go_sem]aC1 amq aIE an6 an7 an5 anG aBz aAV aLQ aLw Z8
def hW:ah bM->LoopState|none=>.ready|some _=>.done
theorem AD{X j:Type}{i:X->ao}{h:Nat}{y o:ao}{w:GH->Prop}{f:List X}(E:wz i h y o w f){G:ah Nat}{a b:bM}{t:Tg a}{u:Tg b}{n:Nat}{l:db}{k:eH->ah bh}(p:X->j->ah bM×j)(R:ah bM->j->GH->Prop)(d:j)(I:∀m,cf.iW h (y++[.eu m]++o)=Z)(N:AB G g=V)(D:R Z d g)(M:∀c s g',R c s g'->w g')(B:∀c s g1 g2,R c s g1->Lo g.next g1 g2->R c s g2)(L:∀x s g1,tD p f d x s->R Z s g1->g.next<g1.next->g1.get g.next=J (uc fn n (mg l) ps (.mk a t) (.mk b u) .ready Z)->Sat (ev PP cf (.eu g.next (i x) g1)) λv g2=>v=.dv (.bool (p x s).1.isNone) .no/\R (p x s).1 (p x s).2 g2/\Hi (g.next+1) g1 g2/\g2.get g.next=J (uc fn n (mg l) ps (.mk a t) (.mk b u) (hW (p x s).1) (p x s).1))(O:∀g1,R (cR p f d).1 (cR p f d).2 g1->g.next<g1.next->Sat (HQ k ⟨fn,n,cP l,lb,g1⟩ (cR p f d).1) Q):Sat (Rw PP cf (ev PP cf) G ps (.mk a t) (.mk b u) ⟨fn,n,l,lb,g⟩ k (.func h y o)) Q:=by
 let A:ah bM->j->GH->Prop:=λc s g1=>R c s g1/\g.next<g1.next/\g1.get g.next=J (uc fn n (mg l) ps (.mk a t) (.mk b u) (hW c) c);have U:CM i (tD p f d) g.next (g.next+1) A p:=by
  constructor;.intro x s g1 K hr _;obtain⟨_,g2,e,rfl,r,H,z⟩:=L x s g1 K hr.1 hr.2.1 hr.2.2;exact⟨g2,e,⟨r,gE hr.2.1 H.1,z⟩,H⟩
  .intro c s g1 g2 hr z;exact⟨B _ _ _ _ hr.1 (z.mono (Ki _)),gE hr.2.1 z.1,(z.2 _ (Hr _)).trans hr.2.2⟩
 obtain⟨g1,e,hr,_⟩:=E g.next (g.next+1) j A p d U (λc s g' h=>M c s g' h.1) (g.alloc (uc fn n (mg l) ps (.mk a t) (.mk b u) .ready Z)) ⟨B _ _ _ _ D (a13 (bT _)),Hr _,by rw[kr,if_pos rfl];rfl⟩ (bT _);have F:=hr.2.2;obtain⟨v,g3,e3,q⟩:=O (g1.set g.next (uc fn n (mg l) ps (.mk a t) (.mk b u) .exhausted (cR p f d).1)) (B _ _ _ _ hr.1 (a48 (bT _))) hr.2.1;refine⟨v,g3,?_,q⟩;refine Eq.trans ?_ e3;show(bif(cf.iW h (y++[.eu g.next]++o)).isSome||!(AB G g)then Z else(ev PP cf (.call h (y++[.eu g.next]++o) .no (g.alloc (uc fn n (mg l) ps (.mk a t) (.mk b u) .ready Z)))).bind _)=_;rw[I,N,e];show(match g1.get g.next with|some (.loop r)=>_|_=>Z)=_;rw[F];cases(cR p f d).1<;>rfl
section
variable{P:aH}{cf:bV}{rec:dW}{O:St}{gs cr:aE}{l:List aB}{d:ah Tmp}{ty:an}{pos:String}{af:Array Go.Edge}{wh:ah (Nat×Bool)}{x y:aK}{t u:an}{ts:Array an}
def ahn(s:St)(d:ah Tmp):DV->DV->ah St|.int k a,.int _ b=>aG s d (.dv (.int k (bif aA b a then b else a)) .no)|_,_=>Z
theorem ald:dK P cf rec gs cr l O ⟨d,.call ⟨.builtin .min,⟨[x,y]⟩,ts⟩,ty,pos,af,wh⟩=(bj cf.aq O x).bind λa=>(bj cf.aq O y).bind (ahn O d a):=by
 show((bj _ O x).bind λb=>((bj _ O y).bind _).bind _).bind _=_;rcases bj _ O x with _|a;.rfl
 rcases bj _ O y with _|b;.rfl
 cases a<;>cases b<;>rfl
theorem aCh{k c:fT}{a b:Int}:ahn O d (.int k a) (.int c b)=aG O d (.dv (.int k (bif aA b a then b else a)) .no):=rfl
end
attribute[go_sem↓]ald
attribute[go_sem]aCh
structure cH where
 k:Int
 n:Int
 s:aE
structure aM where
 src:Int
 seq:Int
 ty:Int
 tm:Int
 kR:Sl cH
structure eC where
 v:Int
 a:Int
 b:Int
 c:Int
structure fG where
 sc:Int
 tm:Int
structure bu where
 st:Int
 bs:Sl eC
 ss:Sl fG
structure dP where
 mark:Int
 wait:Sl aM
 runs:Sl bu
 held:Sl aM
structure aC where
 q:Int
 key:cH
 e:dP
structure bq where
 marks:Sl Int
 keys:Sl aC
def cH.cells(v:cH):ao:=[iD v.k,iD v.n,.str v.s]
def cH.d(v:cH):DV:=.agg v.cells
def vl(s:Sl cH):DV:=bK s.nl (s.l.map cH.d) 55 3
def aM.cells(e:aM):ao:=[iD e.src,iD e.seq,iD e.ty,iD e.tm,vl e.kR]
def aM.d(e:aM):DV:=.agg e.cells
def de(s:Sl aM):DV:=bK s.nl (s.l.map aM.d) 86 5
def eC.cells(b:eC):ao:=[iD b.v,iD b.a,iD b.b,iD b.c]
def eC.d(b:eC):DV:=.agg b.cells
def hZ(s:Sl eC):DV:=bK s.nl (s.l.map eC.d) 196 4
def fG.cells(b:fG):ao:=[iD b.sc,iD b.tm]
def fG.d(b:fG):DV:=.agg b.cells
def jM(s:Sl fG):DV:=bK s.nl (s.l.map fG.d) 199 2
def bu.cells(c:bu):ao:=[iD c.st,hZ c.bs,jM c.ss]
def bu.d(c:bu):DV:=.agg c.cells
def mD(s:Sl bu):DV:=bK s.nl (s.l.map bu.d) 186 3
def dP.cells(e:dP):ao:=[iD e.mark,de e.wait,mD e.runs,de e.held]
def dP.d(e:dP):DV:=.agg e.cells
def aC.cells(k:aC):ao:=[iD k.q,iD k.key.k,iD k.key.n,.str k.key.s,iD k.e.mark,de k.e.wait,mD k.e.runs,de k.e.held]
def aC.d(k:aC):DV:=.agg k.cells
def jr(s:Sl aC):DV:=bK s.nl (s.l.map aC.d) 114 8
def bq.cells(o:bq):ao:=[bW o.marks,jr o.keys]
def bq.d(o:bq):DV:=.agg o.cells
theorem aku(s:Sl cH):(vl s).pure=V:=oI (ig (λ_=>rfl) _)
theorem aM.pure(e:aM):e.d.pure=V:=by simp[aM.d,aM.cells,DV.pure,cj,aku]
theorem HZ(s:Sl aM):(de s).pure=V:=oI (ig aM.pure _)
theorem RJ(s:Sl eC):(hZ s).pure=V:=oI (ig (λ_=>rfl) _)
theorem nm(s:Sl fG):(jM s).pure=V:=oI (ig (λ_=>rfl) _)
theorem bu.pure(c:bu):c.d.pure=V:=by simp[bu.d,bu.cells,DV.pure,cj,RJ,nm]
theorem KE(s:Sl bu):(mD s).pure=V:=oI (ig bu.pure _)
theorem dP.pure(e:dP):e.d.pure=V:=by simp[dP.d,dP.cells,DV.pure,cj,HZ,KE]
theorem aC.pure(e:aC):e.d.pure=V:=by simp[aC.d,aC.cells,DV.pure,cj,HZ,KE]
theorem Fg(s:Sl aC):(jr s).pure=V:=oI (ig aC.pure _)
theorem bq.pure(e:bq):e.d.pure=V:=by simp[bq.d,bq.cells,DV.pure,cj,Me,Fg]
theorem cH.qD(x:cH):x.d.aV=C:=rfl
theorem cH.pQ(x:cH):x.d.flat=x.cells:=rfl
theorem cH.pO(x:cH):x.cells.length=3:=rfl
theorem aM.qD(x:aM):x.d.aV=C:=rfl
theorem aM.pQ(x:aM):x.d.flat=x.cells:=rfl
theorem aM.pO(x:aM):x.cells.length=5:=rfl
theorem eC.qD(x:eC):x.d.aV=C:=rfl
theorem eC.pQ(x:eC):x.d.flat=x.cells:=rfl
theorem eC.pO(x:eC):x.cells.length=4:=rfl
theorem fG.qD(x:fG):x.d.aV=C:=rfl
theorem fG.pQ(x:fG):x.d.flat=x.cells:=rfl
theorem fG.pO(x:fG):x.cells.length=2:=rfl
theorem bu.qD(x:bu):x.d.aV=C:=rfl
theorem bu.pQ(x:bu):x.d.flat=x.cells:=rfl
theorem bu.pO(x:bu):x.cells.length=3:=rfl
theorem dP.qD(x:dP):x.d.aV=C:=rfl
theorem dP.pQ(x:dP):x.d.flat=x.cells:=rfl
theorem dP.pO(x:dP):x.cells.length=4:=rfl
theorem aC.qD(x:aC):x.d.aV=C:=rfl
theorem aC.pQ(x:aC):x.d.flat=x.cells:=rfl
theorem aC.pO(x:aC):x.cells.length=8:=rfl
theorem bq.qD(x:bq):x.d.aV=C:=rfl
theorem bq.pQ(x:bq):x.d.flat=x.cells:=rfl
theorem bq.pO(x:bq):x.cells.length=2:=rfl
attribute[go_sem]cH.qD cH.pQ cH.pO aM.qD aM.pQ aM.pO eC.qD eC.pQ eC.pO fG.qD fG.pQ fG.pO bu.qD bu.pQ bu.pO dP.qD dP.pQ dP.pO aC.qD aC.pQ aC.pO bq.qD bq.pQ bq.pO
attribute[go_sem]aku aM.pure HZ RJ nm bu.pure KE dP.pure aC.pure Fg bq.pure
theorem GB{c:bV}(a:z=V)(h:kn P c rec ψ=r):(bif z then W P c rec ψ else W P c rec ω)=r:=by subst a;exact h
theorem JN{c:bV}(a:z=C)(h:kn P c rec ω=r):(bif z then W P c rec ψ else W P c rec ω)=r:=by subst a;exact h
def iE(a b:Int):Int:=bif aA a b then-1 else bif aA b a then 1 else 0
def cV(p:bh->Prop)(x:ah bh):Prop:=∃r,x=J r/\p r
section
variable{p:bh->Prop}
def cV.mk{r:bh}{x:ah bh}(e:x=J r)(h:p r):cV p x:=⟨r,e,h⟩
def bw{r:bh}:cV p (J r)=p r:=propext ⟨λ⟨_,h,k⟩=>bE h▸k,λh=>⟨r,rfl,h⟩⟩
theorem cV.mono{q:bh->Prop}{x:ah bh}(h:cV p x)(k:∀r,p r->q r):cV q x:=let⟨r,a,b⟩:=h;⟨r,a,k r b⟩
theorem cX{c:bV}(h:z=V->cV p (kn P c rec ψ))(a:z=C->cV p (kn P c rec ω)):cV p (bif z then W P c rec ψ else W P c rec ω):=by
 cases z;.exact a rfl
 .exact h rfl
theorem fM{c:bV}{n:Nat}{d:Func}{i:bM}{e:List oS}{s:ao}(k:P.funcs[f]?=J d)(h:cV p (exec P c (ev P c) Z i ⟨f,n,uB 0 ow s,[],g⟩ (Cm P e)))(j:d.body=J i:=by rfl)(o:d.results=⟨e⟩:=by rfl)(t:d.ntmps=n:=by rfl)(m:c.iW f s=Z:=by rfl)(l:(yF (e.map we)&&bz s.length n&&!c.AQ f)=V:=by rfl):cV p (ev P c (.call f s ow g)):=let⟨r,a,b⟩:=h;⟨r,aO k a j o t m l,b⟩
theorem oF{g:Type}{b:bM}{t:Tg b}{d:ah Nat}{k:eH->ah bh}{m:St}(c:List α)(j:g)(S:Nat->g->St)(I:Nat->List α->g->Prop)(A:c.length<9223372036854775807)(e:S 0 j=m)(z:I 0 c j)(o:∀s,I c.length [] s->cV p ((exec PP cf (ev PP cf) d b (S c.length s) (nj PP cf (.mk b t) d)).bind (fL k)))(q:∀i x l s,(i<c.length)=True->c[i]?=J x->dQ .i64 (jX (du i) 1)=du (i+1)->I i (x::l) s->(∀f,I (i+1) l f->cV p ((lg (ev PP cf) (.mk b t) (S (i+1) f) d).bind (fL k)))->cV p ((exec PP cf (ev PP cf) d b (S i s) (nj PP cf (.mk b t) d)).bind (fL k))):cV p ((lg (ev PP cf) (.mk b t) m d).bind (fL k)):=by
 have y:∀(l:List α)(i:Nat)(s:g),i+l.length=c.length->c.drop i=l->I i l s->cV p ((lg (ev PP cf) (.mk b t) (S i s) d).bind (fL k)):=by intro l;induction l with|nil=>intro i s u _ h;obtain rfl:i=c.length:=ab;obtain⟨r,a,b⟩:=o s h;grind[im]|cons x l w=>
  intro i s u hd h;have E:i<c.length:=ai;have v:c[i]?=J x:=by grind[Hk]
  obtain⟨r,a,b⟩:=q i x l s (il E) v (vn ab) h λf n=>w _ f ai (by grind[El]) n;exact⟨r,im a,b⟩
 grind
theorem ub{b:bM}{t:Tg b}{r:ah Nat}{k:eH->ah bh}{s:St}(a:List α)(u:Nat->db)(f:a.length<9223372036854775807)(e:fu s.sl (u 0)=s.sl)(h:cV p ((exec PP cf (ev PP cf) r b ⟨s.fn,s.n,fu s.sl (u a.length),s.lb,s.g⟩ (nj PP cf (.mk b t) r)).bind (fL k)))(c:∀i x,(i<a.length)=True->a[i]?=J x->dQ .i64 (jX (du i) 1)=du (i+1)->cV p ((lg (ev PP cf) (.mk b t) ⟨s.fn,s.n,fu s.sl (u (i+1)),s.lb,s.g⟩ r).bind (fL k))->cV p ((exec PP cf (ev PP cf) r b ⟨s.fn,s.n,fu s.sl (u i),s.lb,s.g⟩ (nj PP cf (.mk b t) r)).bind (fL k))):cV p ((lg (ev PP cf) (.mk b t) s r).bind (fL k)):=oF a () (λi _=>⟨s.fn,s.n,fu s.sl (u i),s.lb,s.g⟩) (λ_ _ _=>True) f aU trivial (λ_ _=>h) λi x l _ d g w _ j=>c i x d g w (j () trivial)
theorem Ja{b:bM}{t:Tg b}{r:ah Nat}{k:eH->ah bh}{s:St}(a:List α)(u:Nat->db)(I:Nat->Prop)(j:a.length<9223372036854775807)(e:fu s.sl (u 0)=s.sl)(f:I 0)(c:I a.length->cV p ((exec PP cf (ev PP cf) r b ⟨s.fn,s.n,fu s.sl (u a.length),s.lb,s.g⟩ (nj PP cf (.mk b t) r)).bind (fL k)))(d:∀i x,(i<a.length)=True->a[i]?=J x->dQ .i64 (jX (du i) 1)=du (i+1)->I i->(I (i+1)->cV p ((lg (ev PP cf) (.mk b t) ⟨s.fn,s.n,fu s.sl (u (i+1)),s.lb,s.g⟩ r).bind (fL k)))->cV p ((exec PP cf (ev PP cf) r b ⟨s.fn,s.n,fu s.sl (u i),s.lb,s.g⟩ (nj PP cf (.mk b t) r)).bind (fL k))):cV p ((lg (ev PP cf) (.mk b t) s r).bind (fL k)):=oF a () (λi _=>⟨s.fn,s.n,fu s.sl (u i),s.lb,s.g⟩) (λi _ _=>I i) j aU f (λ_ h=>c h) λi x l _ g m w h n=>d i x g m w h (λk=>n () k)
end
def BS(r:bh):Prop:=∃n,r=vI n
def BT(r:bh):Prop:=∃b,r=vB b
def qZ{n:Int}:BS (vI n)=True:=il ⟨n,rfl⟩
def tY{b:Bool}:BT (vB b)=True:=il ⟨b,rfl⟩
section
variable{aq:Nat->ah ao}{O:St}{P:aH}{t:an}{a b c d:Nat}
theorem aFP:cZ aq O (.const (.pointer Z))=J (.dv .eS .no):=rfl
theorem aJT:DV.eS.aV=V:=rfl
theorem at2:(DV.map a).flat=[.map a]:=rfl
theorem atZ:(DV.cY a b c d t).flat=[.cY a b c d t]:=rfl
theorem aJP:(DV.cY a b c d t).aV=V:=rfl
theorem aJR:(DV.map a).aV=V:=rfl
theorem at5:DV.eS.flat=[.eS]:=rfl
end
attribute[go_sem]aFP aJT at5 at2 atZ aJP aJR
section
variable{P:aH}{cf:bV}{rec:dW}{O:St}{gs cr:aE}{l:List aB}{d:ah Tmp}{ty t:an}{pos:String}{af:Array Go.Edge}{wh:ah (Nat×Bool)}{x k:aK}
def aha(P:aH)(s:St)(d:ah Tmp)(t:an):ah (Nat×lr)->ah St|some (_,e)=>aG s d (.tp [(e.2.1,.no),(.bool V,.no)])|none=>(cE P t).bind λz=>aG s d (.tp [(z,.no),(.bool C,.no)])
theorem ala:dK P cf rec gs cr l O ⟨d,.lookup t x k V,ty,pos,af,wh⟩=(MB (P.underlying t)).bind λq=>(bj cf.aq (dh O (Op.lookup t x k V).operands.toList) x).bind λv=>(FJ v).bind λr=>(FG (dh O (Op.lookup t x k V).operands.toList).g r).bind λm=>(bj cf.aq (dh O (Op.lookup t x k V).operands.toList) k).bind λa=>bif ta P q.1 a then(findD P q.1 a m.1 0).bind (aha P (dh O (Op.lookup t x k V).operands.toList) d q.2)else Z:=by show(match P.underlying t,bj _ (dh O (Op.lookup t x k _).operands.toList) x with|some (.map b e),J (.map r)=>(match(dh O (Op.lookup t x k _).operands.toList).g.get r with|some (.map s _)=>(bj _ _ k).bind _|_=>Z)|_,_=>Z)=_;cases P.underlying t with|none=>rfl|some w=>cases w with
 |map b e=>cases bj _ _ x with|none=>rfl|some v=>cases v with
  |map r=>
  simp only[FJ,FG,MB,cU];rcases(dh O _).g.get r with _|o;.rfl
  cases o<;>rfl|_=>rfl
 |_=>rfl
end
attribute[go_sem↓]ala
attribute[go_sem]aha
theorem RS{p:bh->Prop}{c:bV}(a:z=V)(h:cV p (kn P c rec ψ)):cV p (bif z then W P c rec ψ else W P c rec ω):=by subst a;exact h
theorem D0{p:bh->Prop}{c:bV}(a:z=C)(h:cV p (kn P c rec ω)):cV p (bif z then W P c rec ψ else W P c rec ω):=by subst a;exact h
theorem amz(s:Sl eC):(hZ s).aV=V:=Nu
theorem aK8(s:Sl fG):(jM s).aV=V:=Nu
theorem asA(s:Sl aM):(de s).aV=V:=Nu
theorem acn(s:Sl bu):(mD s).aV=V:=Nu
theorem HP{a:Bool}{n:Nat}:(bK a l e n).flat=[bK a l e n]:=by
 unfold bK;split;.cases a<;>rfl
 rfl
theorem amx(s:Sl eC):(hZ s).flat=[hZ s]:=HP
theorem aK7(s:Sl fG):(jM s).flat=[jM s]:=HP
theorem asz(s:Sl aM):(de s).flat=[de s]:=HP
theorem acm(s:Sl bu):(mD s).flat=[mD s]:=HP
theorem aNt(s:Sl cH):(vl s).flat=[vl s]:=HP
attribute[go_sem]amx aK7 asz acm aNt
attribute[go_sem]amz aK8 asA acn
theorem aGA{l:List aM}:cj (l.map aM.d)=V:=ig aM.pure _
theorem aGx{l:List eC}:cj (l.map eC.d)=V:=ig (λ_=>rfl) _
theorem aGH{l:List fG}:cj (l.map fG.d)=V:=ig (λ_=>rfl) _
theorem aGy{l:List bu}:cj (l.map bu.d)=V:=ig bu.pure _
theorem WH{l:List aC}:cj (l.map aC.d)=V:=ig aC.pure _
theorem WI{l:List bq}:cj (l.map bq.d)=V:=ig bq.pure _
attribute[go_sem]aGA aGx aGH aGy WH WI
theorem Lz:∀e:ae,e.nn<100000000->CC 228 [.agg e.cells] (vT [iO (.ofNat e.nn),iO (.ofNat e.dep)])
 |.mk j g args t v c p o,n=>by
  simp only[ae.nn]at n;refine aO func228 ?_;have hd:=ae.Br args 0;simp only[go_sem,f228,ae.cells,ae.dep,ae.nn];refine tb args ((1,0):Nat×Nat) (λi s=>[(13,iS i),(4,iS s.1),(5,iS s.2)]) (λ_ l s=>vT [iO (.ofNat (s.1+ae.bP l)),iO (.ofNat (ae.nH l s.2+1))]) (λ_ l s=>s.1+ae.bP l<100000000/\s.2+ae.bP l<100000000) (by have:=a38 args;omega) rfl (by simp only;omega) (by simp only[Nat.add_comm]) (λs h=>?_) (λi x l s b a w h d=>?_);.simp only[ae.bP]at h;simp only[go_sem,ae.nH,ae.bP,vq,vn (show s.2+1<9223372036854775808 by omega)]
  .simp only[ae.bP]at h;have hr:=Lz x ab;have f:=ae.EB x;simp only[go_sem,b,a,w,hr,ae.nH,ae.bP,Ou,AS (show s.1+x.nn<9223372036854775808 by omega),<-A9];exact d (s.1+x.nn,max s.2 x.dep) (by simp only;omega)termination_by e=>pM e decreasing_by simp_wf;have:=pI (dw a);omega
abbrev OX:ae->ao:=λq=>[.agg q.cells]
section
variable{σ:Type}{n k:Nat}{ok:ae->σ->Prop}{rel:ah bM->σ->GH->Prop}{step:ae->σ->ah bM×σ}
def ep(k:Nat)(g:GH)(e:ah bM->σ->GH->Prop)(r:ah bM×σ)(v:SV)(a:GH):Prop:=v=.dv (.bool r.1.isNone) .no/\e r.1 r.2 a/\Hi k g a
theorem aMe(U:CM OX ok n k rel step)(j h r t e o p d)(Q:r.length<1100000)(s:σ)(w:∀q f,tD step (nodes (.mk j h r t e o p d)) s q f->ok q f)(Y:∀x,x∈r->∀s g,(∀q f,tD step (nodes x) s q f->ok q f)->rel Z s g->k<=g.next->Sat (ev PP cf (.call 277 [.agg x.cells,.eu n] .no g)) (ep k g rel (cR step (nodes x) s)))(g:GH)(L:rel Z s g)(K:k<=g.next):Sat (ev PP cf (.call 277 [.agg (ae.mk j h r t e o p d).cells,.eu n] .no g)) (ep k g rel (cR step (nodes (.mk j h r t e o p d)) s)):=by obtain⟨g1,e1,r1,F⟩:=U.run _ s g (w _ _ ⟨[],eU r,by rfl,rfl⟩) L K;refine nw func277 ?_;have P:∀pre,cR step (.mk j h r t e o p d::pre) s=match(step (.mk j h r t e o p d) s).1 with|none=>cR step pre (step (.mk j h r t e o p d) s).2|some c=>(J c,(step (.mk j h r t e o p d) s).2):=λpre=>vA _ _ _ _;rw[nodes]at w|-;rw[vA];generalize step (.mk j h r t e o p d) s=z at*;simp only[OX,ae.cells,go_sem]at e1;obtain⟨c,m⟩:=z;cases c with|some c=>simp only[sN]at e1;simp only[go_sem,f277,ae.cells,e1];exact⟨rfl,r1,F⟩|none=>
 simp only[rJ]at e1;simp only[go_sem,f277,ae.cells,e1];refine Ap r (m,g1) (λi _=>[(14,iS i)]) (λs=>s.2) (λ_ l f=>rel Z f.1 f.2/\Hi k g f.2/\cR step (eU l) f.1=cR step (eU r) m/\∃done,eU r=done++eU l/\cR step done m=(Z,f.1)) ab rfl rfl ⟨r1,F,rfl,[],rfl,rfl⟩ (λf I=>?_) (λi x l f H A M I N=>?_);.simp only[go_sem];obtain⟨a,b,c,_⟩:=I;rw[<-c];exact⟨rfl,a,b⟩
 . obtain⟨a,b,c,u,d1,d2⟩:=I;obtain⟨v,g2,e2,rfl,r2,G⟩:=Y x (dw A) f.1 f.2 (by rintro q D⟨pre,post,R,S⟩;refine w q D ⟨.mk j h r t e o p d::(u++pre),post++eU l,?_,?_⟩;all_goals grind[eU,yh]) a (gj K b.1);rw[eU,yh]at c;have d3:cR step (u++nodes x) m=cR step (nodes x) f.1:=by grind[yh]
   generalize cR step (nodes x) f.1=y at*;obtain⟨E,O⟩:=y;cases E with|none=>have B:=N (O,g2) ⟨r2,b.trans G,c,u++nodes x,by grind[eU],d3⟩;simp only[rJ]at e2;simp only[go_sem,H,A,M,e2]at B|-;omega|some E=>simp only[sN]at e2;simp only[go_sem,H,A,e2];rw[<-c];exact⟨rfl,r2,b.trans G⟩
theorem ae.MJ:∀(l:bt)(x:ae),x∈l->∀q,q∈nodes x->q∈eU l
 |[],_,h,_,_=>by simp at h|y::l,x,h,q,a=>by
  rw[eU,CH];rcases CI.1 h with rfl|h;.exact .inl a
  .exact .inr (ae.MJ l x h q a)
theorem Ls(U:CM OX ok n k rel step):∀p:ae,p.nn<1100000->∀s g,(∀q a,tD step (nodes p) s q a->ok q a)->rel Z s g->k<=g.next->Sat (ev PP cf (.call 277 [.agg p.cells,.eu n] .no g)) (ep k g rel (cR step (nodes p) s))|.mk i l args t v c b o,f,s,g,e,hr,d=>by simp only[ae.nn]at f;exact aMe U _ _ _ _ _ _ _ _ (by have:=a38 args;omega) s e (λx h=>Ls U x (by have:=ae.sC args _ h;omega)) g hr d termination_by p=>pM p decreasing_by simp_wf;have:=pI h;omega
end
def UF(g:GH)(b:Nat)(p:ae):Prop:=g.get b=J (.box ⟨p.cells,[]⟩)
theorem Qw(b:Nat)(p:ae)(e:p.nn<1100000):wz OX 276 [] [.ptr b 0] (UF . b p) (nodes p):=by intro n k j r step s U f g hr d;have c:g.get b=J _:=f _ _ _ hr;obtain⟨v,g2,e2,rfl,r2,a⟩:=Ls U p e s g (λq i h=>h) hr d;refine⟨g2,?_,r2,a⟩;refine aO func276 ?_;simp only[go_sem,f276,c,e2]
mutual
def Expr.same : Expr -> Expr -> Bool
  | .mk op _ args var e n k num str, .mk A _ x w L M l K N => aj op A && (aj var w && (aj e L && (aj n M && (DX k num str l K N && Expr.AG args x))))
def Expr.AG : List Expr -> List Expr -> Bool
  | [], [] => V
  | x :: s, y :: a => x.same y && Expr.AG s a
  | _, _ => C
end
theorem Expr.JI:∀s a:List Expr,Expr.AG s a=ly Expr.same s a|[],[]=>rfl|x::s,y::a=>by simp only[Expr.AG,ly,Expr.JI s a];cases x.same y<;>rfl|[],_::_=>rfl|_::_,[]=>rfl
theorem Expr.rR:∀l:List Expr,Expr.bn l=l.map λe=>.agg e.cells|[]=>rfl|e::l=>by simp[Expr.bn,Expr.rR l]
theorem ae.rR:∀l:bt,ae.bn l=l.map λe=>.agg e.cells|[]=>rfl|e::l=>by simp[ae.bn,ae.rR l]
def a56:=@ae.rR
theorem aL8(o j a v Q n k u s A H P w L M c K N)(q:a.length<1000000000)(Y:∀x,x∈a->∀d:Expr,CC 272 [.agg x.cells,.agg d.cells] (vB (x.same d))):CC 272 [.agg (Expr.mk o j a v Q n k u s).cells,.agg (Expr.mk A H P w L M c K N).cells] (vB ((Expr.mk o j a v Q n k u s).same (.mk A H P w L M c K N))):=by
 refine aO func272 ?_;have hd:=aLd;simp only[bp,opsOf,f272,go_sem]at hd;by_cases e:a.length=P.length
 . simp only[go_sem,f272,Expr.cells,Expr.same,Expr.JI,Kq _ _ e];repeat'(with_reducible apply sp<;>intro h<;>simp only[h,e,go_sem])
   refine gC (a.zip P) (λi=>[(51,iS i)]) (λi l=>vB (l.all λp=>p.1.same p.2)) ai rfl rfl ?_ (λi x l f b m g=>?_);.simp only[go_sem,Ee e,nY,e]
   .obtain⟨b,y⟩:=Sq b;rw[Ee e,e]at f;have hr:=Y x.1 (dw b) x.2;simp only[go_sem,hd,f,b,y,hr,pH]at g|-;apply sp<;>intro h<;>simp only[h,m,g,go_sem]
 .simp only[go_sem,f272,Expr.cells,Expr.same,Expr.JI,Kp _ _ e];repeat'(with_reducible apply sp<;>intro h<;>simp only[h,e,go_sem])
theorem EG:∀e d:Expr,e.nn<100000000->CC 272 [.agg e.cells,.agg d.cells] (vB (e.same d))|.mk o a args v Q g k num str,.mk A H P w L M l K N,n=>by simp only[Expr.nn]at n;exact aL8 _ _ _ _ _ _ _ _ _ _ _ _ _ _ _ _ _ _ (by have:=a50 args;omega) λx h d=>EG x d (by have:=Expr.sC args _ h;omega)termination_by e=>pM e decreasing_by simp_wf;have:=pI h;omega
def ph(o:Int):Bool:=aj o 5||aj o 9
def ml(o:Int):Bool:=aj o 0||ph o
def GA(o:Int):Bool:=aj o 6||aj o 10
def AI(o:Int):Bool:=ph o||GA o
def CZ(o:Int):Bool:=ml o||aj o 7
def QE(o:Int):Int:=bif aj o 0 then 0 else bif aj o 1||(aj o 2||(aj o 3||aj o 8))then 2 else 1
def QR(o:Int):Int:=bif aj o 0 then 0 else bif aj o 1||(aj o 2||aj o 3)then 64 else bif aj o 8 then 2 else 1
theorem au7:cf.aq 0=J Pv:=(rfl)
theorem au8:cf.aq 1=J Pw:=(rfl)
theorem aBT(m:Nat):aA (.ofNat m) 0=C:=by rfl
theorem ahi(m:Nat):aA (.negSucc m) 0=V:=rfl
theorem ayl{s:St}{d:ah Tmp}(h:aA (.ofNat m) 11=V):Ak PP s d (.global 1) m (J (.array 11 339)) (.ev (.agg Pw))=aG s d (.ev (.agg [iD (QE (.ofNat m)),iD (QR (.ofNat m)),.bool (ml (.ofNat m)),.bool (CZ (.ofNat m)),.bool (AI (.ofNat m)),.bool (GA (.ofNat m))])):=by
 have:m<11:=by grind[fX]
 match m,this with|0,_|1,_|2,_|3,_|4,_|5,_|6,_|7,_|8,_|9,_|10,_=>rfl
def iA(o:Int):Bool:=!(aj o 2||aj o 4)
def tv(o:Int):Bool:=aj o 0||(aj o 5||aj o 7)
theorem ayk{s:St}{d:ah Tmp}(h:aA (.ofNat m) 8=V):Ak PP s d (.global 0) m (J (.array 8 314)) (.ev (.agg Pv))=aG s d (.ev (.agg [.bool (iA (.ofNat m)),.bool (tv (.ofNat m))])):=by
 have:m<8:=by grind[fX]
 match m,this with|0,_|1,_|2,_|3,_|4,_|5,_|6,_|7,_=>rfl
attribute[go_sem]au7 au8 ayl ayk aBT ahi CD
def tX(u:Bool)(n m:Int):Bool:=bif u then !aA n 0&&!aA m n else V
theorem arW(u:Bool)(n m:Int):CC 278 [.bool u,iD n,iD m] (vB (tX u n m)):=by refine aO func278 ?_;cases u<;>simp only[go_sem,f278,tX];repeat'(with_reducible apply sp<;>intro h<;>simp only[h,go_sem])
def yX(u:Bool)(n:Int):Bool:=bif u then V else aj n 0
theorem arX(u:Bool)(n:Int):CC 279 [.bool u,iD n] (vB (yX u n)):=by refine aO func279 ?_;cases u<;>simp only[go_sem,f279,yX]
def J7:Expr:=.mk 0 V [] 0 0 0 0 0 []
def aN4(c:Expr)(h:c.nn<100000000):CC 272 [.agg c.cells,.agg [iD 0,.nl,iD 0,iD 0,iD 0,iD 0,iD 0,.str []]] (vB (c.same J7)):=EG c J7 h
def F9(o:Int)(n:Nat)(t v s p e:Int)(m:Bool):Int:=bif aA o 0||!aA o 11 then 1 else bif aA (.ofNat n) (QE o)||aA (QR o) (.ofNat n)then 15 else bif tX (ml o) t 15&&(tX (ml o) v 15&&(tX (AI o) s 63&&tX (GA o) p 1099511627776))then bif CZ o&&!aj e 0 then e else bif(CZ o||m)&&(yX (ml o) t&&(yX (ml o) v&&(yX (AI o) s&&yX (GA o) p)))then 0 else 3 else 2
def ae.iV:ae->Int|.mk op _ args ty var scope s cond=>F9 op args.length ty var scope s cond.nG (cond.same J7)
theorem arQ(o n a t v s p)(c:Expr)(f:c.nn<1100000):CC 229 [.agg (ae.mk o n a t v s p c).cells] (vI (ae.mk o n a t v s p c).iV):=by have d:=HU c ab;have e:=aN4 c ab;refine aO func229 ?_;cases o with|negSucc m=>simp only[go_sem,f229,ae.cells,ae.iV,F9]|ofNat m=>cases b:aA (.ofNat m) 11 with|false=>simp only[go_sem,f229,ae.cells,b,ae.iV,F9]|true=>simp only[go_sem,f229,ae.cells,b,ae.iV,F9];repeat'(with_reducible apply sp<;>intro h<;>simp only[h,d,e,arW,arX,go_sem])
def ae.cond:ae->Expr|.mk _ _ _ _ _ _ _ cond=>cond
def ae.op:ae->Int|.mk op _ _ _ _ _ _ _=>op
def ae.var:ae->Int|.mk _ _ _ _ var _ _ _=>var
def ae.scope:ae->Int|.mk _ _ _ _ _ scope _ _=>scope
structure lX(p:ae):Prop where
 a:p.nn<1100000
 b:∀q∈nodes p,q.cond.nn<1100000
def Bw:bt->Int|[]=>0|q::l=>bif aj q.iV 0 then Bw l else q.iV
def ae.uF(p:ae):Int:=bif aA 64 (.ofNat p.nn)then 5 else bif aA 12 (.ofNat p.dep)then 12 else Bw (nodes p)
def RY(q:ae)(s:Int):ah bM×Int:=bif aj q.iV 0 then(Z,s)else(J .ret,q.iV)
theorem O6(p:ae)(g:GH):ev PP cf (.call 226 [.agg p.cells] .no g)=J (.val (.dv (.func 276 [] [.ptr g.next 0]) .no) (g.alloc (.box ⟨p.cells,[]⟩))):=by refine aO func226 ?_;simp only[go_sem,f226]
theorem Ji:∀(l:bt),cR RY l 0=(bif aj (Bw l) 0 then Z else J .ret,Bw l)|[]=>rfl|q::l=>by simp only[cR,RY,Bw];cases h:aj q.iV 0 with|true=>simpa using Ji l|false=>simp[h]
theorem arR(q:ae)(h:q.cond.nn<1100000):CC 229 [.agg q.cells] (vI q.iV):=by obtain⟨op,nl,args,ty,var,scope,s,cond⟩:=q;exact arQ _ _ _ _ _ _ _ _ h
theorem O5(p:ae)(b:lX p):Sat (ev PP cf (.call 175 [.agg p.cells] .no .empty)) λv _=>v=zS p.uF:=by
 refine nw func175 ?_;simp only[go_sem,f175,Lz p (by have:=b.a;omega),ae.uF];apply hJ<;>intro h<;>simp only[h,go_sem];apply hJ<;>intro h<;>simp only[h,go_sem,O6];refine AD (Qw 2 p b.a) RY (λc s g'=>g'.get 1=J (.box ⟨[iD s],[]⟩)/\g'.get 2=J _) 0 (λm=>rfl) rfl ⟨rfl,rfl⟩ (λc s g' h=>h.2) (λc s g1 g2 h l=>⟨(l.2 1 ai).trans h.1,(l.2 2 ai).trans h.2⟩) (λx s g1 d R hN L=>?_) (λg1 R hN=>?_);.refine AH L rfl ?_;have a:=arR x (b.b x d.mem);simp only at hN L;have n:∀i,i<=3->(i=g1.next)=False:=λi h=>cK ab;have e:∀i,i<=3->(g1.next=i)=False:=λi h=>cK ab;simp only[go_sem,a,L,n,e,RY];apply hJ<;>intro h<;>simp only[h,go_sem,R.1,R.2,L,n]<;>exact⟨rfl,⟨trivial,trivial⟩,oz,rfl⟩
 .rw[Ji]at R|-;have a:=R.1;cases h:aj (Bw (nodes p)) 0<;>simp only[a,go_sem];rw[tI h]
def ae.GS(p:ae):Int:=bif aj p.uF 0 then(bif(nodes p).any (λq=>!aA q.op 8)then 1 else 0)else p.uF
def RZ(q:ae)(s:Int):ah bM×Int:=bif aA q.op 8 then(Z,s)else(J .ret,1)
theorem Jh:∀(l:bt),cR RZ l 0=bif l.any (λq=>!aA q.op 8)then(J .ret,1)else(Z,0)|[]=>rfl|q::l=>by simp only[cR,RZ,zo];cases h:aA q.op 8 with|true=>simpa using Jh l|false=>simp
theorem arJ(p:ae)(b:lX p):Sat (ev PP cf (.call 218 [.agg p.cells] .no .empty)) λv _=>v=zS p.GS:=by
 obtain⟨_,g0,e,rfl⟩:=O5 p b;refine nw func218 ?_;simp only[go_sem,f218,e,ae.GS];apply hJ<;>intro h<;>simp only[h,go_sem,O6];refine AD (Qw 2 p b.a) RZ (λc s g'=>g'.get 1=J (.box ⟨[iD s],[]⟩)/\g'.get 2=J _) 0 (λm=>rfl) rfl ⟨rfl,rfl⟩ (λc s g' h=>h.2) (λc s g1 g2 h l=>⟨(l.2 1 ai).trans h.1,(l.2 2 ai).trans h.2⟩) (λx s g1 g R hN L=>?_) (λg1 R hN=>?_);.refine AH L rfl ?_;simp only at hN L;have n:∀i,i<=3->(i=g1.next)=False:=λi h=>cK ab;have f:∀i,i<=3->(g1.next=i)=False:=λi h=>cK ab;obtain⟨op,nl,args,ty,var,scope,d,cond⟩:=x;simp only[go_sem,L,n,f,RZ,ae.op,ae.cells];apply hJ<;>intro h<;>simp only[h,go_sem,R.1,R.2,L,n]<;>exact⟨rfl,aU,oz,rfl⟩
 .rw[Jh]at R|-;have a:=R.1;cases h:(nodes p).any _<;>rw[h]at a<;>simp only[aR,ch]at a<;>simp only[a,go_sem]
def N5(z:Int):Int:=dQ .i64 (jX z 1)
def vz(s:Int×Int×Bool)(q:ae):Int×Int×Bool:=let t:=bif ml q.op then(N5 s.1,s.2.1,s.2.2&&aj q.var s.1)else s
 bif AI q.op then(t.1,N5 t.2.1,t.2.2&&aj q.scope t.2.1)else t
def zH(l:bt):Int×Int×Bool:=l.foldl vz (0,0,V)
def RX(q:ae)(s:Int×Int×Bool):ah bM×(Int×Int×Bool):=(Z,vz s q)
theorem aez:∀(l:bt)(s:Int×Int×Bool),cR RX l s=(Z,l.foldl vz s)|[],_=>rfl|q::l,s=>by simp only[cR,RX,A7];exact aez l _
theorem Lb:∀{l:bt},Bw l=0->∀q∈l,q.iV=0|a::l,h,q,m=>by simp only[Bw]at h;cases b:aj a.iV 0 with
 |true=>
 rw[b]at h;rcases CI.1 m with rfl|m;.exact tI b
 .exact Lb h q m|false=>rw[b]at h;rw[show a.iV=0 from h]at b;simp[aj]at b
theorem OK(h:p.uF=0):Bw (nodes p)=0/\p.nn<=64/\p.dep<=12:=by grind[ae.uF,fX]
theorem A2{q:ae}(h:q.iV=0):∃m:Nat,q.op=.ofNat m/\aA (.ofNat m) 11=V:=by obtain⟨op,nl,args,ty,var,scope,s,cond⟩:=q;simp only[ae.iV,F9]at h;cases a:aA op 0 with|true=>grind|false=>
 rcases b:aA op 11 with _|_;.grind
 simp only[fX,C0,jB]at a b;exact⟨op.toNat,by grind[ae.op],ai⟩
theorem LW(p:ae)(j:p.nn<1100000)(w:∀q∈nodes p,q.iV=0):Sat (ev PP cf (.call 171 [.agg p.cells] .no .empty)) λv _=>v=.tp [iO (zH (nodes p)).1,iO (zH (nodes p)).2.1,bO (zH (nodes p)).2.2]:=by
 have hd:=aLe;simp only[bp,opsOf,f171,go_sem]at hd;refine nw func171 ?_;simp only[go_sem,f171,O6];refine AD (Qw 4 p j) RX (λc s g'=>g'.get 1=J (.box ⟨[iD s.1],[]⟩)/\g'.get 2=J (.box ⟨[iD s.2.1],[]⟩)/\g'.get 3=J (.box ⟨[.bool s.2.2],[]⟩)/\g'.get 4=J (.box ⟨p.cells,[]⟩)) (0,0,V) (λm=>rfl) rfl ⟨rfl,rfl,rfl,rfl⟩ (λc s g' h=>h.2.2.2) (λc s g1 g2 h l=>⟨(l.2 1 aU).trans h.1,(l.2 2 aU).trans h.2.1,(l.2 3 aU).trans h.2.2.1,(l.2 4 aU).trans h.2.2.2⟩) (λx s g1 k R hN L=>?_) (λg1 R hN=>?_)
 . refine AH L rfl ?_;simp only at hN L;have n:∀i,i<=5->(i=g1.next)=False:=λi h=>cK ab;have o:∀i,i<=5->(i=g1.next+1)=False:=λi h=>cK ab;have b:∀i,i<=5->(g1.next=i)=False:=λi h=>cK ab;have d:∀i,i<=5->(g1.next+1=i)=False:=λi h=>cK ab;have e:(g1.next+1=g1.next)=False:=cK ab;have t:(g1.next=g1.next+1)=False:=cK ab;obtain⟨m,a,l⟩:=A2 (w x k.mem);obtain⟨op,nl,args,ty,var,scope,g,cond⟩:=x;obtain⟨z,y,u⟩:=s;obtain⟨r1,r2,r,f⟩:=R;simp only[ae.op]at a;subst a;simp only[go_sem,L,l,n,b,d,e,RX,vz,ae.op,ae.var,ae.scope,ae.cells];cases u<;>repeat'(with_reducible apply hJ<;>intro h<;>simp only[h,go_sem,r1,r2,r,f,L,n,o,b,d,e,t,N5])
   all_goals exact⟨rfl,⟨trivial,trivial,trivial,trivial⟩,oz,rfl⟩
 .rw[aez]at R|-;obtain⟨r1,r2,r,f⟩:=R;simp only[r1,r2,r,hd,go_sem,zH]
def ae.ji(p:ae):Int:=bif aj p.GS 0 then(bif(zH (nodes p)).2.2 then 0 else 14)else p.GS
theorem Se(h:p.GS=0):p.uF=0/\((nodes p).any λq=>!aA q.op 8)=C:=by
 unfold ae.GS at h;rcases a:aj p.uF 0 with _|_;.simp_all[aj]
 grind[tI]
theorem OJ(h:p.ji=0):p.GS=0:=by grind[ae.ji,tI]
theorem O3(p:ae)(a:lX p):CC 168 [.agg p.cells] (vI p.ji):=by obtain⟨_,g0,b,rfl⟩:=arJ p a;refine aO func168 ?_;simp only[go_sem,f168,b,ae.ji];apply sp<;>intro h<;>simp only[h,go_sem];obtain⟨_,g1,c,rfl⟩:=LW p a.a (Lb (OK (Se (tI h)).1).1);simp only[go_sem,c];apply sp<;>intro h<;>simp only[h,go_sem]
def kK(p:ae):Int×Int×Int:=bif aj p.ji 0 then((zH (nodes p)).1,(zH (nodes p)).2.1,0)else(0,0,p.ji)
theorem adt(p:ae)(a:lX p):CC 103 [.agg p.cells] (vT [iO (kK p).1,iO (kK p).2.1,iO (kK p).2.2]):=by have b:=O3 p a;refine aO func103 ?_;simp only[go_sem,f103,b,kK];apply sp<;>intro h<;>simp only[h,go_sem];obtain⟨_,g1,c,rfl⟩:=LW p a.a (Lb (OK (Se (OJ (tI h))).1).1);simp only[go_sem,c]
section
variable(op:Int)(nl:Bool)(U:bt)(ty var scope span:Int)(cond:Expr)
def uA(o:Int)(n:Nat):Bool:=bif aj o 0 then aj (.ofNat n) 0 else bif aj o 1||(aj o 2||aj o 3)then !aA (.ofNat n) 2 else bif aj o 8 then aj (.ofNat n) 2 else aj (.ofNat n) 1
theorem TA(o:Int)(n:Nat)(h:n<=64):(aA (.ofNat n) (QE o)||aA (QR o) (.ofNat n))=!uA o n:=by grind[QE,QR,uA,fX,jl]
end
theorem ayr{i:Nat}{l:db}{d:ah Tmp}:Ak P ⟨fn,m,l,lb,g⟩ d x i (J (.slice e)) (.sr s)=((look l s).bind Pe).bind λy=>(aW P e).bind λn=>bif aw n y.2.2&&(aw y.2.1 e&&cw i y.1.length)then aG ⟨fn,m,l,lb,g⟩ d (.se s i 0)else Z:=by show(nK _ s).bind _=_;rw[T9]
theorem ctW{c:bV}{b:ah bh}:cond V (W P c rec ψ) b=kn P c rec ψ:=(rfl)
theorem cfW{c:bV}{b:ah bh}:cond C b (W P c rec ψ)=kn P c rec ψ:=(rfl)
theorem aqV:aj 1 0=C/\aj 2 0=C/\aj 3 0=C/\aj 4 0=C/\aj 5 0=C/\aj 6 0=C/\aj 7 0=C/\aj 8 0=C/\aj 9 0=C/\aj 10 0=C/\aj 11 0=C/\aj 12 0=C/\aj 13 0=C/\aj 14 0=C/\aj 15 0=C/\aj 16 0=C/\aj 17 0=C/\aj 18 0=C/\aj 19 0=C/\aj 20 0=C/\aj 21 0=C/\aj 22 0=C/\aj 23 0=C:=ft
attribute[go_sem]aqV
attribute[go_sem 1100]ctW cfW
attribute[go_sem]ayr
mutual
theorem ae.Wf : ∀ (p q : ae), q ∈ nodes p -> q.nn <= p.nn
  | .mk o n args t v s a c, q, h => by
    rw [nodes] at h
    rcases CI.1 h with rfl | h
    · exact bT _
    · have := ae.ahU args q h
      simp only [ae.nn]; omega
theorem ae.ahU : ∀ (l : bt) (q : ae), q ∈ eU l -> q.nn <= ae.bP l
  | [], _, h => by simp [eU] at h
  | p :: l, q, h => by
    rw [eU, CH] at h
    simp only [ae.bP]
    rcases h with h | h
    · have := ae.Wf p q h; omega
    · have := ae.ahU l q h; omega
end
theorem Q3(p:ae):(nodes p).length=p.nn:=by have:=FW [p];grind[eU,ae.bP]
theorem Tk:∀(l:bt)(a b:Int),(l.foldl vz (a,b,C)).2.2=C
 |[],_,_=>rfl|q::l,a,b=>by
  have e:∃c d,vz (a,b,C) q=(c,d,C):=by unfold vz;cases ml q.op<;>cases AI q.op<;>simp
  obtain⟨c,d,e⟩:=e;rw[A7,e];exact Tk l c d
def lJ(l:cG)(v:Int):Bool:=l.any λx=>aj x v
theorem TV(a b:Int):aj a b=aj b a:=by grind[jl]
theorem arG(s:Sl Int)(v:Int)(d:s.l.length<1200000):CC 315 [bW s,iD v] (vI (iU (λx=>aj x v) s.l 0)):=by
 refine aO func315 ?_;simp only[go_sem,f315];refine gC _ (λi=>[(8,iS i)]) (λi l=>vI (iU _ l i)) ab rfl rfl ?_ (λi x l b c w a=>?_);.simp only[go_sem,iU]
 .simp only[go_sem,b,c,iU,TV v x]at a|-;apply sp<;>intro h<;>simp only[h,w,a,go_sem]
theorem T0(s:Sl Int)(v:Int)(l:s.l.length<1200000):CC 259 [bW s,iD v] (vB (lJ s.l v)):=by have h:=arG s v l;simp only[go_sem]at h;refine aO func259 ?_;simp only[go_sem,f259,h,Al,lJ]
structure qM where
 us:Sl Int
 si:Sl Int
 fb:Int
def qM.d(p:qM):DV:=.agg [bW p.us,bW p.si,iD p.fb]
def Up(p:qM)(o v:Int):Int:=bif aj o 1||aj o 2 then(bif lJ p.us.l v then(bif lJ p.si.l v then 0 else 11)else 10)else bif aj o 3||aj o 4 then(bif lJ p.us.l v then(bif aj v p.fb then 11 else 0)else 10)else 0
mutual
def Expr.Bx (p : qM) : Expr -> Int
  | .mk op _ args var _ _ _ _ _ => bif aj (Up p op var) 0 then Expr.Ic p args else Up p op var
def Expr.Ic (p : qM) : List Expr -> Int
  | [] => 0
  | e :: l => bif aj (e.Bx p) 0 then Expr.Ic p l else e.Bx p
end
theorem aub(o:Int):(aj o 1=V/\aj o 2=C/\aj o 3=C/\aj o 4=C/\aA o 1=C/\aA 4 o=C)\/(aj o 1=C/\aj o 2=V/\aj o 3=C/\aj o 4=C/\aA o 1=C/\aA 4 o=C)\/(aj o 1=C/\aj o 2=C/\aj o 3=V/\aj o 4=C/\aA o 1=C/\aA 4 o=C)\/(aj o 1=C/\aj o 2=C/\aj o 3=C/\aj o 4=V/\aA o 1=C/\aA 4 o=C)\/(aj o 1=C/\aj o 2=C/\aj o 3=C/\aj o 4=C/\aA o 1=V/\aA 4 o=C)\/(aj o 1=C/\aj o 2=C/\aj o 3=C/\aj o 4=C/\aA o 1=C/\aA 4 o=V):=by simp only[jl,fX,jB,C0];omega
theorem sxf{n:Nat}(N:n=212)(p:qM)(y:p.us.l.length<1200000)(z:p.si.l.length<1200000)(o t r v Q g k u s)(A:r.length<1100000)(Y:∀x,x∈r->CC n [.agg x.cells,p.d] (vI (x.Bx p))):CC n [.agg (Expr.mk o t r v Q g k u s).cells,p.d] (vI ((Expr.mk o t r v Q g k u s).Bx p)):=by
 have e3:=T0 p.us v y;have e4:=T0 p.si v z;simp only[go_sem]at e3 e4;subst N;refine aO func212 ?_;rcases aub o with⟨a,b,c,d,e,f⟩|⟨a,b,c,d,e,f⟩|⟨a,b,c,d,e,f⟩|⟨a,b,c,d,e,f⟩|⟨a,b,c,d,e,f⟩|⟨a,b,c,d,e,f⟩;all_goals simp only[go_sem,f212,Expr.cells,qM.d,Expr.Bx,Up,a,b,c,d,e,f,e3];repeat'(with_reducible apply sp<;>intro h<;>simp only[h,e4,go_sem])
 all_goals
 first|refine gC r (λi=>[(54,iS i)]) (λ_ l=>vI (Expr.Ic p l)) ab rfl rfl ?_ (λi x l q j w m=>?_)|refine gC r (λi=>[(7,iS i)]) (λ_ l=>vI (Expr.Ic p l)) ab rfl rfl ?_ (λi x l q j w m=>?_)
 .simp only[go_sem,Expr.Ic]
 .have hr:=Y x (dw j);simp only[go_sem,qM.d]at hr;simp only[go_sem,q,j,hr,Expr.Ic]at m|-;apply sp<;>intro h<;>simp only[h,w,m,go_sem]
theorem T1(p:qM)(h:p.us.l.length<1200000)(a:p.si.l.length<1200000):∀e:Expr,e.nn<1100000->CC 212 [.agg e.cells,p.d] (vI (e.Bx p))|.mk o l args v Q g k num str,n=>by simp only[Expr.nn]at n;exact sxf rfl p h a _ _ _ _ _ _ _ _ _ (by have:=a50 args;omega) λx m=>T1 p h a x (by have:=Expr.sC args _ m;omega)termination_by e=>pM e decreasing_by simp_wf;have:=pI m;omega
def JM(l:cG):cG:=l.mergeSort λx y=>decide (x<=y)
def KK(l:cG):cG:=tB l
theorem akn(l:cG):(l.map iD).map oP=l:=by rw[List.map_map];exact List.map_id l
theorem aKW(l:cG):mj (l.map iD)=(JM l).map iD:=by unfold mj;rw[akn];rfl
theorem aoE(l:cG):xX (l.map iD)=(KK l).map iD:=by unfold xX;rw[akn];rfl
theorem aKX(l:cG):(JM l).Pairwise (.<=.)/\∀z,z∈JM l↔z∈l:=by refine⟨(List.pairwise_mergeSort ai ai l).imp λh=>ue h,λz=>List.mem_mergeSort⟩<;>grind
theorem P0(d:Array Int)(z:Int):∀m,z∈Lib.compactUpTo d m↔∃j,j<m/\d[j]! =z:=by intro m;induction m<;>grind[Lib.compactUpTo,Lib.keeps]
theorem ao2(d:Array Int)(h:∀i j,i<=j->j<d.size->d[i]!<=d[j]!):∀m,m<=d.size->(Lib.compactUpTo d m).Pairwise (.<.):=by intro m;induction m with|zero=>simp[Lib.compactUpTo]|succ m o=>
 intro n;rw[Lib.compactUpTo_succ,List.pairwise_append];refine⟨ai,by split<;>simp,λa c b k=>?_⟩;cases l:Lib.keeps d m;.grind
 .obtain⟨j,e,rfl⟩:=(P0 d a m).1 c;have f:=h j (m-1) ab ab;have g:=h (m-1) m ab ab;grind[Lib.keeps]
theorem Iw(l:cG)(j:Nat)(h:j<l.length):l.toArray[j]! =l[j]:=aU
theorem Nm(l:cG)(z:Int):z∈KK l↔z∈l:=by unfold KK tB;rw[P0,List.mem_iff_getElem];exact⟨λ⟨j,h,e⟩=>⟨j,h,ai⟩,λ⟨j,h,e⟩=>⟨j,h,ai⟩⟩
theorem aoF(l:cG)(h:l.Pairwise (.<=.)):(KK l).Pairwise (.<.):=by
 refine ao2 _ (λi j k a=>?_) _ aU;have I:j<l.length:=a;rw[Iw l j I,Iw l i ab];by_cases e:i=j;.grind
 .exact List.pairwise_iff_getElem.1 h i j _ _ ab
theorem ol:∀(a b:cG),a.Pairwise (.<.)->b.Pairwise (.<.)->(∀z,z∈a↔z∈b)->a=b
 |[],[],_,_,_=>rfl|[],y::b,_,_,h=>by have:=(h y).2 (fU ..);simp at this|x::a,[],_,_,h=>by have:=(h x).1 (fU ..);simp at this|x::a,y::b,d,f,h=>by
  have w:=be.1 d;have u:=be.1 f;have e:x=y:=by
    rcases CI.1 ((h x).1 (fU ..))with e|g;.exact e
    . rcases CI.1 ((h y).2 (fU ..))with e|i;.exact e.symm
      .have:=u.1 x g;have:=w.1 y i;omega
  subst e;rw[ol a b w.2 u.2 λz=>?_];have:=h z;simp only[CI]at this;constructor
  . intro c;rcases this.1 (.inr c)with e|e;.have:=w.1 z c;omega
    .exact e
  . intro c;rcases this.2 (.inr c)with e|e;.have:=u.1 z c;omega
    .exact e
def u16:cG:=(qm 16).map du
def yy(l:cG):Prop:=∀z∈l,0<=z/\z<16
def wF(l:cG):cG:=u16.filter (lJ l)
theorem av3(l:cG)(v:Int):lJ l v=V↔v∈l:=by simp[lJ,jl]
theorem akm(z:Int):z∈u16↔0<=z/\z<16:=by
 unfold u16;rw[au];constructor;.grind
 .intro h;exact⟨z.toNat,aU,ai⟩
theorem aM5:u16.Pairwise (.<.):=ft
theorem anZ{l:cG}(h:yy l)(z:Int):z∈wF l↔z∈l:=by unfold wF;rw[bl,av3,akm];exact⟨λh=>h.2,λa=>⟨h z a,a⟩⟩
def acf(l:cG):yy (wF l):=λz h=>(akm z).1 (bl.1 h).1
theorem an0(l:cG):(wF l).Pairwise (.<.):=aM5.sublist List.filter_sublist
theorem anY{l:cG}(h:yy l):KK (JM l)=wF l:=by grind[ol,aoF,aKX,an0,Nm,anZ]
def qj(a b:cG):cG:=wF (a++b)
theorem OD(l:cG):(wF l).length<=16:=List.length_filter_le _ _
theorem aCj{n:Nat}:su l e n=bK V l e n:=by cases l<;>rfl
def I4:DV->Nat->SV|.jk,_=>.dv .jk .no|d,e=>.dv d (.ex e)
section
variable{cf:bV}{rec:dW}{fn n f:Nat}{sl:db}{lb:ew}{g:GH}{o:Op}{x:aK}{xs:List aK}{az:ao}{O:St}
def Fw(c:bV)(t:St)(f:bY)(a:ao)(s:Nat):SV->ah (St×SV)|.dv d (.ex e)=>(c.qz f d a).map λr=>({t with sl:=put (ix t.sl s) s (I4 r.1 e)},r.2)|_=>Z
def Qp(c:bV)(s:St)(f:bY)(a:ao)(i o:Nat):GO->ah (St×SV)|.box b=>(match b.cells[o]?,eB b o with|some d,.ex _=>(c.qz f d a).map λr=>({s with g:=s.g.set i (.box {cells:=iJ b.cells o r.1,own:=(match r.1 with|.jk=>dg b.own o 1|_=>b.own)})},r.2)|_,_=>Z)|_=>Z
def IX(c:bV)(t:St)(f:bY)(x:aK)(a:ao):SV->ah (St×SV)|.dv .nl _=>(c.qz f .nl a).map λr=>(t,r.2)|.dv _ (.ex _)=>(match x with|.tmp s=>(look t.sl s).bind (Fw c t f a s)|_=>Z)|.sr s=>(look t.sl s).bind (Fw c t f a s)|.gr id I=>(t.g.get id).bind (Qp c t f a id I)|_=>Z
theorem ags:Qr cf O f x az=(cZ cf.aq O x).bind (IX cf O f x az):=by
 unfold Qr;congr 1;funext v;have a:∀s,(match look O.sl s with|some (.dv d (.ex e))=>(cf.qz f d az).map λr=>({O with sl:=put (ix O.sl s) s (match r.1 with|.jk=>.dv .jk .no|d=>.dv d (.ex e))},r.2)|_=>Z)=(look O.sl s).bind (Fw cf O f az s):=by intro s;cases look _ s with|none=>rfl|some v=>cases v with
 |dv d o=>cases o with|ex e=>show(cf.qz f d az).map _=(cf.qz f d az).map _;congr 1;funext r;obtain⟨r1,r2⟩:=r;cases r1<;>rfl|_=>rfl
 |_=>rfl
 cases v with
 |dv d o=>cases d<;>first|rfl|(cases o<;>first|rfl|(cases x<;>first|rfl|exact a _))
 |sr s=>exact a s|gr id I=>
 show(match O.g.get id with|some (.box b)=>_|_=>Z)=(O.g.get id).bind _;rcases O.g.get id with _|o;.rfl
 cases o<;>rfl|_=>rfl
theorem anI(h:cf.fk f=1):qP cf rec O o (.func f) (x::xs)=(opsV cf.aq (dh O xs) xs).bind λaz=>(cZ cf.aq (dh O xs) x).bind (IX cf (dh O xs) f x az):=by show(bif aw _ 1 then(cB _ xs).bind _ else _)=_;rw[h];simp only[ags];rw[DI];rfl
theorem ayM{w:aN}:IX cf O f x az (.dv .nl w)=(cf.qz f .nl az).map λr=>(O,r.2):=(rfl)
theorem ayN:IX cf ⟨fn,n,sl,lb,g⟩ f x az (.sr s)=(look sl s).bind (Fw cf ⟨fn,n,sl,lb,g⟩ f az s):=(rfl)
theorem ayL{i:Nat}:IX cf ⟨fn,n,sl,lb,g⟩ f x az (.gr i I)=(g.get i).bind (Qp cf ⟨fn,n,sl,lb,g⟩ f az i I):=(rfl)
theorem ayJ{d:DV}:Fw cf ⟨fn,n,sl,lb,g⟩ f az s (.dv d (.ex e))=(cf.qz f d az).map λr=>(⟨fn,n,put (ix sl s) s (I4 r.1 e),lb,g⟩,r.2):=(rfl)
theorem azi{b:Nat}:I4 (.ay l a b) e=.dv (.ay l a b) (.ex e):=(rfl)
end
section
variable{P:aH}{cf:bV}{t fn n id a b e f:Nat}{sl:db}{lb:ew}{g:GH}{d:ah Tmp}{l az:ao}
theorem aAT(h:bN P t=J C):sj P t .take ⟨fn,n,sl,lb,g⟩ d id 0 (.box ⟨[.ay l a b],[(0,.ex e)]⟩)=aG ⟨fn,n,sl,lb,g.set id (.box ⟨[.jk],[]⟩)⟩ d (.dv (.ay l a b) (.ex e)):=by show(fI P _ t _ 0).bind _=_;unfold fI;rw[h];rfl
theorem aAS(h:bN P t=J C):sj P t .ref ⟨fn,n,sl,lb,g⟩ d id 0 (.box ⟨[.ay l a b],[(0,.ex e)]⟩)=aG ⟨fn,n,sl,lb,g⟩ d (.gr id 0):=by show(match iM.ref,aN.ex e,bN P t with|.ref,.ex _,J C=>_|_,_,_=>_)=_;rw[h];rfl
theorem ayK:Qp cf ⟨fn,n,sl,lb,g⟩ f az id 0 (.box ⟨[.ay l a b],[(0,.ex e)]⟩)=(cf.qz f (.ay l a b) az).map λr=>(⟨fn,n,sl,lb,g.set id (.box ⟨[r.1],match r.1 with|.jk=>[]|_=>[(0,.ex e)]⟩)⟩,r.2):=by rfl
end
attribute[go_sem]aAT aAS ayK
theorem aA8:ni .nl=J 0:=(rfl)
theorem amp{a b:List α}:(⟨a⟩:Array α)++(⟨b⟩:Array α)=⟨a++b⟩:=aP
theorem aF5:(Z:ah α).toArray=⟨[]⟩:=rfl
theorem aF6{a:α}:(J a).toArray=⟨[a]⟩:=rfl
theorem aBV:aA 0 0=C:=rfl
attribute[go_sem]aBV aA8 amp aF5 aF6
theorem agx:cf.qz 265 .nl []=J (.nl,.tp []):=(rfl)
theorem ayY{x:DV}(h:(x::l).all uV=V)(a:sH (x::l).length=V):cf.qz 265 (.ay (x::l) 3 1) []=J (su (mj (x::l)) 3 1,.tp []):=by show(bif(x::l).all _&&sH _ then _ else Z)=_;grind
theorem aoM:M2 .nl=[]:=rfl
theorem aoL{b:Nat}:M2 (.ay l a b)=l:=rfl
attribute[go_sem]anI ayM ayN ayL ayJ azi agx aoM aoL
section
variable{cf:bV}{rec:dW}{O:St}{o:Op}{x:aK}{xs:List aK}{f:bY}
def acb(c:bV)(r:dW)(s:St)(o:Op)(f:bY)(x:aK)(b:List aK):SV->ah (St×SV)|.dv d ow=>(opsV c.aq (dh (aQ leave s x) (handsOn o)) b).bind λa=>jA c r f (d::a) ow (dh (aQ leave s x) (handsOn o)).g λv g=>J ({dh (aQ leave s x) (handsOn o)with g:=g},v)|_=>Z
theorem anJ(h:cf.fk f=2):qP cf rec O o (.func f) (x::xs)=(cZ cf.aq O x).bind (acb cf rec O o f x xs):=by show(bif aw _ 1 then _ else bif aw _ 2 then _ else _)=_;rw[h];show(match cZ _ O x with|some (.dv d ow)=>_|_=>Z)=_;cases cZ _ O x with|none=>rfl|some v=>cases v with|dv d ow=>show(cB _ xs).bind _=(opsV _ _ xs).bind _;rw[DI];congr 1;funext a;rw[jY];rfl|_=>rfl
theorem anC{d:DV}:acb cf rec O o f x xs (.dv d ow)=(opsV cf.aq (dh (aQ leave O x) (handsOn o)) xs).bind λa=>jA cf rec f (d::a) ow (dh (aQ leave O x) (handsOn o)).g λv g=>J ({dh (aQ leave O x) (handsOn o)with g:=g},v):=(rfl)
attribute[go_sem]anJ anC
end
theorem tt{b:Nat}(h:a+b<1000000000):dQ .i64 (jX 0 (.ofNat a))=.ofNat a/\dQ .i64 (jX (.ofNat a) (.ofNat b))=.ofNat (a+b):=by
 refine⟨?_,?_⟩;.grind[AS]
 .exact AS ab
theorem Ii{b n:Nat}(d:cf.iW f [.nl,.int .i64 (.ofNat n)]=J (Da e s b [.nl,.int .i64 (.ofNat n)]))(a:(aw (cf.fk f) 2&&!vZ .no)=C)(g:n<1000000000)(c:b<=1000):CC f [.nl,.int .i64 (.ofNat n)] (.val (bif aw n 0 then .dv .nl .any else .dv (.ay [] e s) (.ex e)) .empty):=by refine C4 ?_ a;rw[d];have h:n*b<=1000000000*1000:=qL ab c;show J (bif bz _ _&&bz n _ then _ else Z)=_;grind[nB,bm]
theorem abw{n b:Nat}{o:aN}(h:n≠0):fE e n b .nl o []=J (.nl,.any):=by grind[fE,kT,bz]
theorem jp:dQ .i64 (jX 0 1)=1:=rfl
theorem jn:dQ .i64 (jX 1 1)=2:=rfl
theorem ks:aA 0 (.ofNat 2)=V:=rfl
theorem kq:aA 1 (.ofNat 2)=V:=rfl
theorem jw:aA 2 (.ofNat 2)=C:=rfl
attribute[local go_sem]jp jn ks kq jw
theorem HK{d:α->DV}{i r:Nat}(f:(i,e,s,m,k,r)=(314,3,1,8,373,41)\/(i,e,s,m,k,r)=(390,385,2,16,436,279)\/(i,e,s,m,k,r)=(327,59,8,88,389,57))(v:∀x,(d x).flat.length=s)(a c:List α)(o p:Bool)(h:a.length+c.length<1000000000):CC i [.ay [bK o (a.map d) e s,bK p (c.map d) e s] r 1] (.val (gh ((a++c).map d) e s) .empty):=by
 obtain⟨A,B⟩:=tt h;have j:∀l:List α,((l.map d).all λy=>decide (y.flat.length=s))=V:=λl=>by simp[v]
 have l1:∀{e s},ni (bK o (a.map d) e s)=J a.length:=by simp[Mt]
 have l2:∀{e s},ni (bK p (c.map d) e s)=J c.length:=by simp[Mt]
 have x0:aA (.ofNat a.length) 0=C:=rfl;have x1:aA (.ofNat (a.length+c.length)) 0=C:=rfl;have q:s≠0/\a.length+c.length<=bm/\(a.length+c.length)*m<=bm:=by grind[bm]
 have t:fE e s m (.ay [] e s) (.ex e) (a.map d)=J (.ay (a.map d) e s,.ex e):=by grind[qO]
 have u:fE e s m (.ay (a.map d) e s) (.ex e) (c.map d)=J (.ay ((a.map d)++(c.map d)) e s,.ex e):=by grind[qO]
 have z:=λh=>@abw e s m .any h;have g:ev PP cf (.call k [.nl,.int .i64 (.ofNat (a.length+c.length))] .no .empty)=_:=Ii (e:=e) (s:=s) (b:=m) (n:=a.length+c.length) (by rcases f with h|h|h<;>cases h<;>rfl) (by rcases f with h|h|h<;>cases h<;>rfl) h ai;rcases f with h|h|h<;>cases h<;>first|refine aO func314 ?_|refine aO func390 ?_|refine aO func327 ?_
 all_goals
 simp only[go_sem,f314,f390,f327];refine im ?_;simp only[go_sem,l1,A,x0];refine im ?_;simp only[go_sem,l2,B,x1];refine im ?_;by_cases f:a.length+c.length=0;.obtain rfl:a=[]:=bf.1 ab;obtain rfl:c=[]:=bf.1 ab;replace g:CC _ [.nl,.int .i64 0] (.val (.dv .nl .any) .empty):=g;simp only[go_sem,g,gL];refine im ?_;simp only[go_sem,z ab];refine im ?_;simp only[go_sem,z ab];refine im ?_;simp only[go_sem]
 . rw[kT f]at g;simp only[ch]at g;simp only[go_sem,g];refine im ?_;simp only[go_sem,t,j];refine im ?_;simp only[go_sem,u,j];refine im ?_;simp only[go_sem];rw[qJ];have w:((a.map d)++(c.map d)).length=a.length+c.length:=ai;generalize(a.map d)++(c.map d)=L at w;rcases L with _|⟨x,l⟩;.grind
   rfl
theorem an4(a b:List Expr)(n c:Bool)(h:a.length+b.length<1000000000):CC 327 [.ay [bK n (Expr.bn a) 59 8,bK c (Expr.bn b) 59 8] 57 1] (.val (gh (Expr.bn (a++b)) 59 8) .empty):=by have:=HK (d:=λe=>.agg (Expr.cells e)) (.inr (.inr rfl)) Expr.dI a b n c h;simp only[Expr.rR];exact this
def mI(l:cG):Prop:=yy l/\l.length<=100000
theorem HI(l:cG):mI (wF l):=⟨acf l,gj (OD l) ab⟩
theorem ayC{v:Int}(h:yy [v]):mI [v]:=⟨h,aP⟩
theorem VC:mI []:=⟨λ_ h=>ai,aP⟩
theorem abl(l:cG):(l.map iD).all uV=V:=A0.2 λx h=>by obtain⟨y,_,rfl⟩:=au.1 h;rfl
theorem ot{x:Int}{l:cG}(h:yy (x::l))(b:(x::l).length<1000000000):∃(y:Int)(t:cG),cf.qz 265 (.ay (iD x::l.map iD) 3 1) []=J (.ay (iD y::t.map iD) 3 1,.tp [])/\ev PP cf (.call 266 [.ay (iD y::t.map iD) 3 1] (.ex 3) .empty)=J (.val (.dv (bK V ((wF (x::l)).map iD) 3 1) .no) .empty):=by
 have a:(JM _).length=(x::l).length:=List.length_mergeSort _;have c:=anY h;have s:∀n,n<1000000000->sH n=V:=λn a=>by simp_all[sH]
 rcases z:JM (x::l)with _|⟨y,t⟩;.grind
 refine⟨y,t,?_,C4 ?_ rfl⟩;.rw[ayY (abl (x::l)) ai,<-gb,aKW,z];rfl
 .show(bif((y::t).map iD).all _&&sH _ then J _ else J _)=_;grind[abl,aoE,aCj]
def LC:ev PP cf (.call 266 [.nl] .any .empty)=J (.val (.dv .nl .no) .empty):=C4 rfl rfl
theorem T3(a b:Sl Int)(e:mI a.l)(f:mI b.l):CC 258 [bW a,bW b] (.val (.dv (bK V ((qj a.l b.l).map iD) 3 1) .no) .empty):=by
 have k:=e.2;have m:=f.2;have h:=HK (d:=iD) (.inl rfl) (λ_=>rfl) a.l b.l a.nl b.nl ab;have i:yy _:=λz j=>by rcases CH.1 j with h|h;exact e.1 z h;exact f.1 z h
 have g:(a.l++b.l).length<1000000000:=ai;unfold qj;refine aO func258 ?_;generalize a.l++b.l=c at*;rcases c with _|⟨x,l⟩;.simp only[go_sem,f258,h,LC];rfl
 obtain⟨y,t,e1,e2⟩:=ot i g;simp only[go_sem,f258,h,e1,e2]
mutual
def ae.nR : ae -> cG
  | .mk op _ args _ var _ _ _ => bif aj op 0 then [var] else bif aj op 2 || aj op 4 then [] else ae.F3 args []
def ae.F3 : bt -> cG -> cG
  | [], s => s
  | q :: l, s => ae.F3 l (qj s q.nR)
end
def vR(l:cG)(o:aN):SV:=.dv (bK V (l.map iD) 3 1) o
def F5:ah cG->SV|none=>.dv .nl .any|some l=>.dv (bK V (l.map iD) 3 1) .no
def Jk:ah cG->cG|none=>[]|some l=>l
structure CL(p:ae):Prop where
 a:p.nn<1100000
 b:∀q∈nodes p,∃m:Nat,q.op=.ofNat m/\aA (.ofNat m) 8=V
 c:∀q∈nodes p,0<=q.var/\q.var<16
mutual
theorem ae.aFF : ∀ p : ae, (∀ q ∈ nodes p, 0 <= q.var /\ q.var < 16) -> yy p.nR
  | .mk o l args t v s n c, h => by
    simp only [ae.nR]
    cases aj o 0 with
    | true => intro z a; rw [aR, CJ] at a; subst a; exact h _ (by rw [nodes]; exact fU ..)
    | false =>
      cases aj o 2 || aj o 4 with
      | true => intro z a; simp at a
      | false => exact ae.aip args [] (λ z a => by simp at a)
theorem ae.aip : ∀ (l : bt) (s : cG), yy s -> yy (ae.F3 l s)
  | [], s, h => h
  | q :: l, s, _ => ae.aip l _ (acf _)
end
theorem CL.arg{o n a t v s p c}(h:CL (.mk o n a t v s p c)){x:ae}(d:x∈a):CL x:=by
 have m:∀q∈nodes x,q∈nodes (.mk o n a t v s p c):=λq b=>by grind[nodes,ae.MJ]
 exact⟨by have:=h.a;have:=ae.sC _ x d;grind[ae.nn],λq b=>h.b q (m q b),λq b=>h.c q (m q b)⟩
def zN{n:Nat}:bK V [] e n=.nl:=rfl
theorem aiq:∀(l:bt)(s:cG),s.length<=16->(ae.F3 l s).length<=16|[],_,h=>h|q::l,s,_=>aiq l _ (OD _)
theorem aio:∀p:ae,p.nR.length<=16
 |.mk o n args t v s a c=>by
  simp only[ae.nR];cases aj o 0
  . cases aj o 2||aj o 4;.exact aiq args [] ft
    .exact mw _
  .show 1<=16;decide
theorem Wx(p:ae)(h:∀q∈nodes p,0<=q.var/\q.var<16):mI p.nR:=⟨ae.aFF p h,gj (aio p) ab⟩
theorem aMb(k b a t r c p n)(h:CL (.mk k b a t r c p n))(Y:∀x,x∈a->∃o,CC 217 [.agg x.cells] (.val (vR x.nR o) .empty)):∃o,CC 217 [.agg (ae.mk k b a t r c p n).cells] (.val (vR (ae.mk k b a t r c p n).nR o) .empty):=by
 obtain⟨m,y,D⟩:=h.b _ (by rw[nodes];exact fU ..);simp only[ae.op]at y;subst y;suffices S:Sat (ev PP cf (.call 217 [.agg (ae.mk (.ofNat m) b a t r c p n).cells] .no .empty)) λv g=>g=.empty/\∃o,v=vR (ae.mk (.ofNat m) b a t r c p n).nR o by obtain⟨v,g,e,rfl,o,rfl⟩:=S;grind
 refine nw func217 ?_;simp only[go_sem,f217,ae.cells,ae.nR,D,iA];have f:(aj (.ofNat m) 2||aj (.ofNat m) 4)=V->aj (.ofNat m) 0=C:=by grind[jl]
 apply hJ<;>intro q<;>simp only[q,go_sem];.simp only[f q,go_sem];exact⟨trivial,.any,rfl⟩
 apply hJ<;>intro B<;>simp only[B,go_sem];.exact⟨trivial,.ex 3,rfl⟩
 refine Ap a (Z:ah cG) (λi s=>[(21,iS i),(3,F5 s)]) (λ_=>.empty) (λ_ l s=>mI (Jk s)/\ae.F3 l (Jk s)=ae.F3 a []) (by have:=a38 a;have:=h.a;grind[ae.nn]) rfl rfl ⟨VC,rfl⟩ (λs I=>?_) (λi x l s w j z I E=>?_);.simp only[ae.F3]at I;rw[<-I.2];cases s with|none=>simp only[go_sem,F5];exact⟨trivial,.any,rfl⟩|some s=>simp only[go_sem,F5];exact⟨trivial,.no,rfl⟩
 .have A:=dw j;obtain⟨o,hr⟩:=Y x A;have u:=T3 ⟨V,Jk s⟩ ⟨V,x.nR⟩ I.1 (Wx x (h.arg A).c);have d:=E (J (qj (Jk s) x.nR)) ⟨HI _,I.2⟩;simp only[vR]at hr;cases s with|none=>simp only[go_sem,F5,Jk,bW,eM,zN]at u d;simp only[go_sem,F5,w,j,z,hr,u,d]|some s=>simp only[go_sem,F5,Jk,bW]at u d;simp only[go_sem,F5,w,j,z,hr,u,d]
theorem O4:∀p:ae,CL p->∃o,CC 217 [.agg p.cells] (.val (vR p.nR o) .empty)|.mk b n args t v s a c,h=>aMb _ _ _ _ _ _ _ _ h λx m=>O4 x (h.arg m)termination_by p=>pM p decreasing_by simp_wf;have:=pI m;omega
theorem aI1{g:aE}{d:ah Tmp}{o:aN}:ru g d .nl o l=C:=by unfold ru;split<;>simp_all
attribute[go_sem]aI1
def uC(l:bt):cG:=(l.filter λq=>aj q.op 0).map ae.var
def rO:cG->LB|[]=>⟨[.nl],[]⟩|a::l=>⟨[.ay (iD a::l.map iD) 3 1],[(0,.ex 3)]⟩
def JO(q:ae)(s:cG):ah bM×cG:=(Z,bif aj q.op 0 then s++[q.var]else s)
theorem Uq:∀(l:bt)(s:cG),cR JO l s=(Z,s++uC l)|[],s=>by simp[cR,uC]|q::l,s=>by simp only[cR,JO];have:=Uq l (bif aj q.op 0 then s++[q.var]else s);rw[this];simp only[uC,Ek];cases aj q.op 0<;>simp
theorem ana{x:ae}{s:cG}(h:tD JO (nodes p) [] x s):s.length<=p.nn:=by obtain⟨pre,post,a,b⟩:=h;grind[Uq,uC,Q3]
theorem am9{l:bt}(h:∀q∈l,0<=q.var/\q.var<16):yy (uC l):=by intro z a;grind[uC]
theorem T2(p:ae)(b:CL p):Sat (ev PP cf (.call 216 [.agg p.cells] .no .empty)) λv _=>v=vR (wF (uC (nodes p))) .no:=by
 refine nw func216 ?_;simp only[go_sem,f216,O6];refine AD (Qw 2 p b.a) JO (λc s g'=>g'.get 1=J (.box (rO s))/\g'.get 2=J (.box ⟨p.cells,[]⟩)) [] (λm=>rfl) rfl ⟨rfl,rfl⟩ (λc s g' h=>h.2) (λc s g1 g2 h a=>⟨(a.2 1 ai).trans h.1,(a.2 2 ai).trans h.2⟩) (λx s g1 g R hN L=>?_) (λg1 R hN=>?_)
 . refine AH L rfl ?_;simp only at hN L;have n:∀i,i<=3->(i=g1.next)=False:=λi h=>cK ab;have d:∀i,i<=3->(g1.next=i)=False:=λi h=>cK ab;obtain⟨op,nl,args,ty,var,scope,e,cond⟩:=x;have cY:=ana g;have P:=b.a;obtain⟨r1,r2⟩:=R;rcases s with _|⟨y,t⟩;.simp only[rO]at r1;simp only[go_sem,L,n,d,JO,ae.op,ae.var,ae.cells];apply hJ<;>intro h<;>simp only[h,go_sem,r1,r2,L,n,d,rO,eM]<;>exact⟨rfl,⟨trivial,trivial⟩,oz,rfl⟩
   have j:(t.length+1<1200000)=True:=il ai;simp only[rO]at r1;simp only[go_sem,L,n,d,JO,ae.op,ae.var,ae.cells];apply hJ<;>intro h<;>simp only[h,go_sem,r1,r2,L,n,d,rO,j,qJ,gb,eM,lU,fO]<;>exact⟨rfl,⟨trivial,trivial⟩,oz,rfl⟩
 . rw[Uq,jO]at R|-;obtain⟨r1,r2⟩:=R;have f:=am9 b.c;have a:(uC (nodes p)).length<1000000000:=by
    have k:(uC (nodes p)).length<=(nodes p).length:=by grind[uC]
    have q:=Q3 p;have r:=b.a;omega
   generalize uC (nodes p)=l at*;cases l with|nil=>simp only[rO]at r1;have o:uf .nl=.any:=rfl;simp only[r1,o,go_sem,agx,LC];rfl|cons x l=>obtain⟨y,t,e1,e2⟩:=ot f a;simp only[rO]at r1;simp only[r1,e1,e2,go_sem,vR]
theorem CS{x:ah bh}{k a:eH->ah bh}:(x.bind (fL k)).bind (fL a)=x.bind (fL λo=>(k o).bind (fL a)):=by
 rcases x with _|r;.rfl
 cases r<;>rfl
theorem aKI:oM PP 41 .nl Z (J (iD 0)) (J (iD 0))=J (.nl,.any):=by rfl
theorem aKJ:oM PP 41 .nl (J (iD 0)) Z Z=J (.nl,.any):=by rfl
theorem ama{n b:Nat}{o:aN}(d:n≠0)(a:b<=1000)(c:l.length<1200000):fE e n b (.ay l e n) o []=J (.ay l e n,o):=by have h:(l.length+0)*b<=1200000*1000:=qL ab a;grind[fE,kT,bm,pJ,nB]
theorem alR{p:α->Bool}:[].all p=V:=rfl
attribute[go_sem]alR aKI aKJ ama
abbrev LR:=cG×cG
def oT(p:ae):cG:=wF (uC (nodes p))
def Kt:ae->ae|.mk _ _ (q::_) _ _ _ _ _=>q|p=>p
def DK(p:ae)(L:LR):qM:=bif aj p.op 0 then⟨⟨V,qj L.1 [p.var]⟩,⟨V,qj L.2 [p.var]⟩,-1⟩else bif aj p.op 5 then⟨⟨V,qj (qj L.1 (oT (Kt p))) [p.var]⟩,⟨V,qj L.2 [p.var]⟩,p.var⟩else⟨⟨V,qj L.1 (oT (Kt p))⟩,⟨V,qj L.2 (Kt p).nR⟩,-1⟩
abbrev tf(L:LR)(f:Int):DV:=.agg [bK V (L.1.map iD) 3 1,bK V (L.2.map iD) 3 1,iD f]
def Sb(a b:cG)(h:mI a)(c:mI b):CC 258 [bK V (a.map iD) 3 1,bK V (b.map iD) 3 1] (.val (.dv (bK V ((qj a b).map iD) 3 1) .no) .empty):=T3 ⟨V,a⟩ ⟨V,b⟩ h c
def fw(a:cG)(v:Int)(h:mI a)(b:mI [v]):CC 258 [bK V (a.map iD) 3 1,.ay [iD v] 3 1] (.val (.dv (bK V ((qj a [v]).map iD) 3 1) .no) .empty):=T3 ⟨V,a⟩ ⟨V,[v]⟩ h b
theorem ary(b n a t v s p c)(L:LR)(y:Int)(r:CL (.mk b n a t v s p c))(j:mI L.1)(k:mI L.2)(A:aj b 0=C->∃q l,a=q::l):CC 213 [.agg (ae.mk b n a t v s p c).cells,tf L y] (.val (.dv (DK (.mk b n a t v s p c) L).d .no) .empty):=by
 have f:mI [v]:=ayC λz w=>by rw[CJ]at w;subst w;exact r.c _ (by exact fU ..)
 have x:=fw L.1 v j f;have u:=fw L.2 v k f;have d1:=aLg;have d2:=aLh;have d3:=aLi;simp only[bp,opsOf,f213,go_sem]at d1 d2 d3;simp only[go_sem]at x u;refine aO func213 ?_;cases h:aj b 0 with|true=>simp only[go_sem,f213,ae.cells,tf,h,DK,ae.op,ae.var,qM.d,x,u,d1]|false=>obtain⟨q,l,rfl⟩:=A h;have e:=r.arg (fU ..);obtain⟨_,g1,d,rfl⟩:=T2 q e;obtain⟨o,i⟩:=O4 q e;have B:mI (oT q):=HI _;have u3:=Sb L.1 (oT q) j B;have g:=fw (qj L.1 (oT q)) v (HI _) f;have u5:=Sb L.2 q.nR k (Wx q e.c);simp only[vR]at d i;unfold oT at u3 g;simp only[go_sem]at u3 g u5;cases m:aj b 5 with|true=>simp only[go_sem,f213,ae.cells,tf,h,m,DK,ae.op,ae.var,qM.d,Kt,d,u,u3,g,d2,ae.bn,oT]|false=>simp only[go_sem,f213,ae.cells,tf,h,m,DK,ae.op,ae.var,qM.d,Kt,d,i,u3,u5,d3,ae.bn,oT]
theorem aNe(a b:cG):(qj a b).length<1200000:=by grind[OD,qj]
theorem tJ{z k:Int}(h:aj z k=V):z=k:=by grind[jl]
def ae.args:ae->bt|.mk _ _ args _ _ _ _ _=>args
structure zq(p:ae):Prop extends CL p where
 d:∀q∈nodes p,q.cond.nn<1100000
 e:∀q∈nodes p,tv q.op=V->aj q.op 0=C->∃x,q.args=[x]
theorem zq.arg{o n a t v s p c}(h:zq (.mk o n a t v s p c)){x:ae}(d:x∈a):zq x:=by
 have m:∀q∈nodes x,q∈nodes (.mk o n a t v s p c):=λq b=>by grind[nodes,ae.MJ]
 exact⟨h.toCL.arg d,λq b=>h.d q (m q b),λq b=>h.e q (m q b)⟩
abbrev bI(n:Int):GO:=.box ⟨[iD n],[]⟩
def kD(n f z:Int):GH:=⟨5,[(0,bI n),(1,bI f),(2,.box ⟨[.func 211 [] [.ptr 1 0,.ptr 0 0]],[]⟩),(3,bI z),(4,.box ⟨[.func 257 [] [.ptr 3 0,.ptr 2 0,.ptr 4 0]],[]⟩)]⟩
def C9(q:ae)(L:LR):Int:=q.cond.Bx (DK q L)
theorem aGw(q:ae)(L:LR):(DK q L).us.l.length<1200000/\(DK q L).si.l.length<1200000:=by grind[DK,aNe]
theorem qM.pure(p:qM):p.d.pure=V:=by show cj _=V;simp[cj,Me,DV.pure]
attribute[go_sem]qM.pure
theorem arx(i f z:Int)(q:ae)(L:LR)(a:zq q)(e:mI L.1)(g:mI L.2):ev PP cf (.call 211 [iD i,.agg q.cells,tf L f,.ptr 1 0,.ptr 0 0] .no (kD 0 0 z))=J (bif tv q.op&&!aj (C9 q L) 0 then .val (.dv (.bool C) .no) (kD i (C9 q L) z)else .val (.dv (.bool V) .no) (kD 0 0 z)):=by
 obtain⟨d,n,args,t,v,s,p,c⟩:=q;have hr:ae.mk d n args t v s p c∈nodes (.mk d n args t v s p c):=by simp[nodes]
 obtain⟨m,j,l⟩:=a.b _ hr;subst j;have d1:=aLf;simp only[bp,opsOf,f211,go_sem]at d1;refine aO func211 ?_;rcases b:tv (.ofNat m)with _|_;.simp only[go_sem,f211,ae.cells,tf,l,b,ae.op,kD]
 have e1:=ary _ n _ t _ _ _ _ L f a.toCL e g (λh=>by obtain⟨x,k⟩:=a.e _ hr b h;exact⟨x,[],k⟩);have o:=aGw (.mk (.ofNat m) n args t v s p c) L;have e2:=T1 _ o.1 o.2 c (a.d _ hr);simp only[go_sem,ae.cells]at e1;simp only[go_sem,f211,ae.cells,tf,l,b,ae.op,kD,d1,e1,e2,C9,ae.cond];apply sp<;>intro h<;>simp only[h,go_sem];grind[tI]
mutual
def yA : ae -> LR -> List (ae × LR)
  | .mk o n args t v s p c, L => (.mk o n args t v s p c, L) :: FD o args L
def FD (o : Int) : bt -> LR -> List (ae × LR)
  | [], _ => []
  | q :: l, L => yA q L ++ FD o l (bif aj o 1 then (qj L.1 (oT q), qj L.2 q.nR) else L)
end
def qE:List (ae×LR)->Nat->ah (Nat×Int)|[],_=>Z|x::l,i=>bif tv x.1.op&&!aj (C9 x.1 x.2) 0 then J (i,C9 x.1 x.2)else qE l (i+1)
theorem rm:∀(a b:List (ae×LR))(i:Nat),qE (a++b) i=match qE a i with|none=>qE b (i+a.length)|some r=>J r
 |[],_,_=>rfl|x::a,b,i=>by simp only[lU,qE];cases tv x.1.op&&!aj (C9 x.1 x.2) 0 with|true=>rfl|false=>rw[ch,ch,rm a b (i+1),dD,A9,Nat.add_comm 1]
def pz(i:Nat):Int:=Int.sub (.ofNat i) 1
theorem aHO(i:Nat):pz (i+1)=.ofNat i:=by show du _-1=_;grind
theorem aHN(i:Nat)(h:i<100000000):dQ .i64 (jX (pz i) 1)=.ofNat i:=by grind[pz,AS]
def yP(r:ah (Nat×Int))(i:Nat):bh:=match r with|none=>.val (.dv (.bool V) .no) (kD 0 0 (pz i))|some (j,e)=>.val (.dv (.bool C) .no) (kD (.ofNat j) e (.ofNat j))
theorem aA5:∀(p:ae)(L:LR),(yA p L).length=p.nn:=by
 have k:(∀(p:ae)(L:LR),(yA p L).length=p.nn):=by intro p;exact ae.rec (motive_2:=λl=>∀(op:Int)(L:LR),(FD op l L).length=ae.bP l) (λop nl args ty var scope s cond i L=>by grind[yA,ae.nn]) (λop L=>rfl) (λq l h a op L=>by grind[FD,ae.bP]) p
 omega
theorem aMd(e f g t v p d n)(N:zq (.mk e f g t v p d n))(L:LR)(h:Int)(i:Nat)(T:i+(ae.mk e f g t v p d n).nn<1100000)(G:mI L.1)(H:mI L.2)(Y:∀x,x∈g->∀(L:LR)(h:Int)(i:Nat),i+x.nn<1100000->mI L.1->mI L.2->ev PP cf (.call 257 [.agg x.cells,tf L h,.ptr 3 0,.ptr 2 0,.ptr 4 0] .no (kD 0 0 (pz i)))=J (yP (qE (yA x L) i) (i+x.nn))):ev PP cf (.call 257 [.agg (ae.mk e f g t v p d n).cells,tf L h,.ptr 3 0,.ptr 2 0,.ptr 4 0] .no (kD 0 0 (pz i)))=J (yP (qE (yA (.mk e f g t v p d n) L) i) (i+(ae.mk e f g t v p d n).nn)):=by have e1:=arx (.ofNat i) h (.ofNat i) _ L N G H;have F:=aHN i ab;have d1:=aLk;simp only[bp,opsOf,f257,go_sem]at d1;refine aO func257 ?_;rw[yA,qE];simp only[ae.cells,go_sem,kD]at e1;cases w:tv e&&!aj (C9 (.mk e f g t v p d n) L) 0 with|true=>simp only[ae.op,w,go_sem]at e1;simp only[go_sem,f257,ae.cells,tf,kD,F,e1,w,ae.op,yP]|false=>
 simp only[ae.op,w,go_sem]at e1;simp only[go_sem,f257,ae.cells,tf,kD,F,e1,w,ae.op];rw[<-aHO i];refine QK g ((L,h,i+1):LR×Int×Nat) (λk s=>⟨257,45,[(21,iS k),(6,.lp 6 0),(5,.lp 5 0),(4,.dv (.ptr 4 0) .no),(19,.dv (bK f (ae.bn g) 62 14) .no),(20,.dv (.int .i64 (.ofNat g.length)) .no)],[(6,⟨[bK V (s.1.1.map iD) 3 1,bK V (s.1.2.map iD) 3 1,iD s.2.1],[]⟩),(5,⟨.int .i64 e::bK f (ae.bn g) 62 14::.int .i64 t::.int .i64 v::.int .i64 p::.int .i64 d::n.cells,[]⟩)],kD 0 0 (pz s.2.2)⟩) (λ_ l s=>yP (qE (FD e l s.1) s.2.2) (i+(ae.mk e f g t v p d n).nn)) (λ_ l s=>s.2.2+ae.bP l=i+(ae.mk e f g t v p d n).nn/\mI s.1.1/\mI s.1.2) (by grind[ae.mK,ae.nn]) rfl ⟨by grind[ae.nn],G,H⟩ rfl (λs I=>?_) (λk x l s z y O I P=>?_);.obtain⟨a,_,_⟩:=I;simp only[ae.bP,vq]at a;simp only[go_sem,FD,qE,yP,kD,a]
 .obtain⟨⟨m,q⟩,h,j⟩:=s;obtain⟨a,b,c⟩:=I;simp only[ae.bP]at a;have Q:=dw y;have A:=N.arg Q;have hr:=Y x Q (m,q) h j ab b c;obtain⟨_,g1,D,rfl⟩:=T2 x A.toCL;obtain⟨o,E⟩:=O4 x A.toCL;have B:=Sb m (oT x) b (HI _);have R:=Sb q x.nR c (Wx x A.c);simp only[vR]at D E;unfold oT at B;simp only[FD];rw[rm,aA5];cases K:qE (yA x (m,q)) j with|some r=>obtain⟨U,S⟩:=r;rw[K]at hr;simp only[go_sem,tf,kD,yP]at hr;simp only[go_sem,kD,z,y,hr,yP]|none=>rw[K]at hr;simp only[go_sem,tf,kD,yP]at hr;cases M:aj e 1 with
 |true=>
 have u:=P ((qj m (oT x),qj q x.nR),-1,j+x.nn) ⟨ai,HI _,HI _⟩;simp only[go_sem,kD,oT]at u;try simp only[go_sem]at B R
 simp only[go_sem,kD,z,y,O,hr,M,D,E,B,R,d1,u,oT]|false=>have u:=P ((m,q),h,j+x.nn) ⟨ai,b,c⟩;simp only[go_sem,kD]at u;simp only[go_sem,kD,z,y,O,hr,M,u]
theorem LG:∀p:ae,zq p->∀(L:LR)(f:Int)(i:Nat),i+p.nn<1100000->mI L.1->mI L.2->ev PP cf (.call 257 [.agg p.cells,tf L f,.ptr 3 0,.ptr 2 0,.ptr 4 0] .no (kD 0 0 (pz i)))=J (yP (qE (yA p L) i) (i+p.nn))|.mk o l args t v s n c,a,L,f,i,e,b,d=>aMd _ _ _ _ _ _ _ _ a L f i e b d λx h=>LG x (a.arg h)termination_by p=>pM p decreasing_by simp_wf;have:=pI h;omega
def Gw(p:ae):Int×Int:=bif aj p.ji 0 then(match qE (yA p ([],[])) 0 with|none=>(0,0)|some (j,e)=>(.ofNat j,e))else(0,p.ji)
theorem arw(p:ae)(a:zq p):∃z,ev PP cf (.call 210 [.agg p.cells,.func 211 [] [.ptr 1 0,.ptr 0 0]] .no ⟨2,[(0,bI 0),(1,bI 0)]⟩)=J (.val (.tp []) (match qE (yA p ([],[])) 0 with|none=>kD 0 0 z|some (j,e)=>kD (.ofNat j) e z)):=by
 have e1:=LG p a ([],[]) (-1) 0 (by have:=a.a;omega) VC VC;rw[show pz 0=-1 from rfl]at e1;rcases h:qE _ 0 with _|r;.rw[h]at e1;refine⟨pz (0+p.nn),?_⟩;simp only[go_sem,tf,kD,yP,eM,zN]at e1;refine aO func210 ?_;simp only[go_sem,f210,e1,kD]
 obtain⟨j,e⟩:=r;rw[h]at e1;refine⟨.ofNat j,?_⟩;simp only[go_sem,tf,kD,yP,eM,zN]at e1;refine aO func210 ?_;simp only[go_sem,f210,e1,kD]
theorem are(p:ae)(b:p.ji=0->zq p)(q:lX p):Sat (ev PP cf (.call 159 [.agg p.cells] .no .empty)) λv _=>v=.tp [iO (Gw p).1,iO (Gw p).2]:=by
 have a:=O3 p q;have d1:=aLb;simp only[bp,opsOf,f159,go_sem]at d1;refine nw func159 ?_;simp only[go_sem,f159,a,Gw];apply hJ<;>intro h<;>simp only[h,go_sem];obtain⟨z,e1⟩:=arw p (b (tI h));rcases f:qE _ 0 with _|r;.rw[f]at e1;simp only[kD]at e1;simp only[go_sem,e1,d1]
 rw[f]at e1;simp only[kD]at e1;simp only[go_sem,e1,d1]
def Ww(o a k:Int):Bool:=bif aj o 5||(aj o 6||(aj o 7||aj o 8))then aj k 0 else bif aj o 10||(aj o 11||aj o 12)then aj k 1 else bif aj o 9 then aj k a else V
def Q8(o:Int)(k:cG):Int:=bif k.all (Ww o (k.headD 0))then 0 else 9
theorem arL(o k:Int)(s:cG)(d:s.length<1200000):CC 264 [iD o,DV.ay (iD k::s.map iD) 3 1] (vI (Q8 o (k::s))):=by
 refine aO func264 ?_;simp only[go_sem,f264,Q8,List.headD_cons];refine gC (k::s) (λi=>[(10,iS i)]) (λ_ l=>vI (bif l.all (Ww o k)then 0 else 9)) ai rfl rfl ?_ (λi x l a b w c=>?_);.simp only[go_sem,nY]
 .simp only[dD]at a;replace b:(iD k::s.map iD)[i]?=J (iD x):=ai;simp only[go_sem,a,b,Ww,pH]at c|-;repeat'(with_reducible apply sp<;>intro h<;>simp only[h,w,c,go_sem])
def aje(o:Int):Int:=bif aj o 5||aj o 6 then 0 else 1
def Un(t:List b9)(b:List eE)(a:Int):List lu:=match b[a.toNat]? with|some v=>(match t[v.ty.toNat]? with|some s=>s.fields.l|none=>[])|none=>[]
def BW(t:List b9)(s:List eE)(o v e n k:Int):Int×Int:=bif aj o 0 then(k,0)else bif aA v (.ofNat s.length)then bif aj o 2||aj o 3 then(0,0)else match(Un t s v)[e.toNat]? with|some f=>bif aj o 4&&(!aj f.kind k||!R5 n f.kind)then(0,9)else(f.kind,0)|none=>(0,6)else(0,6)
def R9(s:Sl b9)(a:Sl eE):Prop:=∀v∈a.l,∃t:Nat,v.ty=.ofNat t/\t<s.l.length
theorem R2{l:List α}{n:Nat}(h:n<l.length):∃x,l[n]?=J x:=aU
theorem QL{l:List α}{n:Nat}{x:α}(h:l[n]?=J x):(n<l.length)=True:=ai
theorem Uz{l:List α}{n:Nat}(h:l[n]?=Z):(n<l.length)=False:=aU
def tn(m:Nat):(du m).toNat=m:=rfl
theorem aLl:dj cf (bp f263 7)=V:=by rfl
theorem arK(d:Sl b9)(b:Sl eE)(o B r v Q e k u l)(A:R9 d b)(y:aj o 0=C->∃n:Nat,v=.ofNat n)(p:(aj o 0||(aj o 2||aj o 3))=C->∃n:Nat,Q=.ofNat n):CC 263 [.agg [cm d,kE b],.agg (Expr.mk o B r v Q e k u l).cells] (vT [iO (BW d.l b.l o v Q e k).1,iO (BW d.l b.l o v Q e k).2]):=by refine aO func263 ?_;have hd:=aLl;simp only[bp,opsOf,f263,go_sem]at hd;cases a:aj o 0 with|true=>simp only[go_sem,f263,Expr.cells,BW,a]|false=>obtain⟨n,rfl⟩:=y a;rw[a,xB]at p;cases c:b.l[n]? with|none=>have e1:=Uz c;simp only[go_sem,f263,Expr.cells,BW,a,e1]|some x=>
 have e1:=QL c;obtain⟨t,w,z⟩:=A x (dw c);obtain⟨s,q⟩:=R2 z;have e2:Un d.l b.l (.ofNat n)=s.fields.l:=by grind[Un]
 cases g:aj o 2 with|true=>simp only[go_sem,f263,Expr.cells,BW,a,e1,g]|false=>cases j:aj o 3 with|true=>simp only[go_sem,f263,Expr.cells,BW,a,e1,g,j]|false=>obtain⟨m,rfl⟩:=p aU;cases i:s.fields.l[m]? with|none=>have e3:=Uz i;simp only[go_sem,f263,Expr.cells,BW,a,e1,g,j,c,w,q,e2,e3,i,hd,tn]|some f=>have e3:=QL i;simp only[go_sem,f263,Expr.cells,BW,a,e1,g,j,c,w,q,e2,e3,i,hd,tn];repeat'(with_reducible apply sp<;>intro h<;>simp only[h,Lt,go_sem])
def fe(t:Sl b9)(s:Sl eE):Int:=bif aA 16 (.ofNat s.l.length)then 5 else bif s.l.all (λv=>!aA v.ty 0&&aA v.ty (.ofNat t.l.length))then 0 else 6
def Dy(o:Int)(r:Int×cG):Int×Int:=bif aj r.1 0 then(bif aj (Q8 o r.2) 0 then(aje o,0)else(0,Q8 o r.2))else(0,r.1)
mutual
def Expr.tZ (t : List b9) (v : List eE) : Expr -> Int × Int
  | .mk op _ args var e n k _ _ => bif args.isEmpty then BW t v op var e n k else Dy op (Expr.FA t v args [])
def Expr.FA (t : List b9) (v : List eE) : List Expr -> cG -> Int × cG
  | [], k => (0, k)
  | e :: l, k => bif aj (e.tZ t v).2 0 then Expr.FA t v l (k ++ [(e.tZ t v).1]) else ((e.tZ t v).2, [])
end
theorem Expr.akw:∀(l:List Expr),Expr.D7 l=0->∀e∈l,e.wu=0
 |[],_,e,h=>by simp at h|a::l,h,e,m=>by
  simp only[Expr.D7,jl]at h;by_cases b:a.wu=0
  . simp[b]at h;rcases CI.1 m with rfl|m;.exact b
    .exact Expr.akw l h e m
  .simp[b]at h
theorem Expr.akv{o l a v e n k u s}(h:(Expr.mk o l a v e n k u s).wu=0):VM.iV o (.ofNat a.length) v e n k u s=0/\Expr.D7 a=0:=by grind[Expr.wu,Expr.iV,jl]
theorem aA0{o v Q e k u:Int}{s:aE}(h:iV o 0 v Q e k u s=0):(aj o 0=C->∃n:Nat,v=.ofNat n)/\((aj o 0||(aj o 2||aj o 3))=C->∃n:Nat,Q=.ofNat n)/\(aj o 4=V->aj e 0=C):=by have a:∀z:Int,¬z<0->∃n:Nat,z=.ofNat n:=λz d=>⟨z.toNat,ai⟩;all_goals
 simp only[iV,arity,yZ,yY,fX,jl]at h;refine⟨λ_=>a _ λc=>?_,?_,?_⟩;.grind
 .first|(intro b;simp[aj]at b;done)|(intro _;refine a _ λc=>?_;grind)
 grind[jl]
theorem aMa(t:Sl b9)(v:Sl eE)(o j a c Q n k u r)(A:a.length<1100000)(m:a.isEmpty=C)(Y:∀x,x∈a->CC 215 [.agg [cm t,kE v],.agg x.cells] (vT [iO (x.tZ t.l v.l).1,iO (x.tZ t.l v.l).2])):CC 215 [.agg [cm t,kE v],.agg (Expr.mk o j a c Q n k u r).cells] (vT [iO ((Expr.mk o j a c Q n k u r).tZ t.l v.l).1,iO ((Expr.mk o j a c Q n k u r).tZ t.l v.l).2]):=by
 refine aO func215 ?_;have z:a.length≠0:=ai;have I:aj (.ofNat a.length) 0=C:=by grind[jl]
 simp only[go_sem,f215,Expr.cells,Expr.tZ,m,I];refine tb a ([]:cG) (λi s=>[(24,iS i),(6,gh (s.map iD) 3 1)]) (λ_ l s=>vT [iO (Dy o (Expr.FA t.l v.l l s)).1,iO (Dy o (Expr.FA t.l v.l l s)).2]) (λi _ s=>s.length=i) ab rfl rfl rfl (λs p=>?_) (λi x l s d f w p y=>?_);.cases s with|nil=>grind|cons k0 g=>have e:=arL o k0 g ai;simp only[go_sem]at e;simp only[go_sem,Expr.FA,Dy,aje,e];repeat'(with_reducible apply sp<;>intro h<;>simp only[h,go_sem])
 .have hr:=Y x (dw f);simp only[go_sem]at hr;simp only[eq_iff_iff,iff_true]at d;have b:=y (s++[(x.tZ t.l v.l).1]) aU;have d:=il d;cases s with|nil=>simp only[go_sem,jO]at b;simp only[go_sem,d,f,hr,Expr.FA,Dy];apply sp<;>intro h<;>simp only[h,w,b,Dy,go_sem]|cons k0 g=>have q:(g.length+1<1200000)=True:=ai;simp only[go_sem,qJ,lU]at b;simp only[go_sem,d,f,hr,Expr.FA,Dy];apply sp<;>intro h<;>simp only[h,w,b,q,Dy,go_sem,fO,lU]
theorem aMh(t:Sl b9)(a:Sl eE)(c:R9 t a)(o l v Q n k u s)(w:iV o 0 v Q n k u s=0):CC 215 [.agg [cm t,kE a],.agg (Expr.mk o l [] v Q n k u s).cells] (vT [iO ((Expr.mk o l [] v Q n k u s).tZ t.l a.l).1,iO ((Expr.mk o l [] v Q n k u s).tZ t.l a.l).2]):=by obtain⟨h,b,d⟩:=aA0 w;have e:=arK t a o l [] _ _ n k u s c h b;simp only[Expr.cells,cm,kE]at e;refine aO func215 ?_;simp only[go_sem,f215,Expr.cells,Expr.tZ,List.isEmpty_nil,e]
theorem LS(t:Sl b9)(v:Sl eE)(b:R9 t v):∀e:Expr,e.nn<1100000->e.wu=0->CC 215 [.agg [cm t,kE v],.agg e.cells] (vT [iO (e.tZ t.l v.l).1,iO (e.tZ t.l v.l).2])|.mk o l [] r Q n k num str,_,w=>aMh t v b _ _ _ _ _ _ _ _ (Expr.akv w).1|.mk o l (a::args) r Q n k num str,c,w=>by simp only[Expr.nn,Expr.bP]at c;exact aMa _ _ _ _ _ _ _ _ _ _ _ (by have:=a50 args;simp only[dD];omega) rfl λx h=>LS t v b x (by have:=Expr.sC (a::args) _ h;simp only[Expr.bP]at this;omega) (Expr.akw _ (Expr.akv w).2 x h)termination_by e=>pM e decreasing_by simp_wf;have:=pI h;simp only[List.cons.sizeOf_spec]at this|-;omega
