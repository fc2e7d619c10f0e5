/- Proved: what functions of the program answer (a part of the proof of RescaleReturnsUptoCardSaid, whose theorem stands in the last text), within the sizes that each theorem names. -/
import Derived.Test.YtaeflaolgbjjlaaGreatDoorAj
open Option renaming some->J,none->Z
open Bool renaming true->V,false->C
open Go renaming TypeId->an,Oper->aB,Program->aG,Operand->aK,Code->bF,IntKind->fN
open Int renaming ofNat->di,add->jP
open List renaming replicate->lW
open Nat renaming beq->aw,ble->br,blt->cm
open SizeOf renaming sizeOf->oW
noncomputable section
set_option linter.all false
namespace Go.VM
open Go Go.AM Proofs.Tryz
variable{α:Type}{a a' b' c':Int}{e k m I s:Nat}{P:aG}{l:aq}{es:fY}
attribute[local congr]bz bA
set_option maxRecDepth 100000
set_option maxHeartbeats 1000000
abbrev jI(p:ae):GO:=.box ⟨p.cells,[]⟩
theorem ap4(p:ae)(g:GH):ev PP cf (.call 278 [.agg p.cells] .no g)=J (.val (.dv (.func 338 [] [.ptr g.next 0]) .no) (g.alloc (jI p))):=by refine aP func278 ?_;simp only[go_sem,f278]
theorem ap5(p:ae)(g:GH):ev PP cf (.call 280 [.agg p.cells] .no g)=J (.val (.dv (.func 342 [] [.ptr g.next 0]) .no) (g.alloc (jI p))):=by refine aP func280 ?_;simp only[go_sem,f280]
theorem acy(a q:ae)(g:GH):ev PP cf (.call 279 [.agg a.cells,.agg q.cells] .no g)=J (.val (.dv (.func 341 [] [.ptr g.next 0,.ptr (g.next+1) 0]) .no) ((g.alloc (jI a)).alloc (jI q))):=by refine aP func279 ?_;simp only[go_sem,f279]
theorem vZ.mono{X:Type}{e:X->aq}{h:Nat}{f b:aq}{a N:GH->Prop}{x:List X}(d:∀g,N g->a g)(t:vZ e h f b a x):vZ e h f b N x:=λn k l r step s U i g hr j=>t n k l r step s U (λc s g hr=>d g (i c s g hr)) g hr j
theorem kL.st{a b:Nat}{p:ae}:∀g1 g2:GH,kL g1 k p->g1.next<=g2.next->(∀i,a<=i->i<b->g2.get i=g1.get i)->a<=k->k<b->kL g2 k p:=λ_ _ h c d e f=>⟨(d _ e f).trans h.1,gi h.2 c⟩
theorem aIu{x y:DV}:n8 PP 56 (.ay [x,y] 61 14) (J (.int .i64 1)) (J (.int .i64 2)) (J (.int .i64 2))=J (.ay [y] 61 14,.full 61):=by rfl
theorem RJ:∀p:ae,zo p->p.nn<=90->GK p
 |.mk f e args t v s d c,F,I=>by
  have Q:∀a∈args,GK a:=λa u=>RJ a (F.Iu u) (by have:=ae.rH args a u;simp only[ae.nn]at I;omega);have W:∀a∈args,∀z∈eI a,z.done=V->z.rest=zP:=λa u z L=>(IL a (F.Iu u) z L).z;have N:∀a∈args,∀z∈eI a,∃n w,n<100000000/\iE n w z:=λa u z L=>⟨_,_,by have:=ae.rH args a u;simp only[ae.nn]at I;omega,IL a (F.Iu u) z L⟩;clear RJ;have D:=ae.mj args;simp only[ae.nn]at I;have d1:=aIY;have d2:=aIX;simp only[bw,opsOf,f223,go_sem]at d1 d2;have H:=F.ar;have S:aj f 0=C->∃a l,args=a::l:=λq=>by cases args with|nil=>exact absurd H (λh=>RU q h)|cons a l=>exact⟨a,l,rfl⟩
  intro g;have e2:=ap4 (.mk f e args t v s d c) (g.alloc (jI (.mk f e args t v s d c)));have e4:=ap5 (.mk f e args t v s d c) (g.alloc (jI (.mk f e args t v s d c)));simp only[jI,ae.cells,go_sem]at e2 e4;have l1:∀o,Lo g.next g (g.alloc o):=λo=>Lo.alloc (bJ _);have l2:∀o B,Lo g.next g ((g.alloc o).alloc B):=λo B=>(l1 o).trans (Lo.alloc (by rw[dN];omega));have l3:∀o B R,Lo g.next g (((g.alloc o).alloc B).alloc R):=λo B R=>(l2 o B).trans (Lo.alloc (by simp only[dN];omega));have G:∀o,kL ((g.alloc o).alloc (jI (.mk f e args t v s d c))) (g.next+1) (.mk f e args t v s d c):=λo=>⟨by rw[ke];exact if_pos rfl,by simp only[dN];omega⟩;cases q:aj f 0 with
  |true=>
  refine⟨277,[.ptr g.next 0],λr=>kL r g.next (.mk f e args t v s d c),g.alloc (jI (.mk f e args t v s d c)),?_,l1 _,⟨by rw[ke,if_pos rfl],by rw[dN];omega⟩,λg1 g2 h j i=>kL.st g1 g2 h j i (bJ _) (by rw[dN];omega),?_,λm=>rfl⟩;.refine aP func223 ?_;simp only[f223];simp only[go_sem,ae.cells,q];rfl
  .rw[eI,q,aR];exact(axl g.next f e args t v s d c).mono λr h=>h.1|false=>obtain⟨a,l,rfl⟩:=S q;simp only[dE]at D;have u:=Q a gK;have M:=W a gK;have O:=N a gK;simp only[ae.bm,oE]at e2 e4;cases j:aj f 1 with
  |true=>
  obtain rfl:=nK j;have U:l≠[]:=by rintro rfl;exact absurd (show tW 1 1=V from H) eY
  refine⟨338,[.ptr (g.next+1) 0],λr=>kL r (g.next+1) (.mk 1 e (a::l) t v s d c),(g.alloc (jI (.mk 1 e (a::l) t v s d c))).alloc (jI (.mk 1 e (a::l) t v s d c)),?_,l2 _ _,G _,λg1 g2 h j i=>kL.st g1 g2 h j i ab (by simp only[dN];omega),?_,λm=>rfl⟩;.refine aP func223 ?_;simp only[f223];simp only[go_sem,ae.cells,ae.bm,oE,q,j,e2];rfl
  . have:eI (.mk 1 e (a::l) t v s d c)=(eI a).map λY=>nJ Y C l:=by rw[eI,<-Cw];rfl
    rw[this];exact axn e a l t v s d c (g.next+1) ab U u M|false=>cases i:aj f 2||aj f 3 with
  |true=>
    obtain⟨k,rfl⟩:∃k,f=bif k then 3 else 2:=by
      rw[yU]at i;rcases i with i|i;.exact⟨C,nK i⟩
      .exact⟨V,nK i⟩
    refine⟨338,[.ptr (g.next+1) 0],λr=>kL r (g.next+1) (.mk (bif k then 3 else 2) e (a::l) t v s d c),(g.alloc (jI (.mk (bif k then 3 else 2) e (a::l) t v s d c))).alloc (jI (.mk (bif k then 3 else 2) e (a::l) t v s d c)),?_,l2 _ _,G _,λg1 g2 h j i=>kL.st g1 g2 h j i ab (by simp only[dN];omega),?_,λm=>rfl⟩
    . refine aP func223 ?_;simp only[f223];cases k;.have P:aj 2 2=V:=rfl;simp only[bS]at q j e2|-;simp only[go_sem,ae.cells,ae.bm,oE,q,j,P,e2];rfl
      .have P:aj 3 2=C:=rfl;have q3:aj 3 3=V:=rfl;simp only[aR]at q j e2|-;simp only[go_sem,ae.cells,ae.bm,oE,q,j,P,q3,e2];rfl
    . have:eI (.mk (bif k then 3 else 2) e (a::l) t v s d c)=mU k (a::l) (a::l) 0:=by rw[eI,q,i];cases k<;>rfl
      rw[this];exact axm k e (a::l) t v s d c (g.next+1) (by simp only[dE];omega) Q|false=>
    have K:aj f 2=C:=by cases h:aj f 2<;>rw[h]at i<;>first|rfl|exact absurd i aO
    have T:aj f 3=C:=by cases h:aj f 3<;>rw[h]at i<;>first|rfl|exact absurd i aO
    cases A:aj f 4 with|true=>
      obtain rfl:=nK A;have e3:=acy a (.mk 4 e (a::l) t v s d c) (g.alloc (jI (.mk 4 e (a::l) t v s d c)));simp only[jI,ae.cells,ae.bm,oE,go_sem]at e3;refine⟨341,[.ptr (g.next+1) 0,.ptr (g.next+1+1) 0],λr=>kL r (g.next+1) a/\kL r (g.next+1+1) (.mk 4 e (a::l) t v s d c),((g.alloc (jI (.mk 4 e (a::l) t v s d c))).alloc (jI a)).alloc (jI (.mk 4 e (a::l) t v s d c)),?_,l3 _ _ _,⟨⟨?_,?_⟩,⟨?_,?_⟩⟩,λg1 g2 h j i=>⟨kL.st g1 g2 h.1 j i ab (by simp only[dN];omega),kL.st g1 g2 h.2 j i ab (by simp only[dN];omega)⟩,?_,λm=>rfl⟩;.refine aP func223 ?_;simp only[f223];simp only[go_sem,ae.cells,ae.bm,oE,q,j,K,T,A,d1,e3];rfl
      .rw[ke,if_neg (by simp only[dN];omega),ke];exact if_pos rfl
      .simp only[dN];omega
      .rw[ke];exact if_pos rfl
      .simp only[dN];omega
      . have:eI (.mk 4 e (a::l) t v s d c)=(eI a).flatMap (uD (.mk 4 e (a::l) t v s d c) a):=by rw[eI];rfl
        rw[this];exact afm a (.mk 4 e (a::l) t v s d c) a l _ _ u rfl|false=>cases E:aj f 8 with
      |true=>
        obtain rfl:=nK E;obtain⟨b,rfl⟩:∃b,l=[b]:=by have:=ar8 (n:=(a::l).length) rfl H;match l,this with|[b],_=>exact⟨b,rfl⟩
        have e3:=acy a (.mk 4 V [b] 0 0 0 0 zE) (g.alloc (jI (.mk 8 e [a,b] t v s d c)));simp only[jI,ae.cells,ae.bm,oE,Expr.cells,Expr.bm,zB,go_sem]at e3;have X:=aIu (x:=.agg a.cells) (y:=.agg b.cells);refine⟨341,[.ptr (g.next+1) 0,.ptr (g.next+1+1) 0],λr=>kL r (g.next+1) a/\kL r (g.next+1+1) (.mk 4 V [b] 0 0 0 0 zE),((g.alloc (jI (.mk 8 e [a,b] t v s d c))).alloc (jI a)).alloc (jI (.mk 4 V [b] 0 0 0 0 zE)),?_,l3 _ _ _,⟨⟨?_,?_⟩,⟨?_,?_⟩⟩,λg1 g2 h j i=>⟨kL.st g1 g2 h.1 j i ab (by simp only[dN];omega),kL.st g1 g2 h.2 j i ab (by simp only[dN];omega)⟩,?_,λm=>rfl⟩;.refine aP func223 ?_;simp only[f223];simp only[go_sem,ae.cells,ae.bm,oE,q,j,K,T,A,E,d2,X,e3];rfl
        .rw[ke,if_neg (by simp only[dN];omega),ke];exact if_pos rfl
        .simp only[dN];omega
        .rw[ke];exact if_pos rfl
        .simp only[dN];omega
        . have:eI (.mk 8 e [a,b] t v s d c)=(eI a).flatMap (uD (.mk 4 V [b] 0 0 0 0 zE) b):=by rw[eI];rfl
          rw[this];exact afm a (.mk 4 V [b] 0 0 0 0 zE) b [] _ _ u rfl|false=>
        refine⟨342,[.ptr (g.next+1) 0],λr=>kL r (g.next+1) (.mk f e (a::l) t v s d c),(g.alloc (jI (.mk f e (a::l) t v s d c))).alloc (jI (.mk f e (a::l) t v s d c)),?_,l2 _ _,G _,λg1 g2 h j i=>kL.st g1 g2 h j i ab (by simp only[dN];omega),?_,λm=>rfl⟩;.refine aP func223 ?_;simp only[f223];simp only[go_sem,ae.cells,ae.bm,oE,q,j,K,T,A,E,e4];rfl
        . have:eI (.mk f e (a::l) t v s d c)=(eI a).flatMap (rI (.mk f e (a::l) t v s d c)):=by rw[eI,q,i,bS,bS,BH];congr 1;funext z;rw[BC,A,bS]
          rw[this];exact axo f e a l t v s d c (g.next+1) u j A E O termination_by p=>oW p decreasing_by simp_wf;have:=oU u;omega
theorem apY(p q:ae)(b:Nat)(g:GH)(h:g.get b=J (jI p))(a:p.cn<100000000):ev PP cf (.call 228 ([]++[.agg q.cells]++[.ptr b 0]) .no g)=J (.val (.dv (.bool (p.same q)) .no) g):=by have e1:=Oe p q a;refine aP func228 ?_;simp only[f228];simp only[go_sem,h,e1]
theorem apZ(p q:ae)(b:Nat)(g:GH)(h:g.get b=J (jI p))(a:q.cn<100000000):ev PP cf (.call 231 ([]++[.agg q.cells]++[.ptr b 0]) .no g)=J (.val (.dv (.bool (q.same p)) .no) g):=by have e1:=Oe q p a;refine aP func231 ?_;simp only[f231];simp only[go_sem,h,e1]
theorem acn(n:Bool)(l:bq)(p:ae)(a:l.length<1200000)(h:p.cn<100000000):∃g,CC 178 [bP n (ae.bm l) 61 14,.agg p.cells] (.val (.dv (iD (gP p.same l 0)) .no) g):=by have e1:=S7 (d:=λe=>.agg (ae.cells e)) (q:=p.same) 228 [] [.ptr 0 0] (GH.empty.alloc (jI p)) n l ab (λx _=>.inl ⟨aN,aN,apY p x 0 _ rfl h⟩) (.inr (.inr (.inr rfl))) (λx=>⟨rfl,ae.dG x⟩);rw[<-ae.rh]at e1;refine⟨GH.empty.alloc (jI p),aP func178 ?_⟩;simp only[go_sem]at e1;simp only[f178];simp only[go_sem,e1]
theorem apK(n:Bool)(l:bq)(p:ae)(c:l.length<1200000)(h:∀a∈l,a.cn<100000000):∃g,CC 182 [bP n (ae.bm l) 61 14,.agg p.cells] (.val (.dv (iD (gP (λa=>a.same p) l 0)) .no) g):=by have e1:=S7 (d:=λe=>.agg (ae.cells e)) (q:=λa=>a.same p) 231 [] [.ptr 0 0] (GH.empty.alloc (jI p)) n l ab (λx b=>.inl ⟨aN,aN,apZ p x 0 _ rfl (h x b)⟩) (.inr (.inr (.inr rfl))) (λx=>⟨rfl,ae.dG x⟩);rw[<-ae.rh]at e1;refine⟨GH.empty.alloc (jI p),aP func182 ?_⟩;simp only[go_sem]at e1;simp only[f182];simp only[go_sem,e1]
def Edge.YN(e d:Edge):Bool:=aj e.var d.var&&(aj e.ty d.ty&&(e.cond.same d.cond&&(kr aj e.opens.l d.opens.l&&(kr aj e.lI.l d.lI.l&&(kr Expr.same e.jJ.l d.jJ.l&&(kr MD e.jZ.l d.jZ.l&&kr aj e.inside.l d.inside.l))))))
theorem Edge.aG9(e d:Edge):e.YN d=e.same d:=by grind[Edge.YN,Edge.same]
theorem apX(e d:Edge)(a:xm e):CC 226 [e.d,d.d] (vB (e.same d)):=by rw[<-Edge.aG9];have e1:=D9 e.cond d.cond (by have:=a.c;omega);have e2:=Cr e.opens d.opens (by have:=a.o;omega);have e3:=Cr e.lI d.lI (by have:=a.p;omega);have e4:=Cr e.inside d.inside (by have:=a.i;omega);have e5:=ace e.jZ d.jZ (by have:=a.l;omega);have e6:=acd e.jJ d.jJ (by have:=a.k;omega) a.e;simp only[go_sem]at e2 e3 e4 e5 e6;refine aP func226 ?_;simp only[f226];simp only[go_sem,Edge.d,Edge.cells,Edge.YN];repeat'(with_reducible apply sp<;>intro h<;>simp only[h,e1,e2,e3,e4,e5,e6,go_sem])
def Edge.BR(x y:Edge):Bool:=aj x.dst y.dst&&x.same y
abbrev D1(x:Edge):GO:=.box ⟨x.cells,[]⟩
theorem apW(x y:Edge)(b:Nat)(g:GH)(a:g.get b=J (D1 x))(e:xm x):ev PP cf (.call 225 ([]++[y.d]++[.ptr b 0]) .no g)=J (.val (.dv (.bool (x.BR y)) .no) g):=by have e1:=apX x y e;refine aP func225 ?_;simp only[D1,Edge.d,Edge.cells,go_sem]at e1 a;simp only[f225];simp only[go_sem,a,Edge.BR,Edge.d,Edge.cells];repeat'(with_reducible apply sp<;>intro h<;>simp only[h,e1,a,go_sem])<;>first|done|rw[YT a]
def IX:ah bq->bh|none=>.val (.tp [(.nl,.any),iO 17]) .empty|some o=>.val (.tp [sV (ae.bm o) 61 14,iO 0]) .empty
theorem Sq{p:ae}(a:lE p)(h:p.jc=0):GP p:=by grind[Sr,Rk,NS]
mutual
def jq : ae -> List Guard
  | .mk op _ args ty var scope _ cond => bif aj op 9 then ⟨scope, ty, var, cond⟩ :: rW args else bif aj op 1 || (aj op 8 || (aj op 10 || aj op 7)) then rW args else bif aj op 3 then AQ args else []
def rW : bq -> List Guard
  | [] => []
  | a :: _ => jq a
def AQ : bq -> List Guard
  | [] => []
  | a :: l => jq a ++ AQ l
end
mutual
theorem GM : ∀ p : ae, (jq p).length <= p.nn
  | .mk op _ args ty var scope _ cond => by
    have h := akd args
    have a := ZX args
    rw [jq, ae.nn]
    cases aj op 9 <;> cases (aj op 1 || (aj op 8 || (aj op 10 || aj op 7))) <;> cases aj op 3 <;> simp <;> omega
theorem akd : ∀ l : bq, (rW l).length <= ae.bH l
  | [] => bJ _
  | a :: l => by have := GM a; rw [rW, ae.bH]; omega
theorem ZX : ∀ l : bq, (AQ l).length <= ae.bH l
  | [] => bJ _
  | a :: l => by have := GM a; have := ZX l; rw [AQ, ae.bH, gJ]; omega
end
theorem aab{n:aq}(h:l.length+n.length<1000):fB 281 11 112 (.ay l 281 11) (.ex 281) n=J (.ay (l++n) 281 11,.ex 281):=by grind[qg,bl]
theorem akI{n b:Nat}{o:aM}(h:n≠0):fB e n b .nl o []=J (.nl,.any):=by grind[fB,kK,br]
theorem aac{f:α->DV}{l:List α}{n b:Nat}(c:n≠0)(a:b<=1000)(h:l≠[])(g:l.length<1200000){o:aM}:fB e n b .nl o (l.map f)=J (.ay (l.map f) e n,.ex e):=by
 unfold fB;rw[kK c];have d:(l.map f).length*b<=bl:=by have:=qR (show l.length<=1200000 by omega) a;grind[bl]
 grind[bl,nH]
theorem flG(l:List Guard):((l.map Guard.d).all λy=>decide (y.flat.length=11))=V:=by simp[DV.flat,Guard.d,Guard.dG]
theorem Bc(l:List Guard):cA (l.map Guard.d)=V:=iB Guard.pure _
def BD:ah DV->ah aM->aM|some .nl,_=>.any|_,x=>x.getD .no
section
variable{P:aG}{u:iF}{t:an}{D:aq}{os:List (Nat×aM)}{o:Nat×aM}{I e a c:Nat}{b:LB}{l:aq}{d:DV}{x:ah aM}
theorem ahe:ew ⟨D,o::os⟩ I=BD (D[I]?) (look (o::os) I):=by
 show(match D[I]? with|some .nl=>aM.any|_=>(look _ _).getD _)=_;rcases D[I]? with _|d;.rfl
 cases d<;>rfl
theorem afK(h:AM.isAgg P t=J C):fD P u t ⟨D,o::os⟩ I=(D[I]?).bind λd=>J (oP u ⟨D,o::os⟩ I d (ew ⟨D,o::os⟩ I)):=by grind[fD]
theorem aD4:BD (J .nl) x=.any:=rfl
theorem aD3:BD (J (.ay l a c)) x=x.getD .no:=rfl
theorem aD2{k:fN}{n:Int}:BD (J (.int k n)) x=x.getD .no:=rfl
theorem aD0:BD (J (.agg l)) x=x.getD .no:=rfl
theorem aD1{z:Bool}:BD (J (.bool z)) x=x.getD .no:=rfl
theorem aD5{z:aD}:BD (J (.str z)) x=x.getD .no:=rfl
theorem aGc:oP .take b I d (.ex e)=(.dv d (.ex e),{cells:=iC b.cells I .jk,own:=cW b.own I 1}):=rfl
theorem aGb:oP .take b I d .any=(.dv d .any,b):=rfl
theorem aGd:oP .take b I d .no=(.dv d .no,b):=rfl
theorem aF4:oP .len b I (.ay l a c) (.ex e)=(.hd l.length,b):=rfl
theorem aF3:oP .len b I d .any=(.dv d .no,b):=rfl
theorem aF5:oP .len b I d .no=(.dv d .no,b):=rfl
theorem aF1:oP .copy b I d .no=(.dv d .no,b):=rfl
theorem aFZ:oP .copy b I d .any=(.dv d .no,b):=rfl
theorem aF0:oP .copy b I d (.ex e)=(.dv d .no,{b with own:=(I,.ty e)::cW b.own I 1}):=rfl
theorem aF8:oP .ref b I d (.ex e)=(.dv d .no,{b with own:=(I,.ty e)::cW b.own I 1}):=rfl
theorem aF9:oP .ref b I d .no=(.dv d .no,b):=rfl
theorem aF7:oP .ref b I d .any=(.dv d .no,b):=rfl
theorem getD_none{a:α}:(Z:ah α).getD a=a:=rfl
end
attribute[go_sem]ahe afK aD4 aD3 aD2 aD0 aD1 aD5 aGc aGb aGd aF4 aF3 aF5 aF1 aFZ aF0 aF8 aF9 aF7 getD_none ady
def rZ(l:bq)(i:Nat)(r:bq)(x:Edge):Edge:=⟨.ofNat i,bif aA x.dst 0 then x.dst else Pu (r.getD x.dst.toNat zP) l 0,x.var,x.ty,x.cond,x.opens,x.lI,x.jJ,x.jZ,x.inside⟩
theorem EX{f:α->DV}{l:List α}{n:Nat}(h:l≠[]):bP V (l.map f) e n=.ay (l.map f) e n:=by
 cases l;.grind
 rfl
set_option maxHeartbeats 4000000
def uf(s:fY)(e:Edge)(r:bq):ah bF×(fY×bq):=bif s.any e.BR then(Z,(s,r))else bif aA 2048 (.ofNat (s++[e]).length)then(J .ret,(s++[e],r))else(Z,(s++[e],r))
def gH(x:Pr)(s:fY×bq):ah bF×(fY×bq):=bif x.done then uf s.1 (jm x.cJ (-1)) s.2 else bif aA (gP x.rest.same s.2 0) 0 then(bif aj x.rest.ua 0 then uf s.1 (jm x.cJ (.ofNat s.2.length)) (s.2++[x.rest])else(J .ret,s))else uf s.1 (jm x.cJ (gP x.rest.same s.2 0)) s.2
section
variable{P:aG}{t fn n id I e:Nat}{sl:cT}{lb:dV}{g:GH}{d:ah Tmp}{b:LB}{dd:DV}{l new:aq}
theorem ayV:rB P t .copy ⟨fn,n,sl,lb,g⟩ d id I (.box b)=(fD P .copy t b I).bind λr=>aH ⟨fn,n,sl,lb,g.set id (.box r.2)⟩ d r.1:=by simp[rB]
theorem afD:rB P t .take ⟨fn,n,sl,lb,g⟩ d id I (.box b)=(fD P .take t b I).bind λr=>aH ⟨fn,n,sl,lb,g.set id (.box r.2)⟩ d r.1:=by simp[rB]
theorem ayX:rB P t .len ⟨fn,n,sl,lb,g⟩ d id I (.box b)=(fD P .len t b I).bind λr=>aH ⟨fn,n,sl,lb,g.set id (.box r.2)⟩ d r.1:=by simp[rB]
theorem aF2:oP .copy b I dd (.ty e)=(.dv dd .no,b):=rfl
theorem aF6:oP .len b I dd (.ty e)=(.dv dd .no,b):=rfl
theorem aGe:oP .take b I dd (.ty e)=(.dv dd (.ty e),{b with own:=cW b.own I 1}):=rfl
theorem aag{b:Nat}(c:n≠0)(h:(l.length+new.length)*b<=bl)(a:l.length+new.length<=bl):fB e n b (.ay l e n) (.ty e) new=J (.ay (l++new) e n,.ty e):=by grind[fB,kK,pM,nH]
end
theorem aDz:mn I (.ay l m k) (.ty e)=[(I,.ty e)]:=rfl
theorem aDA:mn I (.ay l m k) (.ex e)=[(I,.ex e)]:=rfl
def acJ(o:Nat):GO->ah DV|.box b=>(match b.cells[o]?,ew b o with|some d,.ex _=>J d|_,_=>Z)|_=>Z
theorem aqE{f n i:Nat}{s:cT}{l:dV}{g:GH}:Ea ⟨f,n,s,l,g⟩ i I=(g.get i).bind (acJ I):=by
 show(match g.get i with|some (.box b)=>_|_=>Z)=_;rcases g.get i with _|o;.rfl
 cases o<;>rfl
theorem aqF{a:Nat}:acJ 0 (.box ⟨[.ay l a m],[(0,.ex k)]⟩)=J (.ay l a m):=rfl
theorem aDL{s:St}:cR cf.ao s (.const (.agg #[.int .i64 0,.slice Z 0 0,.int .i64 0,.int .i64 0,.int .i64 0,.int .i64 0,.int .i64 0,.slice Z 0 0,.int .i64 0,.int .i64 0,.int .i64 0,.int .i64 0,.int .i64 0,.string ⟨#[]⟩]))=J (.dv (.agg [iD 0,.nl,iD 0,iD 0,iD 0,iD 0,iD 0,.nl,iD 0,iD 0,iD 0,iD 0,iD 0,.str []]) .no):=by rfl
theorem awv{t:St}{d:ah Tmp}{i n:Nat}{x:aq}(h:aZ P e=J n):Bp P t d (.tmp s) i (J (.slice e)) (.dv (.ay x e n) (.ex k))=bif cm i x.length then aH t d (.se s i 0)else Z:=by show(aZ P e).bind _=_;simp_all
attribute[go_sem]awv
theorem aEj:tC .nl=.any:=rfl
attribute[go_sem]aEj aDL
attribute[go_sem]aqE aqF aDz aDA ayV afD ayX aF2 aF6 aGe
theorem QS{c:bR}{r:dR}{l:ah Nat}{i:Nat}{o:List aB}{s:St}{k:eB->ah bh}{Q:SV->GH->Prop}(a b:List Unit)(h:nk c st0 o=V)(f:Av c o=[(a.length,a.length+1+b.length)])(j:C7 o (a.length+1+(b.length+1))=V)(d:Sat (IN P c r (c.s8 s.fn) (c.zt s.fn) (.mk o (.mk o)) b a (.mk o (.mk o)) (E7 (c.keep s.fn i) k) s) Q):Sat (exec P c r l (.region i ⟨o⟩ V) s k) Q:=by obtain⟨v,g,e,q⟩:=d;exact⟨v,g,Tb a b h f j e,q⟩
def sX(e:fY)(o:aM):GO:=match e with|[]=>.box ⟨[.nl],[]⟩|a::l=>.box ⟨[.ay ((a::l).map Edge.d) 241 17],[(0,o)]⟩
def xH:bq->GO|[]=>.box ⟨[.nl],[]⟩|a::l=>.box ⟨[.ay (ae.bm (a::l)) 61 14],[(0,.ex 61)]⟩
theorem rb{o:aM}(h:es≠[]):sX es o=.box ⟨[.ay (es.map Edge.d) 241 17],[(0,o)]⟩:=by
 cases es;.grind
 .rfl
theorem AZ{r:bq}(h:r≠[]):xH r=.box ⟨[.ay (ae.bm r) 61 14],[(0,.ex 61)]⟩:=by
 cases r;.grind
 .rfl
theorem Ch{x:Edge}{o:aM}:sX (es++[x]) o=.box ⟨[.ay (es.map Edge.d++[x.d]) 241 17],[(0,o)]⟩:=by simp[rb]
theorem Sc{r:bq}{x:ae}:xH (r++[x])=.box ⟨[.ay (ae.bm r++[.agg x.cells]) 61 14],[(0,.ex 61)]⟩:=by rw[AZ aO,ae.A3];rfl
structure ajv(cap:GH->Prop)(ps:List Pr)(c:ah bF)(s:fY×bq)(g:GH):Prop where e:∃o,(o=.ex 241\/o=.ty 241)/\g.get 4=J (sX s.1 o)p:g.get 5=J (xH s.2)a:g.get 1=J (.box ⟨[.nl],[]⟩)b:g.get 2=J (.box ⟨[.nl],[]⟩)d:g.get 3=J (.box ⟨[iD (bif c.isSome then 17 else 0)],[]⟩)c:cap g
theorem Tt:∀(l:List Pr)(s:fY×bq),(∀x∈l,lE x.rest)->(∀q∈s.2,GP q)->(cO gH l s).2.1.length<=s.1.length+l.length/\(cO gH l s).2.2.length<=s.2.length+l.length/\∀q∈(cO gH l s).2.2,GP q
 |[],s,_,h=>⟨bJ _,bJ _,h⟩|x::l,s,i,h=>by
  have j:∀y∈l,lE y.rest:=λy m=>i y (kG _ m);have f:∀e r,(uf s.1 e r).2.1.length<=s.1.length+1/\(uf s.1 e r).2.2=r:=by intro e r;unfold uf;cases s.1.any e.BR with|true=>exact⟨JA _,rfl⟩|false=>cases aA 2048 (.ofNat (s.1++[e]).length)with|true=>exact⟨aO,rfl⟩|false=>exact⟨aO,rfl⟩
  have g:(gH x s).2.1.length<=s.1.length+1/\(gH x s).2.2.length<=s.2.length+1/\∀q∈(gH x s).2.2,GP q:=by unfold gH;cases x.done with|true=>rw[aR];obtain⟨a,b⟩:=f (jm x.cJ (-1)) s.2;rw[b];exact⟨a,ab,h⟩|false=>rw[bS];cases aA (gP x.rest.same s.2 0) 0 with|false=>rw[bS];obtain⟨a,b⟩:=f (jm x.cJ (gP x.rest.same s.2 0)) s.2;rw[b];exact⟨a,ab,h⟩|true=>rw[aR];cases k:aj x.rest.ua 0 with|false=>exact⟨by show s.1.length<=_;omega,by show s.2.length<=_;omega,h⟩|true=>
   rw[aR];obtain⟨a,b⟩:=f (jm x.cJ (.ofNat s.2.length)) (s.2++[x.rest]);rw[b];refine⟨a,aO,λq d=>?_⟩;rcases List.mem_append.1 d with d|d;.exact h q d
   .rw[List.mem_singleton.1 d];exact Sr (i x gK) (nK k)
  rw[uS,dE];cases(gH x s).1 with|some c=>exact⟨by show(gH x s).2.1.length<=_;omega,by show(gH x s).2.2.length<=_;omega,g.2.2⟩|none=>obtain⟨a,b,c⟩:=Tt l (gH x s).2 j g.2.2;exact⟨by show(cO gH l (gH x s).2).2.1.length<=_;omega,by show(cO gH l (gH x s).2).2.2.length<=_;omega,c⟩
theorem aJC(x:Pr)(s:fY×bq)(c:bF)(h:(gH x s).1=J c):c=.ret:=by grind[uf,gH]
theorem adq:∀(l:List Pr)(s:fY×bq)(c:bF),(cO gH l s).1=J c->c=.ret|[],_,_,h=>by cases h|x::l,s,c,h=>by rw[uS]at h;cases a:(gH x s).1 with|none=>rw[a]at h;exact adq l _ c h|some d=>rw[a]at h;exact aJC x s c (by rw[a];exact h)
def fu(p:ae):Int×(fY×bq):=match(cO gH (eI p) ([],[])).1 with|none=>(0,(cO gH (eI p) ([],[])).2)|some _=>(17,[],[])
def xy(e:fY)(o:aM):DV×aM:=match e with|[]=>(.nl,.any)|a::l=>(.ay ((a::l).map Edge.d) 241 17,o)
theorem GL{o:aM}:xy [] o=(.nl,.any):=rfl
theorem AP{o:aM}(h:es≠[]):xy es o=(.ay (es.map Edge.d) 241 17,o):=by
 cases es;.grind
 .rfl
theorem acm(p:ae)(P:GP p):Sat (ev PP cf (.call 177 [.agg p.cells] .no .empty)) λv _=>∃o,(o=.ex 241\/o=.ty 241)/\v=.tp [xy (fu p).2.1 o,sV (ae.bm (fu p).2.2) 61 14,iO (fu p).1]:=by
 refine mV func177 ?_;obtain⟨h,ca,cap,g1,e1,l1,c1,M,it,hp⟩:=RJ p P.a (by have:=P.n;omega) ⟨6,[(0,jI p),(1,.box ⟨[.nl],[]⟩),(2,.box ⟨[.nl],[]⟩),(3,.box ⟨[iD 0],[]⟩),(4,.box ⟨[.nl],[]⟩),(5,.box ⟨[.nl],[]⟩)]⟩;have k0:=l1.2 1 (by show 1<6;decide);have k1:=l1.2 2 (by show 2<6;decide);have k2:=l1.2 3 (by show 3<6;decide);have k3:=l1.2 4 (by show 4<6;decide);have k4:=l1.2 5 (by show 5<6;decide);have hn:6<=g1.next:=l1.1;simp only[f177];simp only[go_sem,e1];have H7:=IL p P.a;have cU:=(Qu p).1;have hsq:p.nn*p.nn<=4096:=qR P.n P.n;refine Al it gH (ajv cap (eI p)) ([],[]) hp rfl ⟨⟨.ex 241,.inl rfl,k3⟩,k4,k0,k1,k2,c1⟩ (λc s g' h=>h.c) (λc s g3 g4 h R=>⟨let⟨o,l,D⟩:=h.e;⟨o,l,(R.2 4 ab).trans D⟩,(R.2 5 ab).trans h.p,(R.2 1 ab).trans h.a,(R.2 2 ab).trans h.b,(R.2 3 ab).trans h.d,M _ _ h.c R.1 λi _ hi=>R.2 i hi⟩) (λx s g2 hx hR hN L=>?_) (λg2 hR hN=>?_)
 . have uq:=hx.mem;have hxb:=H7 x uq;have aet:∀x∈eI p,lE x.rest:=λx hx=>(H7 x hx).pat (by have:=P.n;omega) (by have:=P.c;omega);have hlen:s.1.length<=4096/\s.2.length<=4096/\∀aa∈s.2,GP aa:=by obtain⟨pre,post,l,D⟩:=hx;have:=Tt pre ([],[]) (λy hy=>aet y (by rw[l];exact Jz _ hy)) (λaa h=>absurd h mA);rw[D]at this;have R:=gY List.length l;rw[gJ]at R;simp only[gE]at this;exact⟨ab,ab,this.2.2⟩
   obtain⟨⟨oe,Q,r1⟩,r2,m,t,r,N⟩:=hR;refine Ao L rfl ?_;have n:∀i,i<=6->(i=g2.next)=False:=λi h=>cF ab;have b:∀i,i<=6->(i=g2.next+1)=False:=λi h=>cF ab;have K:∀i,i<=6->(g2.next=i)=False:=λi h=>cF ab;have E:∀i,i<=5->(g1.next=i)=False:=λi h=>cF ab;have n6:∀i,i<=6->(g2.next+1=i)=False:=λi h=>cF ab;have f:∀i,i<=5->(i=g1.next)=False:=λi h=>cF ab;have O:∀i,6<=i->i<g1.next->(∀k,k<=5->(i=k)=False)/\(i=g1.next)=False/\(i=g2.next)=False/\(i=g2.next+1)=False:=λi l D=>⟨λk h=>cF ab,cF ab,cF ab,cF ab⟩;have w:(g1.next=g2.next)=False:=cF ab;have A:(g1.next=g2.next+1)=False:=cF ab;have u:(g2.next=g1.next)=False:=cF ab;have z4:(g2.next+1=g1.next)=False:=cF ab;have lU:(g2.next+1=g2.next)=False:=cF ab;have a:(g2.next=g2.next+1)=False:=cF ab;obtain⟨⟨src,G,var,ty,⟨S,T,U,W,X,Y,o7,o8,o9⟩,H,F,ub,uw,ins⟩,done,rest⟩:=x;obtain⟨es,I⟩:=s;simp only at r1 r2 hlen;have N2:=λ(e:Edge)(j:xm e)(g:GH)(hb:g.get g2.next=J (D1 e))=>S6 (d:=Edge.d) (q:=e.BR) 225 [] [.ptr g2.next 0] g V es ab (λy hy=>.inl ⟨aN,aN,apW e y g2.next g hb j⟩) (.inr (.inr rfl)) (λx=>⟨rfl,Edge.dG x⟩);simp only[qm,Pr.rd,Edge.d,Edge.cells,Expr.cells];have hE:∀k,xm (jm ⟨src,G,var,ty,⟨S,T,U,W,X,Y,o7,o8,o9⟩,H,F,ub,uw,ins⟩ k):=λk=>let h:=(hxb.ok (by have:=P.n;omega) (by have:=P.c;omega)).e
   ⟨h.c,h.k,h.e,h.o,h.p,h.i,h.l⟩;have ha:∀x:DV,fB 241 17 240 (.ay (es.map Edge.d) 241 17) (.ty 241) [x]=J (.ay (es.map Edge.d++[x]) 241 17,.ty 241):=λe=>aag eY (by show(List.length (es.map Edge.d)+1)*240<=bl;rw[fZ];unfold bl;omega) (by show List.length (es.map Edge.d)+1<=bl;rw[fZ];unfold bl;omega);have d3:cW [(0,.ex 61)] 0 1=[]:=rfl;have d0:cW [] 0 1=[]:=rfl;have d1:cW [(0,.ex 241)] 0 1=[]:=rfl;have d2:cW [(0,.ty 241)] 0 1=[]:=rfl;cases done with
   |true=>
   simp only[gH,aR];have e9:=N2 _ (hE (-1));unfold uf;generalize hq:es.any (Edge.BR (jm ⟨src,G,var,ty,⟨S,T,U,W,X,Y,o7,o8,o9⟩,H,F,ub,uw,ins⟩ (-1)))=aa at*;simp only[D1,jm,Edge.cells,Expr.cells,go_sem]at e9;rcases oS (es=[])with j|j;.subst j;simp only[sX]at r1;simp only[eG,zB]at e9;simp only[go_sem,L,w,A,u,z4,lU,a,n,b,f,r1,e9];have l1:aA 2048 (.ofNat 1)=C:=rfl;apply gU<;>intro h<;>simp only[h,l1,go_sem,L,w,A,u,a,n,b,f,E,r1];all_goals refine⟨rfl,⟨⟨.ex 241,.inl rfl,?_⟩,?_,?_,?_,?_,M _ _ N ?_ (λi l D=>?_)⟩,nQ,rfl⟩<;>first|(simp only[dN,gL];omega)|(simp only[go_sem,n,b,f,r1,sX,r2,m,t,r,rU,fS,eG,jm,Edge.d,Edge.cells,Expr.cells];done)|simp only[go_sem,O i l ab]
   . rw[rb j]at r1;rw[EX j]at e9;have Bf:es++[jm ⟨src,G,var,ty,⟨S,T,U,W,X,Y,o7,o8,o9⟩,H,F,ub,uw,ins⟩ (-1)]≠[]:=aO;rcases Q with rfl|rfl;.simp only[go_sem,L,w,A,u,z4,lU,a,n,b,f,K,r1,e9,d1];apply gU<;>intro h<;>simp only[h,go_sem,L,w,A,u,a,n,b,f,K,E,r1,d2,ha,gJ,dE,gE,fZ,iZ];rotate_left;refine gU (λB=>?_) (λB=>?_)<;>simp only[B,go_sem,L,w,A,n,b,f,E,m,t,r];all_goals refine⟨rfl,⟨⟨.ty 241,.inr rfl,?_⟩,?_,?_,?_,?_,M _ _ N ?_ (λi l D=>?_)⟩,nQ,rfl⟩<;>first|(simp only[dN,gL];omega)|(simp only[go_sem,n,b,f,r1,rb j,r2,m,t,r,rU,Ch,jm,Edge.d,Edge.cells,Expr.cells];done)|simp only[go_sem,O i l ab]
     .simp only[go_sem,L,w,A,u,z4,lU,a,n,b,f,r1,e9];apply gU<;>intro h<;>simp only[h,go_sem,L,w,A,u,a,n,b,f,K,r1,d2,ha,gJ,dE,gE,fZ,iZ];rotate_left;refine gU (λB=>?_) (λB=>?_)<;>simp only[B,go_sem,L,w,A,n,b,f,E,m,t,r];all_goals refine⟨rfl,⟨⟨.ty 241,.inr rfl,?_⟩,?_,?_,?_,?_,M _ _ N ?_ (λi l D=>?_)⟩,nQ,rfl⟩<;>first|(simp only[dN,gL];omega)|(simp only[go_sem,n,b,f,r1,rb j,r2,m,t,r,rU,Ch,jm,Edge.d,Edge.cells,Expr.cells];done)|simp only[go_sem,O i l ab]
   |false=>
   have hpx:=aet _ uq;have KJ:=(hxb.ok (by have:=P.n;omega) (by have:=P.c;omega)).p;simp only at hpx KJ;obtain⟨gz,e8⟩:=acn V I rest ab KJ;obtain⟨_,g0,h0,rfl⟩:=Oc rest hpx;have b1:=aHh;have b2:=aHw;simp only[bw,opsOf,f177,go_sem]at b1 b2;simp only[gH,bS];rcases oS (I=[])with hr|hr
   . subst hr;have i1:gP rest.same [] 0=-1:=rfl;have i2:aA (-1) 0=V:=rfl;simp only[xH]at r2;simp only[ae.bm,zB,i1]at e8;simp only[i1,i2,aR];simp only[go_sem,L,w,A,u,z4,lU,a,n,b,f,r2,e8,i2,h0];apply gU<;>intro h<;>simp only[h,go_sem,L,w,A,u,a,n,b,f,E,r2,m,t,r]
     . refine QS [(),(),(),(),(),(),()] [] b2 b1 rfl ?_;simp only[go_sem,z4,lU,n,b,f,r2];have e9:=N2 _ (hE (0));unfold uf;generalize hq:es.any (Edge.BR (jm ⟨src,G,var,ty,⟨S,T,U,W,X,Y,o7,o8,o9⟩,H,F,ub,uw,ins⟩ (0)))=aa at*;simp only[D1,jm,Edge.cells,Expr.cells,go_sem]at e9;rcases oS (es=[])with j|j;.subst j;simp only[sX]at r1;simp only[eG,zB]at e9;simp only[go_sem,u,a,n,b,f,K,r1,e9];have l1:aA 2048 (.ofNat 1)=C:=rfl;apply gU<;>intro h<;>simp only[h,l1,go_sem,L,w,A,u,a,n,b,f,K,E,r1];all_goals refine⟨rfl,⟨⟨.ex 241,.inl rfl,?_⟩,?_,?_,?_,?_,M _ _ N ?_ (λi l D=>?_)⟩,nQ,rfl⟩<;>first|(simp only[dN,gL];omega)|(simp only[go_sem,n,b,f,r1,sX,r2,xH,ae.bm,m,t,r,rU,fS,eG,jm,Edge.d,Edge.cells,Expr.cells];done)|simp only[go_sem,O i l ab]
       . rw[rb j]at r1;rw[EX j]at e9;have Bf:es++[jm ⟨src,G,var,ty,⟨S,T,U,W,X,Y,o7,o8,o9⟩,H,F,ub,uw,ins⟩ (0)]≠[]:=aO;rcases Q with rfl|rfl;.simp only[go_sem,u,a,K,r1,e9,d1];apply gU<;>intro h<;>simp only[h,go_sem,L,w,A,u,a,n,b,f,K,E,r1,d2,ha,gJ,dE,gE,fZ,iZ];rotate_left;refine gU (λB=>?_) (λB=>?_)<;>simp only[B,go_sem,L,w,A,n,b,f,E,m,t,r];all_goals refine⟨rfl,⟨⟨.ty 241,.inr rfl,?_⟩,?_,?_,?_,?_,M _ _ N ?_ (λi l D=>?_)⟩,nQ,rfl⟩<;>first|(simp only[dN,gL];omega)|(simp only[go_sem,n,b,f,r1,rb j,r2,xH,ae.bm,m,t,r,rU,Ch,jm,Edge.d,Edge.cells,Expr.cells];done)|simp only[go_sem,O i l ab]
         .simp only[go_sem,u,a,n,b,f,K,r1,e9];apply gU<;>intro h<;>simp only[h,go_sem,L,w,A,u,a,n,b,f,K,E,r1,d2,ha,gJ,dE,gE,fZ,iZ];rotate_left;refine gU (λB=>?_) (λB=>?_)<;>simp only[B,go_sem,L,w,A,n,b,f,E,m,t,r];all_goals refine⟨rfl,⟨⟨.ty 241,.inr rfl,?_⟩,?_,?_,?_,?_,M _ _ N ?_ (λi l D=>?_)⟩,nQ,rfl⟩<;>first|(simp only[dN,gL];omega)|(simp only[go_sem,n,b,f,r1,rb j,r2,xH,ae.bm,m,t,r,rU,Ch,jm,Edge.d,Edge.cells,Expr.cells];done)|simp only[go_sem,O i l ab]
     . rcases oS (es=[])with j|j;.subst j;have hb:sX [] oe=.box ⟨[.nl],[]⟩:=rfl;refine⟨rfl,⟨⟨oe,Q,?_⟩,?_,?_,?_,?_,M _ _ N ?_ (λi l D=>?_)⟩,nQ,rfl⟩<;>first|(simp only[dN,gL];omega)|(simp only[go_sem,n,b,f,r1,hb,r2,xH,m,t,r,rU];done)|simp only[go_sem,O i l ab]
       .refine⟨rfl,⟨⟨oe,Q,?_⟩,?_,?_,?_,?_,M _ _ N ?_ (λi l D=>?_)⟩,nQ,rfl⟩<;>first|(simp only[dN,gL];omega)|(simp only[go_sem,n,b,f,r1,rb j,r2,xH,m,t,r,rU];done)|simp only[go_sem,O i l ab]
   . rw[AZ hr]at r2;rw[afX hr]at e8;generalize gP rest.same I 0=iq at*;simp only[go_sem,L,w,A,u,z4,lU,a,n,b,f,r2,e8];apply gU<;>intro h<;>simp only[h,go_sem,h0,z4,lU,n,b,f]
     . apply gU<;>intro h<;>simp only[h,go_sem,L,w,A,u,a,n,b,f,E,r2,m,t,r]
       . refine QS [(),(),(),(),(),(),()] [] b2 b1 rfl ?_;have hlr:(I.length<1200000)=True:=iT ab;have tk:∀z:DV,List.take I.length (ae.bm I++[z])=ae.bm I:=λz=>List.take_left' (ae.qn I);have dr:∀z:DV,List.drop (I.length+1) (ae.bm I++[z])=[]:=λz=>List.drop_eq_nil_of_le (by simp[ae.qn]);have gt:∀z:DV,(ae.bm I++[z])[I.length]?=J z:=λz=>by rw[ov (by rw[ae.qn];exact bJ _),ae.qn,Nat.sub_self];rfl
         have lt:(I.length<I.length+1)=True:=iT ab;simp only[go_sem,z4,lU,n,b,f,n6,r2,ae.qn,hlr,tk,dr,gt,lt,gJ,dE,gE,iZ];have e9:=N2 _ (hE (.ofNat I.length));unfold uf;generalize hq:es.any (Edge.BR (jm ⟨src,G,var,ty,⟨S,T,U,W,X,Y,o7,o8,o9⟩,H,F,ub,uw,ins⟩ (.ofNat I.length)))=aa at*;simp only[D1,jm,Edge.cells,Expr.cells,go_sem]at e9;rcases oS (es=[])with j|j;.subst j;simp only[sX]at r1;simp only[eG,zB]at e9;simp only[go_sem,u,a,n,b,f,K,r1,e9];have l1:aA 2048 (.ofNat 1)=C:=rfl;apply gU<;>intro h<;>simp only[h,l1,go_sem,L,w,A,u,a,n,b,f,K,E,r1];all_goals refine⟨rfl,⟨⟨.ex 241,.inl rfl,?_⟩,?_,?_,?_,?_,M _ _ N ?_ (λi l D=>?_)⟩,nQ,rfl⟩<;>first|(simp only[dN,gL];omega)|(simp only[go_sem,n,b,f,r1,sX,r2,Sc,d3,d0,m,t,r,rU,fS,eG,jm,Edge.d,Edge.cells,Expr.cells];done)|simp only[go_sem,O i l ab]
         . rw[rb j]at r1;rw[EX j]at e9;have Bf:es++[jm ⟨src,G,var,ty,⟨S,T,U,W,X,Y,o7,o8,o9⟩,H,F,ub,uw,ins⟩ (.ofNat I.length)]≠[]:=aO;rcases Q with rfl|rfl;.simp only[go_sem,u,a,K,r1,e9,d1];apply gU<;>intro h<;>simp only[h,go_sem,L,w,A,u,a,n,b,f,K,E,r1,d2,ha,gJ,dE,gE,fZ,iZ];rotate_left;refine gU (λB=>?_) (λB=>?_)<;>simp only[B,go_sem,L,w,A,n,b,f,E,m,t,r];all_goals refine⟨rfl,⟨⟨.ty 241,.inr rfl,?_⟩,?_,?_,?_,?_,M _ _ N ?_ (λi l D=>?_)⟩,nQ,rfl⟩<;>first|(simp only[dN,gL];omega)|(simp only[go_sem,n,b,f,r1,rb j,r2,Sc,d3,d0,m,t,r,rU,Ch,jm,Edge.d,Edge.cells,Expr.cells];done)|simp only[go_sem,O i l ab]
           .simp only[go_sem,u,a,n,b,f,K,r1,e9];apply gU<;>intro h<;>simp only[h,go_sem,L,w,A,u,a,n,b,f,K,E,r1,d2,ha,gJ,dE,gE,fZ,iZ];rotate_left;refine gU (λB=>?_) (λB=>?_)<;>simp only[B,go_sem,L,w,A,n,b,f,E,m,t,r];all_goals refine⟨rfl,⟨⟨.ty 241,.inr rfl,?_⟩,?_,?_,?_,?_,M _ _ N ?_ (λi l D=>?_)⟩,nQ,rfl⟩<;>first|(simp only[dN,gL];omega)|(simp only[go_sem,n,b,f,r1,rb j,r2,Sc,d3,d0,m,t,r,rU,Ch,jm,Edge.d,Edge.cells,Expr.cells];done)|simp only[go_sem,O i l ab]
       . rcases oS (es=[])with j|j;.subst j;have hb:sX [] oe=.box ⟨[.nl],[]⟩:=rfl;refine⟨rfl,⟨⟨oe,Q,?_⟩,?_,?_,?_,?_,M _ _ N ?_ (λi l D=>?_)⟩,nQ,rfl⟩<;>first|(simp only[dN,gL];omega)|(simp only[go_sem,n,b,f,r1,hb,r2,AZ hr,m,t,r,rU];done)|simp only[go_sem,O i l ab]
         .refine⟨rfl,⟨⟨oe,Q,?_⟩,?_,?_,?_,?_,M _ _ N ?_ (λi l D=>?_)⟩,nQ,rfl⟩<;>first|(simp only[dN,gL];omega)|(simp only[go_sem,n,b,f,r1,rb j,r2,AZ hr,m,t,r,rU];done)|simp only[go_sem,O i l ab]
     . skip;have e9:=N2 _ (hE (iq));unfold uf;generalize hq:es.any (Edge.BR (jm ⟨src,G,var,ty,⟨S,T,U,W,X,Y,o7,o8,o9⟩,H,F,ub,uw,ins⟩ (iq)))=aa at*;simp only[D1,jm,Edge.cells,Expr.cells,go_sem]at e9;rcases oS (es=[])with j|j;.subst j;simp only[sX]at r1;simp only[eG,zB]at e9;simp only[go_sem,u,a,n,b,f,r1,e9];have l1:aA 2048 (.ofNat 1)=C:=rfl;apply gU<;>intro h<;>simp only[h,l1,go_sem,L,w,A,u,a,n,b,f,E,r1];all_goals refine⟨rfl,⟨⟨.ex 241,.inl rfl,?_⟩,?_,?_,?_,?_,M _ _ N ?_ (λi l D=>?_)⟩,nQ,rfl⟩<;>first|(simp only[dN,gL];omega)|(simp only[go_sem,n,b,f,r1,sX,r2,AZ hr,m,t,r,rU,fS,eG,jm,Edge.d,Edge.cells,Expr.cells];done)|simp only[go_sem,O i l ab]
       . rw[rb j]at r1;rw[EX j]at e9;have Bf:es++[jm ⟨src,G,var,ty,⟨S,T,U,W,X,Y,o7,o8,o9⟩,H,F,ub,uw,ins⟩ (iq)]≠[]:=aO;rcases Q with rfl|rfl;.simp only[go_sem,u,a,K,r1,e9,d1];apply gU<;>intro h<;>simp only[h,go_sem,L,w,A,u,a,n,b,f,K,E,r1,d2,ha,gJ,dE,gE,fZ,iZ];rotate_left;refine gU (λB=>?_) (λB=>?_)<;>simp only[B,go_sem,L,w,A,n,b,f,E,m,t,r];all_goals refine⟨rfl,⟨⟨.ty 241,.inr rfl,?_⟩,?_,?_,?_,?_,M _ _ N ?_ (λi l D=>?_)⟩,nQ,rfl⟩<;>first|(simp only[dN,gL];omega)|(simp only[go_sem,n,b,f,r1,rb j,r2,AZ hr,m,t,r,rU,Ch,jm,Edge.d,Edge.cells,Expr.cells];done)|simp only[go_sem,O i l ab]
         .simp only[go_sem,u,a,n,b,f,r1,e9];apply gU<;>intro h<;>simp only[h,go_sem,L,w,A,u,a,n,b,f,K,r1,d2,ha,gJ,dE,gE,fZ,iZ];rotate_left;refine gU (λB=>?_) (λB=>?_)<;>simp only[B,go_sem,L,w,A,n,b,f,E,m,t,r];all_goals refine⟨rfl,⟨⟨.ty 241,.inr rfl,?_⟩,?_,?_,?_,?_,M _ _ N ?_ (λi l D=>?_)⟩,nQ,rfl⟩<;>first|(simp only[dN,gL];omega)|(simp only[go_sem,n,b,f,r1,rb j,r2,AZ hr,m,t,r,rU,Ch,jm,Edge.d,Edge.cells,Expr.cells];done)|simp only[go_sem,O i l ab]
 .obtain⟨⟨oe,Q,r1⟩,r2,m,t,r,N⟩:=hR;have b1:=aHi;have b2:=aHx;simp only[bw,opsOf,f177,go_sem]at b1 b2;unfold fu;have CP:=adq (eI p) ([],[]);generalize cO gH (eI p) ([],[])=z at*;obtain⟨c,es,I⟩:=z;simp only at r1 r2 r CP;cases c with|some c=>obtain rfl:=CP c rfl;simp only[RH,aR]at r;simp only[go_sem,m,t,r];exact⟨.ex 241,.inl rfl,rfl⟩|none=>
   simp only[rU,bS]at r;simp only[go_sem];refine QS [()] [] b2 b1 rfl ?_;have d0:cW [] 0 1=[]:=rfl;have d1:cW [(0,.ex 241)] 0 1=[]:=rfl;have d2:cW [(0,.ty 241)] 0 1=[]:=rfl;have d3:cW [(0,.ex 61)] 0 1=[]:=rfl;rcases oS (es=[])with j|j<;>rcases oS (I=[])with hr|hr;.subst j;subst hr;simp only[sX,xH]at r1 r2;simp only[go_sem,r1,r2,m,t,r,d0];exact⟨.ex 241,.inl rfl,rfl⟩
   .subst j;rw[AZ hr]at r2;simp only[sX]at r1;simp only[go_sem,r1,r2,m,t,r,d0,d3];exact⟨.ex 241,.inl rfl,by rw[GL,zj hr]⟩
   . subst hr;rw[rb j]at r1;simp only[xH]at r2;rcases Q with rfl|rfl;.simp only[go_sem,r1,r2,m,t,r,d0,d1];exact⟨.ex 241,.inl rfl,by rw[AP j];rfl⟩
     .simp only[go_sem,r1,r2,m,t,r,d0,d2];exact⟨.ty 241,.inr rfl,by rw[AP j];rfl⟩
   . rw[rb j]at r1;rw[AZ hr]at r2;rcases Q with rfl|rfl;.simp only[go_sem,r1,r2,m,t,r,d0,d1,d3];exact⟨.ex 241,.inl rfl,by rw[AP j,zj hr]⟩
     .simp only[go_sem,r1,r2,m,t,r,d0,d2,d3];exact⟨.ty 241,.inr rfl,by rw[AP j,zj hr]⟩
section
variable{P:aG}{cf:bR}{rec:dR}{O:St}{gs cr:aD}{l:List aB}{d:ah Tmp}{ty t u:an}{pos:String}{af:Array Go.Edge}{wh:ah (Nat×Bool)}{x y k:aK}{id I len e n m i:Nat}{o:aM}{w:DV}{lo hi:ah DV}
theorem awx(h:aZ P e=J n):Bp P O d x i (J (.slice e)) (.dv (.cV id I len e n) o)=bif cm i len then aH O d (.dv (.ptr id (I+i*n)) .no)else Z:=by show(aZ P e).bind _=_;simp_all
theorem ay9:PR O (J (.slice t)) (.dv (.cV id I len e n) o)=J len:=rfl
theorem ay6:mQ (.cV id I len e n)=J len:=rfl
theorem aH6:n7 (.full e)=.full e:=rfl
theorem aH4:n7 .any=.any:=rfl
def abt(P:aG)(s:St)(d:ah Tmp)(l:an):DV->ah St|.nl=>aH s d (.tp [])|.cV id I n _ e=>(match s.g.get id,cI P l with|some (.box b),J z=>bif br (I+n*e) b.cells.length&&aw z.flat.length e then aH {s with sl:=cK s.sl,g:=s.g.set id (.box {cells:=km b.cells I ((lW n z).flatMap DV.flat),own:=cW b.own I (n*e)})} d (.tp [])else Z|_,_=>Z)|_=>Z
theorem ajF:dH P cf rec gs cr l O ⟨d,.call ⟨.builtin .clear,⟨[x]⟩,⟨[t]⟩⟩,ty,pos,af,wh⟩=(FU (P.underlying t)).bind λe=>(bj cf.ao O x).bind (abt P O d e):=by
 show(match P.underlying t with|some (.slice _)=>_|_=>Z)=_;rcases P.underlying t with _|q;.rfl
 cases q<;>rfl
def P0(P:aG)(a:aD)(s:St)(d:ah Tmp)(e:an)(n:Nat):ah St:=(ey P e).bind λi=>(cI P e).bind λz=>bif !(aw i.1 0)&&aw z.flat.length i.1&&br (n*i.2) bl&&br n bl&&CA a d then aH {s with g:=s.g.alloc (.box ⟨(lW n z).flatMap DV.flat,[(((lW n z).flatMap DV.flat).length,.full e)]⟩)} d (.dv (.cV s.g.next 0 n e i.1) .no)else Z
theorem ajU:dH P cf rec gs cr l O ⟨d,.makeSlice t x x,ty,pos,af,wh⟩=(FU (P.underlying t)).bind λe=>(bj cf.ao (cY O [x,x]) x).bind λv=>(Fb v).bind λn=>P0 P gs (cY O [x,x]) d e n:=by show(match P.underlying t,bj _ (cY O [x,x]) x,bj _ (cY O [x,x]) x with|some (.slice _),J (.int _ (.ofNat n)),J (.int _ (.ofNat m))=>_|_,_,_=>Z)=_;cases P.underlying t with|none=>rfl|some q=>cases q with
 |slice b=>cases bj _ _ x with|none=>rfl|some v=>cases v with
  | int k a => rcases a with a|a
               . show(match P.info? _,cI P _ with|some i,J z=>_|_,_=>Z)=P0 P gs _ d _ a;unfold P0 ey;rcases P.info? _ with _|i;.rfl
                 rcases cI P _ with _|z;.rfl
                 simp only[gF,cQ,pM,xj];rfl
               rfl|_=>rfl
 |_=>rfl
end
attribute[go_sem↓]ajF ajU
attribute[go_sem]awx ay9 ay6 aH6 aH4 abt P0
theorem aoz:dm cf (bw f4 6)=V:=by rfl
theorem aoy:dm cf (bw f4 11)=V:=by rfl
theorem aoJ:dm cf (bw f9 6)=V:=by rfl
theorem aoI:dm cf (bw f9 11)=V:=by rfl
theorem aoa:dm cf (bw f26 6)=V:=by rfl
theorem aow:dm cf (bw f46 6)=V:=by rfl
theorem aov:dm cf (bw f46 11)=V:=by rfl
theorem aox:dm cf (bw f47 6)=V:=by rfl
theorem aoD:dm cf (bw f76 1)=V:=by rfl
theorem anQ:dm cf (bw f132 6)=V:=by rfl
theorem aol:dm cf (bw f34 13)=V:=by rfl
theorem aoA:dm cf (bw f54 1)=V:=by rfl
theorem aoC:dm cf (bw f54 6)=V:=by rfl
theorem aoB:dm cf (bw f54 10)=V:=by rfl
theorem anR:dm cf (bw f139 24)=V:=by rfl
theorem an2:dm cf (bw f238 1)=V:=by rfl
theorem an3:dm cf (bw f238 2)=V:=by rfl
theorem anT:dm cf (bw f192 2)=V:=by rfl
theorem an9:dm cf (bw f261 17)=V:=by rfl
theorem aof:dm cf (bw f323 1)=V:=by rfl
theorem aoh:dm cf (bw f323 3)=V:=by rfl
theorem aoi:dm cf (bw f323 5)=V:=by rfl
theorem aoj:dm cf (bw f323 6)=V:=by rfl
theorem aok:dm cf (bw f323 9)=V:=by rfl
theorem aog:dm cf (bw f323 10)=V:=by rfl
theorem aom:dm cf (bw f369 1)=V:=by rfl
theorem aHj:Av cf (bw f297 1)=[(7,9)]:=by rfl
theorem aHy:nk cf st0 (bw f297 1)=V:=by rfl
theorem anU:dm cf (bw f197 11)=V:=by rfl
theorem anV:dm cf (bw f198 1)=V:=by rfl
theorem anZ:dm cf (bw f198 8)=V:=by rfl
theorem an0:dm cf (bw f198 9)=V:=by rfl
theorem anW:dm cf (bw f198 11)=V:=by rfl
theorem anX:dm cf (bw f198 19)=V:=by rfl
theorem anY:dm cf (bw f198 21)=V:=by rfl
theorem an8:dm cf (bw f258 1)=V:=by rfl
theorem aoc:dm cf (bw f315 1)=V:=by rfl
theorem an7:dm cf (bw f251 1)=V:=by rfl
theorem aod:dm cf (bw f320 1)=V:=by rfl
theorem aoe:dm cf (bw f321 1)=V:=by rfl
theorem anS:dm cf (bw f189 9)=V:=by rfl
theorem aoE:dm cf (bw f89 15)=V:=by rfl
theorem aoG:dm cf (bw f98 1)=V:=by rfl
theorem aoH:dm cf (bw f98 3)=V:=by rfl
theorem an1:dm cf (bw f21 11)=V:=by rfl
theorem aon:dm cf (bw f40 2)=V:=by rfl
theorem aoo:dm cf (bw f40 7)=V:=by rfl
theorem aoF:dm cf (bw f8 12)=V:=by rfl
theorem an6:dm cf (bw f24 16)=V:=by rfl
theorem aor:dm cf (bw f43 3)=V:=by rfl
theorem aos:dm cf (bw f43 4)=V:=by rfl
theorem aot:dm cf (bw f43 5)=V:=by rfl
theorem aou:dm cf (bw f44 1)=V:=by rfl
theorem an4:dm cf (bw f242 6)=V:=by rfl
theorem an5:dm cf (bw f243 6)=V:=by rfl
theorem aob:dm cf (bw f312 6)=V:=by rfl
theorem aop:dm cf (bw f424 4)=V:=by rfl
theorem aoq:dm cf (bw f424 6)=V:=by rfl
set_option maxHeartbeats 1000000
def oZ(a b c d e f:Int):Bool:=bif aj a d then bif aj b e then aj c f else C else C
theorem ud(a:Int):aj a a=V:=by simp[jU]
theorem Ka{n:Nat}{b c:Int}:gv PP (n+2) 162 (.agg [.int .i64 a,.int .i64 b,.int .i64 c]) (.agg [.int .i64 a',.int .i64 b',.int .i64 c'])=J (oZ a b c a' b' c'):=by rw[He underlying162 aT];simp only[go_sem,oZ,A4,String.reduceBEq];grind
theorem J'{v b c d:Int}:gv PP 50 164 (.agg [.int .i64 v,.int .i64 a,.int .i64 b,.int .i64 c]) (.agg [.int .i64 d,.int .i64 a',.int .i64 b',.int .i64 c'])=J (bif aj v d then oZ a b c a' b' c' else C):=by rw[He underlying164 aT];simp only[go_sem,Ka,A4,String.reduceBEq];grind
theorem Kb{b:Int}:gv PP 50 167 (.agg [.int .i64 a,.int .i64 b]) (.agg [.int .i64 a',.int .i64 b'])=J (bif aj a a' then aj b b' else C):=by rw[He underlying167 aT];simp only[go_sem,A4,String.reduceBEq];grind
theorem aLH:PP.eqGuardType PP.depth 162=C:=aT
theorem aLG:PP.eqGuardType PP.depth 164=C:=aT
theorem aLI:PP.eqGuardType PP.depth 167=C:=aT
section
variable{v a b c v' a' b' c':Int}
theorem aaB:gG PP .eql 162 (.agg [.int .i64 a,.int .i64 b,.int .i64 c]) (.agg [.int .i64 a',.int .i64 b',.int .i64 c'])=J (.bool (oZ a b c a' b' c')):=by simp[JP,Ka]
theorem ald:gG PP .neq 164 (.agg [.int .i64 v,.int .i64 a,.int .i64 b,.int .i64 c]) (.agg [.int .i64 v',.int .i64 a',.int .i64 b',.int .i64 c'])=J (.bool (!bif aj v v' then oZ a b c a' b' c' else C)):=by simp[JP,J']
theorem alf:gG PP .neq 167 (.agg [.int .i64 a,.int .i64 b]) (.agg [.int .i64 a',.int .i64 b'])=J (.bool (!bif aj a a' then aj b b' else C)):=by simp[JP,Kb]
end
attribute[go_sem]aaB ald alf
theorem apy(a:Int):CC 127 [iD a] (vB C):=by refine aP func127 ?_;simp only[go_sem,f127,ud]
theorem Af(a b:Int):CC 73 [iD a,iD b] (vI (ir a b)):=by refine aP func73 ?_;simp only[go_sem,f73,apy,ir];apply sp<;>intro h<;>simp only[h,go_sem];apply sp<;>intro h<;>simp only[h,go_sem]
def wW:cE->Int|[]=>0|a::l=>bif aj a 0 then wW l else a
theorem Fh(l:cE)(n:Bool)(d:l.length<1000000000):CC 72 [bP n (l.map iD) 3 1] (vI (wW l)):=by
 refine aP func72 ?_;simp only[go_sem,f72];refine gR l (λi=>[(8,iS i)]) (λ_ l=>vI (wW l)) ab rfl rfl ?_ (λi x l b c w a=>?_);.simp only[go_sem,wW]
 .simp only[go_sem]at a;simp only[go_sem,b,c,wW];apply sp<;>intro h<;>simp only[h,w,go_sem,a]
theorem Sz(a:Int):ir a a=0:=by simp[ir,fQ]
theorem ab3{b c:Int}(h:oZ a b c a' b' c'=V):a=a'/\b=b'/\c=c':=by grind[oZ,jU]
def jz(t s q:Int):DV:=.agg [iD t,iD s,iD q]
def aL.ref(e:aL):DV:=jz e.tm e.src e.seq
theorem Vc(e:aL):CC 145 [e.d] (.val (.dv e.ref .no) .empty):=by refine aP func145 ?_;simp only[go_sem,f145,aL.d,aL.cells,aL.ref,jz]
theorem aB8(e:aL):CC 250 [e.d] (.val (.dv e.ref .no) .empty):=by refine aP func250 ?_;simp only[go_sem,f250,aL.d,aL.cells,aL.ref,jz]
theorem aBL(e:aL):CC 131 [e.d] (.val (.dv e.ref .no) .empty):=by refine aP func131 ?_;simp only[go_sem,f131,aL.d,aL.cells,aL.ref,jz]
def Cl(t s q c b a:Int):Int:=wW [ir t c,ir s b,ir q a]
theorem agI(t s q c b a:Int):CC 251 [jz t s q,jz c b a] (vI (Cl t s q c b a)):=by have h:=Fh [ir t c,ir s b,ir q a] C ai;simp only[zy,fS,eG]at h;have hd:=an7;simp only[bw,opsOf,f251,go_sem]at hd;refine aP func251 ?_;simp only[go_sem,f251,hd,jz,Af,h,Cl]
theorem aCZ(a b:aL):CC 94 [a.d,b.d] (vB (bif aj a.src b.src then aj a.seq b.seq else C)):=by refine aP func94 ?_;simp only[go_sem,f94,aL.d,aL.cells];apply sp<;>intro h<;>simp only[h,go_sem]
def aL.cmp(a b:aL):Int:=Cl a.tm a.src a.seq b.tm b.src b.seq
theorem aC0(a b:aL):CC 98 [a.d,b.d] (vI (a.cmp b)):=by have h:=Fh [ir a.tm b.tm,ir a.src b.src,ir a.seq b.seq] C ai;simp only[zy,fS,eG]at h;have c:=Vc a;have d:=Vc b;have hd:=aoG;have T:=aoH;simp only[bw,opsOf,f98,go_sem]at hd T;simp only[aL.d,aL.cells,aL.ref,jz]at c d;refine aP func98 ?_;simp only[go_sem,f98,hd,aL.d,aL.cells,c,d,aL.cmp,Cl];apply sp<;>intro k<;>simp only[k,T,Af,h,go_sem];obtain⟨k1,k2,k3⟩:=ab3 k;rw[k1,k2,k3,Sz,Sz,Sz];rfl
theorem azV(a:Int):aA a a=C:=by simp[fQ]
theorem aBM(v:Sl ct)(c:v.l.length<1000000000):CC 132 [uJ v,uJ v] (vB V):=by
 have hd:=anQ;simp only[bw,opsOf,f132,go_sem]at hd;refine aP func132 ?_;simp only[go_sem,f132,uJ,ud];refine gR v.l (λi=>[(5,iS i)]) (λ_ _=>vB _) ab rfl rfl ?_ (λi x l a b w h=>?_);.simp only[go_sem]
 .simp only[go_sem]at h;simp only[go_sem,a,b,w,hd,ct.d,ct.cells,h,ud,Dp,dM,aR,xk]
theorem ab2(a b c:Int):oZ a b c a b c=V:=by simp[oZ,jU]
theorem aCQ(e:aL)(l:e.j9.l.length<1000000000):CC 76 [e.d,e.d] (vB V):=by have hd:=aoD;have h:=aBL e;have a:=aBM _ l;simp only[bw,opsOf,f76,go_sem]at hd;simp only[aL.d,aL.cells,aL.ref,jz]at h;refine aP func76 ?_;simp only[go_sem,f76,hd,aL.d,aL.cells,h,a,ab2,ud]
theorem agO(v:Sl aL)(d:v.l.length<1000000000)(f:∀e∈v.l,e.j9.l.length<1000000000):CC 47 [cX v,cX v] (vB V):=by
 have hd:=aox;simp only[bw,opsOf,f47,go_sem]at hd;refine aP func47 ?_;simp only[go_sem,f47,cX,ud];refine gR v.l (λi=>[(5,iS i)]) (λ_ _=>vB _) ab rfl rfl ?_ (λi x l b c w a=>?_);.simp only[go_sem]
 .have h:=aCQ x ai;simp only[go_sem]at a;simp only[go_sem,b,c,w,hd,h,a]
theorem aCG(c:bp)(d:c.bs.l.length<1000000000)(e:c.ss.l.length<1000000000):CC 46 [c.d,c.d] (vB V):=by
 have hd:=aow;have m:=aov;simp only[bw,opsOf,f46,go_sem]at hd m;refine aP func46 ?_;simp only[go_sem,f46,bp.d,bp.cells,gX,jC,ud];refine gR c.bs.l (λi=>[(5,iS i)]) (λ_ _=>vB V) ab rfl rfl ?_ (λi x l a b w h=>?_)
 . simp only[go_sem];refine gR c.ss.l (λi=>[(6,iS i)]) (λ_ _=>vB _) ab rfl rfl ?_ (λi x l a b w h=>?_);.simp only[go_sem]
   .simp only[go_sem]at h;simp only[go_sem,a,b,w,m,fA.d,fA.cells,ud,h]
 .simp only[go_sem]at h;simp only[go_sem,a,b,w,hd,dU.d,dU.cells,ud,ab2,h]
def bp.sz(c:bp):Prop:=c.bs.l.length<1000000000/\c.ss.l.length<1000000000
def F7(v:Sl aL):Prop:=v.l.length<1000000000/\∀e∈v.l,e.j9.l.length<1000000000
def dy.sz(e:dy):Prop:=F7 e.wait/\F7 e.held/\e.runs.l.length<1000000000/\∀c∈e.runs.l,c.sz
theorem aCa(e:dy)(h:e.sz):CC 26 [e.d,e.d] (vB V):=by
 obtain⟨⟨b,d⟩,⟨f,g⟩,m,c⟩:=h;have hd:=aoa;simp only[bw,opsOf,f26,go_sem]at hd;have g1:=agO e.wait b d;have g2:=agO e.held f g;refine aP func26 ?_;simp only[go_sem,f26,dy.d,dy.cells,mc,ud];refine gR e.runs.l (λi=>[(5,iS i)]) (λ_ _=>vB V) ab rfl rfl ?_ (λi x l j k w a=>?_);.simp only[go_sem,g1,g2]
 .have h:=aCG x (c x ai).1 (c x ai).2;simp only[go_sem]at a;simp only[go_sem,j,k,w,hd,h,a]
theorem alS{t:an}{s u:aD}:gG PP .lss t (.str s) (.str u)=J (.bool (Bw s u)):=rfl
theorem alR{t:an}{s u:aD}:gG PP .gtr t (.str s) (.str u)=J (.bool (!(Bw s u||decide (s=u)))):=by show J _=_;rw[xN]
theorem azY:∀s:aD,Bw s s=C:=by intro s;induction s with|nil=>rfl|cons a s i=>show(bif cm a a then V else bif cm a a then C else Bw s s)=C;grind[eK]
attribute[go_sem]alS alR
theorem aCF(v:ct):CC 45 [v.d,v.d] (vI 0):=by refine aP func45 ?_;simp only[go_sem,f45,ct.d,ct.cells,ud,azY,dM,vR]
theorem aB7(k:aE):CC 25 [k.d,k.d] (vI 0):=by have h:=aCF k.key;simp only[ct.d,ct.cells]at h;refine aP func25 ?_;simp only[go_sem,f25,aE.d,aE.cells,azV,h]
def bK.sz(o:bK):Prop:=o.marks.l.length<1000000000/\o.keys.l.length<1000000000/\∀k∈o.keys.l,k.e.sz
theorem nv9(o:bK)(a b:Bool)(h:o.sz):CC 9 [(bK.mk ⟨a,o.marks.l⟩ ⟨b,o.keys.l⟩).d,o.d] (vB V):=by
 obtain⟨g,j,f⟩:=h;have hd:=aoJ;have m:=aoI;simp only[bw,opsOf,f9,go_sem]at hd m;refine aP func9 ?_;simp only[go_sem,f9,bK.d,bK.cells,cL,ki,ud];refine gR o.marks.l (λi=>[(5,iS i)]) (λ_ _=>vB V) ab rfl rfl ?_ (λi x l e d w c=>?_)
 . simp only[go_sem];refine gR o.keys.l (λi=>[(6,iS i)]) (λ_ _=>vB V) ab rfl rfl ?_ (λi x l e d w c=>?_);.simp only[go_sem]
   .have g1:=aB7 x;have g2:=aCa x.e (f x (dw d));simp only[aE.d,aE.cells,dy.d,dy.cells]at g1 g2;simp only[go_sem]at c;simp only[go_sem,e,d,w,m,aE.d,aE.cells,g1,g2,ud,c]
 .simp only[go_sem]at c;simp only[go_sem,e,d,w,hd,ud,c]
theorem aww{t:St}{d:ah Tmp}{i n:Nat}{x:aq}(h:aZ P e=J n):Bp P t d (.tmp s) i (J (.slice e)) (.dv (.ay x e n) (.ex k))=bif cm i x.length then aH t d (.se s i 0)else Z:=by show(aZ P e).bind _=_;simp_all
attribute[go_sem]aww
theorem aBK(a b:aD):CC 130 [.str a,.str b] (vI (cmpL a b)):=Cs (v:=.dv (.int .i64 (cmpL a b)) .no) rfl rfl
theorem aBI(a b:ct):CC 128 [a.d,b.d] (vI (ir a.k b.k)):=by refine aP func128 ?_;simp only[go_sem,f128,ct.d,ct.cells,Af]
theorem aBJ(a b:ct):CC 129 [a.d,b.d] (vI (ir a.n b.n)):=by refine aP func129 ?_;simp only[go_sem,f129,ct.d,ct.cells,Af]
def ct.cmp(a b:ct):Int:=bif aj (ir a.k b.k) 0 then bif aj (ir a.n b.n) 0 then cmpL a.s b.s else ir a.n b.n else ir a.k b.k
theorem agR(a b:ct):CC 74 [a.d,b.d] (vI (a.cmp b)):=by
 have c:=aBI a b;have d:=aBJ a b;simp only[ct.d,ct.cells]at c d;refine aP func74 ?_;simp only[go_sem,f74,ct.d,ct.cells,ct.cmp];refine hZ ?_;have l0:aA 0 (di 2)=V:=rfl;have l1:aA 1 (di 2)=V:=rfl;have l2:aA 2 (di 2)=C:=rfl;have w:dI .i64 (jP 0 1)=1:=rfl;have e:dI .i64 (jP 1 1)=2:=rfl;simp only[go_sem];rw[l0,aR];all_goals try show jO PP cf (ev PP cf) _=_
 all_goals simp only[go_sem,c]
 apply sp<;>intro h<;>simp only[h,go_sem,w];refine hZ ?_;simp only[go_sem];rw[l1,aR];show jO PP cf _ _=_;simp only[go_sem,d];apply sp<;>intro h<;>simp only[h,go_sem,e];refine hZ ?_;simp only[go_sem];show jO PP cf _ _=_;simp only[go_sem,aBK]
def aE.cmp(a b:aE):Int:=bif aj (ir a.q b.q) 0 then a.key.cmp b.key else ir a.q b.q
theorem aCM(a b:aE):CC 55 [a.d,b.d] (vI (a.cmp b)):=by have v:=agR a.key b.key;simp only[ct.d,ct.cells]at v;refine aP func55 ?_;simp only[go_sem,f55,aE.d,aE.cells,aE.cmp,Af];apply sp<;>intro h<;>simp only[h,v,go_sem]
theorem aCU(e:dy):CC 85 [e.d] (vB (bif aj (.ofNat e.held.l.length) 0 then aj (.ofNat e.wait.l.length) 0 else C)):=by refine aP func85 ?_;simp only[go_sem,f85,dy.d,dy.cells,cX];apply sp<;>intro h<;>simp only[h,go_sem]
def IA(n:Int):Bool:=bif aA n (-1)then V else aA 1099511627776 n
theorem aCK(n:Int):CC 53 [iD n] (vB (IA n)):=by refine aP func53 ?_;simp only[go_sem,f53,IA];apply sp<;>intro h<;>simp only[h,go_sem]
theorem aCf(n:Int):CC 29 [iD n] (vB (bif aA n 1 then C else !aA 8 n)):=by refine aP func29 ?_;simp only[go_sem,f29];apply sp<;>intro h<;>simp only[h,go_sem]
theorem aCe(l:List Bool)(c:l.length<1000):CC 28 [.ay (l.map DV.bool) 4 1] (vI (bif l.all id then 0 else 2)):=by
 refine aP func28 ?_;simp only[go_sem,f28];refine gR l (λi=>[(7,iS i)]) (λ_ l=>vI (bif l.all id then 0 else 2)) ab rfl rfl ?_ (λi x l a b w h=>?_);.simp only[go_sem,nG]
 .simp only[go_sem]at h;cases x<;>simp only[go_sem,a,b,w,h,oT,id]
def E6:Int->cE->Int|a,[]=>a|a,b::l=>E6 (bif aA b a then b else a) l
theorem aBG(n:Bool)(a:Int)(l:cE)(d:l.length<1100000):CC 106 [bP n ((a::l).map iD) 3 1] (vI (E6 a l)):=by
 refine aP func106 ?_;have e:aA (.ofNat (l.length+1)) 1=C:=by rfl
 simp only[go_sem,f106];refine I' e ?_;simp only[go_sem];refine rC l a (λi s=>[(4,iS (i+1)),(3,.dv (.int .i64 s) .no)]) (λ_ l s=>vI (E6 s l)) (λ_ _ _=>True) ab rfl trivial rfl (λs _=>?_) (λi x t s c b w _ h=>?_);.simp only[go_sem,E6]
 .have E:(i+1<l.length+1)=True:=iT aT;have T:dI .i64 (jP (di (i+1)) 1)=di (i+1+1):=uL ai;have h:=h (bif aA x s then x else s) trivial;simp only[go_sem]at h;simp only[go_sem,E,b,T,E6,AJ,h]
theorem aCN(o:bK)(m:o.marks.l.length<1100000):CC 63 [o.d] (vI (match o.marks.l with|[]=>-1|a::l=>E6 a l)):=by refine aP func63 ?_;obtain⟨⟨nl,s⟩,k⟩:=o;simp only[go_sem,f63,bK.d,bK.cells,cL];cases s with
 |nil=>
 simp only[go_sem,gE];all_goals try show jO PP cf (ev PP cf) _=_
 all_goals simp only[go_sem]|cons a l=>
 have h:=aBG nl a l (by have:(a::l).length<1100000:=m;rw[dE]at this;omega);simp only[fS]at h;simp only[go_sem];all_goals try show jO PP cf (ev PP cf) _=_
 all_goals simp only[go_sem,h]
theorem aBO(e:aL):de Ip (ev PP cf (.call 141 [e.d] .no .empty)):=by refine ic func141 ?_;simp only[go_sem,f141,aL.d,aL.cells];repeat'(with_reducible apply dO<;>intro h<;>simp only[h,go_sem,bW,yg])
theorem aBY(e:aL):de EP (ev PP cf (.call 236 [e.d] .no .empty)):=by refine ic func236 ?_;simp only[go_sem,f236,aL.d,aL.cells];repeat'(with_reducible apply dO<;>intro h<;>simp only[h,go_sem,bW,vk])
theorem aBZ(e:aL):CC 237 [e.d] (.val (.dv (.agg [iD e.src,iD e.seq]) .no) .empty):=by refine aP func237 ?_;simp only[go_sem,f237,aL.d,aL.cells]
def oY:List aE->Nat|[]=>0|k::l=>k.e.held.l.length+k.e.wait.l.length+oY l
theorem agE(o:bK)(h:o.sz):CC 11 [o.d] (vI (.ofNat (oY o.keys.l))):=by
 obtain⟨_,k,d⟩:=h;refine aP func11 ?_;simp only[go_sem,f11,bK.d,bK.cells,ki];refine rC o.keys.l (0:Nat) (λi s=>[(9,iS i),(3,iS s)]) (λ_ l s=>vI (.ofNat (s+oY l))) (λi _ s=>s<=i*2000000000) ab rfl ab aO (λs _=>?_) (λi x t s b c w I a=>?_);.simp only[go_sem,oY,tQ]
 .have H:=mT b;obtain⟨⟨g,_⟩,⟨j,_⟩,_⟩:=d x (dw c);have a:=a (s+(x.e.held.l.length+x.e.wait.l.length)) ab;have e:dI _ _=di (x.e.held.l.length+x.e.wait.l.length):=vQ ab;have f:dI _ _=di (s+(x.e.held.l.length+x.e.wait.l.length)):=vQ ab;simp only[go_sem,xr]at a;simp only[go_sem,b,c,w,aE.d,aE.cells,cX,GN,e,f,oY,a,xr]
def aL.fits(t:Sl bY)(e:aL):Prop:=∃n s,e.ty=.ofNat n/\t.l[n]?=J s/\s.fields.l.length=e.j9.l.length
def PC(t:Sl bY)(e:aL)(r:bh):Prop:=∃n,r=vI n/\(n=0->e.fits t)
theorem aCW(t:Sl bY)(e:aL)(A:t.l.length<1000000000)(o:e.j9.l.length<1000000000):de (PC t e) (ev PP cf (.call 89 [cC t,e.d] .no .empty)):=by
 obtain⟨u,e0,_⟩:=aBO e;obtain⟨m,rfl⟩:∃n,u=vI n:=by assumption
 have r:∀{n:Int},n≠0->PC t e (vI n):=λh=>⟨_,rfl,λk=>absurd k h⟩;have a:aj m 0=C->PC t e (vI m):=λh=>r λk=>by rw[k]at h;cases h
 have hd:=aoE;simp only[bw,opsOf,f89,go_sem]at hd;refine ic func89 ?_;simp only[aL.d,aL.cells]at e0;obtain⟨src,y,ty,D,j⟩:=e;rcases ty with n|n
 . have z:aA (di n) 0=C:=rfl;simp only[go_sem,f89,aL.d,aL.cells,e0,cC];apply dO<;>intro h;rotate_left;.simp only[h,go_sem,bW,a]
   simp only[h,go_sem,z];by_cases b:n<t.l.length
   . obtain⟨s,d⟩:∃s,t.l[n]?=J s:=⟨_,dD b⟩;simp only[b,go_sem,uJ];(try show de _ (jO PP cf (ev PP cf) _));simp only[d,go_sem,bY.d,Cv];apply dO<;>intro h
     . simp only[h,go_sem];refine tx j.l (λi=>[(40,iS i)]) (by have:j.l.length<1000000000:=o;omega) rfl ?_ (λi x c q w l=>?_);.simp only[go_sem,bW];exact⟨0,rfl,λ_=>⟨n,s,rfl,d,(vu h).symm⟩⟩
       . simp only[go_sem]at l;have B:j.l.length=s.fields.l.length:=vu h;obtain⟨f,p⟩:∃f,s.fields.l[i]?=J f:=⟨_,dD (by have:=mT c;omega)⟩;have v:=Of x.k x.n x.s;simp only[go_sem,c,q,ct.d,ct.cells,v];apply dO<;>intro g
         . simp only[g,go_sem,hd,p,kF.d];apply dO<;>intro g;.simp only[g,go_sem,w,l]
           .simp only[g,go_sem,bW];exact r eY
         .simp only[g,go_sem,bW];exact r (λk=>by rw[k]at g;cases g)
     .simp only[h,go_sem,bW];exact r eY
   .simp only[b,go_sem];(try show de _ (jO PP cf (ev PP cf) _));simp only[go_sem,bW];exact r eY
 . have z:aA (Int.negSucc n) 0=V:=rfl;simp only[go_sem,f89,aL.d,aL.cells,e0,cC];apply dO<;>intro h;rotate_left;.simp only[h,go_sem,bW,a]
   simp only[h,go_sem,z,bW];exact r eY
theorem Ve(t:Sl bY)(e:aL)(a:lF t)(d:e.j9.l.length<1000000000):de (PC t e) (ev PP cf (.call 57 [cC t,e.d] .no .empty)):=by
 obtain⟨g,b⟩:=Kf t a.a a.b;have f:=a.b;obtain⟨r,c,k3⟩:=aCW t e ab d;obtain⟨n,rfl,k4⟩:=k3;refine ic func57 ?_;simp only[aL.d,aL.cells,cC]at c b;simp only[go_sem,f57,aL.d,aL.cells,cC,b];apply dO<;>intro h;.simp only[h,go_sem,c,bW];exact⟨n,rfl,k4⟩
 .simp only[h,go_sem,bW];exact⟨_,rfl,λk=>by rw[k]at h;cases h⟩
def isK(r:bh):Prop:=∃(v:ct)(b:Bool)(n:Int),r=.val (.tp [(v.d,.no),(.bool b,.no),iO n]) .empty
def axK(t:Sl bY)(e:Sl Int)(i:Nat):Prop:=∀j k,j<i->e.l[j]?=J k->∃s,t.l[j]?=J s/\aA k (.ofNat s.fields.l.length)=V
theorem Vf(t:Sl bY)(y:Sl Int)(e:aL)(A:lF t)(a:y.l.length<1000000000)(q:e.j9.l.length<1000000000):de isK (ev PP cf (.call 58 [cC t,cL y,e.d] .no .empty)):=by
 obtain⟨r,f,k3⟩:=Ve t e A q;obtain⟨n,rfl,k4⟩:=k3;have z:∀n:Int,isK (.val (.tp [(.agg [iD 0,iD 0,.str []],.no),(.bool C,.no),iO n]) .empty):=λn=>⟨⟨0,0,[]⟩,C,n,rfl⟩;refine ic func58 ?_;simp only[aL.d,aL.cells,cC]at f;simp only[go_sem,f58,aL.d,aL.cells,cC,cL,f];apply dO<;>intro h;rotate_left;.simp only[h,go_sem,bW];grind
 have w:n=0:=by grind[jU]
 obtain⟨m,s,b,p,o⟩:=k4 w;simp only[h,go_sem];apply dO<;>intro h;.simp only[h,go_sem,bW];exact⟨⟨0,0,[]⟩,V,0,rfl⟩
 simp only[h,go_sem];apply dO<;>intro h;rotate_left;.simp only[h,go_sem,bW];grind
 have H:y.l.length=t.l.length:=vu h;simp only[h,go_sem];refine UT y.l (λi=>[(32,iS i)]) (axK t y) ab rfl (λj k l=>absurd l (Ns _)) (λI=>?_) (λi x u E D I c=>?_)
 . have K:m<t.l.length:=(List.getElem?_eq_some_iff.1 p).1;obtain⟨k,a⟩:∃k,y.l[m]?=J k:=⟨_,dD ab⟩;obtain⟨G,e1,e2⟩:=I m k ab a;rw[p]at e1;cases e1;rcases k with k|k
   . have d:aA (di k) 0=C:=rfl;have R:k<e.j9.l.length:=by grind[fQ]
     obtain⟨v,B⟩:∃v,e.j9.l[k]?=J v:=⟨_,dD R⟩;simp only[go_sem,b,a,d,uJ,B,ct.d,ct.cells,bW];exact⟨v,V,0,rfl⟩
   .have d:aA (Int.negSucc k) 0=V:=rfl;simp only[go_sem,b,a,d,bW];simp_all
 . have O:i<t.l.length:=aT;obtain⟨G,F⟩:∃s,t.l[i]?=J s:=⟨_,dD O⟩;simp only[go_sem]at c;simp only[go_sem,u,E];apply dO<;>intro g;.simp only[g,go_sem,bW];simp_all
   . simp only[g,go_sem,F,bY.d,Cv];apply dO<;>intro g2
     . have c:=c λj k l a=>by
        by_cases e:j=i;.simp_all
        .exact I j k ab a
       simp only[g2,go_sem,D,c]
     .simp only[g2,go_sem,bW];simp_all
def aL.sq(e:aL):DV:=.agg [iD e.src,iD e.seq]
def rO(a b:aL):Bool:=bif aj a.src b.src then aj a.seq b.seq else C
theorem SW{a b:aL}:gv PP 50 340 a.sq b.sq=J (rO a b):=by unfold aL.sq rO;rw[He underlying340 aT];simp only[go_sem,A4,String.reduceBEq];grind
def Hb(l:List aL)(i:Nat):List kX:=(l.zipIdx i).map λx=>(x.1.sq,.bool V,x.2)
theorem ao2{l:List aL}{e:aL}:Hb (l++[e]) 0=Hb l 0++[(e.sq,.bool V,l.length)]:=by grind[Hb]
theorem ac1{e:aL}:∀(l:List aL)(i j:Nat),(l.any λm=>rO e m)=C->findD PP 340 e.sq (Hb l i) j=J Z|[],_,_,_=>rfl|m::l,i,j,h=>by rw[y9,Nk]at h;show(gv PP 50 340 e.sq m.sq).bind _=_;rw[SW,h.1];exact ac1 l (i+1) (j+1) h.2
theorem ac2{e:aL}:∀(l:List aL)(i j:Nat),(l.any λm=>rO e m)=V->∃k c m,findD PP 340 e.sq (Hb l i) j=J (J (k,m,.bool V,c))|[],_,_,h=>by simp at h|m::l,i,j,h=>by rw[y9]at h;cases a:rO e m with|true=>exact⟨j,i,m.sq,by show(gv PP 50 340 e.sq m.sq).bind _=_;rw[SW,a];rfl⟩|false=>rw[a,vR]at h;obtain⟨k,c,d,b⟩:=ac2 l (i+1) (j+1) h;exact⟨k,c,d,by show(gv PP 50 340 e.sq m.sq).bind _=_;rw[SW,a];exact b⟩
theorem aMZ{n:Int}:C0 PP 3 (.int .i64 n)=V:=rfl
theorem axI{e:aL}:sC PP 340 e.sq=V:=by rfl
theorem sub_succ(i:Nat)(h:i<9223372036854775807):dI .i64 (Int.sub (di (i+1)) 1)=di i:=by grind[vQ]
def DZ(l:List aL):Prop:=∀(i j:Nat)(a b:aL),l[i]?=J a->l[j]?=J b->rO a b=V->i=j
def PD(l:List aL)(r:bh):Prop:=∃n g,r=.val (.dv (iD n) .no) g/\(n=0->DZ l)
theorem aIA{a b:aL}:rO a b=rO b a:=by grind[rO,jU]
theorem akE{b:List aL}{x:aL}(h:DZ b)(g:(b.any λm=>rO x m)=C):DZ (b++[x]):=by
 intro i j c d a hd s;by_cases e:i<b.length
 . rw[mz e]at a;by_cases f:j<b.length;.rw[mz f]at hd;exact h i j c d a hd s
   grind[aIA]
 grind
theorem Vd(v:Sl aL)(F:v.l.length<1000000000):de (PD v.l) (ev PP cf (.call 189 [cX v] .no .empty)):=by
 have r:∀{n:Int}{g:GH},n≠0->PD v.l (.val (.dv (iD n) .no) g):=λh=>⟨_,_,rfl,λk=>absurd k h⟩;have hd:=anS;simp only[bw,opsOf,f189,go_sem]at hd;refine ic func189 ?_;simp only[go_sem,f189,cX];apply dO<;>intro h;.simp only[h,go_sem,bW];exact r eY
 simp only[h,go_sem];refine pA v.l ([]:List aL) (λi b=>⟨189,43,[(12,iS i),(3,.dv (.map 0) .no),(0,.dv (cX v) .no),(10,.dv (cX v) .no),(11,iS v.l.length)],[],⟨1,[(0,.map (Hb b 0) b.length)]⟩⟩) (λi _ b=>b=v.l.take i/\DZ b) ab rfl ⟨rfl,λi j a b h=>by simp at h⟩ (λb I=>?_) (λi x l b u w A I d=>?_);.obtain⟨rfl,I⟩:=I;rw[AL]at I;simp only[go_sem,bW];exact⟨0,_,rfl,λ_=>I⟩
 . obtain⟨t,I⟩:=I;have O:=mT u;have K:b.length=i:=by rw[t,qa];omega
   have d:=d (b++[x]);simp only[ao2,gJ,dE,gE,cX,go_sem]at d;obtain⟨H,e0,t0⟩:=aBY x;obtain⟨G,rfl⟩:=t0;have o:=aBZ x;have q:=axI (e:=x);simp only[aL.d,aL.cells]at e0 o;simp only[go_sem,u,w,cX,aL.d,aL.cells,e0];apply dO<;>intro g;rotate_left;.simp only[g,go_sem,bW];exact r eY
   simp only[g,go_sem];have step:(b.any λm=>rO x m)=C->b++[x]=v.l.take (i+1)/\DZ (b++[x]):=λf=>by refine⟨by rw[List.take_succ,w,t];rfl,akE I f⟩
   have p:=λh=>ac2 (e:=x) b 0 0 h;have fn:=λh=>ac1 (e:=x) b 0 0 h;simp only[aL.sq,iD]at d q p fn;rcases i with _|i;.have z:aA 0 (di 0)=C:=rfl;have E:aA 0 0=C:=rfl;simp only[go_sem,hd];(try rw[E,bS]);(try show de _ (jO PP cf (ev PP cf) _));simp only[go_sem,o];cases f:b.any λm=>rO x m with|true=>obtain⟨k,c,m,e⟩:=p f;simp only[go_sem,q,e,bW];exact r eY|false=>have e:=fn f;simp only[go_sem,q,e,o];exact d (step f)
   . have z:aA 0 (di (i+1))=V:=by rw[fQ,gZ];exact Int.ofNat_lt.2 (Nat.succ_pos i)
     obtain⟨y,B⟩:∃y,v.l[i]?=J y:=⟨_,dD ab⟩;have D:=sub_succ i ab;have s:=aC0 y x;simp only[aL.d,aL.cells]at s;simp only[go_sem,hd,z,D,B,s,aL.d,aL.cells];apply dO<;>intro g;rotate_left;.simp only[g,go_sem,bW];exact r eY
     simp only[g,go_sem,o];cases f:b.any λm=>rO x m with|true=>obtain⟨k,c,m,e⟩:=p f;simp only[go_sem,q,e,bW];exact r eY|false=>have e:=fn f;simp only[go_sem,q,e,o,A];exact d (step f)
def Cq(l:List aL)(i:Nat):List kX:=(l.zipIdx i).map λx=>(x.1.ref,x.1.d,x.2)
theorem ao3{l:List aL}{e:aL}:Cq (l++[e]) 0=Cq l 0++[(e.ref,e.d,l.length)]:=by grind[Cq]
theorem Ti{t s q:Int}:∀(l:List aL)(i j:Nat),(l.any λm=>oZ t s q m.tm m.src m.seq)=C->findD PP 162 (jz t s q) (Cq l i) j=J Z|[],_,_,_=>rfl|m::l,i,j,h=>by rw[y9,Nk]at h;show(gv PP 50 162 (jz t s q) m.ref).bind _=_;rw[show gv PP 50 162 (jz t s q) m.ref=_ from Ka,h.1];exact Ti l (i+1) (j+1) h.2
theorem ac3{t s q:Int}:∀(l:List aL)(i j:Nat),(l.any λm=>oZ t s q m.tm m.src m.seq)=V->∃k c m e,findD PP 162 (jz t s q) (Cq l i) j=J (J (k,m,aL.d e,c))|[],_,_,h=>by simp at h|m::l,i,j,h=>by rw[y9]at h;cases a:oZ t s q m.tm m.src m.seq with|true=>exact⟨j,i,m.ref,m,by show(gv PP 50 162 (jz t s q) m.ref).bind _=_;rw[show gv PP 50 162 (jz t s q) m.ref=_ from Ka,a];rfl⟩|false=>rw[a,vR]at h;obtain⟨k,c,f,b,d⟩:=ac3 l (i+1) (j+1) h;exact⟨k,c,f,b,by show(gv PP 50 162 (jz t s q) m.ref).bind _=_;rw[show gv PP 50 162 (jz t s q) m.ref=_ from Ka,a];exact d⟩
theorem afs{t s q:Int}:sC PP 162 (jz t s q)=V:=by rfl
theorem akH{l:List aL}(h:DZ l){i:Nat}{x:aL}(f:l[i]?=J x):((l.take i).any λm=>oZ x.tm x.src x.seq m.tm m.src m.seq)=C:=by rw[List.any_eq_false];intro m d b;obtain⟨j,c,e⟩:=List.mem_iff_getElem.1 d;rw[qa]at c;have a:l[j]?=J m:=ai;obtain⟨_,g,k⟩:=ab3 b;have:=h i j x m f a (by grind[rO,jU]);omega
def isB(a:dK)(v:Sl aL)(r:bh):Prop:=(∃n g,aj n 0=C/\r=.val (.tp [(.eN,.no),iO n]) g)\/(DZ v.l/\r=.val (.tp [(.ptr 1 0,.no),iO 0]) ⟨2,[(0,.map (Cq v.l 0) v.l.length),(1,.box ⟨a.cells++[.map 0],[]⟩)]⟩)
theorem aBS(a:dK)(v:Sl aL)(o:qM a)(u:v.l.length<1000000000):de (isB a v) (ev PP cf (.call 197 [.agg a.cells,cX v] .no .empty)):=by
 have e:=apL a o;obtain⟨r,f,n,g,rfl,m⟩:=Vd v u;have hd:=anU;simp only[bw,opsOf,f197,go_sem]at hd;refine ic func197 ?_;simp only[dK.cells,Aw,zx,cX]at e f;simp only[go_sem,f197,dK.cells,cX,e];apply dO<;>intro h;rotate_left;.simp only[h,go_sem,bW];exact .inl ⟨_,_,h,rfl⟩
 simp only[h,go_sem,f];apply dO<;>intro h;rotate_left;.simp only[h,go_sem,bW];exact .inl ⟨_,_,h,rfl⟩
 have j:=m (by grind[jU]);simp only[h,go_sem];refine pA v.l () (λi _=>⟨_,40,[(27,iS i),(8,.dv _ _),(25,.dv _ _),(26,iS _)],[],⟨2,[(0,.map (Cq (v.l.take i) 0) i),(1,.box _)]⟩⟩) (λ_ _ _=>True) ab (by rfl) trivial (λ_ _=>?_) (λi x l _ p b y _ c=>?_);.simp only[go_sem,bW,AL];exact .inr ⟨j,rfl⟩
 .have c:=c () trivial;have d:=aB8 x;have k:=afs (t:=x.tm) (s:=x.src) (q:=x.seq);have fn:=Ti _ 0 0 (akH j b);simp only[aL.d,aL.cells,aL.ref,jz]at d k fn;have w:min i v.l.length=i:=ai;simp only[go_sem,List.take_add_one,b,Option.toList,ao3,qa,cX,aL.d,aL.cells,aL.ref,jz,w]at c;simp only[go_sem,p,b,hd,aL.d,aL.cells,cX,d,k,fn,y];omega
def dU.Eg(a:dK)(v:List aL)(b:dU):Prop:=0<=b.v/\b.v<a.vars/\(v.any λm=>oZ b.a b.b b.c m.tm m.src m.seq)=V
def Lp(a:dK)(v:List aL)(c:bp)(r:bh):Prop:=∃n g,r=.val (.dv (iD n) .no) g/\(aj n 0=V->∀b∈c.bs.l,b.Eg a v)
def TX(a:dK)(v:List aL):GH:=⟨2,[(0,.map (Cq v 0) v.length),(1,.box ⟨a.cells++[.map 0],[]⟩)]⟩
theorem aBT(a:dK)(v:List aL)(c:bp)(K:c.bs.l.length<1000000000)(L:c.ss.l.length<1000000000):de (Lp a v c) (ev PP cf (.call 198 [.ptr 1 0,c.d] .no (TX a v))):=by
 have r:∀{n:Int}{g:GH},aj n 0=C->Lp a v c (.val (.dv (iD n) .no) g):=λh=>⟨_,_,rfl,λk=>aT⟩;have d1:=anV;have d8:=anZ;have d9:=an0;have d11:=anW;have d19:=anX;have d21:=anY;simp only[bw,opsOf,f198,go_sem]at d1 d8 d9 d11 d19 d21;refine ic func198 ?_;simp only[go_sem,f198,TX,dK.cells,Aw,zx,bp.d,bp.cells,gX,jC,d1];apply dO<;>intro h;.simp only[h,go_sem,bW];exact r rfl
 simp only[h,go_sem];apply dO<;>intro g;rotate_left;.simp only[g,go_sem,bW];exact r rfl
 simp only[g,go_sem];apply dO<;>intro g;rotate_left;.simp only[g,go_sem,bW];exact r rfl
 simp only[g,go_sem];refine UT c.bs.l (λi=>[(34,iS i)]) (λi=>∀j b,j<i->c.bs.l[j]?=J b->b.Eg a v) ab rfl (λj b z=>absurd z (Ns _)) (λI=>?_) (λi x o p D I d=>?_)
 . have ok:Lp a v c=Lp a v c:=rfl;simp only[go_sem];refine tx c.ss.l (λi=>[(86,iS i)]) ab rfl ?_ (λi x o p D d=>?_);.simp only[go_sem,bW];exact⟨0,_,rfl,λ_ b l=>by obtain⟨j,z,e⟩:=List.mem_iff_getElem.1 l;exact I j b z aT⟩
   . simp only[go_sem]at d;simp only[go_sem,o,p,fA.d,fA.cells,d19];rcases i with _|i
     . have F:aA 0 (di 0)=C:=rfl;have A:aA 0 0=C:=rfl;repeat'(with_reducible apply dO<;>intro h<;>simp only[h,d21,A,go_sem,bW])
       all_goals first|exact r rfl|grind
     . have F:aA 0 (di (i+1))=V:=by rfl
       obtain⟨y,u⟩:∃y,c.ss.l[i]?=J y:=⟨_,dD ai⟩;have w:=sub_succ i ai;repeat'(with_reducible apply dO<;>intro h<;>simp only[h,D,d,u,w,d21,F,fA.d,fA.cells,go_sem,bW])
       all_goals first|exact r rfl|exact d
 . simp only[go_sem]at d;have E:=afs (t:=x.a) (s:=x.b) (q:=x.c);simp only[jz]at E;have Eg:(v.any λm=>oZ x.a x.b x.c m.tm m.src m.seq)=V->aA x.v 0=C->aA x.v a.vars=V->∀j b,j<i+1->c.bs.l[j]?=J b->b.Eg a v:=λg1 g2 g3 j b z l=>by
     by_cases e:j=i;.subst e;rw[p]at l;cases l;rw[fQ,qj]at g2;rw[fQ,gZ]at g3;exact⟨ab,g3,g1⟩
     .exact I j b ab l
   have O:=mT o;have F:aA 0 (di 0)=C:=rfl;have A:aA 0 0=C:=rfl;have zs:∀i,aA 0 (di (i+1))=V:=λi=>by rfl
   cases B:v.any λm=>oZ x.a x.b x.c m.tm m.src m.seq with
   |false=>
     have fn:=Ti v 0 0 B;simp only[jz]at fn;simp only[go_sem,o,p,dU.d,dU.cells,d8,d9,E,fn];rcases i with _|i
     . repeat'(with_reducible apply dO<;>intro h<;>simp only[h,d11,A,go_sem,bW])
       all_goals exact r rfl
     . obtain⟨y,u⟩:∃y,c.bs.l[i]?=J y:=⟨_,dD ab⟩;have w:=sub_succ i ab;have G:=zs i;have f:=agI y.a y.b y.c x.a x.b x.c;simp only[jz]at f;repeat'(with_reducible apply dO<;>intro h<;>simp only[h,u,w,f,d11,G,dU.d,dU.cells,go_sem,bW])
       all_goals exact r rfl|true=>
     have Eg:=Eg B;obtain⟨k,c',m,H,fn⟩:=ac3 v 0 0 B;simp only[jz]at fn;simp only[go_sem,o,p,dU.d,dU.cells,d8,d9,E,fn,aL.d,aL.cells];rcases i with _|i
     . repeat'(with_reducible apply dO<;>intro h<;>simp only[h,d11,A,go_sem,bW])
       all_goals first|exact r rfl|simp_all
     . obtain⟨y,u⟩:∃y,c.bs.l[i]?=J y:=⟨_,dD ab⟩;have w:=sub_succ i ab;have G:=zs i;have f:=agI y.a y.b y.c x.a x.b x.c;simp only[jz]at f;repeat'(with_reducible apply dO<;>intro h<;>simp only[h,D,u,w,f,d11,G,dU.d,dU.cells,go_sem,bW])
       all_goals first|exact r rfl|exact d (Eg ‹_› ‹_›)
theorem aCs(a:dK)(v:Sl aL)(c:bp)(d:qM a)(l:v.l.length<1000000000)(h:c.bs.l.length<1000000000)(b:c.ss.l.length<1000000000):de (Lp a v.l c) (ev PP cf (.call 322 [.agg a.cells,cX v,c.d] .no .empty)):=by
 obtain⟨r,e1,hr⟩:=aBS a v d l;refine ic func322 ?_;rcases hr with⟨n,g,e,rfl⟩|⟨q,rfl⟩;.simp only[dK.cells,Aw,zx,cX]at e1;simp only[go_sem,f322,dK.cells,Aw,zx,cX,bp.d,bp.cells,gX,jC,e1,e,bW];exact⟨_,_,rfl,λk=>ai⟩
 .obtain⟨r,e2,n,g,rfl,k⟩:=aBT a v.l c h b;simp only[dK.cells,Aw,zx,cX,TX,bp.d,bp.cells,gX,jC,lC,jF]at e1 e2;simp only[go_sem,f322,dK.cells,Aw,zx,cX,bp.d,bp.cells,gX,jC,e1,e2,bW];exact⟨_,_,rfl,k⟩
attribute[local go_sem]cw1 cw2 cl0 cl1 cl2
theorem aCV{d:α->DV}{j r:Nat}(f:(j,e,s,m,k,r)=(86,90,5,56,140,44))(B:∀x,(d x).flat.length=s)(a c:List α)(o p:Bool)(h:a.length+c.length<1000000000):CC j [.ay [bP o (a.map d) e s,bP p (c.map d) e s] r 1] (.val (fU ((a++c).map d) e s) .empty):=by
 obtain⟨w,A⟩:=aiK h;have i:∀l:List α,((l.map d).all λy=>decide (y.flat.length=s))=V:=λl=>ai;have l1:∀{e s},mQ (bP o (a.map d) e s)=J a.length:=by simp[LF]
 have l2:∀{e s},mQ (bP p (c.map d) e s)=J c.length:=by simp[LF]
 have x0:aA (.ofNat a.length) 0=C:=rfl;have x1:aA (.ofNat (a.length+c.length)) 0=C:=rfl;have q:s≠0/\a.length+c.length<=bl/\(a.length+c.length)*m<=bl:=by grind[bl]
 have t:fB e s m (.ay [] e s) (.ex e) (a.map d)=J (.ay (a.map d) e s,.ex e):=by grind[qg]
 have u:fB e s m (.ay (a.map d) e s) (.ex e) (c.map d)=J (.ay ((a.map d)++(c.map d)) e s,.ex e):=by grind[qg]
 have z:=λh=>@aaf e s m .any h;have g:ev PP cf (.call k [.nl,.int .i64 (.ofNat (a.length+c.length))] .no .empty)=_:=adE (e:=e) (s:=s) (b:=m) (n:=a.length+c.length) (by cases f<;>rfl) (by cases f<;>rfl) h ai;cases f;refine aP func86 ?_;all_goals
 simp only[go_sem,f86];refine hZ ?_;simp only[go_sem,l1,w,x0];refine hZ ?_;simp only[go_sem,l2,A,x1];refine hZ ?_;by_cases f:a.length+c.length=0;.obtain rfl:a=[]:=List.length_eq_zero_iff.1 ab;obtain rfl:c=[]:=List.length_eq_zero_iff.1 ab;replace g:ev PP cf (.call _ [.nl,.int _ 0] _ _)=J _:=g;simp only[go_sem,g,gE];refine hZ ?_;simp only[go_sem,z _];refine hZ ?_;simp only[go_sem,z _];refine hZ ?_;simp only[go_sem]
 . rw[kK f]at g;simp only[go_sem,g];refine hZ ?_;simp only[go_sem,t,i];refine hZ ?_;simp only[go_sem,u,i];refine hZ ?_;simp only[go_sem];rw[qb];have v:((a.map d)++(c.map d)).length=a.length+c.length:=ai;generalize(a.map d)++(c.map d)=L at v;rcases L with _|⟨x,l⟩;.grind
   rfl
theorem agS(a b:Sl aL)(h:a.l.length+b.l.length<1000000000):CC 86 [.ay [cX a,cX b] 44 1] (.val (fU ((a.l++b.l).map aL.d) 90 5) .empty):=aCV (d:=aL.d) rfl (λ_=>rfl) a.l b.l a.nl b.nl h
end Go.VM
namespace Go.VM
open Go Go.AM Proofs.Tryz
attribute[local congr]bz bA
set_option maxRecDepth 100000
set_option maxHeartbeats 1000000
section
variable{α:Type}{d:α->DV}{q:α->Bool}(f:Nat)(fi ca:aq)(g:GH)(nl:Bool)(xs:List α)(hl:xs.length<1000000000)(hq:∀x,x∈xs->Sw f fi ca g [d x] (q x))
include hl hq
theorem agH(s:∀x:α,(d x).aV=C/\(d x).flat.length=5):ev PP cf (.call 142 [bP nl (xs.map d) 90 5,.func f fi ca] .no g)=J (.val (.dv (.int .i64 (gP q xs 0)) .no) g):=by refine aP func142 ?_;all_goals
 simp only[go_sem,f142];refine gR xs (λi=>[(8,iS i)]) (λi l=>.val (.dv (.int _ (gP q l i)) _) g) ab rfl rfl ?_ (λi x l k e w m=>?_);.simp only[go_sem,gP]
 . obtain⟨I,R⟩:=s x;rcases hq x (dw e)with⟨b,c,a⟩|⟨b,c,j,a⟩;.simp only[go_sem,k,e,I,R,gP]at a m|-;simp only[go_sem,b,c,a];apply sp<;>intro h<;>simp only[*,go_sem]
   .simp only[go_sem,k,e,I,R,gP]at a j m|-;simp only[go_sem,b,c,a,j];apply sp<;>intro h<;>simp only[*,go_sem]
theorem aCY(s:∀x:α,(d x).aV=C/\(d x).flat.length=5):ev PP cf (.call 91 [bP nl (xs.map d) 90 5,.func f fi ca] .no g)=J (.val (.dv (.bool (xs.any q)) .no) g):=by have h:=@agH _ _ _ f fi ca g nl xs hl hq s;refine aP func91 ?_;simp only[go_sem,f91,h,CX,Gs]
end
end Go.VM
namespace Go.VM
open Go Go.AM Proofs.Tryz
attribute[local congr]bz bA
set_option maxRecDepth 100000
set_option maxHeartbeats 1000000
theorem aCy(e:aL)(t s q:Int)(b:Nat)(g:GH)(a:g.get b=J (.box ⟨[iD t,iD s,iD q],[]⟩)):ev PP cf (.call 369 [e.d,.ptr b 0] .no g)=J (.val (.dv (.bool (oZ e.tm e.src e.seq t s q)) .no) g):=by have h:=Vc e;have hd:=aom;simp only[bw,opsOf,f369,go_sem]at hd;simp only[aL.d,aL.cells,aL.ref,jz]at h;refine aP func369 ?_;simp only[go_sem,f369,hd,aL.d,aL.cells,h,a,aaB]
theorem ac7:cf.fk 369=0/\cf.eQ 369=C:=⟨by rfl,by rfl⟩
theorem ae8{b:Type}{q:b->Bool}:∀(l:List b)(i:Nat),l.any q=V->∃k x,gP q l i=.ofNat (i+k)/\l[k]?=J x/\q x=V|[],_,h=>by simp at h|x::l,i,h=>by rw[y9]at h;unfold gP;cases a:q x with|true=>exact⟨0,x,rfl,rfl,a⟩|false=>rw[a,vR]at h;obtain⟨k,y,e1,e2,e3⟩:=ae8 l (i+1) h;exact⟨k+1,y,by rw[bS,e1];congr 1;omega,e2,e3⟩
theorem aCu(v:Sl aL)(t s q:Int)(l:v.l.length<1000000000)(h:(v.l.any λm=>oZ t s q m.tm m.src m.seq)=V):de (λr=>∃e g,e∈v.l/\r=.val (.dv e.d .no) g) (ev PP cf (.call 324 [cX v,jz t s q] .no .empty)):=by
 have i:=agH (d:=aL.d) _ [] _ ⟨1,[(0,.box _)]⟩ v.nl _ l (λe _=>.inl ⟨ac7.1,ac7.2,aCy e t s q 0 _ rfl⟩) (λ_=>⟨rfl,rfl⟩);have a:(v.l.any λe=>oZ e.tm e.src e.seq t s q)=V:=by grind[oZ,jU]
 obtain⟨k,e,e1,e2,_⟩:=ae8 _ 0 a;rw[e1,iZ]at i;refine ic func324 ?_;simp only[go_sem,f324,jz,cX,i,e2,aL.d,aL.cells,bW];grind
end Go.VM
