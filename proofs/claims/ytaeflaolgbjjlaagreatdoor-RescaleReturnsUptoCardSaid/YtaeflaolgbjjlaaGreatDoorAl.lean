/- Proved: what functions of the program answer (a part of the proof of RescaleReturnsUptoCardSaid, whose theorem stands in the last text), within the sizes that each theorem names. -/
import Derived.Test.YtaeflaolgbjjlaaGreatDoorAk
open Option renaming some->J,none->Z
open Bool renaming true->V,false->C
open Go renaming TypeId->an,Oper->aB,Program->aG,Operand->aK,Code->bF
open Int renaming ofNat->di
open List renaming replicate->lW
open Nat renaming beq->aw
open SizeOf renaming sizeOf->oW
noncomputable section
set_option linter.all false
namespace Go.VM
open Go Go.AM Proofs.Tryz
variable{v:DV}{p:ae}
attribute[local congr]bz bA
set_option maxRecDepth 100000
set_option maxHeartbeats 2000000
def Pz(s:List kX):Prop:=∀e∈s,∃n,e.1=.int .i64 n
theorem acZ{k:Int}:∀(s:List kX)(j:Nat),Pz s->∃r,findD PP 3 (.int .i64 k) s j=J r/\∀i e,r=J (i,e)->∃n,e.1=.int .i64 n|[],_,_=>⟨Z,rfl,λ_ _ h=>by cases h⟩|e::s,j,h=>by obtain⟨n,a⟩:=h e gK;obtain⟨r,d,f⟩:=acZ (k:=k) s (j+1) λx g=>h x (kG _ g);have e0:findD PP 3 (.int .i64 k) (e::s) j=(gv PP 50 3 (.int .i64 k) e.1).bind λb=>bif b then J (J (j,e))else findD PP 3 (.int .i64 k) s (j+1):=rfl;rw[e0,a,A4];show∃r,(bif aj k n then J (J (j,e))else _)=J r/\_;cases aj k n with|true=>exact⟨_,rfl,λi l c=>by cases c;exact⟨n,a⟩⟩|false=>exact⟨r,d,f⟩
theorem az4{k:Int}{x:DV}{b:List kX}{ck:Nat}(h:Pz b):∃s c,(∀st d i,(findD PP 3 (.int .i64 k) b 0).bind (UX st d i b ck (.int .i64 k) x)=aH {st with sl:=cK st.sl,g:=st.g.set i (.map s c)} d (.tp []))/\Pz s:=by
 obtain⟨r,j,l⟩:=acZ b 0 h;rcases r with _|⟨i,e⟩;.exact⟨_,_,λ_ _ _=>by rw[j];rfl,λe a=>by
 rcases List.mem_append.1 a with a|a;.exact h e a
 grind⟩
 .exact⟨_,ck,λ_ _ _=>by rw[j];rfl,λf a=>by
 rcases List.mem_append.1 a with a|a;.exact h f ai
 . rcases List.mem_cons.1 a with rfl|a;.grind
   .exact h f ai⟩
def Qm(c:aq)(t:Int)(s:Sl dU)(f:Sl fA)(m:Int)(b:DV)(k:ct)(d:Bool)(o:List (Nat×aM))(e:List kX)(a:Nat):GH:=⟨2,[(0,.map e a),(1,.box ⟨c++[iD t,gX s,jC f,iD m,b,.map 0,iD k.k,iD k.n,.str k.s,.bool d],o⟩)]⟩
def alG(l:List aL)(b:DV)(o:List (Nat×aM)):Prop:=l=[]/\b=.nl/\o=[]\/l≠[]/\b=.ay (l.map aL.d) 90 5/\(o=[(27,.ex 90)]\/o=[(27,.ty 90)])
def IK(c:aq)(t:Int)(b:Sl dU)(s:Sl fA)(m:Int)(n:Nat)(g:GH):Prop:=∃l bd k kd o e a,l.length<=n/\alG l bd o/\Pz e/\g=Qm c t b s m bd k kd o e a
def Je:iF->DV->aM|.take,.nl=>.any|_,_=>.no
theorem aJ7:Je .ref v=.no:=rfl
theorem aJ4:Je .copy v=.no:=rfl
theorem aJ5:Je .len v=.no:=rfl
theorem aJ6:Je .take .nl=.any:=rfl
theorem afC{P:aG}{t:an}{u:iF}{a n:Nat}{b:cT}{l:dV}{g:GH}{d:ah Tmp}{i f:Nat}{c:aq}{o:Nat×aM}{s:List (Nat×aM)}(h:AM.isAgg P t=J C)(k:look (o::s) f=Z):rB P t u ⟨a,n,b,l,g⟩ d i f (.box ⟨c,o::s⟩)=(c[f]?).bind λv=>aH ⟨a,n,b,l,g.set i (.box ⟨c,o::s⟩)⟩ d (.dv v (Je u v)):=by
 have e:ew ⟨c,o::s⟩ f=BD (c[f]?) Z:=by grind[ahe]
 have e2:rB P t u ⟨a,n,b,l,g⟩ d i f (.box ⟨c,o::s⟩)=(fD P u t ⟨c,o::s⟩ f).bind λr=>aH ⟨a,n,b,l,g.set i (.box r.2)⟩ d r.1:=by
  show(match u,ew _ _,AM.isAgg P t with|.ref,.ex _,J C=>_|_,_,_=>_)=_;rw[e];rcases c[f]? with _|v;.cases u<;>rfl
  cases v<;>cases u<;>rfl
 rw[e2,afK h,e];rcases j:c[f]? with _|v;.rfl
 cases v<;>cases u<;>rfl
attribute[go_sem]afC aJ7 aJ4 aJ5 aJ6
theorem aCt(p:eH)(L:Int)(q:Sl dU)(K:Sl fA)(H:Int)(n:Nat)(g:GH)(b:dU)(e:aL)(ht:lF p.types)(hk:p.query.key.l.length<1000000000)(he:e.j9.l.length<1000000000)(hv:∃d v,b.v=di d/\p.query.vars.l[d]?=J v)(hn:n<1100000)(hg:IK p.cells L q K H n g):de (λr=>∃m o,r=.val (.dv (iD m) .no) o/\(aj m 0=V->IK p.cells L q K H (n+1) o)) (ev PP cf (.call 323 [.ptr 1 0,b.d,e.d] .no g)):=by
 obtain⟨l,bd,F,kd,ow,es,S,hl,Y,pf,rfl⟩:=hg;obtain⟨d,vb,B,D⟩:=hv;obtain⟨r,Q,v,z,m,rfl⟩:=Vf p.types p.query.key e ht hk he;have d1:=aof;have d3:=aoh;have d5:=aoi;have d6:=aoj;have d9:=aok;have d10:=aog;simp only[bw,opsOf,f323,go_sem]at d1 d3 d5 d6 d9 d10;obtain⟨M,⟨I,N,G,pat,E⟩,u⟩:=p;have cells:eH.cells ⟨M,⟨I,N,G,pat,E⟩,u⟩=cC M::.str I::kn N::cL G::(pat.cells++[ue E]++u.cells):=rfl;rw[cells];generalize jv:pat.cells++[ue E]++u.cells=s;have U:s.length=19:=by grind[ae.dG,dK.cells]
 simp only[aL.d,aL.cells,cC,cL]at Q;have t:∀m:aq,(s++m)[22]?=m[3]?:=λm=>wg (j:=3) U;have w:∀m:aq,(s++m)[23]?=m[4]?:=λm=>wg (j:=4) U;have y:∀m:aq,(s++m)[24]?=m[5]?:=λm=>wg (j:=5) U;have A:∀m:aq,(s++m)[28]?=m[9]?:=λm=>wg (j:=9) U;have t23:∀m:aq,(s++m).take 23=s++m.take 4:=λm=>by simp_all[RF,GD]
 have t25:∀m:aq,(s++m).take 25=s++m.take 6:=λm=>by simp_all[RF,GD]
 have t28:∀m:aq,(s++m).take 28=s++m.take 9:=λm=>by simp_all[RF,GD]
 have d24:∀m:aq,(s++m).drop 24=m.drop 5:=λm=>by simp_all[zd]
 have d25:∀m:aq,(s++m).drop 25=m.drop 6:=λm=>by simp_all[zd]
 have d28:∀m:aq,(s++m).drop 28=m.drop 9:=λm=>by simp_all[zd]
 have d29:∀m:aq,(s++m).drop 29=m.drop 10:=λm=>by simp_all[zd]
 obtain⟨W,T,f1,f⟩:=az4 (k:=di d) (x:=e.d) (ck:=S) pf;have kI:sC PP 3 (.int .i64 (.ofNat d))=V:=rfl;have a:∀{m:Int}{o:GH},aj m 0=C->∃R i,bh.val (.dv (iD m) .no) o=.val (.dv (iD R) .no) i/\(aj R 0=V->IK (cC M::.str I::kn N::cL G::s) L q K H (n+1) i):=λh=>⟨_,_,rfl,λd=>ai⟩;simp only[aL.d,aL.cells]at f1;refine ic func323 ?_;have O:fB 90 5 56 (.ay (l.map aL.d) 90 5) (.ex 90) [e.d]=J (.ay (l.map aL.d++[e.d]) 90 5,.ex 90):=qg ab (by grind[bl]) (by grind[bl]);have P:fB 90 5 56 (.ay (l.map aL.d) 90 5) (.ty 90) [e.d]=J (.ay (l.map aL.d++[e.d]) 90 5,.ty 90):=aag ab (by grind[bl]) (by grind[bl]);simp only[aL.d,aL.cells]at O P;have w0:∀c:aM,cW [(27,c)] 27 1=[]:=λ_=>rfl;have w1:∀c:aM,cW [(27,c)] 29 3=[(27,c)]:=λ_=>rfl;have w2:∀c:aM,cW [(27,c)] 32 1=[(27,c)]:=λ_=>rfl;rcases Y with⟨X,rfl,rfl⟩|⟨X,rfl,rfl|rfl⟩;all_goals
 simp only[go_sem,f323,Qm,d1,dU.d,dU.cells,aL.d,aL.cells,B,D,dW.d,kn,lC];apply dO<;>intro h;rotate_left;.simp only[h,go_sem,bW];exact a rfl
 simp only[h,go_sem,d3,t];apply dO<;>intro h;.simp only[h,go_sem,bW];exact a rfl
 simp only[h,go_sem,d5,d6,w,y,t23,d24,U,f1,kI,O,P,w0];apply dO<;>intro h;.simp only[h,go_sem,bW];exact⟨_,_,rfl,λ_=>⟨l++[e],_,F,_,_,_,_,aT,.inr ⟨aO,by grind[aL.d,aL.cells],aT⟩,f,rfl⟩⟩
 simp only[h,go_sem,d9,Q,ct.d,ct.cells,d10];repeat'(with_reducible apply dO<;>intro h<;>simp only[h,go_sem,A,d25,t25,d28,t28,d29,U,w1,w2,bW])
 all_goals first|exact a rfl|exact⟨_,_,rfl,λ_=>⟨l++[e],_,⟨_,_,_⟩,_,_,_,_,aT,.inr ⟨aO,by grind[aL.d,aL.cells],aT⟩,f,rfl⟩⟩
set_option maxHeartbeats 1000000
def qX:bq->bq->bq|[],o=>o|r::l,o=>bif aA (gP r.same o 0) 0 then qX l (o++[r])else qX l o
theorem NB:∀(l o:bq),(∀q∈l,GP q)->(∀q∈o,GP q)->(∀q∈qX l o,GP q)/\(qX l o).length<=o.length+l.length/\o.length<=(qX l o).length|[],o,_,h=>⟨h,bJ _,bJ _⟩|r::l,o,e,f=>by rw[qX];have k:∀q∈l,GP q:=λq d=>e q (kG _ d);cases aA (gP r.same o 0) 0 with
 |true=>obtain⟨a,b,c⟩:=NB l (o++[r]) k (λq d=>by
 rcases List.mem_append.1 d with d|d;.exact f q d
 .rw[List.mem_singleton.1 d];exact e r gK);simp only[gJ,dE,gE]at b c;simp only[dE,aR];exact⟨a,ab,ab⟩|false=>obtain⟨a,b,c⟩:=NB l o k f;simp only[dE,bS];exact⟨a,ab,ab⟩
def w8:Nat->Nat->bq->ah bq|0,_,_=>Z|f+1,i,o=>match o[i]? with|none=>J o|some q=>bif aj (fu q).1 0 then(bif aA 256 (.ofNat (qX (fu q).2.2 o).length)then Z else w8 f (i+1) (qX (fu q).2.2 o))else Z
theorem D6(h:GP p):(∀q∈(fu p).2.2,GP q)/\(fu p).2.2.length<=4096/\(fu p).2.1.length<=4096:=by have b:=Tt _ ([],[]) (λx a=>(IL p h.a x a).pat (by have:=h.n;omega) (by have:=h.c;omega)) aT;have l:=(Qu p).1;have s:=qR h.n h.n;grind[fu]
theorem anG(p:ae):(fu p).1=0\/fu p=(17,[],[]):=by grind[fu]
theorem apv(p:ae)(P:lE p):CC 123 [.agg p.cells] (bif aj p.jc 0 then IX (w8 258 0 [p])else .val (.tp [(.nl,.any),iO p.jc]) .empty):=by have e1:=Oa p P;refine aP func123 ?_;simp only[f123];cases y:aj p.jc 0 with|false=>simp only[go_sem,e1,y]|true=>
 have g:=Sq P (nK y);simp only[go_sem,e1,y];refine rC (lW 258 ()) [p] (λi o=>[(6,iS i),(5,fU (ae.bm o) 61 14)]) (λi l o=>IX (w8 l.length i o)) (λi l o=>o≠[]/\i<=o.length/\o.length<=256/\l.length+i=258/\∀q∈o,GP q) aT rfl ⟨aO,aO,aO,by rfl,λq u=>aT⟩ (by rfl) (λo I=>?_) (λi x m o hi f Q I k=>?_);.grind
 . obtain⟨n,a,b,c,N⟩:=I;simp only[dE,w8];by_cases M:i<o.length
   . obtain⟨q,u⟩:∃q,o[i]?=J q:=⟨_,dD M⟩;have G:=N q (dw u);obtain⟨_,g2,e2,oe,qq,rfl⟩:=acm q G;have H:=anG q;obtain⟨d1,d2,d3⟩:=D6 G;have O:(i<o.length)=True:=iT M;simp only[u];generalize fu q=D at*;obtain⟨e,F,v⟩:=D;simp only at e2 d1 d2 d3 H|-;have Y:cA (F.map Edge.d)=V:=iB Edge.pure _;have p2:cA (ae.bm v)=V:=ae.uB v;rcases H with H|H;rotate_left 1;.cases H;have FE:aj 17 0=C:=rfl;simp only[ae.bm,GL,zm]at e2;simp only[go_sem,zh n,O,u,e2,FE];rfl
     . have q0:aj 0 0=V:=rfl;subst H;rcases oS (F=[])with r|r<;>rcases oS (v=[])with hr|hr;case' inl.inl=>simp only[r,hr,ae.bm,GL,zm]at e2
       case' inl.inr=>simp only[r,GL,zj hr]at e2
       case' inr.inl=>simp only[hr,ae.bm,zm,AP r]at e2
       case' inr.inr=>simp only[zj hr,AP r]at e2
       all_goals rcases qq with rfl|rfl;all_goals simp only[go_sem,zh n,O,u,e2,Y,p2,q0];rw[Cf]
       all_goals
       refine rC v o (λj s=>[(39,iS j),(5,fU (ae.bm s) 61 14)]) (λ_ t s=>IX (bif aA 256 (.ofNat (qX t s).length)then Z else w8 m.length (i+1) (qX t s))) (λ_ t s=>s≠[]/\(∀q∈s,GP q)/\o.length<=s.length/\s.length+t.length<=4500) ab (by first|rfl|(rw[zh n];rfl)) ⟨n,N,bJ _,ab⟩ rfl (λs I=>?_) (λj z t s U A X I R=>?_)
       . obtain⟨d,w,S,T⟩:=I;have k:=λh=>k s ⟨d,ab,h,ai,w⟩;rw[zh d]at k;simp only[go_sem]at k;have L:aA 256 (.ofNat s.length)=C->s.length<=256:=λh=>by grind[fQ]
         first
         | simp only[go_sem,zh d,qX];apply sp<;>intro h;.simp only[h,go_sem];rfl
           .simp only[h,k (L h),Q,go_sem]
         | simp only[hr,go_sem,zh d,qX,gE];apply sp<;>intro h;.simp only[h,go_sem];rfl
           .simp only[h,k (L h),Q,go_sem]
       .first|(rw[hr]at A;simp_all)|obtain⟨d,w,S,T⟩:=I;simp only[dE]at T;have K:=d1 z (dw A);obtain⟨gy,e3⟩:=acn V s z ab (by have:=K.c;omega);rw[afX d]at e3;have B:=R (s++[z]) ⟨aO,λx f=>by
           rcases List.mem_append.1 f with f|f;.exact w x f
           .rw[List.mem_singleton.1 f];exact K,by simp only[gJ];omega,by simp only[gJ,dE,gE];omega⟩;have E:=R s ⟨d,w,S,ab⟩;rw[zh aO]at B;rw[zh d]at E;have W:(s.length<1200000)=True:=iT ab;simp only[ae.A3,ae.bm,go_sem]at B E;simp only[go_sem,zh d,U,A,e3,qX];apply sp<;>intro h<;>simp only[h,X,B,E,W,ae.qn,go_sem]
   .have e0:o[i]?=Z:=xq ab;have O:(i<o.length)=False:=cF M;simp only[e0];simp only[go_sem,zh n,O,IX,zj n]
theorem agp(e:Nat):∀a b:aq,jl e (a++b)=(jl e a&&jl e b)|[],b=>by simp[jl]|x::a,b=>by simp only[lC,jl,agp e a b,Bool.and_assoc]
theorem Qb{b:Type}{f:b->DV}{e:Nat}(h:∀a,(f a).gS e=V):∀l:List b,jl e (l.map f)=V|[]=>rfl|a::l=>by simp[jl,h a,Qb h l]
theorem LV{a:Bool}{l:aq}{e k n:Nat}(h:aw k e=C)(b:jl e l=V):(bP a l k n).gS e=V:=by cases l<;>grind[bP,DV.gS]
mutual
theorem Expr.gS {k : Nat} (h : aw 59 k = C) : ∀ e : Expr, jl k e.cells = V
  | .mk o l args v L n i num str => by
    simp only [Expr.cells, jl, DV.gS, yV, xj]
    exact LV h (Expr.Fe h args)
theorem Expr.Fe {k : Nat} (h : aw 59 k = C) : ∀ l : List Expr, jl k (Expr.bm l) = V
  | [] => rfl
  | e :: l => by
    simp only [Expr.bm, jl, DV.gS, Expr.gS h e, Expr.Fe h l, yV]
end
theorem aw4(s:Sl Int):(cL s).gS 241=V:=LV rfl (Qb (λ_=>rfl) _)
theorem Edge.gS(x:Edge):x.d.gS 241=V:=by show jl 241 _=V;simp only[Edge.cells,agp,jl,DV.gS,yV,xj,Expr.gS (k:=241) rfl,aw4,ue,C4];rw[LV rfl (Expr.Fe rfl _),LV rfl (Qb (λ_=>rfl) _)];rfl
mutual
theorem ae.gS : ∀ p : ae, jl 241 p.cells = V
  | .mk o n args t v s a c => by
    simp only [ae.cells, lC, jF, jl, DV.gS, yV, xj, Expr.gS (k := 241) rfl]
    exact LV rfl (ae.Fe args)
theorem ae.Fe : ∀ l : bq, jl 241 (ae.bm l) = V
  | [] => rfl
  | e :: l => by
    simp only [ae.bm, jl, DV.gS, ae.gS e, ae.Fe l, yV]
end
theorem aka(r:bq):(sV (ae.bm r) 61 14).1.gS 241=V:=by
 rcases r with _|⟨a,l⟩;.rfl
 show(!(aw 61 241)&&jl 241 (ae.bm (a::l)))=V;rw[ae.Fe];rfl
theorem aJ2(e:fY)(r:bq)(k:Int)(o:aM)(d:o=.ex 241\/o=.ty 241):qJ V (.tp [xy e o,sV (ae.bm r) 61 14,iO k])=.tp [xy e (.ex 241),sV (ae.bm r) 61 14,iO k]:=by
 have b:∀l j,xd l j (sV (ae.bm r) 61 14)=sV (ae.bm r) 61 14:=by intro l j;cases r<;>rfl
 have h:xd [xy e o,sV (ae.bm r) 61 14,iO k] 0 (xy e o)=xy e (.ex 241):=by
  rcases e with _|⟨a,l⟩;.rfl
  rcases d with rfl|rfl;.rfl
  . have c:([xy (a::l) (.ty 241),sV (ae.bm r) 61 14,iO k].zipIdx.all λy=>aw y.2 0||y.1.1.gS 241)=V:=by simp[aka,DV.gS]
    show(bif aw 241 241&&(jl 241 _&&([xy _ _,sV _ 61 14,iO k].zipIdx.all _))then _ else _)=_;rw[c,Qb Edge.gS];rfl
 show SV.tp [xd _ 0 _,xd _ 1 _,xd _ 2 _]=_;rw[h,b];rfl
theorem apJ(p:ae)(g:GP p):∃o,(o=.ex 241\/o=.ty 241)/\CC 181 [.agg p.cells] (.val (.tp [xy (fu p).2.1 o,sV (ae.bm (fu p).2.2) 61 14,iO (fu p).1]) .empty):=by
 obtain⟨_,g1,e1,rfl⟩:=Oc p g.o;obtain⟨_,g2,e2,a,q,rfl⟩:=acm p g;generalize fu p=D at*;obtain⟨e,s,r⟩:=D;have q0:aj 0 0=V:=rfl;refine⟨a,q,aP func181 ?_⟩;simp only at e2|-;have b:cA (s.map Edge.d)=V:=iB Edge.pure _;have c:cA (ae.bm r)=V:=ae.uB r;simp only[f181];rcases oS (s=[])with h|h<;>rcases oS (r=[])with hr|hr;case' inl.inl=>simp only[h,hr,ae.bm,GL,zm]at e2|-
 case' inl.inr=>simp only[h,GL,zj hr]at e2|-
 case' inr.inl=>simp only[hr,ae.bm,zm,AP h]at e2|-
 case' inr.inr=>simp only[zj hr,AP h]at e2|-
 all_goals rcases q with rfl|rfl<;>simp only[go_sem,e1,g.r,q0,e2,b,c]
set_option maxHeartbeats 4000000
theorem aFh(b:Bool)(f:bq)(a:ae)(l:bq)(k:Nat)(h:eI a≠[]):mU b f (a::l) k≠[]:=by simp_all[mU]
theorem aDr(p:ae)(x:Pr):BC p x≠[]:=by obtain⟨op,nl,args,ty,var,scope,s,cond⟩:=p;grind[BC,uD,aDu]
theorem ahq:∀p:ae,zo p->eI p≠[]|.mk o f args t v s n c,d=>by have i:∀a∈args,eI a≠[]:=λa b=>ahq a (d.Iu b);have g:=d.ar;rw[eI];cases e:aj o 0 with|true=>rw[aR];simp|false=>rw[bS];cases args with|nil=>exact absurd g (λh=>RU e h)|cons a l=>have x:=i a gK;cases aj o 2||aj o 3 with|true=>rw[aR];exact aFh _ _ _ _ _ x|false=>rw[bS,BH];cases q:eI a with|nil=>exact absurd q x|cons y m=>rw[B5];exactλh=>aDr _ y (List.append_eq_nil_iff.1 h).1 termination_by p=>oW p decreasing_by simp_wf;have:=oU b;omega
theorem aJB(x:Pr)(s:fY×bq)(h:(gH x s).1=Z):(gH x s).2.1≠[]:=by grind[uf,gH]
theorem adp:∀(l:List Pr)(s:fY×bq),(cO gH l s).1=Z->l≠[]->(cO gH l s).2.1≠[]|[x],s,h,_=>by rw[Ba]at h|-;exact aJB x s h|x::y::l,s,h,_=>by rw[uS]at h|-;cases a:(gH x s).1 with|none=>rw[a]at h;exact adp (y::l) _ h aO|some c=>rw[a]at h;cases h
theorem abQ(h:GP p)(a:(fu p).1=0):(fu p).2.1≠[]:=by
 revert a;unfold fu;rcases b:(cO _ _ _).1 with _|c;.intro _;exact adp _ _ b (ahq p h.a)
 grind
theorem ae9{a:Type}(f:a->Bool):∀(l:List a)(i:Nat),aA (gP f l i) 0=C->∃n:Nat,gP f l i=.ofNat n/\i<=n/\n<i+l.length|[],_,h=>by simp[gP,fQ]at h|q::l,i,h=>by rw[gP]at h|-;cases c:f q with|true=>exact⟨i,by rw[aR],bJ _,by simp only[dE];omega⟩|false=>rw[c,bS]at h;obtain⟨n,b,d,e⟩:=ae9 f l (i+1) h;exact⟨n,by rw[bS,b],ab,by simp only[dE];omega⟩
theorem aJA(x:Pr)(s:fY×bq)(h:∀y∈s.1,aA y.dst 0=C->y.dst.toNat<s.2.length):∀y∈(gH x s).2.1,aA y.dst 0=C->y.dst.toNat<(gH x s).2.2.length:=by grind[uf,gH,jm,fQ,ae9]
theorem ado:∀(l:List Pr)(s:fY×bq),(∀y∈s.1,aA y.dst 0=C->y.dst.toNat<s.2.length)->∀y∈(cO gH l s).2.1,aA y.dst 0=C->y.dst.toNat<(cO gH l s).2.2.length|[],_,h=>h|x::l,s,h=>by rw[uS];have:=aJA x s h;cases(gH x s).1 with|none=>exact ado l _ this|some c=>exact this
theorem anF(p:ae):∀y∈(fu p).2.1,aA y.dst 0=C->y.dst.toNat<(fu p).2.2.length:=by unfold fu;cases(cO _ _ _).1<;>simp_all[ado]
theorem ae7(p:ae):∀(l:bq)(i:Nat),Pu p l i=gP (λq=>q.same p) l i|[],_=>rfl|q::l,i=>by rw[Pu,gP,ae7 p l (i+1)]
theorem aAo{s:St}{x:aK}{d a b c:Nat}{u:iF}:vq s x d u (.se a b c)=aH s (J d) (.se a b c):=(rfl)
theorem aAU{s:St}{d:ah Tmp}{a b c:Nat}:U6 s d (.se a b c)=aH s d (.se a b c):=(rfl)
attribute[go_sem]aAo aAU
def pG(f:bq):bq->Nat->List (Nat×fY)|[],_=>[]|q::l,i=>(i,(fu q).2.1.map (rZ f i (fu q).2.2))::pG f l (i+1)
abbrev ab1:Nat×fY->aq:=λx=>[iD (.ofNat x.1),.ay (x.2.map Edge.d) 241 17]
def aaQ(g:GH)(b:Nat)(l:bq):Prop:=g.get b=J (.box ⟨[.ay (ae.bm l) 61 14],[]⟩)/\b<g.next
structure StI{σ:Type}(k:Nat)(g0:GH)(rel:ah bF->σ->GH->Prop)(step:Nat×fY->σ->ah bF×σ)(s0:σ)(X Y:List (Nat×fY))(s:σ×GH):Prop where
 r:rel Z s.1 s.2
 h:Hi k g0 s.2
 n:k<=s.2.next
 f:cO step Y s.1=cO step X s0
 d:∃dn,X=dn++Y/\cO step dn s0=(Z,s.1)
theorem axk(u:bq)(b:Nat)(hl:u.length<=256)(hg:∀q∈u,GP q/\(fu q).1=0):vZ ab1 180 [] [.ptr b 0] (λg=>aaQ g b u) (pG u u 0):=by
 intro n k σ E step s U jW g hr hk;suffices hS:Sat (ev PP cf (.call 180 ([]++[.dT n]++[.ptr b 0]) .no g)) λv O=>v=.tp []/\E (cO step (pG u u 0) s).1 (cO step (pG u u 0) s).2 O/\Hi k g O by obtain⟨v,O,e,rfl,r,h⟩:=hS;simp_all
 obtain⟨lr,nR⟩:=jW _ _ _ hr;have d1:=aIU;simp only[bw,opsOf,f180,go_sem]at d1;refine mV func180 ?_;simp only[f180];simp only[go_sem,lr];refine Ab u (s,g) (λi _=>[(12,iS i)]) (λs=>s.2) (λi l p=>StI k g E step s (pG u u 0) (pG u l i) p) ab rfl rfl ⟨hr,Hi.refl,hk,rfl,[],rfl,rfl⟩ (λp I=>?_) (λi q l p hi hx hw I H=>?_);.obtain⟨r,h2,_,f,_⟩:=I;rw[pG]at f;rw[<-f];simp only[go_sem];exact⟨trivial,r,h2⟩
 . obtain⟨T,g1⟩:=p;obtain⟨S,N,yc,G,w,F,K⟩:=I;simp only at S N yc G K;obtain⟨P,dq⟩:=hg q (dw hx);obtain⟨oe,qq,e2⟩:=apJ q P;obtain⟨jt,pj⟩:=jW _ _ _ S;have pf:=abQ P dq;have t:=aJ2 (fu q).2.1 (fu q).2.2 (fu q).1 oe qq;obtain⟨d3,d4,d5⟩:=D6 P;have p1:cA ((fu q).2.1.map Edge.d)=V:=iB Edge.pure _;have p2:cA (ae.bm (fu q).2.2)=V:=ae.uB _;simp only[AP pf]at e2 t;rw[dq]at e2 t;have M:∀x∈(fu q).2.1,aA x.dst 0=C->x.dst.toNat<(fu q).2.2.length:=anF q;rw[pG]at G F;generalize(fu q).2.1=a at*;generalize(fu q).2.2=c at*;have iN:aM.yh .no=V:=rfl;simp only[qJ,ctt]at t;rcases oS (c=[])with hr|hr;case' inl=>simp only[hr,ae.bm,zm]at e2 t
   case' inr=>simp only[zj hr]at e2 t
   all_goals
   simp only[go_sem,iN,hi,hx,e2,t,p1,p2];rw[Cf];refine Ab a () (λj _=>[(25,iS j),(5,.dv (.ay (((a.take j).map (rZ u i c)++a.drop j).map Edge.d) 241 17) (.ex 241))]) (λ_=>g1) (λj r _=>r=a.drop j) ab rfl rfl rfl (λ_ I=>?_) (λj x r _ R hy hv I o=>?_);.have wE:((a.take a.length).map (rZ u i c)++a.drop a.length).map Edge.d=(a.map (rZ u i c)).map Edge.d:=aO;obtain⟨g3,e3,r3,Q⟩:=U.run (i,a.map (rZ u i c)) T g1 ⟨w,pG u l (i+1),F,K⟩ S yc;simp only[ab1]at e3;rw[wE];rw[uS]at G;have KK:∀p,(step (i,a.map (rZ u i c)) T)=(Z,p)->∃w,pG u u 0=w++pG u l (i+1)/\cO step w s=(Z,p):=λp h=>⟨w++[(i,a.map (rZ u i c))],ai,by grind[xT,Ba]⟩;generalize step (i,a.map (rZ u i c)) T=z at*;obtain⟨Y,sz⟩:=z;cases Y with|none=>have H:=H (sz,g3) ⟨r3,N.trans Q,by have:=Q.1;grind,G,KK _ rfl⟩;simp only[qU]at e3;simp only[go_sem]at H;simp only[go_sem,e3,hw,H]|some Y=>simp only[rT]at e3;simp only[go_sem,e3];rw[<-G];exact⟨trivial,r3,N.trans Q⟩
   . have L:∃A B:aq,A.length=j/\((a.take j).map (rZ u i c)++a.drop j).map Edge.d=A++x.d::B/\((a.take (j+1)).map (rZ u i c)++a.drop (j+1)).map Edge.d=A++(rZ u i c x).d::B:=by have HN:=mT R;obtain⟨_,hxj⟩:=List.getElem?_eq_some_iff.1 hy;refine⟨((a.take j).map (rZ u i c)).map Edge.d,(a.drop (j+1)).map Edge.d,ai,?_,?_⟩;all_goals simp_all[DM,List.take_succ_eq_append_getElem]
     obtain⟨A,B,hA,iw,jV⟩:=L;have o:=o () (by grind[DO]);simp only at o;rw[jV]at o;simp only[iw];have X:∀y:DV,(A++y::B)[j]?=J y:=λy=>aT;have D:∀y:DV,List.take j (A++y::B)=A:=λy=>List.take_left' hA;have gN:∀y:DV,List.drop (j+1) (A++y::B)=B:=λy=>by simp_all[zd]
     have W:(j<A.length+(B.length+1))=True:=iT ab;have kQ:=dw hy;obtain⟨src,d,var,ty,⟨o1,o2,o3,o4,o5,o6,o7,o8,o9⟩,ops,cls,ub,uw,ins⟩:=x;have F:=M _ kQ;simp only at F;simp only[rZ,Edge.d,Edge.cells,Expr.cells]at o|-;cases hd:aA d 0 with|true=>simp only[hd,aR,go_sem]at o;simp only[go_sem,R,X,D,gN,W,hd,hv,o]|false=>
     have K:=F hd;have hd0:¬d<0:=by rw[fQ]at hd;exact of_decide_eq_false hd
     obtain⟨m,rfl⟩:∃m:Nat,d=.ofNat m:=⟨d.toNat,by simp only[vY];omega⟩;first
     |(rw[hr]at K;exact absurd K aO)
     | obtain⟨z,hz⟩:∃z,c[m]?=J z:=⟨_,dD K⟩;have eE:c.getD (di m).toNat zP=z:=by show c.getD m zP=z;rw[List.getD_eq_getElem?_getD,hz];rfl
       obtain⟨gz,e6⟩:=apK C u z ab (λq hq=>by have:=(hg q hq).1.c;omega);rw[N4,<-ae7]at e6;have HY:(m<c.length)=True:=iT K;simp only[hd,eE,bS,go_sem]at o;simp only[go_sem,R,X,D,gN,W,hd,hv,o,hz,HY,e6,jt,d1]
set_option maxHeartbeats 1000000
abbrev zA:dK:=⟨0,0,⟨V,[]⟩,⟨V,[]⟩⟩
theorem aJM(q S r F v p t d)(X:ae.bH r<=89)(gd:tW q r.length=V)(N:∀x∈r,CC 184 [.agg x.cells] (.val (fU ((jq x).map Guard.d) 281 11) .empty)):CC 184 [.agg (ae.mk q S r F v p t d).cells] (.val (fU ((jq (.mk q S r F v p t d)).map Guard.d) 281 11) .empty):=by
 have M:=ae.mj r;have B:aj q 0=C->∃a l,r=a::l:=λh0=>by cases r<;>grind[RU]
 have z:∀k:Int,aj k 0=C->aj q k=V->aj q 0=C:=λk hk h=>by grind[nK]
 refine aP func184 ?_;simp only[f184];simp only[go_sem,ae.cells,jq];have L:∀a l,r=a::l->(jq a=[]/\CC 184 [.agg a.cells] (.val (.dv .nl .any) .empty))\/(jq a≠[]/\CC 184 [.agg a.cells] (.val (.dv (.ay ((jq a).map Guard.d) 281 11) (.ex 281)) .empty)):=by
  intro a l h;have:=N a aT;rcases oS (jq a=[])with c|c;.rw[c]at this;exact .inl ⟨c,this⟩
  grind[tV]
 cases I:aj q 9 with|true=>
  obtain rfl:=nK I;obtain⟨a,l,rfl⟩:=B rfl;have O:aj 9 1=C:=rfl;have P:aj 9 8=C:=rfl;have Q:aj 9 3=C:=rfl;have R:aj 9 9=V:=rfl;have W:=GM a;simp only[ae.bH]at X;have m:fB 281 11 112 (.ay [Guard.d ⟨p,F,v,d⟩] 281 11) (.ex 281) ((jq a).map Guard.d)=J (.ay ([Guard.d ⟨p,F,v,d⟩]++(jq a).map Guard.d) 281 11,.ex 281):=aab ai;have w:(((jq a).map Guard.d).all λy=>decide (y.flat.length=11))=V:=flG _;simp only[go_sem]at m;rcases L a l rfl with⟨c,e1⟩|⟨c,e1⟩;.rw[c]at m;simp only[eG,go_sem]at m;simp only[go_sem,O,P,Q,R,ae.bm,e1,rW,c]
  .simp only[go_sem,O,P,Q,R,ae.bm,e1,m,w,Bc,rW]|false=>
  apply sp<;>intro h<;>simp only[h,go_sem]
  . obtain⟨a,l,rfl⟩:=B (z 1 rfl h);rcases L a l rfl with⟨c,e1⟩|⟨c,e1⟩;.simp only[go_sem,ae.bm,e1,rW,c,eG]
    .simp only[go_sem,ae.bm,e1,rW,Bc,tV c]
  apply sp<;>intro G<;>simp only[G,go_sem]
  . obtain⟨a,l,rfl⟩:=B (z 8 rfl G);rcases L a l rfl with⟨c,e1⟩|⟨c,e1⟩;.simp only[go_sem,ae.bm,e1,rW,c,eG]
    .simp only[go_sem,ae.bm,e1,rW,Bc,tV c]
  apply sp<;>intro U<;>simp only[U,I,go_sem]
  . have H:aj q 10=C:=by grind[nK]
    have A:aj q 7=C:=by grind[nK]
    simp only[H,A,go_sem];refine rC r ([]:List Guard) (λi s=>[(21,iS i),(3,fU (s.map Guard.d) 281 11)]) (λi l s=>.val (fU ((s++AQ l).map Guard.d) 281 11) .empty) (λi l s=>s.length+ae.bH l<=400) ab rfl ai rfl (λs K=>?_) (λi x l s D u E K g=>?_)
    . simp only[AQ,jQ];rcases oS (s=[])with j|j;.subst j;simp only[go_sem]
      .simp only[go_sem,tV j]
    . have e1:=N x (dw u);have g:=g (s++jq x) (by grind[GM,ae.bH]);have W:=GM x;simp only[ae.bH]at K;simp only[AQ];rw[<-tM];have m:s≠[]->fB 281 11 112 (.ay (s.map Guard.d) 281 11) (.ex 281) ((jq x).map Guard.d)=J (.ay (s.map Guard.d++(jq x).map Guard.d) 281 11,.ex 281):=λ_=>aab ai;have w:(((jq x).map Guard.d).all λy=>decide (y.flat.length=11))=V:=flG _;have Y:=λ(h:jq x≠[])(o:aM)=>aac (f:=Guard.d) (e:=281) (n:=11) (b:=112) (o:=o) ab ab h ab;rcases oS (s=[])with j|j<;>rcases oS (jq x=[])with c|c;.subst j;rw[c]at e1 g|-;simp only[jQ,eG,go_sem]at g e1;simp only[go_sem,D,u,E,e1,g,akI,jQ,jF]
      .subst j;simp only[jF,tV c,go_sem]at g e1;simp only[go_sem,D,u,E,e1,w,g,Y c,Bc,jF]
      .rw[c]at e1 g m|-;simp only[jQ,eG,tV j,go_sem]at g e1 m;simp only[go_sem,D,u,E,e1,g,m j,tV j,jQ]
      .have T:s++jq x≠[]:=aT;rw[tV T]at g;simp only[tV c,qb,go_sem]at g e1;simp only[go_sem,D,u,E,e1,w,g,m j,Bc,tV j,qb,tM]
  apply sp<;>intro H<;>simp only[H,go_sem]
  . obtain⟨a,l,rfl⟩:=B (z 10 rfl H);rcases L a l rfl with⟨c,e1⟩|⟨c,e1⟩;.simp only[go_sem,ae.bm,e1,rW,c,eG]
    .simp only[go_sem,ae.bm,e1,rW,Bc,tV c]
  apply sp<;>intro A<;>simp only[A,go_sem]
  . obtain⟨a,l,rfl⟩:=B (z 7 rfl A);rcases L a l rfl with⟨c,e1⟩|⟨c,e1⟩;.simp only[go_sem,ae.bm,e1,rW,c,eG]
    .simp only[go_sem,ae.bm,e1,rW,Bc,tV c]
theorem aco:∀p:ae,zo p->p.nn<=90->CC 184 [.agg p.cells] (.val (fU ((jq p).map Guard.d) 281 11) .empty)|.mk o l args t v s a c,b,n=>by have hr:∀x∈args,CC 184 [.agg x.cells] (.val (fU ((jq x).map Guard.d) 281 11) .empty):=λx h=>aco x (b.Iu h) (by have:=ae.rH args x h;simp only[ae.nn]at n;omega);exact aJM o l args t v s a c (by simp only[ae.nn]at n;omega) b.ar hr termination_by p=>oW p decreasing_by simp_wf;have:=oU h;omega
theorem apx(p:ae)(b:lE p):CC 126 [.agg p.cells] (.val (.tp [sV ((bif aj p.ua 0 then jq p else[]).map Guard.d) 281 11,iO p.ua]) .empty):=by
 obtain⟨_,g0,a,rfl⟩:=Oc p b;refine aP func126 ?_;rcases c:aj _ 0 with _|_;.simp only[go_sem,f126,a,c,eG,zm]
 have g:=Sr b (nK c);have e1:=aco p g.a (by have:=g.n;omega);have z:=nK c;rcases oS (jq p=[])with h|h;.rw[h]at e1|-;simp only[go_sem,f126,a,e1,eG,zm,z]
 .rw[tV h]at e1;simp only[go_sem,f126,a,e1,Bc,RL h,z]
set_option maxHeartbeats 4000000
section
variable{P:aG}{t fn n id I e a m:Nat}{sl:cT}{lb:dV}{g:GH}{d:ah Tmp}{b:LB}{dd:DV}{l:aq}
theorem ayZ:rB P t .ref ⟨fn,n,sl,lb,g⟩ d id 0 (.box ⟨[.ay l a m],[(0,.ty e)]⟩)=(fD P .ref t ⟨[.ay l a m],[(0,.ty e)]⟩ 0).bind λr=>aH ⟨fn,n,sl,lb,g.set id (.box r.2)⟩ d r.1:=by rfl
theorem aGa:oP .ref b I dd (.ty e)=(.dv dd .no,b):=rfl
end
attribute[go_sem]ayZ aGa
theorem apw(l:bq)(g:GH):ev PP cf (.call 125 [.ay (ae.bm l) 61 14] .no g)=J (.val (.dv (.func 180 [] [.ptr g.next 0]) .no) (g.alloc (.box ⟨[.ay (ae.bm l) 61 14],[]⟩))):=by refine aP func125 ?_;simp only[go_sem,f125]
def tK(f:bq)(x:Nat×fY)(s:List Stat×fY):ah bF×(List Stat×fY):=(Z,(s.1++[⟨⟨V,jq (f.getD x.1 zP)⟩⟩],s.2++x.2))
def qY(f:bq):bq->Nat->List Stat×fY->List Stat×fY|[],_,s=>s|q::l,i,(a,e)=>qY f l (i+1) (a++[⟨⟨V,jq q⟩⟩],e++(fu q).2.1.map (rZ f i (fu q).2.2))
theorem Tu(f:bq):∀(l:bq)(i:Nat)(s:List Stat×fY),f.drop i=l->cO (tK f) (pG f l i) s=(Z,qY f l i s)
 |[],_,_,_=>rfl|q::l,i,s,h=>by
  have k:f[i]?=J q:=by rw[<-GB,h];rfl
  rw[pG,uS];show cO (tK f) (pG f l (i+1)) (tK f _ s).2=_;rw[Tu f l (i+1) _ (by rw[<-DO,h];rfl)];obtain⟨a,e⟩:=s;simp only[tK,qY,List.getD_eq_getElem?_getD,k,DS]
theorem Q'(f:bq):∀(l:bq)(i:Nat),f.drop i=l->∀x∈pG f l i,∃q,f[x.1]?=J q/\x.2=(fu q).2.1.map (rZ f x.1 (fu q).2.2)
 |[],_,_,x,h=>by rw[pG]at h;exact absurd h mA|q::l,i,h,x,a=>by
  have k:f[i]?=J q:=by rw[<-GB,h];rfl
  rw[pG]at a;rcases List.mem_cons.1 a with rfl|a;.exact⟨q,k,rfl⟩
  .exact Q' f l (i+1) (by rw[<-DO,h];rfl) x a
def Sb(v s:Int)(x:List Stat×fY):GO:=match x.1 with|[]=>.box ⟨[iD v,iD s,.nl,.nl],[]⟩|_=>.box ⟨[iD v,iD s,.ay (x.1.map Stat.d) 229 1,.ay (x.2.map Edge.d) 241 17],[(3,.ex 241),(2,.ex 229)]⟩
structure R59(v s:Int)(full:bq)(x:List Stat×fY)(g:GH):Prop where
 a:g.get 1=J (.box ⟨[iD 0,iD 0,.nl,.nl],[]⟩)b:g.get 2=J (.box ⟨[.nl],[]⟩)d:g.get 3=J (.box ⟨[iD 0],[]⟩)l:g.get 4=J (.box ⟨[.ay (ae.bm full) 61 14],[(0,.ty 61)]⟩)m:g.get 5=J (Sb v s x)c:aaQ g 6 full
 n:(x.1=[]->x.2=[])/\(x.1≠[]->x.2≠[])
theorem Tv(f:bq):∀(l:List (Nat×fY))(s:List Stat×fY),(∀x∈l,x.2.length<=4096)->(cO (tK f) l s).2.1.length=s.1.length+l.length/\(cO (tK f) l s).2.2.length<=s.2.length+l.length*4096|[],_,_=>⟨rfl,Nat.le_add_right _ _⟩|x::l,s,h=>by rw[uS];obtain⟨a,b⟩:=Tv f l (tK f x s).2 (λy c=>h y (kG _ c));have:=h x gK;show(cO (tK f) l (tK f x s).2).2.1.length=_/\(cO (tK f) l (tK f x s).2).2.2.length<=_;simp only[tK,gJ,dE,gE]at a b|-;exact⟨ab,ab⟩
theorem Y4(f:bq):∀(l:bq)(i:Nat),(pG f l i).length=l.length|[],_=>rfl|q::l,i=>by rw[pG,dE,dE,Y4 f l (i+1)]
theorem NK{v s:Int}{a:List Stat}{e:fY}(h:a≠[]):Sb v s (a,e)=.box ⟨[iD v,iD s,.ay (a.map Stat.d) 229 1,.ay (e.map Edge.d) 241 17],[(3,.ex 241),(2,.ex 229)]⟩:=by
 cases a;.grind
 rfl
theorem aaX{v s:Int}{e:fY}:Sb v s ([],e)=.box ⟨[iD v,iD s,.nl,.nl],[]⟩:=rfl
theorem arY(l:fY):((l.map Edge.d).all λy=>decide (y.flat.length=17))=V:=by simp[DV.flat,Edge.d,Edge.dG]
theorem aJP(p:ae)(hp:lE p)(u:bq)(hn:u≠[])(d:u.length<=256)(A:∀q∈u,GP q/\(fu q).1=0)(hc:aj p.jc 0=V)(e1:CC 123 [.agg p.cells] (.val (.tp [(.ay (ae.bm u) 61 14,.ex 61),iO 0]) .empty)):Sat (ev PP cf (.call 71 [.agg p.cells] .no .empty)) λv _=>∃w:DV×aM,w.1.pure=V/\v=.tp [(.agg (bif aA 2048 (.ofNat (qY u u 0 ([],[])).2.length)then zA else⟨(ku p).1,(ku p).2.1,⟨V,(qY u u 0 ([],[])).1⟩,⟨V,(qY u u 0 ([],[])).2⟩⟩).cells,.no),w,iO (bif aA 2048 (.ofNat (qY u u 0 ([],[])).2.length)then 17 else 0)]:=by
 have e2:=ab8 p hp;have e3:=apw u;have q0:aj 0 0=V:=rfl;have hz:(ku p).2.2=0:=by unfold ku;rw[hc];rfl
 rw[hz]at e2;have p2:cA (ae.bm u)=V:=ae.uB u;refine mV func71 ?_;simp only[f71,List.append];have Y:cW [(0,.ex 61)] 0 1=[]:=rfl;simp only[go_sem,e1,e2,p2,q0,Y,e3];refine Al (axk u 6 d A) (tK u) (λ_ x g=>R59 (ku p).1 (ku p).2.1 u x g) ([],[]) (λm=>rfl) rfl ⟨rfl,rfl,rfl,rfl,rfl,⟨rfl,by show 6<7;decide⟩,λ_=>rfl,λh=>absurd rfl h⟩ (λc s g' h=>h.c) (λc s g3 g4 h d=>⟨(d.2 1 (by show 1<7;decide)).trans h.a,(d.2 2 (by show 2<7;decide)).trans h.b,(d.2 3 (by show 3<7;decide)).trans h.d,(d.2 4 (by show 4<7;decide)).trans h.l,(d.2 5 (by show 5<7;decide)).trans h.m,⟨(d.2 6 (by show 6<7;decide)).trans h.c.1,gi h.c.2 d.1⟩,h.n⟩) (λx s g2 hx R hN W=>?_) (λg2 R hN=>?_)
 . obtain⟨r1,r2,I,K,r,⟨r6,r7⟩,r8,D⟩:=R;refine Ao W rfl ?_;simp only at hN W;obtain⟨t,E⟩:=s;obtain⟨j,i⟩:=x;have uq:=hx.mem;have hj:=Q' u u 0 (xp) _ uq;simp only at hj;obtain⟨q,B,pf⟩:=hj;have G:=(A q (dw B)).1;have e4:=apx q G.o;rw[G.r,show aj 0 0=V from rfl,aR]at e4;have d1:=aI5;simp only[bw,opsOf,f71,List.append,go_sem]at d1;have pS:(j<u.length)=True:=iT (List.getElem?_eq_some_iff.1 B).1;have hb:=D6 G;have T:i≠[]:=by rw[pf];have:=abQ G (A q (dw B)).2;simpa using this
   have aMj:i.length<=4096:=by rw[pf,fZ];exact hb.2.2
   have hlen:t.length<=256/\E.length<=256*4096:=by obtain⟨pre,post,z,Q⟩:=hx;have:=Tv u pre ([],[]) (λy a=>by obtain⟨X,k1,k2⟩:=Q' u u 0 (xp) y (by rw[z];exact Jz _ a);rw[k2,fZ];exact(D6 (A X (dw k1)).1).2.2);rw[Q]at this;have jX:=gY List.length z;rw[gJ,Y4]at jX;simp only[gE]at this;have:pre.length*4096<=256*4096:=qR ab (bJ _);omega
   have Ex:(t.length<1200000)=True:=iT ab;have P:=aac (f:=Edge.d) (e:=241) (n:=17) (b:=240) (l:=i) (o:=.any) eY eY T ab;have S:fB 241 17 240 (.ay (E.map Edge.d) 241 17) (.ex 241) (i.map Edge.d)=J (.ay (E.map Edge.d++i.map Edge.d) 241 17,.ex 241):=qg eY (by rw[fZ,fZ];unfold bl;omega) (by rw[fZ,fZ];unfold bl;omega);have U:=arY i;have uj:u.getD j zP=q:=by rw[List.getD_eq_getElem?_getD,B];rfl
   have L:cW [(2,.ex 229)] 3 1=[(2,.ex 229)]:=rfl;have M:cW [(3,.ex 241),(2,.ex 229)] 2 1=[(3,.ex 241)]:=rfl;have N:cW [(3,.ex 241)] 3 1=[]:=rfl;have dd4:cW [(3,.ex 241)] 2 1=[(3,.ex 241)]:=rfl;have dd5:cW [(2,.ex 229)] 2 1=[]:=rfl;have dd6:cW [(3,.ex 241),(2,.ex 229)] 3 1=[(2,.ex 229)]:=rfl;have dd7:cW [] 3 1=[]:=rfl;have O:cW [] 2 1=[]:=rfl;simp only at r8 D;rcases oS (t=[])with k|k<;>rcases oS (jq q=[])with a|a;case' inl.inl=>rw[k,aaX]at r
   case' inl.inr=>rw[k,aaX]at r
   case' inr.inl=>rw[NK k]at r
   case' inr.inr=>rw[NK k]at r
   case' inl.inl=>simp only[a,eG,zm]at e4
   case' inr.inl=>simp only[a,eG,zm]at e4
   case' inl.inr=>simp only[RL a]at e4
   case' inr.inr=>simp only[RL a]at e4
   all_goals simp only[go_sem,W,K,r,B,e4,d1,Bc,P,S,U,Ex,fZ,L,M,N,O]
   all_goals
   have cj:(tK u (j,i) (t,E)).2=(t++[⟨⟨V,jq q⟩⟩],E++i):=by unfold tK;simp only[uj]
   rw[cj];refine⟨rfl,⟨?_,?_,?_,?_,?_,⟨?_,?_⟩,λh=>absurd h aO,λ_=>by simp[T]⟩,nQ,rfl⟩;.simp only[go_sem,r1]
   .simp only[go_sem,r2]
   .simp only[go_sem,I]
   .simp only[go_sem,K]
   . rw[NK aO];first|have hG:=EX (f:=Guard.d) (e:=281) (n:=11) a|have hG:bP V ((jq q).map Guard.d) 281 11=.nl:=by rw[a];rfl
     first|have H:=r8 k|have H:=T
     simp only[go_sem,r,qb,fS,eG,Stat.d,CB,hG,k,H]
   .simp only[go_sem,r6]
   .simp only[gL];exact r7
 . rw[Tu u u 0 _ (xp)]at R|-;obtain⟨r1,r2,I,K,r,⟨r6,r7⟩,r8,D⟩:=R;have F:(qY u u 0 ([],[])).1≠[]:=by have z:=Tv u (pG u u 0) ([],[]) (λy a=>by obtain⟨X,k1,k2⟩:=Q' u u 0 (xp) y a;rw[k2,fZ];exact(D6 (A X (dw k1)).1).2.2);rw[Tu u u 0 _ (xp)]at z;intro h0;have Q:=z.1;simp only[h0,gE,Y4]at Q;exact hn (ZS ab)
   simp only at r D;generalize qY u u 0 ([],[])=x at*;obtain⟨t,E⟩:=x;simp only at F D;have H:=D F;rw[NK F]at r;have b1:=aHl;have b2:=aHA;simp only[bw,opsOf,f71,List.append,go_sem]at b1 b2;simp only[go_sem,r];apply gU<;>intro h<;>simp only[h,go_sem,r1,r2,I];.exact⟨(.nl,.any),rfl,rfl⟩
   .refine QS [()] [] b2 b1 rfl ?_;simp only[go_sem,r1,r2,I,K,r];exact⟨(.ay (ae.bm u) 61 14,.ty 61),p2,by rw[EX F,EX H]⟩
theorem RO:∀(l o:bq),∃s,qX l o=o++s|[],o=>⟨[],(jQ o).symm⟩|r::l,o=>by rw[qX];cases aA (gP r.same o 0) 0 with|true=>obtain⟨s,h⟩:=RO l (o++[r]);exact⟨r::s,by rw[aR,h];simp⟩|false=>exact RO l o
theorem YL:∀(f i:Nat)(o l:bq),w8 f i o=J l->(∀q∈o,GP q)->i<=o.length->(∀j q,j<i->o[j]?=J q->(fu q).1=0)->∀q∈l,GP q/\(fu q).1=0|0,_,_,_,h,_,_,_=>by cases h|f+1,i,o,l,h,g,u,hd=>by rw[w8]at h;cases a:o[i]? with|none=>rw[a]at h;cases h;intro q m;refine⟨g q m,?_⟩;obtain⟨j,d,rfl⟩:=List.getElem_of_mem m;have:=List.getElem?_eq_none_iff.1 a;exact hd j _ ab (dD d)|some q=>rw[a]at h;simp only at h;have p:=g q (dw a);cases e:aj (fu q).1 0 with|false=>rw[e]at h;cases h|true=>rw[e,aR]at h;cases k:aA 256 (.ofNat (qX (fu q).2.2 o).length)with|true=>rw[k]at h;cases h|false=>
 rw[k,bS]at h;obtain⟨d1,_,_⟩:=D6 p;obtain⟨n,_,t⟩:=NB _ o d1 g;obtain⟨s,r⟩:=RO (fu q).2.2 o;have H:=(List.getElem?_eq_some_iff.1 a).1;refine YL f (i+1) _ l h n ab (λj z d b=>?_);rw[r,mz ab]at b;by_cases c:j<i;.exact hd j z c b
 .have:j=i:=ab;subst this;rw[a]at b;cases b;exact nK e
theorem YK:∀(f i:Nat)(o l:bq),w8 f i o=J l->(∀q∈o,GP q)->o≠[]->o.length<=256->l≠[]/\l.length<=256|0,_,_,_,h,_,_,_=>by cases h|f+1,i,o,l,h,g,n,k=>by rw[w8]at h;cases a:o[i]? with|none=>rw[a]at h;cases h;exact⟨n,k⟩|some q=>rw[a]at h;simp only at h;cases e:aj (fu q).1 0 with|false=>rw[e]at h;cases h|true=>rw[e,aR]at h;cases j:aA 256 (.ofNat (qX (fu q).2.2 o).length)with|true=>rw[j]at h;cases h|false=>rw[j,bS]at h;obtain⟨d1,_,_⟩:=D6 (g q (dw a));obtain⟨c,_,b⟩:=NB _ o d1 g;refine YK f (i+1) _ l h c (λd=>n (ZS (by rw[d]at b;simpa using b))) ?_;rw[fQ]at j;have:=of_decide_eq_false j;simp only[vY]at this;omega
def mF(p:ae):dK×Int:=bif aj p.jc 0 then(match w8 258 0 [p]with|none=>(zA,17)|some l=>bif aA 2048 (.ofNat (qY l l 0 ([],[])).2.length)then(zA,17)else(⟨(ku p).1,(ku p).2.1,⟨V,(qY l l 0 ([],[])).1⟩,⟨V,(qY l l 0 ([],[])).2⟩⟩,0))else(zA,p.jc)
theorem aqk(p:ae)(b:lE p):Sat (ev PP cf (.call 71 [.agg p.cells] .no .empty)) λv _=>∃w:DV×aM,w.1.pure=V/\v=.tp [(.agg (mF p).1.cells,.no),w,iO (mF p).2]:=by
 have e1:=apv p b;unfold mF;rcases h:aj p.jc 0 with _|_;.rw[h,bS]at e1;refine mV func71 ?_;simp only[f71,List.append];simp only[go_sem,e1,h];exact⟨(.nl,.any),rfl,rfl⟩
 rw[h,aR]at e1;have g:=Sq b (nK h);have d:∀q∈[p],GP q:=λq n=>ai;rw[aR];rcases a:w8 258 0 [p]with _|l;.rw[a]at e1;simp only[IX]at e1;have FE:aj 17 0=C:=rfl;refine mV func71 ?_;simp only[f71,List.append];simp only[go_sem,e1,FE];exact⟨(.nl,.any),rfl,rfl⟩
 rw[a]at e1;obtain⟨c,i⟩:=YK _ _ _ _ a d aO aO;simp only[IX,zj c]at e1;obtain⟨v,f,e,w,k,rfl⟩:=aJP p b l c i (YL _ _ _ _ a d (lX _) (λj q m=>ab)) h e1;refine⟨_,f,e,w,k,?_⟩;grind
theorem acv(p:ae)(h:lE p):Sat (ev PP cf (.call 42 [.agg p.cells] .no .empty)) λv _=>v=.tp [(.agg (mF p).1.cells,.no),iO (mF p).2]:=by obtain⟨_,g1,e1,w,a,rfl⟩:=aqk p h;refine mV func42 ?_;simp only[f42];simp only[go_sem,e1,a,dK.cells]
theorem aJz(Q:Edge->Prop)(x:Pr)(s:fY×bq)(a:∀d,Q (jm x.cJ d))(h:∀e∈s.1,Q e):∀e∈(gH x s).2.1,Q e:=by grind[uf,gH]
theorem adm(Q:Edge->Prop):∀(l:List Pr)(s:fY×bq),(∀x∈l,∀d,Q (jm x.cJ d))->(∀e∈s.1,Q e)->∀e∈(cO gH l s).2.1,Q e|[],_,_,h=>h|x::l,s,a,h=>by rw[uS];have:=aJz Q x s (a x gK) h;cases(gH x s).1 with|none=>exact adm Q l _ (λy b=>a y (kG _ b)) this|some c=>exact this
theorem anH(h:GP p):∀e∈(fu p).2.1,xm e:=by
 unfold fu;cases(cO gH _ _).1;.refine adm _ _ _ (λx c d=>?_) aO;have b:=IL p h.a x c;have f:=h.n;have g:=h.c;exact⟨by have:=b.c;show x.cJ.cond.nn<_;omega,by have:=b.k;show x.cJ.jJ.l.length<_;omega,λe a=>by have:=b.e e a;omega,by have:=b.o;show x.cJ.opens.l.length<_;omega,by have:=b.p;show x.cJ.lI.l.length<_;omega,by have:=b.i;show x.cJ.inside.l.length<_;omega,by have:=b.l;show x.cJ.jZ.l.length<_;omega⟩
 .simp
mutual
theorem RN : ∀ p : ae, ∀ g ∈ jq p, g.cond.nn <= p.cn
  | .mk o l args t v s e n, g, h => by
    have d := akc args
    have f := ZW args
    rw [jq] at h
    rw [ae.cn]
    cases a : aj o 9 <;> rw [a] at h
    · cases b : (aj o 1 || (aj o 8 || (aj o 10 || aj o 7))) <;> rw [b] at h
      · cases c : aj o 3 <;> rw [c] at h
        · exact absurd h mA
        · have := f g h; omega
      · have := d g h; omega
    · rcases List.mem_cons.1 h with rfl | h
      · show n.nn <= _; omega
      · have := d g h; omega
theorem akc : ∀ l : bq, ∀ g ∈ rW l, g.cond.nn <= ae.gb l
  | [], _, h => absurd h mA
  | a :: l, g, h => by
    rw [rW] at h
    have := RN a g h
    rw [ae.gb]; omega
theorem ZW : ∀ l : bq, ∀ g ∈ AQ l, g.cond.nn <= ae.gb l
  | [], _, h => absurd h mA
  | a :: l, g, h => by
    rw [AQ] at h
    rw [ae.gb]
    rcases List.mem_append.1 h with h | h
    · have := RN a g h; omega
    · have := ZW l g h; omega
end
theorem aaJ(f:bq):∀(l:bq)(i:Nat)(s:List Stat×fY),(∀q∈l,GP q)->(∀x∈s.1,x.guards.l.length<=64/\∀g∈x.guards.l,g.cond.nn<=4160)->(∀e∈s.2,xm e)->(qY f l i s).1.length=s.1.length+l.length/\(∀x∈(qY f l i s).1,x.guards.l.length<=64/\∀g∈x.guards.l,g.cond.nn<=4160)/\∀e∈(qY f l i s).2,xm e
 |[],_,_,_,j,k=>⟨rfl,j,k⟩|q::l,i,(t,n),m,j,k=>by have d:=m q gK;obtain⟨a,b⟩:=aaJ f l (i+1) (t++[⟨⟨V,jq q⟩⟩],n++(fu q).2.1.map (rZ f i (fu q).2.2)) (λr hr=>m r (kG _ hr)) (λx c=>by
 rcases List.mem_append.1 c with c|c;.exact j x c
 .rw[List.mem_singleton.1 c];exact⟨fX (GM q) d.n,λg o=>fX (RN q g o) d.c⟩) (λe h=>by
 rcases List.mem_append.1 h with h|h;.exact k e h
 .obtain⟨y,p,rfl⟩:=List.mem_map.1 h;have:=anH d y p;exact⟨this.c,this.k,this.e,this.o,this.p,this.i,this.l⟩);rw[qY];refine⟨by rw[a];simp only[gJ,dE,gE];omega,b⟩
theorem azT{n:Nat}:aA 2048 (.ofNat n)=V↔2048<n:=by grind[fQ]
theorem ZH:qM zA:=⟨ai,ai,λ_ h=>absurd h mA,λ_ h=>absurd h mA⟩
theorem abB(p:ae)(k:lE p):qM (mF p).1:=by
 unfold mF;cases f:aj _ 0;.exact ZH
 . have l:=Sq k (nK f);have g1:∀q∈[p],GP q:=λq e=>ai;rcases d:w8 _ 0 _ with _|m;.exact ZH
   have k2:=YL 258 0 [p] m d g1 (lX _) (λj q i _=>absurd i (Ns _));have k3:=YK _ 0 _ m d g1 aO aO;obtain⟨a,b,c⟩:=aaJ m m 0 ([],[]) (λq e=>(k2 q e).1) (λx h=>absurd h mA) (λx h=>absurd h mA);show qM (bif aA _ _ then(zA,(17:Int))else _).1;cases r:aA _ _
   . have:¬2048<(qY m m 0 ([],[])).2.length:=λn=>by grind[azT]
     exact⟨ai,ai,λs t=>⟨ai,λg o=>ai⟩,c⟩
   simp[ZH]
set_option maxHeartbeats 1000000
abbrev iN(j:Nat):DV:=.int .i64 (.ofNat j)
abbrev Rec:=Int->aD->Int->List aD
section
variable{E:fY}{f:Rec}{s:Int}{p:aD}{lim:Int}{x:Edge}{l:fY}{i:Nat}{o:List aD}
end
set_option maxHeartbeats 4000000
structure HW(a:dK)(b c y f n mE:Nat)(g:GH):Prop where
 ga:g.get b=J (.box ⟨a.cells,[]⟩)gc:g.get c=J (.box ⟨[iN mE],[]⟩)gy:g.get y=J (.box ⟨[.dT n],[]⟩)gf:g.get f=J (.box ⟨[.func 441 [] [.ptr b 0,.ptr c 0,.ptr y 0,.ptr f 0]],[]⟩)nb:b<g.next
 nc:c<g.next
 ny:y<g.next
 nf:f<g.next
def Hc(k c:Nat)(g a:GH):Prop:=g.next<=a.next/\∀i,k<=i->i<g.next->i≠c->a.get i=g.get i
theorem Hc.trans{k c:Nat}{a b d:GH}(h:Hc k c a b)(e:Hc k c b d):Hc k c a d:=⟨fX h.1 e.1,λj f g i=>(e.2 j f (gi g h.1) i).trans (h.2 j f g i)⟩
section
variable{σ:Type}{n k:Nat}{ok:aD->σ->Prop}{rel:ah bF->σ->GH->Prop}{step:aD->σ->ah bF×σ}
end
set_option maxHeartbeats 1000000
def JX(f:ae->dK×Int)(t:Sl bY)(q:cq)(a:dK):Int:=bif aj (wu t q) 0 then(bif aj (f q.pat).2 0 then(bif(f q.pat).1.same a then 0 else 22)else(f q.pat).2)else wu t q
theorem ev9(t:Sl bY)(q:cq)(a:dK)(f:lF t)(c:mB q)(A:qM (mF q.pat).1):∃g,CC 188 [.agg (eH.cells ⟨t,q,a⟩)] (.val (.dv (iD (JX mF t q a)) .no) g):=by
 suffices S:Sat (ev PP cf (.call 188 [.agg (eH.cells ⟨t,q,a⟩)] .no .empty)) λv _=>v=.dv (iD (JX mF t q a)) .no by obtain⟨v,r,e,rfl⟩:=S;grind
 obtain⟨g1,e1⟩:=acu t q f c;obtain⟨_,g2,e2,rfl⟩:=acv _ c.p;have e3:=ap2 _ a A;obtain⟨u,w,y,pat,B⟩:=q;simp only[JX];obtain⟨op,nl,args,ty,var,scope,s,cond⟩:=pat;obtain⟨i,j,c3,k,l,m,n,o,p⟩:=cond;simp only[cq.cells,ae.cells,Expr.cells,dK.cells,go_sem,lC,jF]at e1 e2 e3;refine mV func188 ?_;simp only[go_sem,f188,eH.cells,cq.cells,ae.cells,Expr.cells,dK.cells,lC,jF,e1];apply gU<;>intro h
 . simp only[h,go_sem,e2];apply gU<;>intro b;.simp only[b,go_sem,e3];apply gU<;>intro d<;>simp only[d,go_sem]
   .simp only[b,go_sem]
 .simp only[h,go_sem]
set_option maxHeartbeats 2000000
structure qe(p:eH):Prop where
 t:lF p.types
 k:p.query.key.l.length<1000000000
 a:qM p.xC
 v:p.xC.vars<=.ofNat p.query.vars.l.length
def PB(p:eH)(c:bp)(m:Int)(r:bh):Prop:=(∃n g,aj n 0=C/\r=.val (.tp [(.eN,.no),iO n]) g)\/∃k g,IK p.cells c.st c.bs c.ss m k g/\r=.val (.tp [(.ptr 1 0,.no),iO 0]) g
theorem aCc(p:eH)(v:Sl aL)(c:bp)(a:Int)(d:qe p)(f:F7 v)(N:c.bs.l.length<1100000)(E:c.ss.l.length<1000000000):de (PB p c a) (ev PP cf (.call 261 [.agg p.cells,cX v,c.d,iD a] .no .empty)):=by
 obtain⟨r,e1,n,g,rfl,T⟩:=aCs p.xC v c d.a f.1 ab E;have b:∀{n:Int}{g:GH},aj n 0=C->PB p c a (.val (.tp [(.eN,.no),iO n]) g):=λh=>.inl ⟨_,_,h,rfl⟩;have d17:=an9;simp only[bw,opsOf,f261,go_sem]at d17;have B:p.cells[0]?=J (cC p.types):=rfl;have D:(p.cells.drop 19).take 4=p.xC.cells:=by have:p.cells=(cC p.types::p.query.cells)++p.xC.cells:=rfl;grind[cq.dG,dK.cells]
 have P:cA p.cells=V:=eH.pure p;have A:p.cells.length=23:=p.dG;have L:p.cells=p.cells:=rfl;generalize z:p.cells=s at*;have K:s.take 23=s:=ai;have t23:∀m:aq,(s++m).take 23=s:=λm=>ai;have t26:∀m:aq,(s++m).take 26=s++m.take 3:=λm=>by simp_all[RF,GD]
 have t28:∀m:aq,(s++m).take 28=s++m.take 5:=λm=>by grind[List.take_append,List.take_of_length_le]
 have t:∀m:aq,(s++m).drop 26=m.drop 3:=λm=>by simp_all[zd]
 have u:∀m:aq,(s++m).drop 27=m.drop 4:=λm=>by simp_all[zd]
 have y:∀m:aq,(s++m).drop 29=m.drop 6:=λm=>by simp_all[zd]
 simp only[dK.cells,Aw,zx,cX,bp.d,bp.cells,gX,jC]at e1;refine ic func261 ?_;simp only[go_sem,f261,cX,bp.d,bp.cells,gX,jC,A,D,e1];apply dO<;>intro h;rotate_left;.simp only[h,go_sem,bW];grind
 have T:=T h;simp only[h,go_sem];repeat'(with_reducible apply dO<;>intro h<;>simp only[h,go_sem,bW])
 .exact b rfl
 .exact b rfl
 refine tx v.l (λi=>[(34,iS i)]) (by have:=f.1;omega) rfl ?_ (λi x o j w q=>?_);rotate_left
 . obtain⟨r,e2,m,rfl,_⟩:=Ve p.types x d.t (f.2 x (dw j));simp only[cC,aL.d,aL.cells]at e2;simp only[go_sem]at q;simp only[go_sem,o,j,aL.d,aL.cells,B,cC,e2];apply dO<;>intro h;.simp only[h,go_sem,w,q]
   .simp only[h,go_sem,bW];grind
 simp only[go_sem,A,K,t23,t26,t28,t,u,y];refine pA c.bs.l (Qm s c.st c.bs c.ss a .nl ⟨0,0,[]⟩ C [] [] 0) (λi g=>⟨261,71,[(55,iS i),(1,.dv (cX v) .no),(14,.dv (.ptr 1 0) .no),(53,.dv (gX c.bs) .no),(54,iS c.bs.l.length)],[],g⟩) (λi _ g=>IK s c.st c.bs c.ss a i g) ab rfl ⟨[],_,_,_,_,[],_,bJ _,.inl ⟨rfl,rfl,rfl⟩,λe h=>absurd h mA,rfl⟩ (λg I=>?_) (λi x l g o j w I q=>?_);.simp only[go_sem,bW];exact .inr ⟨_,_,by rw[z];omega,rfl⟩
 . have O:=mT o;obtain⟨g1,g2,g3⟩:=T x (dw j);obtain⟨r,e3,e,g0,F,rfl⟩:=aCu v x.a x.b x.c f.1 g3;obtain⟨k,G⟩:∃k:Nat,x.v=di k:=⟨x.v.toNat,(Int.toNat_of_nonneg g1).symm⟩;have H:k<p.query.vars.l.length:=by have:=d.v;grind
   obtain⟨r,e4,m,M,rfl,k4⟩:=aCt p c.st c.bs c.ss a i g x e d.t d.k (f.2 e F) ⟨k,_,G,dD H⟩ ab ai;rw[z]at k4;simp only[cX,jz,dU.d,dU.cells,aL.d,aL.cells]at e3 e4;simp only[go_sem,cX,gX]at q;simp only[go_sem,o,j,dU.d,dU.cells,cX,gX,d17,e3,e4];apply dO<;>intro h;.simp only[h,go_sem,w];grind
   .simp only[h,go_sem,bW];grind
theorem aCg(p:eH)(v:Sl aL)(c:bp)(m:Int)(a:qe p)(q:mB p.query)(A:qM (mF p.query.pat).1)(i:F7 v)(b:c.bs.l.length<1100000)(d:c.ss.l.length<1000000000):de (PB p c m) (ev PP cf (.call 296 [.agg p.cells,cX v,c.d,iD m] .no .empty)):=by
 obtain⟨g,e0⟩:=ev9 _ _ _ a.t q A;obtain⟨r,e1,hr⟩:=aCc p v c m a i b d;have e:∀{n:Int}{g:GH},aj n 0=C->PB p c m (.val _ g):=λh=>.inl ⟨_,_,h,rfl⟩;have N:=eH.pure p;have l:=p.dG;generalize j:p.cells=s at*;have t:s.take 23=s:=ai;simp only[cX,bp.d,bp.cells,gX,jC]at e1;refine ic func296 ?_;simp only[go_sem,f296,cX,bp.d,bp.cells,gX,jC,l,t,N,e0];apply dO<;>intro h;rotate_left;.simp only[h,go_sem,bW];grind
 rcases hr with⟨n,g,o,rfl⟩|⟨k,g,f,rfl⟩;.simp only[h,go_sem,l,t,e1,bW];grind
 .simp only[h,go_sem,l,t,e1,bW];exact .inr ⟨k,g,f,rfl⟩
def Iq(r:bh):Prop:=∃n g,r=.val (.dv (iD n) .no) g
theorem rA{n:Int}{g:GH}:Iq (.val (.dv (.int .i64 n) .no) g)=True:=iT ⟨n,g,rfl⟩
theorem aGn{p:bh->Prop}{P:aG}{c:bR}{d:dR}{l:ah Nat}{i:Nat}{o:List aB}{s:St}{k:eB->ah bh}(a b:List Unit)(h:nk c st0 o=V)(g:Av c o=[(a.length,a.length+1+b.length)])(j:C7 o (a.length+1+(b.length+1))=V)(f:de p (IN P c d (c.s8 s.fn) (c.zt s.fn) (.mk o (.mk o)) b a (.mk o (.mk o)) (E7 (c.keep s.fn i) k) s)):de p (exec P c d l (.region i ⟨o⟩ V) s k):=by obtain⟨r,e,q⟩:=f;exact⟨r,Tb a b h g j e,q⟩
theorem aCh(p:eH)(v:Sl aL)(t:Int)(d:Sl dU)(q:Sl fA)(o:Int)(k:Nat)(g:GH)(n:IK p.cells t d q o k g):de (λr=>∃e,r=.val (.dv (iD 0) .no) e) (ev PP cf (.call 297 [.ptr 1 0,cX v,.nl] .no g)):=by
 obtain⟨l,bd,y,kd,F,w,u,A,f,G,rfl⟩:=n;have U:p.cells.length=23:=p.dG;generalize p.cells=s at*;have a:∀m:aq,(s++m)[32]?=m[9]?:=λm=>wg (j:=9) U;have d29:∀m:aq,(s++m).drop 29=m.drop 6:=λm=>by simp_all[zd]
 have b:=aHj;have c:=aHy;simp only[bw,opsOf,f297,go_sem]at b c;refine ic func297 ?_;rcases f with⟨h,rfl,rfl⟩|⟨h,rfl,rfl|rfl⟩;all_goals
 simp only[go_sem,f297,Qm,cX];refine aGn [(),(),(),(),(),(),()] [()] c b rfl ?_;simp only[go_sem,U,a,d29];refine tx ([]:List aL) (λi=>[(26,iS i)]) ai rfl ?_ (λi x z D B E=>?_);.simp only[go_sem,bW];grind
 grind
theorem aB3(p:eH)(v:Sl aL)(c:bp)(m:Int)(f:qe p)(q:mB p.query)(A:qM (mF p.query.pat).1)(j:F7 v)(a:c.bs.l.length<1100000)(b:c.ss.l.length<1000000000):de Iq (ev PP cf (.call 240 [.agg p.cells,cX v,c.d,iD m,.nl] .no .empty)):=by
 obtain⟨r,e1,hr⟩:=aCg p v c m f q A j a b;have e2:=λk g h=>aCh p v c.st c.bs c.ss m k g h;have N:cA p.cells=V:=eH.pure p;have l:p.cells.length=23:=p.dG;generalize d:p.cells=s at*;have t:s.take 23=s:=ai;simp only[cX,bp.d,bp.cells,gX,jC]at e1;simp only[cX]at e2;refine ic func240 ?_;rcases hr with⟨n,g,e,rfl⟩|⟨k,g,h,rfl⟩;.simp only[go_sem,f240,cX,bp.d,bp.cells,gX,jC,l,t,e1,e,bW,rA]
 . rw[d]at h;obtain⟨r,e3,o,rfl⟩:=e2 k g h;simp only[go_sem,f240,cX,bp.d,bp.cells,gX,jC,l,t,e1];refine Ds rfl ?_;simp only[go_sem,e3];refine tx ([]:List aL) (λi=>[(46,iS i)]) ai rfl ?_ (λi x u y w z=>?_);.simp only[go_sem,bW,rA]
   grind
theorem aBQ(p:eH)(e:dy)(c:bp)(f:qe p)(q:mB p.query)(A:qM (mF p.query.pat).1)(d:e.sz)(a:c.bs.l.length<1100000)(b:c.ss.l.length<1000000000):de Iq (ev PP cf (.call 191 [.agg p.cells,e.d,c.d] .no .empty)):=by obtain⟨r,e1,n,g,rfl⟩:=aB3 p _ c e.mark f q A d.2.1 a b;have m:=eH.pure p;have l:=p.dG;generalize i:p.cells=s at*;have t:s.take 23=s:=ai;simp only[cX,bp.d,bp.cells,gX,jC]at e1;refine ic func191 ?_;simp only[go_sem,f191,dy.d,dy.cells,cX,bp.d,bp.cells,gX,jC,l,t,m,e1];repeat'(with_reducible apply dO<;>intro h<;>simp only[h,go_sem,bW,rA])
theorem aB1(a x:aL)(b:Nat)(g:GH)(c:g.get b=J (.box ⟨a.cells,[]⟩)):ev PP cf (.call 239 [x.d,.ptr b 0] .no g)=J (.val (.dv (.bool (rO a x)) .no) g):=by have h:=aCZ a x;simp only[aL.d,aL.cells]at h c;refine aP func239 ?_;simp only[go_sem,f239,aL.d,aL.cells,h,c,rO]
theorem ac5:cf.fk 239=0/\cf.eQ 239=C:=⟨by rfl,by rfl⟩
def kH(c:aq)(g:GH):Prop:=0<g.next/\∃f,g.get 0=J (.box ⟨c++[f],[]⟩)/\(f=.eN\/∃i v,f=.ptr i 0/\0<i/\i<g.next/\g.get i=J (.box ⟨ct.cells v,[]⟩))
theorem aB0(p:eH)(g:GH)(e:aL)(K:lF p.types)(H:p.query.key.l.length<1000000000)(E:e.j9.l.length<1000000000)(F:kH p.cells g):de (λr=>∃m l,r=.val (.dv (iD m) .no) l/\kH p.cells l/\g.next<=l.next/\∀d,0<d->d<g.next->l.get d=g.get d) (ev PP cf (.call 238 [.ptr 0 0,e.d] .no g)):=by
 obtain⟨r,u,v,z,m,rfl⟩:=Vf p.types p.query.key e K H E;obtain⟨I,f,n,y⟩:=F;have d1:=an2;have d2:=an3;simp only[bw,opsOf,f238,go_sem]at d1 d2;have A:p.cells[0]?=J (cC p.types):=rfl;have c3:p.cells[3]?=J (cL p.query.key):=rfl;have q:p.cells.length=23:=p.dG;generalize Y:p.cells=s at*;have g0:∀m:aq,(s++m)[0]?=s[0]?:=λm=>mz ab;have g3:∀m:aq,(s++m)[3]?=s[3]?:=λm=>mz ab;have k:∀m:aq,(s++m)[23]?=m[0]?:=λm=>wg (j:=0) q;have t23:∀m:aq,(s++m).take 23=s:=λm=>ai;have x:∀m:aq,(s++m).drop 24=m.drop 1:=λm=>by simp_all[zd]
 have B:(0=g.next)=False:=cF ab;simp only[aL.d,aL.cells,cC,cL]at u;refine ic func238 ?_;simp only[go_sem,f238,aL.d,aL.cells,n,d1,d2,g0,g3,A,c3,cC,cL,u,ct.d,ct.cells,ke];have Q:∀a b:GO,((g.alloc a).set g.next b).next=g.next+1:=λ_ _=>rfl;have k1:kH s ((g.alloc (.box ⟨[iD 0,iD 0,.str []],[]⟩)).set g.next (.box ⟨[iD v.k,iD v.n,.str v.s],[]⟩))/\g.next<=((g.alloc (.box ⟨[iD 0,iD 0,.str []],[]⟩)).set g.next (.box ⟨[iD v.k,iD v.n,.str v.s],[]⟩)).next/\∀d,0<d->d<g.next->((g.alloc (.box ⟨[iD 0,iD 0,.str []],[]⟩)).set g.next (.box ⟨[iD v.k,iD v.n,.str v.s],[]⟩)).get d=g.get d:=by
   refine⟨⟨ai,f,by grind[lj,ke],?_⟩,ai,λd _ G=>by rw[lj,if_neg ab,ke,if_neg ab]⟩;rcases y with rfl|⟨i,w,rfl,t,D,o⟩;.grind
   .exact .inr ⟨i,w,rfl,t,ai,by rw[lj,if_neg ab,ke,if_neg ab];omega⟩
 have k2:kH s (((g.alloc (.box ⟨[iD 0,iD 0,.str []],[]⟩)).set g.next (.box ⟨[iD v.k,iD v.n,.str v.s],[]⟩)).set 0 (.box ⟨s++[.ptr g.next 0],[]⟩))/\g.next<=(((g.alloc (.box ⟨[iD 0,iD 0,.str []],[]⟩)).set g.next (.box ⟨[iD v.k,iD v.n,.str v.s],[]⟩)).set 0 (.box ⟨s++[.ptr g.next 0],[]⟩)).next/\∀d,0<d->d<g.next->(((g.alloc (.box ⟨[iD 0,iD 0,.str []],[]⟩)).set g.next (.box ⟨[iD v.k,iD v.n,.str v.s],[]⟩)).set 0 (.box ⟨s++[.ptr g.next 0],[]⟩)).get d=g.get d:=by have M:∀a b c:GO,(((g.alloc a).set g.next b).set 0 c).next=g.next+1:=λ_ _ _=>rfl;refine⟨⟨ai,.ptr g.next 0,by simp[lj],.inr ⟨g.next,v,rfl,I,ai,?_⟩⟩,ai,λd h G=>by rw[lj,if_neg ab,lj,if_neg ab,ke,if_neg ab]⟩;rw[lj,if_neg ab,lj,if_pos rfl];rfl
 have L:gG PP .neq 343 .eN .eN=J (.bool C):=rfl;have N:∀i,gG PP .neq 343 (.ptr i 0) .eN=J (.bool V):=λ_=>rfl;rcases y with rfl|⟨i,w,rfl,t,D,o⟩
 . repeat'(with_reducible apply dO<;>intro h<;>simp only[h,go_sem,ke,lj,B,n,k,L,q,t23,x,bW])
   all_goals first|exact⟨_,_,rfl,k1⟩|exact⟨_,_,rfl,k2⟩
 . have O:(i=g.next)=False:=cF ab;have P:(i=0)=False:=cF ab;simp only[ct.cells]at o;repeat'(with_reducible apply dO<;>intro h<;>simp only[h,go_sem,ke,lj,B,O,n,o,k,N,q,t23,x,bW])
   all_goals first|exact⟨_,_,rfl,k1⟩|exact⟨_,_,rfl,k2⟩
end Go.VM
