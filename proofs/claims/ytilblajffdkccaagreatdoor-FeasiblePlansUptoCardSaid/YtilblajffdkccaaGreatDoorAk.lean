/- Proved: what functions of the program and of the references answer (a part of the proof of FeasiblePlansUptoCardSaid, whose theorem stands in the last text), within the sizes that each theorem names. -/
import Derived.Test.YtilblajffdkccaaGreatDoorAj
open Option renaming some->J,none->Z
open Bool renaming true->V,false->C
open Bool renaming noConfusion->mK
open Go renaming TypeId->al,Value->aB,Oper->aC,Operand->aH,Program->aM,World->aT,Code->bz,FuncId->bS,Frame->cZ,lone->eT,IntKind->gZ,MapEntry->kZ
open Go.Builtin renaming zeroCells->nR,firstCells->oE,append_->s8,copy_->zF
open Go.Lib renaming compact->tb
open Go.Op renaming operands->eB,mapUpdate->rC
open Go.Proofs.Tryz renaming prog->eS
open Go.Region renaming binds->uq
open Go.stepG renaming exec->ug
open Int renaming ofNat->dI,sub->nS
open List renaming rec->kG,append->qA
open Nat renaming beq->aw,ble->bV,blt->cM,succ->eU,add->im,mul->jD
open SizeOf renaming sizeOf->kb
open UInt8 renaming toNat->nU
noncomputable section
set_option linter.all false
namespace Go.VM
open Go Go.AM Proofs.Tryz
variable{α:Type}{s v:Int}{a e m D:Nat}{l:aA}{p:ab}{es:bR}{x:α}{f:α->DV}
attribute[local congr]cC cD
set_option maxRecDepth 100000
set_option maxHeartbeats 1000000
theorem zY{l:List Pr}(h:l≠[]):dz (l.map Pr.d) 283 32=.dv (.ay (l.map Pr.d) 283 32) (.ex 283):=by
 cases l;.grind
 rfl
theorem Wm{l:List Pr}(h:l≠[]):cp V (l.map Pr.d) 283 32=.ay (l.map Pr.d) 283 32:=by
 cases l;.grind
 rfl
theorem abA{l:List Pr}(h:l≠[]):ED l=.ex 283:=by
 cases l;.grind
 rfl
theorem aeg(l:List Pr)(r:Pr)(h:l.length<10000)(p:∀x∈l,tf x):ev PP cf (.call 270 [cp V (l.map Pr.d) 283 32,r.d] (ED l) .empty)=J (.val (.dv (.ay ((sw r l).map Pr.d) 283 32) (.ex 283)) .empty):=by grind[zY,NT,aqR]
theorem aa9(x:Pr)(s o:List Pr):mi o (x::s)=mi (sw x o) s:=rfl
theorem ayZ{n:Nat}:pI (dz l e n)=dz l e n:=by cases l<;>rfl
theorem azi{n k:Nat}:pJ k (dz l e n)=dz l e n:=by cases l<;>rfl
theorem aFO{n k:Nat}{t:cT}:Gm ((k,dz l e n)::t)=Gm t:=by cases l<;>rfl
theorem aEz(l:List Pr):cF (l.map Pr.d)=V:=lz Pr.pure _
theorem Pr.JA(r:Pr):List.take 32 r.cells=r.cells:=by grind[Pr.eN]
theorem Pr.aEK(r:Pr):cF r.cells=V:=Pr.pure r
theorem Pr.KT(r:Pr):List.drop 32 r.cells=[]:=by simp[Pr.eN]
attribute[go_sem]Pr.KT ayZ azi aFO aEz Pr.JA Pr.eN Pr.aEK
theorem akc(K r L A p q n){e:Bool}{u:Int}(d:(e=C/\u=2)\/(e=V/\u=3))(R:r.length<800)(hp:∀a∈r,∀y∈eM a,tf y)(F:∀k x y,r[k]?=J x->y∈eM x->tf (lu e r k y))(N:ab.aR r*ab.aR r<=9900)(T:∀x∈r,CC 205 [.agg x.cells] (.val (dz ((eM x).map Pr.d) 283 32) .empty)):CC 205 [.agg (ab.mk u K r L A p q n).cells] (.val (dz ((ou e r r 0 []).map Pr.d) 283 32) .empty):=by
 obtain⟨W,X,q3⟩:ai u 0=C/\ai u 2=!e/\ai u 3=e:=by rcases d with⟨rfl,rfl⟩|⟨rfl,rfl⟩<;>exact⟨rfl,rfl,rfl⟩
 rcases d with⟨d,S⟩|⟨d,S⟩;all_goals
 have e2:=λ(y:Pr)(k:Nat)(O:k<r.length)=>aqP y u K r L A p q n k O R;simp only[ab.cells,Pr.d,go_sem]at e2;refine aK func205 ?_;simp only[f205,qA];simp only[d,go_sem,ab.cells,W,X,q3];refine iB r ([]:List Pr) (λi s=>[(4,iS i),(3,dz (s.map Pr.d) 283 32)]) (λi l s=>.val (dz ((ou e r l i s).map Pr.d) 283 32) .empty) (λi l s=>(∀x∈s,tf x)/\s.length+ab.aR l*ab.aR l<=9900) ae rfl ⟨λ_ h=>absurd h gT,by simpa using N⟩ (by rw[d]) (λs I=>?_) (λi x l s hi B H I f=>?_)
 . by_cases t:s=[];.subst t;simp only[d,go_sem,ou]
   .simp only[d,go_sem,ou,zY t]
 . have P:=cI B;have e1:=T x P;have hl:=(Je x).1;have Ix:=NA (a:=x.nn) (b:=ab.aR l);obtain⟨G,w⟩:=I;rw[ab.aR]at w;by_cases D:eM x=[];.rw[D]at e1;have f:=f s ⟨G,ae⟩;simp only[d,go_sem]at f;simp only[d,go_sem,hi,B,e1,ou,D,bP,mi,G6];rw[ur];refine iB ([]:List Pr) s (λj c=>[(6,iS j),(3,dz (c.map Pr.d) 283 32)]) (λ_ m c=>.val (dz ((ou e r l (i+1) s).map Pr.d) 283 32) .empty) (λ_ _ c=>c=s) gD rfl rfl (by rw[d]) (λc I=>?_) (λj y m c F v E I g=>by simp at v);subst I;simp only[d,go_sem,f,H]
   . rw[zY D]at e1;simp only[d,go_sem,hi,B,e1,ou];rw[ur];refine iB (eM x) s (λj c=>[(6,iS j),(3,dz (c.map Pr.d) 283 32)]) (λ_ m c=>.val (dz ((ou e r l (i+1) (mi c (m.map (lu e r i)))).map Pr.d) 283 32) .empty) (λ_ m c=>(∀x∈c,tf x)/\c.length+m.length+ab.aR l*ab.aR l<=9900) ae rfl ⟨G,ae⟩ (by rw[d]) (λc I=>?_) (λj y m c M v E I g=>?_);.obtain⟨G,w⟩:=I;have f:=f c ⟨G,by simpa using w⟩;simp only[d,go_sem]at f;simp only[d,go_sem,f,H,bP,mi,G6]
     . obtain⟨G,w⟩:=I;have Y:=F i x y B (cI v);have e3:=aeg c (lu e r i y) ae G;have g:=g (sw (lu e r i y) c) ⟨by have:=R5 (Q:=tf) (o:=c) (xs:=[lu e r i y]) G (λz U=>by rw[List.mem_singleton.1 U];exact Y);exact this,by obtain⟨z,z1,z2⟩:=JP [lu e r i y] c;have:sw (lu e r i y) c=c++z:=z2;rw[this,db];have:=z1.length_le;simp only[bU,eD]at this w;omega⟩;rw[zY (NT _ _)]at g;simp only[d,lu,bg,aL,Pr.d]at e3 g;simp only[d,de,aa9,lu,bg,aL];simp only[d,go_sem]at g;by_cases t:c=[];.subst t;simp only[ED,bP,pr]at e3;simp only[d,go_sem,M,v,E,e3,g,Pr.d,q3,e2 _ _ (rX hi)]
       .rw[Wm t,abA t]at e3;simp only[d,go_sem,M,v,E,e3,g,Pr.d,q3,zY t,e2 _ _ (rX hi)]
theorem aLA(o:List Pr):mi o []=o:=rfl
theorem aKd(d f a l t v c p n)(L:ai d 0=C)(M:ai d 2=C)(O:ai d 3=C)(R:ai d 8=V->l≠[])(S:l.length<800)(T:(eM a).length<=9900)(U:∀y∈eM a,gw 800 100000000 y)(W:∀y∈(eM a).flatMap (kD (.mk d f (a::l) t v c p n)),tf y)(hc:((eM a).flatMap (kD (.mk d f (a::l) t v c p n))).length<=9900)(u:CC 205 [.agg a.cells] (.val (dz ((eM a).map Pr.d) 283 32) .empty)):CC 205 [.agg (ab.mk d f (a::l) t v c p n).cells] (.val (dz ((mi [] ((eM a).flatMap (kD (.mk d f (a::l) t v c p n)))).map Pr.d) 283 32) .empty):=by
 have d1:=aIF;simp only[bq,opsOf,f205,qA,go_sem]at d1;have H:=(Je a).1;have e2:=λ(y:Pr)(k:y∈eM a)=>aqS y d f a l t v c p n (U y k) S R;simp only[ab.cells,ab.aN,lg,xA,Pr.d,go_sem]at e2;refine aK func205 ?_;simp only[f205,qA];by_cases B:eM a=[];.rw[B]at u;simp only[go_sem,ab.cells,ab.aN,lg,L,M,O,u,B,bP,mi,List.flatMap_nil,G6];refine iB ([]:List Pr) () (λj _=>[(9,iS j)]) (λ_ _ _=>.val (.dv .nl .any) .empty) (λ_ _ _=>True) aj rfl trivial rfl (λb I=>?_) (λj y m b D k E I e=>aP);simp only[go_sem]
 . rw[zY B]at u;simp only[go_sem,ab.cells,ab.aN,lg,L,M,O,u];have N:∀y:Pr,kD (.mk d f (a::l) t v c p n) y≠[]:=λy=>WU _ y;have P:∀y∈eM a,∀z∈kD (.mk d f (a::l) t v c p n) y,tf z:=λy k z q=>W z (List.mem_flatMap.2 ⟨y,k,q⟩);generalize kD (.mk d f (a::l) t v c p n)=F at*;refine iB (eM a) ([]:List Pr) (λj s=>[(9,iS j),(3,dz (s.map Pr.d) 283 32)]) (λ_ m s=>.val (dz ((mi s (m.flatMap F)).map Pr.d) 283 32) .empty) (λ_ m s=>(∀x∈s,tf x)/\s.length+(m.flatMap F).length<=9900) ae rfl ⟨λ_ h=>absurd h gT,aP⟩ rfl (λs I=>?_) (λi y m s hi k X I w=>?_)
   . by_cases g:s=[];.subst g;simp only[go_sem,List.flatMap_nil,mi,G6]
     .simp only[go_sem,List.flatMap_nil,mi,G6,zY g]
   . have K:=cI k;have e3:=e2 y K;rw[Wm (N y)]at e3;obtain⟨G,A⟩:=I;rw[vu,db]at A;simp only[go_sem,hi,k,d1,e3,vu,aLz,Pr.d];rw[ur];refine iB (F y) s (λj b=>[(11,iS j),(3,dz (b.map Pr.d) 283 32)]) (λ_ r b=>.val (dz ((mi (mi b r) (m.flatMap F)).map Pr.d) 283 32) .empty) (λ_ r b=>(∀x∈b,tf x)/\b.length+r.length+(m.flatMap F).length<=9900) ae rfl ⟨G,ae⟩ rfl (λb I=>?_) (λj z r b D q E I e=>?_);.obtain⟨G,A⟩:=I;have w:=w b ⟨G,ae⟩;simp only[go_sem]at w;simp only[go_sem,w,X,aLA]
     . obtain⟨G,A⟩:=I;have cY:=P y K z (cI q);have e4:=aeg b z ae G;have e:=e (sw z b) ⟨by have:=R5 (Q:=tf) (o:=b) (xs:=[z]) G (λx hx=>aP);exact this,by obtain⟨x,Y,z2⟩:=JP [z] b;have:sw z b=b++x:=z2;rw[this,db];have:=Y.length_le;simp only[bU,eD]at this A;omega⟩;rw[zY (NT _ _)]at e;simp only[Pr.d]at e4 e;simp only[aa9];simp only[go_sem]at e;by_cases g:b=[];.subst g;simp only[ED,bP,pr]at e4;simp only[go_sem,D,q,E,e4,e,Pr.d]
       .rw[Wm g,abA g]at e4;simp only[go_sem,D,q,E,e4,e,Pr.d,zY g]
theorem Ul:∀p:ab,tu p->p.nn<=90->p.cn<=99999->CC 205 [.agg p.cells] (.val (dz ((eM p).map Pr.d) 283 32) .empty)
 |.mk o q args t v s n c,D,H,F=>by
  have R:=Gd (.mk o q args t v s n c) D;have hr:∀x∈args,CC 205 [.agg x.cells] (.val (dz ((eM x).map Pr.d) 283 32) .empty):=λx h=>Ul x (D.yM h) (by have:=ab.lM args x h;simp only[ab.nn]at H;omega) (by have:=ab.HB args x h;simp only[ab.cn]at F;omega);clear Ul;have B:∀x∈args,∀y∈eM x,gw x.nn x.cn y:=λx h=>Gd x (D.yM h);have X:ab.aR args+1<=90:=by simpa only[ab.nn]using H
  have uG:ab.gi args+2<=99999:=by have:=Expr.DC c;simp only[ab.cn]at F;omega
  have L:ab.aR args*ab.aR args<=7921:=ph (show ab.aR args<=89 by omega) (show ab.aR args<=89 by omega);have i:=ab.ji args;have A:∀x∈args,x.nn<=89/\x.cn<=99999:=λx h=>by have:=ab.lM args x h;have:=ab.HB args x h;omega
  have Y:∀a∈args,∀y∈eM a,tf y:=λa e y b=>(B a e y b).ok (by have:=A a e;omega) (A a e).2;have j:∀g k x y,args[k]?=J x->y∈eM x->tf (lu g args k y):=λg k x y h b=>by have G:=cI h;have:=A x G;exact(V5 (m:=99) (d:=99999) (B x G y b) h ae ae).ok ae ae
  rw[eM]at R|-;cases r:ai o 0 with|true=>rw[aL];refine aK func205 ?_;obtain⟨N,O,c3,P,Q,S,T,U,W⟩:=c;simp only[f205,qA];simp only[go_sem,r,ab.cells,Expr.cells,HN,de,bP,Pr.d,Pr.cells,Edge.cells,zP,ab.aN,Expr.aN];rfl|false=>rw[bg];cases u:ai o 2 with|true=>obtain rfl:=kz u;exact akc q args t v s n c (.inl ⟨rfl,rfl⟩) ae Y (j C) ae hr|false=>cases w:ai o 3 with|true=>obtain rfl:=kz w;exact akc q args t v s n c (.inr ⟨rfl,rfl⟩) ae Y (j V) ae hr|false=>rw[Bool.or_false,bg];rw[r,u,w,bg,Bool.or_false,bg]at R;have f:=D.ar;cases args with
  |nil=>
  exfalso;unfold qC at f;rw[r,u,w,bg]at f;cases I:ai o 1<;>cases K:ai o 8<;>rw[I]at f<;>try rw[K]at f
  all_goals exact absurd f gD|cons a l=>rw[wa]at R|-;have rR:=Pp (WT (.mk o q (a::l) t v s n c)) (eM a);have yp:=Je a;have e:=A a eQ;have M:a.nn*a.nn<=7921:=ph e.1 e.1;exact aKd o q a l t v s n c r u w (Oh f) (by simp only[bU]at i;omega) ae (λy b=>(B a eQ y b).mono ae ae) (λz E=>by obtain⟨y,b,E⟩:=List.mem_flatMap.1 E;exact(WV (B a eQ y b) (Oh f) z E).ok ae ae) ae (hr a eQ)termination_by p=>kb p decreasing_by simp_wf;have:=jY h;omega
def kS(p:ab):aF->Nat->Int|[],_=>-1|q::l,i=>bif q.same p then .ofNat i else kS p l (i+1)
theorem ad8(n:Bool)(l:aF)(p:ab)(d:l.length<1100000)(c:∀q∈l,q.cn<100000000):CC 203 [cp n (ab.aN l) 32 14,.agg p.cells] (vI (kS p l 0)):=by
 have d1:=aIE;simp only[bq,opsOf,f203,go_sem]at d1;refine aK func203 ?_;simp only[f203];simp only[go_sem];refine dJ l (λi=>[(5,iS i)]) (λi l=>vI (kS p l i)) ae rfl rfl ?_ (λi x t hi b w a=>?_);.simp only[go_sem,kS]
 .have e1:=K7 x p aj;simp only[go_sem]at a;simp only[go_sem,d1,hi,b,e1,kS];apply sp<;>intro h<;>simp only[h,w,a,go_sem]
theorem ap7(n:Bool)(l:aF)(p:ab)(d:l.length<1100000)(c:∀q∈l,q.cn<100000000):CC 141 [cp n (ab.aN l) 32 14,.agg p.cells] (vI (kS p l 0)):=by
 have d1:=aIq;simp only[bq,opsOf,f141,go_sem]at d1;refine aK func141 ?_;simp only[f141];simp only[go_sem];refine dJ l (λi=>[(5,iS i)]) (λi l=>vI (kS p l i)) ae rfl rfl ?_ (λi x t hi b w a=>?_);.simp only[go_sem,kS]
 .have e1:=K7 x p aj;simp only[go_sem]at a;simp only[go_sem,d1,hi,b,e1,kS];apply sp<;>intro h<;>simp only[h,w,a,go_sem]
def eA(e:Edge)(k:Int):Edge:=⟨e.src,k,e.var,e.ty,e.cond,e.opens,e.gK,e.gC,e.fx,e.inside⟩
def kx:List Pr->bR->aF->ah (bR×aF)|[],es,r=>J (es,r)|x::l,es,r=>bif x.done then kx l (es++[eA x.bw (-1)]) r else bif ai x.rest.fe 0 then(bif ao (kS x.rest r 0) 0 then kx l (es++[eA x.bw (.ofNat r.length)]) (r++[x.rest])else kx l (es++[eA x.bw (kS x.rest r 0)]) r)else Z
def iV:aA->Nat->Nat->DV×aX|[],_,_=>(.nl,.any)|a::l,e,n=>(.ay (a::l) e n,.ex e)
abbrev vA(s:bR)(r:aF)(e:Int):SV:=.tp [(iV (s.map Edge.d) 64 17),(iV (ab.aN r) 32 14),iO e]
def OP:ah (bR×aF)->bt|none=>.val (vA [] [] 17) .empty|some (es,r)=>.val (vA es r 0) .empty
def KR(p:ab):bt:=bif ai p.fe 0 then(bif ao 2048 (.ofNat (eM p).length)then .val (vA [] [] 17) .empty else OP (kx (eM p) [] []))else .val (vA [] [] p.fe) .empty
theorem eE{l:List α}{n:Nat}(h:l≠[]):dz (l.map f) e n=.dv (.ay (l.map f) e n) (.ex e):=by
 cases l;.grind
 rfl
theorem mr{l:aF}(h:l≠[]):dz (ab.aN l) 32 14=.dv (.ay (ab.aN l) 32 14) (.ex 32):=by
 cases l;.grind
 rfl
theorem rH{l:List α}{n:Nat}(h:l≠[]):iV (l.map f) e n=(.ay (l.map f) e n,.ex e):=by
 cases l;.grind
 rfl
theorem sC{l:aF}(h:l≠[]):iV (ab.aN l) 32 14=(.ay (ab.aN l) 32 14,.ex 32):=by
 cases l;.grind
 rfl
theorem IT{l:aF}(h:l≠[]):cp V (ab.aN l) 32 14=.ay (ab.aN l) 32 14:=by
 cases l;.grind
 rfl
theorem ay9{n k:Nat}:vW k (dz l e n)=dz l e n:=by cases l<;>rfl
attribute[go_sem]ay9
theorem oH{n:Nat}:iV [] e n=(.nl,.any):=rfl
theorem Edge.JA(e:Edge):List.take 17 e.cells=e.cells:=by grind[Edge.eN]
theorem ap6(p:ab)(hp:fY p)(W:p.fe=0->tu p/\p.nn<=90/\p.cn<=99999):CC 140 [.agg p.cells] (KR p):=by have e1:=Uk p hp;refine aK func140 ?_;simp only[f140,qA];simp only[go_sem,e1,KR];cases X:ai p.fe 0 with|false=>simp only[go_sem];rfl|true=>
 obtain⟨ar,n,O⟩:=W (kz X);have e2:=Ul p ar n O;have Y:=Gd p ar;have R:=(Je p).1;have P:=Xc p ar;have Ix:p.nn*p.nn<=8100:=ph n n;rw[zY P]at e2;generalize hL:eM p=L at*;simp only[e2,go_sem];apply sp<;>intro h<;>simp only[h,go_sem];.rfl
 refine iB L (([],[]):bR×aF) (λi s=>[(9,iS i),(7,dz (s.1.map Edge.d) 64 17),(8,dz (ab.aN s.2) 32 14)]) (λ_ m s=>OP (kx m s.1 s.2)) (λi _ s=>s.1.length=i/\s.2.length<=i/\∀q∈s.2,q.cn<100000000) ae rfl ⟨rfl,bo _,λq h=>absurd h gT⟩ rfl (λs I=>?_) (λi x m s hi d w I c=>?_)
 . obtain⟨es,r⟩:=s;have e:es≠[]:=by rintro rfl;exact P (Eu I.1.symm)
   by_cases hr:r=[];.subst hr;simp only[go_sem,kx,OP,vA,eE e,rH e,ab.aN,oH]
   .simp only[go_sem,kx,OP,vA,eE e,rH e,mr hr,sC hr]
 .obtain⟨es,r⟩:=s;obtain⟨G,N,A⟩:=I;have hm:=cI d;have Q:=Y x hm;have S:=Q.pat ae O;have f1:=Uk x.rest S;have f2:=ad8 V r x.rest (by simp only at N;have:=rX hi;omega) A;obtain⟨⟨src,t,var,ty,⟨y,z,B,D,E,F,H,K,M⟩,o,l,v,T,ins⟩,done,rest⟩:=x;simp only[kx,eA];cases done with
   |true=>
   have c:=c (es++[eA ⟨src,t,var,ty,⟨y,z,B,D,E,F,H,K,M⟩,o,l,v,T,ins⟩ (-1)],r) ⟨by simp only[db,bU,eD];simp only at G;omega,by simp only at N|-;omega,A⟩;simp only at c;rw[eE aO]at c;simp only[eA,eI,de,bP,Edge.d,Edge.cells,Expr.cells,go_sem]at c;by_cases e:es=[];.subst e;simp only[bP,dk,go_sem]at c;simp only[go_sem,hi,d,w,Pr.d,Pr.cells,Edge.cells,Expr.cells,c]
   .have g:(es.length<1200000)=True:=ki (by simp only at G;have:=rX hi;omega);simp only[go_sem,hi,d,w,Pr.d,Pr.cells,Edge.cells,Expr.cells,eE e,g,dU,c]|false=>
   have j:rest.cn<100000000:=(Q.ok ae O).p;simp only at G N A;have a:=c (es++[eA ⟨src,t,var,ty,⟨y,z,B,D,E,F,H,K,M⟩,o,l,v,T,ins⟩ (.ofNat r.length)],r++[rest]) ⟨by simp only[db,bU,eD];omega,by simp only[db,bU,eD];omega,λq f=>by
   rcases List.mem_append.1 f with f|f;.exact A q f
   .rw[List.mem_singleton.1 f];exact j⟩;have b:=c (es++[eA ⟨src,t,var,ty,⟨y,z,B,D,E,F,H,K,M⟩,o,l,v,T,ins⟩ (kS rest r 0)],r) ⟨by simp only[db,bU,eD];omega,by simp only;omega,A⟩;simp only at a b f1 f2;rw[eE aO]at a b;rw[mr aO]at a;simp only[eA,eI,de,bP,Edge.d,Edge.cells,Expr.cells,ab.vC,ab.aN,go_sem]at a b;have g:(es.length<1200000)=True:=ki (by have:=rX hi;omega);have U:(r.length<1200000)=True:=ki (by have:=rX hi;omega);rcases fu (es=[])with e|e<;>rcases fu (r=[])with hr|hr;case' inl.inl=>subst e;subst hr;simp only[ab.aN,pr,BD,eD,bP,dk,go_sem]at a b f2;simp only[go_sem,hi,d,Pr.d,Pr.cells,Edge.cells,Expr.cells,ab.aN,f1]
   case' inl.inr=>subst e;rw[IT hr]at f2;simp only[bP,dk,mr hr,go_sem]at a b f2;simp only[go_sem,hi,d,Pr.d,Pr.cells,Edge.cells,Expr.cells,mr hr,f1]
   case' inr.inl=>subst hr;simp only[ab.aN,pr,BD,eD,dk,go_sem]at a b f2;simp only[go_sem,hi,d,Pr.d,Pr.cells,Edge.cells,Expr.cells,ab.aN,eE e,f1]
   case' inr.inr=>rw[IT hr]at f2;simp only[mr hr,go_sem]at a b f2;simp only[go_sem,hi,d,Pr.d,Pr.cells,Edge.cells,Expr.cells,eE e,mr hr,f1]
   all_goals
   apply sp<;>intro h<;>simp only[h,hi,d,f2,Pr.d,Pr.cells,Edge.cells,Expr.cells,go_sem];rotate_left;.rfl
   apply sp<;>intro h<;>simp only[h,hi,d,w,g,U,dU,ab.jP,a,b,Pr.d,Pr.cells,Edge.cells,Expr.cells,eD,dk,go_sem]
theorem ah3{o n a t v s p cond}(h:(ab.mk o n a t v s p cond).fE=0)(l:a.length<=64):(sF o||cond.same Ep)=V/\(sF o=V->cond.gU=0)/\vg (iK o) t=V/\vg (iK o) v=V/\vg (wq o) s=V/\vg (ue o) p=V:=by simp only[ab.fE,DK]at h;cases b:(ao o 0||!ao o 11)with|true=>grind|false=>
 rw[b,bg,SW _ _ l]at h;rcases c:qC o a.length with _|_;.grind
 rcases d:(qR (iK o) t 15&&(qR (iK o) v 15&&(qR (wq o) s 63&&qR (ue o) p 1099511627776)))with _|_;.grind
 cases e:(sF o&&!ai cond.gU 0)with|true=>simp_all[ai]|false=>grind[kz]
theorem an6{e:Expr}(h:e.gU=0):e.nn<=64:=by grind[Expr.gU,eP]
theorem aGL{e:Expr}(h:e.same Ep=V):e.nn<=64:=by obtain⟨o,a,b,c,d,f,g,i,j⟩:=e;grind[Expr.nn,Expr.aR,Ep,Expr.same,Expr.pP]
theorem aB5{q:ab}(h:q.fE=0)(l:q.args.length<=64):q.cond.nn<=64:=by obtain⟨op,nl,args,ty,var,scope,s,cond⟩:=q;obtain⟨a,b,_⟩:=ah3 h l;cases c:sF op with|true=>exact an6 (b c)|false=>rw[c,vp]at a;exact aGL a
theorem ab2(q:ab):q.args.length<=q.nn:=by obtain⟨op,nl,args,ty,var,scope,s,cond⟩:=q;grind[ab.ji,ab.args,ab.nn]
mutual
theorem ac5 : ∀ (p : ab) (w : Nat), (∀ q ∈ nodes p, q.cond.nn <= w) -> p.cn <= p.nn * (w + 1)
  | .mk o n args t v s a c, w, h => by
    have b := h (.mk o n args t v s a c) (by rw [nodes]; exact eQ)
    have e := ac8 args w (λ q d => h q (by rw [nodes]; exact iL _ d))
    simp only [ab.cond] at b
    simp only [ab.cn, ab.nn, xT]; omega
theorem ac8 : ∀ (l : aF) (w : Nat), (∀ q ∈ dL l, q.cond.nn <= w) -> ab.gi l <= ab.aR l * (w + 1)
  | [], _, _ => by simp [ab.gi]
  | p :: l, w, h => by
    have b := ac5 p w (λ q a => h q (by rw [dL]; exact zQ _ a))
    have c := ac8 l w (λ q a => h q (by rw [dL]; exact J7 _ a))
    simp only [ab.gi, ab.aR, xT]; omega
end
structure GP(p:ab):Prop where
 o:fY p
 z:∀q∈nodes p,q.fE=0
 a:tu p
 n:p.nn<=64
 c:p.cn<=4160
 r:p.fe=0
theorem KF(e:fY p)(h:p.fe=0):GP p:=by
 obtain⟨b,c,_⟩:=OI h;have z:=Lf b;have l:∀q∈nodes p,q.args.length<=64:=λq a=>by have:=ab.ME p q a;grind[ab2]
 refine⟨e,z,λq a=>?_,c,?_,h⟩;.have:=l q a;have d:=z q a;obtain⟨op,nl,args,ty,var,scope,s,cond⟩:=q;exact(WC d this).2.1
 .have:=ac5 p 64 (λq a=>aB5 (z q a) (l q a));omega
theorem adT(p:ab)(a:fY p):CC 140 [.agg p.cells] (KR p):=ap6 p a λh=>by have g:=KF a h;exact⟨g.a,by have:=g.n;omega,by have:=g.c;omega⟩
abbrev jO(p:ab):GO:=.box ⟨p.cells,[]⟩
theorem aq4(p:ab)(g:GH):ev PP cf (.call 322 [.agg p.cells] .no g)=J (.val (.dv (.func 382 [] [.ptr g.next 0]) .no) (g.alloc (jO p))):=by refine aK func322 ?_;simp only[go_sem,f322]
theorem aq5(p:ab)(g:GH):ev PP cf (.call 324 [.agg p.cells] .no g)=J (.val (.dv (.func 386 [] [.ptr g.next 0]) .no) (g.alloc (jO p))):=by refine aK func324 ?_;simp only[go_sem,f324]
theorem aek(a q:ab)(g:GH):ev PP cf (.call 323 [.agg a.cells,.agg q.cells] .no g)=J (.val (.dv (.func 385 [] [.ptr g.next 0,.ptr (g.next+1) 0]) .no) ((g.alloc (jO a)).alloc (jO q))):=by refine aK func323 ?_;simp only[go_sem,f323]
theorem vq.mono{X:Type}{e:X->aA}{h:Nat}{f b:aA}{a O:GH->Prop}{x:List X}(d:∀g,O g->a g)(t:vq e h f b a x):vq e h f b O x:=λn k l r step s U i g hr j=>t n k l r step s U (λc s g hr=>d g (i c s g hr)) g hr j
theorem ld.st{b k:Nat}:∀g1 g2:GH,ld g1 k p->g1.next<=g2.next->(∀i,a<=i->i<b->g2.get i=g1.get i)->a<=k->k<b->ld g2 k p:=λ_ _ h c d e f=>⟨(d _ e f).trans h.1,fj h.2 c⟩
theorem aH3{x y:DV}:oz PP 25 (.ay [x,y] 32 14) (J (.int .i64 1)) (J (.int .i64 2)) (J (.int .i64 2))=J (.ay [y] 32 14,.full 32):=by rfl
theorem SG:∀p:ab,tu p->p.nn<=90->Hh p
 |.mk f e args t v s d c,E,I=>by
  have T:∀a∈args,Hh a:=λa u=>SG a (E.yM u) (by have:=ab.lM args a u;simp only[ab.nn]at I;omega);have S:∀a∈args,∀x∈dF a,x.done=V->x.rest=zP:=λa u x K=>(Jd a (E.yM u) x K).z;have M:∀a∈args,∀x∈dF a,∃n w,n<100000000/\gw n w x:=λa u x K=>⟨_,_,by have:=ab.lM args a u;simp only[ab.nn]at I;omega,Jd a (E.yM u) x K⟩;clear SG;have B:=ab.ji args;simp only[ab.nn]at I;have d1:=aIM;have d2:=aIL;simp only[bq,opsOf,f249,go_sem]at d1 d2;have H:=E.ar;have Q:ai f 0=C->∃a l,args=a::l:=λq=>by cases args with|nil=>exact absurd H (λh=>Kr q h)|cons a l=>exact⟨a,l,rfl⟩
  intro g;have e2:=aq4 (.mk f e args t v s d c) (g.alloc (jO (.mk f e args t v s d c)));have e4:=aq5 (.mk f e args t v s d c) (g.alloc (jO (.mk f e args t v s d c)));simp only[jO,ab.cells,go_sem]at e2 e4;have l1:∀o,Lo g.next g (g.alloc o):=λo=>Lo.alloc (bo _);have l2:∀o A,Lo g.next g ((g.alloc o).alloc A):=λo A=>(l1 o).trans (Lo.alloc (by rw[cL];omega));have l3:∀o A P,Lo g.next g (((g.alloc o).alloc A).alloc P):=λo A P=>(l2 o A).trans (Lo.alloc (by simp only[cL];omega));have G:∀o,ld ((g.alloc o).alloc (jO (.mk f e args t v s d c))) (g.next+1) (.mk f e args t v s d c):=λo=>⟨by rw[pB];exact if_pos rfl,by simp only[cL];omega⟩;cases q:ai f 0 with
  |true=>
  refine⟨321,[.ptr g.next 0],λr=>ld r g.next (.mk f e args t v s d c),g.alloc (jO (.mk f e args t v s d c)),?_,l1 _,⟨by rw[pB,if_pos rfl],by rw[cL];omega⟩,λg1 g2 h j i=>ld.st g1 g2 h j i (bo _) (by rw[cL];omega),?_,λm=>rfl⟩;.refine aK func249 ?_;simp only[f249];simp only[go_sem,ab.cells,q];rfl
  .rw[dF,q,aL];exact(ayj g.next f e args t v s d c).mono λr h=>h.1|false=>obtain⟨a,l,rfl⟩:=Q q;simp only[bU]at B;have u:=T a eQ;have L:=S a eQ;have N:=M a eQ;simp only[ab.aN,lg]at e2 e4;cases j:ai f 1 with
  |true=>
  obtain rfl:=kz j;have R:l≠[]:=by rintro rfl;exact absurd (show qC 1 1=V from H) gD
  refine⟨382,[.ptr (g.next+1) 0],λr=>ld r (g.next+1) (.mk 1 e (a::l) t v s d c),(g.alloc (jO (.mk 1 e (a::l) t v s d c))).alloc (jO (.mk 1 e (a::l) t v s d c)),?_,l2 _ _,G _,λg1 g2 h j i=>ld.st g1 g2 h j i ae (by simp only[cL];omega),?_,λm=>rfl⟩;.refine aK func249 ?_;simp only[f249];simp only[go_sem,ab.cells,ab.aN,lg,q,j,e2];rfl
  . have:dF (.mk 1 e (a::l) t v s d c)=(dF a).map λX=>kg X C l:=by rw[dF,<-C1];rfl
    rw[this];exact ayl e a l t v s d c (g.next+1) ae R u L|false=>cases i:ai f 2||ai f 3 with
  |true=>
    obtain⟨k,rfl⟩:∃k,f=bif k then 3 else 2:=by
      rw[Bool.or_eq_true]at i;rcases i with i|i;.exact⟨C,kz i⟩
      .exact⟨V,kz i⟩
    refine⟨382,[.ptr (g.next+1) 0],λr=>ld r (g.next+1) (.mk (bif k then 3 else 2) e (a::l) t v s d c),(g.alloc (jO (.mk (bif k then 3 else 2) e (a::l) t v s d c))).alloc (jO (.mk (bif k then 3 else 2) e (a::l) t v s d c)),?_,l2 _ _,G _,λg1 g2 h j i=>ld.st g1 g2 h j i ae (by simp only[cL];omega),?_,λm=>rfl⟩
    . refine aK func249 ?_;simp only[f249];cases k;.have O:ai 2 2=V:=rfl;simp only[bg]at q j e2|-;simp only[go_sem,ab.cells,ab.aN,lg,q,j,O,e2];rfl
      .have O:ai 3 2=C:=rfl;have q3:ai 3 3=V:=rfl;simp only[aL]at q j e2|-;simp only[go_sem,ab.cells,ab.aN,lg,q,j,O,q3,e2];rfl
    . have:dF (.mk (bif k then 3 else 2) e (a::l) t v s d c)=me k (a::l) (a::l) 0:=by rw[dF,q,i];cases k<;>rfl
      rw[this];exact ayk k e (a::l) t v s d c (g.next+1) (by simp only[bU];omega) T|false=>
    have U:ai f 2=C:=by cases h:ai f 2<;>rw[h]at i<;>first|rfl|exact absurd i aO
    have F:ai f 3=C:=by cases h:ai f 3<;>rw[h]at i<;>first|rfl|exact absurd i aO
    cases z:ai f 4 with|true=>
      obtain rfl:=kz z;have e3:=aek a (.mk 4 e (a::l) t v s d c) (g.alloc (jO (.mk 4 e (a::l) t v s d c)));simp only[jO,ab.cells,ab.aN,lg,go_sem]at e3;refine⟨385,[.ptr (g.next+1) 0,.ptr (g.next+1+1) 0],λr=>ld r (g.next+1) a/\ld r (g.next+1+1) (.mk 4 e (a::l) t v s d c),((g.alloc (jO (.mk 4 e (a::l) t v s d c))).alloc (jO a)).alloc (jO (.mk 4 e (a::l) t v s d c)),?_,l3 _ _ _,⟨⟨?_,?_⟩,⟨?_,?_⟩⟩,λg1 g2 h j i=>⟨ld.st g1 g2 h.1 j i ae (by simp only[cL];omega),ld.st g1 g2 h.2 j i ae (by simp only[cL];omega)⟩,?_,λm=>rfl⟩;.refine aK func249 ?_;simp only[f249];simp only[go_sem,ab.cells,ab.aN,lg,q,j,U,F,z,d1,e3];rfl
      .rw[pB,if_neg (by simp only[cL];omega),pB];exact if_pos rfl
      .simp only[cL];omega
      .rw[pB];exact if_pos rfl
      .simp only[cL];omega
      . have:dF (.mk 4 e (a::l) t v s d c)=(dF a).flatMap (tY (.mk 4 e (a::l) t v s d c) a):=by rw[dF];rfl
        rw[this];exact ag6 a (.mk 4 e (a::l) t v s d c) a l _ _ u rfl|false=>cases D:ai f 8 with
      |true=>
        obtain rfl:=kz D;obtain⟨b,rfl⟩:∃b,l=[b]:=by have:=ar8 (n:=(a::l).length) rfl H;match l,this with|[b],_=>exact⟨b,rfl⟩
        have e3:=aek a (.mk 4 V [b] 0 0 0 0 zE) (g.alloc (jO (.mk 8 e [a,b] t v s d c)));simp only[jO,ab.cells,ab.aN,lg,Expr.cells,Expr.aN,pr,go_sem]at e3;have W:=aH3 (x:=.agg a.cells) (y:=.agg b.cells);refine⟨385,[.ptr (g.next+1) 0,.ptr (g.next+1+1) 0],λr=>ld r (g.next+1) a/\ld r (g.next+1+1) (.mk 4 V [b] 0 0 0 0 zE),((g.alloc (jO (.mk 8 e [a,b] t v s d c))).alloc (jO a)).alloc (jO (.mk 4 V [b] 0 0 0 0 zE)),?_,l3 _ _ _,⟨⟨?_,?_⟩,⟨?_,?_⟩⟩,λg1 g2 h j i=>⟨ld.st g1 g2 h.1 j i ae (by simp only[cL];omega),ld.st g1 g2 h.2 j i ae (by simp only[cL];omega)⟩,?_,λm=>rfl⟩;.refine aK func249 ?_;simp only[f249];simp only[go_sem,ab.cells,ab.aN,lg,q,j,U,F,z,D,d2,W,e3];rfl
        .rw[pB,if_neg (by simp only[cL];omega),pB];exact if_pos rfl
        .simp only[cL];omega
        .rw[pB];exact if_pos rfl
        .simp only[cL];omega
        . have:dF (.mk 8 e [a,b] t v s d c)=(dF a).flatMap (tY (.mk 4 V [b] 0 0 0 0 zE) b):=by rw[dF];rfl
          rw[this];exact ag6 a (.mk 4 V [b] 0 0 0 0 zE) b [] _ _ u rfl|false=>
        refine⟨386,[.ptr (g.next+1) 0],λr=>ld r (g.next+1) (.mk f e (a::l) t v s d c),(g.alloc (jO (.mk f e (a::l) t v s d c))).alloc (jO (.mk f e (a::l) t v s d c)),?_,l2 _ _,G _,λg1 g2 h j i=>ld.st g1 g2 h j i ae (by simp only[cL];omega),?_,λm=>rfl⟩;.refine aK func249 ?_;simp only[f249];simp only[go_sem,ab.cells,ab.aN,lg,q,j,U,F,z,D,e4];rfl
        . have:dF (.mk f e (a::l) t v s d c)=(dF a).flatMap (kD (.mk f e (a::l) t v s d c)):=by rw[dF,q,i,bg,bg,xz];congr 1;funext x;rw[yR,z,bg]
          rw[this];exact aym f e a l t v s d c (g.next+1) u j z D N termination_by p=>kb p decreasing_by simp_wf;have:=jY u;omega
theorem aqD(p q:ab)(b:Nat)(g:GH)(h:g.get b=J (jO p))(a:p.cn<100000000):ev PP cf (.call 254 ([]++[.agg q.cells]++[.ptr b 0]) .no g)=J (.val (.dv (.bool (p.same q)) .no) g):=by have e1:=O4 p q a;refine aK func254 ?_;simp only[f254];simp only[go_sem,h,e1]
theorem aqE(p q:ab)(b:Nat)(g:GH)(h:g.get b=J (jO p))(a:q.cn<100000000):ev PP cf (.call 256 ([]++[.agg q.cells]++[.ptr b 0]) .no g)=J (.val (.dv (.bool (q.same p)) .no) g):=by have e1:=O4 q p a;refine aK func256 ?_;simp only[f256];simp only[go_sem,h,e1]
theorem ad4(n:Bool)(l:aF)(p:ab)(a:l.length<1200000)(h:p.cn<100000000):∃g,CC 184 [cp n (ab.aN l) 32 14,.agg p.cells] (.val (.dv (iD (fD p.same l 0)) .no) g):=by have e1:=Uv (d:=λe=>.agg (ab.cells e)) (q:=p.same) 254 [] [.ptr 0 0] (GH.empty.alloc (jO p)) n l ae (λx _=>.inl ⟨aI,aI,aqD p x 0 _ rfl h⟩) (.inr (.inr (.inr rfl))) (λx=>⟨rfl,ab.eN x⟩);rw[<-ab.nZ]at e1;refine⟨GH.empty.alloc (jO p),aK func184 ?_⟩;simp only[go_sem]at e1;simp only[f184];simp only[go_sem,e1]
theorem aqh(n:Bool)(l:aF)(p:ab)(c:l.length<1200000)(h:∀a∈l,a.cn<100000000):∃g,CC 187 [cp n (ab.aN l) 32 14,.agg p.cells] (.val (.dv (iD (fD (λa=>a.same p) l 0)) .no) g):=by have e1:=Uv (d:=λe=>.agg (ab.cells e)) (q:=λa=>a.same p) 256 [] [.ptr 0 0] (GH.empty.alloc (jO p)) n l ae (λx b=>.inl ⟨aI,aI,aqE p x 0 _ rfl (h x b)⟩) (.inr (.inr (.inr rfl))) (λx=>⟨rfl,ab.eN x⟩);rw[<-ab.nZ]at e1;refine⟨GH.empty.alloc (jO p),aK func187 ?_⟩;simp only[go_sem]at e1;simp only[f187];simp only[go_sem,e1]
def Edge.ZS(e d:Edge):Bool:=ai e.var d.var&&(ai e.ty d.ty&&(e.cond.same d.cond&&(fM ai e.opens.l d.opens.l&&(fM ai e.gK.l d.gK.l&&(fM Expr.same e.gC.l d.gC.l&&(fM za e.fx.l d.fx.l&&fM ai e.inside.l d.inside.l))))))
theorem Edge.aGA(e d:Edge):e.ZS d=e.same d:=by grind[Edge.ZS,Edge.same]
theorem aqC(e d:Edge)(a:qz e):CC 252 [e.d,d.d] (vB (e.same d)):=by rw[<-Edge.aGA];have e1:=ET e.cond d.cond (by have:=a.c;omega);have e2:=HJ e.opens d.opens (by have:=a.o;omega);have e3:=HJ e.gK d.gK (by have:=a.p;omega);have e4:=HJ e.inside d.inside (by have:=a.i;omega);have e5:=adN e.fx d.fx (by have:=a.l;omega);have e6:=adM e.gC d.gC (by have:=a.k;omega) a.e;simp only[go_sem]at e2 e3 e4 e5 e6;refine aK func252 ?_;simp only[f252];simp only[go_sem,Edge.d,Edge.cells,Edge.ZS];repeat'(with_reducible apply sp<;>intro h<;>simp only[h,e1,e2,e3,e4,e5,e6,go_sem])
def Edge.xI(x y:Edge):Bool:=ai x.dst y.dst&&x.same y
abbrev EI(x:Edge):GO:=.box ⟨x.cells,[]⟩
theorem aqB(x y:Edge)(b:Nat)(g:GH)(a:g.get b=J (EI x))(e:qz x):ev PP cf (.call 251 ([]++[y.d]++[.ptr b 0]) .no g)=J (.val (.dv (.bool (x.xI y)) .no) g):=by have e1:=aqC x y e;refine aK func251 ?_;simp only[EI,Edge.d,Edge.cells,Expr.cells,go_sem]at e1 a;simp only[f251];simp only[go_sem,a,Edge.xI,Edge.d,Edge.cells,Expr.cells];repeat'(with_reducible apply sp<;>intro h<;>simp only[h,e1,a,go_sem])<;>first|done|rw[Z1 a]
def gE(p:ab):Int×(bR×aF):=bif ai p.fe 0 then(bif ao 2048 (.ofNat (eM p).length)then(17,[],[])else match kx (eM p) [] []with|none=>(17,[],[])|some r=>(0,r))else(p.fe,[],[])
theorem adu(p:ab):KR p=.val (vA (gE p).2.1 (gE p).2.2 (gE p).1) .empty:=by
 unfold KR gE;rcases ai _ 0 with _|_;.rfl
 cases ao _ _ with|true=>rfl|false=>cases kx _ [] []<;>rfl
theorem KP:∀(l:List Pr)(es:bR)(s:aF)(r:bR×aF),(∀x∈l,fY x.rest)->(∀q∈s,GP q)->kx l es s=J r->(∀q∈r.2,GP q)/\r.2.length<=s.length+l.length/\r.1.length=es.length+l.length|[],es,s,r,_,a,h=>by simp only[kx,xU]at h;subst h;exact⟨a,SB _ _,rfl⟩|x::l,es,s,r,d,a,h=>by have i:∀y∈l,fY y.rest:=λy e=>d y (iL _ e);simp only[kx]at h;simp only[bU];cases hd:x.done with|true=>rw[hd,aL]at h;have:=KP l _ _ r i a h;simp only[db,bU,eD]at this;exact⟨this.1,ae,ae⟩|false=>rw[hd,bg]at h;cases c:ai x.rest.fe 0 with|false=>rw[c]at h;simp at h|true=>rw[c,aL]at h;cases hi:ao (kS x.rest s 0) 0 with
 |true=>rw[hi,aL]at h;have:=KP l _ _ r i (λq b=>by
 rcases List.mem_append.1 b with b|b;.exact a q b
 .rw[List.mem_singleton.1 b];exact KF (d x eQ) (kz c)) h;simp only[db,bU,eD]at this;exact⟨this.1,ae,ae⟩|false=>rw[hi,bg]at h;have:=KP l _ _ r i a h;simp only[db,bU,eD]at this;exact⟨this.1,ae,ae⟩
theorem aiU(h:GP p):∀x∈eM p,fY x.rest:=λx a=>(Gd p h.a x a).pat (by have:=h.n;omega) (by have:=h.c;omega)
theorem KQ(h:GP p):(∀q∈(gE p).2.2,GP q)/\(gE p).2.2.length<=2048/\(gE p).2.1.length<=2048:=by
 have a:(∀q∈([]:List _),GP q)/\([]:aF).length<=2048/\([]:bR).length<=2048:=⟨λq h=>absurd h gT,aO,aO⟩;unfold gE;rcases ai _ 0 with _|_;.grind
 cases l:ao _ _ with|true=>grind|false=>
 simp only[aL,bg];rcases hd:kx _ [] []with _|r;.omega
 obtain⟨b,c,d⟩:=KP _ _ _ _ (aiU h) a.1 hd;grind[eP]
def oI:aF->aF->aF|[],o=>o|r::l,o=>bif ao (kS r o 0) 0 then oI l (o++[r])else oI l o
theorem Kl:∀(l o:aF),(∀q∈l,GP q)->(∀q∈o,GP q)->(∀q∈oI l o,GP q)/\(oI l o).length<=o.length+l.length/\o.length<=(oI l o).length|[],o,_,h=>⟨h,bo _,bo _⟩|r::l,o,e,f=>by rw[oI];have i:∀q∈l,GP q:=λq d=>e q (iL _ d);cases ao (kS r o 0) 0 with
 |true=>obtain⟨a,b,c⟩:=Kl l (o++[r]) i (λq d=>by
 rcases List.mem_append.1 d with d|d;.exact f q d
 .rw[List.mem_singleton.1 d];exact e r eQ);simp only[db,bU,eD]at b c;simp only[bU,aL];exact⟨a,ae,ae⟩|false=>obtain⟨a,b,c⟩:=Kl l o i f;simp only[bU,bg];exact⟨a,ae,ae⟩
def sh:Nat->Nat->aF->ah aF|0,_,_=>Z|f+1,i,o=>match o[i]? with|none=>J o|some q=>bif ai (gE q).1 0 then(bif ao 256 (.ofNat (oI (gE q).2.2 o).length)then Z else sh f (i+1) (oI (gE q).2.2 o))else Z
def xH:ah aF->bt|none=>.val (.tp [(.nl,.any),iO 17]) .empty|some o=>.val (.tp [iV (ab.aN o) 32 14,iO 0]) .empty
theorem EJ(a:fY p)(h:p.hM=0):GP p:=by grind[KF,R4,OH]
theorem ap4(p:ab)(P:fY p):CC 138 [.agg p.cells] (bif ai p.hM 0 then xH (sh 258 0 [p])else .val (.tp [(.nl,.any),iO p.hM]) .empty):=by have e1:=K5 p P;refine aK func138 ?_;simp only[f138];cases B:ai p.hM 0 with|false=>simp only[go_sem,e1,B]|true=>
 have g:=EJ P (kz B);simp only[go_sem,e1,B];refine iB (List.replicate 258 ()) [p] (λi o=>[(6,iS i),(5,dz (ab.aN o) 32 14)]) (λi l o=>xH (sh l.length i o)) (λi l o=>o≠[]/\i<=o.length/\o.length<=256/\l.length+i=258/\∀q∈o,GP q) aP rfl ⟨aO,aO,aO,by rfl,λq u=>aP⟩ (by rfl) (λo I=>?_) (λi x m o hi f Q I k=>?_);.grind
 . obtain⟨r,a,b,c,N⟩:=I;simp only[bU,sh];by_cases K:i<o.length
   . obtain⟨q,u⟩:∃q,o[i]?=J q:=⟨_,eZ K⟩;have L:=N q (cI u);have e2:=adT q L.o;rw[adu]at e2;obtain⟨d1,d2,d3⟩:=KQ L;have A:(i<o.length)=True:=ki K;simp only[u];generalize gE q=D at*;obtain⟨e,es,w⟩:=D;simp only at e2 d1 d2 d3|-;have Y:cF (es.map Edge.d)=V:=lz Edge.pure _;have p2:cF (ab.aN w)=V:=ab.qX w;have W:(i<(ab.aN o).length)=True:=by grind[ab.jP]
     rcases fu (es=[])with n|n<;>rcases fu (w=[])with hr|hr;case' inl.inl=>simp only[vA,n,hr,bP,ab.aN,oH]at e2
     case' inl.inr=>simp only[vA,n,bP,oH,sC hr]at e2
     case' inr.inl=>simp only[vA,hr,ab.aN,oH,rH n]at e2
     case' inr.inr=>simp only[vA,sC hr,rH n]at e2
     all_goals simp only[go_sem,mr r,A,u,e2,Y,p2];apply sp<;>intro h<;>simp only[h,go_sem]
     rotate_left 1;.rfl
     rotate_left 1;.rfl
     rotate_left 1;.rfl
     rotate_left 1;.rfl
     all_goals
     rw[ur];refine iB w o (λj s=>[(10,iS j),(5,dz (ab.aN s) 32 14)]) (λ_ t s=>xH (bif ao 256 (.ofNat (oI t s).length)then Z else sh m.length (i+1) (oI t s))) (λ_ t s=>s≠[]/\(∀q∈s,GP q)/\o.length<=s.length/\s.length+t.length<=2304) ae (by first|rfl|(rw[mr r];rfl)) ⟨r,N,bo _,ae⟩ rfl (λs I=>?_) (λj z t s O v X I R=>?_)
     . obtain⟨d,y,S,T⟩:=I;have k:=λh=>k s ⟨d,ae,h,aj,y⟩;rw[mr d]at k;simp only[go_sem]at k;have M:ao 256 (.ofNat s.length)=C->s.length<=256:=λh=>by grind[eP]
       first
       | simp only[go_sem,mr d,oI];apply sp<;>intro h;.simp only[h,go_sem];rfl
         .simp only[h,k (M h),Q,go_sem]
       | simp only[hr,go_sem,mr d,oI,eD];apply sp<;>intro h;.simp only[h,go_sem];rfl
         .simp only[h,k (M h),Q,go_sem]
     .first|(rw[hr]at v;simp_all)|obtain⟨d,y,S,T⟩:=I;simp only[bU]at T;have gz:=d1 z (cI v);have e3:=ad8 V s z ae (λx f=>by have:=(y x f).c;omega);rw[IT d]at e3;have G:=R (s++[z]) ⟨aO,λx f=>by
         rcases List.mem_append.1 f with f|f;.simp_all
         simp_all,by simp only[db];omega,by simp only[db,bU,eD];omega⟩;have H:=R s ⟨d,y,S,ae⟩;rw[mr aO]at G;rw[mr d]at H;have U:(s.length<1200000)=True:=ki ae;simp only[ab.vC,ab.aN,go_sem]at G H;simp only[go_sem,mr d,O,v,e3,oI];apply sp<;>intro h<;>simp only[h,O,v,X,G,H,U,ab.jP,go_sem]
   .have e0:o[i]?=Z:=List.getElem?_eq_none ae;have A:(i<o.length)=False:=bW K;simp only[e0];simp only[go_sem,mr r,A,xH,sC r]
mutual
def dR : ab -> List Guard
  | .mk op _ args ty var scope _ cond => bif ai op 9 then ⟨scope, ty, var, cond⟩ :: nV args else bif ai op 1 || (ai op 8 || (ai op 10 || ai op 7)) then nV args else bif ai op 3 then nW args else []
def nV : aF -> List Guard
  | [] => []
  | a :: _ => dR a
def nW : aF -> List Guard
  | [] => []
  | a :: l => dR a ++ nW l
end
mutual
theorem zZ : ∀ p : ab, (dR p).length <= p.nn
  | .mk op _ args ty var scope _ cond => by
    have h := alJ args
    have a := abC args
    rw [dR, ab.nn]
    cases ai op 9 <;> cases (ai op 1 || (ai op 8 || (ai op 10 || ai op 7))) <;> cases ai op 3 <;> simp <;> omega
theorem alJ : ∀ l : aF, (nV l).length <= ab.aR l
  | [] => bo _
  | a :: l => by have := zZ a; rw [nV, ab.aR]; omega
theorem abC : ∀ l : aF, (nW l).length <= ab.aR l
  | [] => bo _
  | a :: l => by have := zZ a; have := abC l; rw [nW, ab.aR, db]; omega
end
theorem Og{n:aA}(h:l.length+n.length<1000):iM 96 11 112 (.ay l 96 11) (.ex 96) n=J (.ay (l++n) 96 11,.ex 96):=by grind[wN,bF]
theorem aCX{a:α}{l:List α}{i:Nat}(h:[a][i]?=J x):(a::l)[i]?=J x:=aj
theorem Kp{n b:Nat}{o:aX}(h:n≠0):iM e n b .nl o []=J (.nl,.any):=by grind[iM,iW,bV]
theorem Kq{l:List α}{n b:Nat}(c:n≠0)(a:b<=1000)(h:l≠[])(g:l.length<1200000){o:aX}:iM e n b .nl o (l.map f)=J (.ay (l.map f) e n,.ex e):=by
 unfold iM;rw[iW c];have d:(l.map f).length*b<=bF:=by have:=ph (show l.length<=1200000 by omega) a;grind[bF]
 grind[bF,rB]
theorem Pm(l:List Guard):((l.map Guard.d).all λy=>decide (y.flat.length=11))=V:=by simp[DV.flat,Guard.d,Guard.eN]
theorem uB(l:List Guard):cF (l.map Guard.d)=V:=lz Guard.pure _
theorem aJ4(B K r E v p m j)(P:ab.aR r<=89)(Q:qC B r.length=V)(H:∀x∈r,CC 139 [.agg x.cells] (.val (dz ((dR x).map Guard.d) 96 11) .empty)):CC 139 [.agg (ab.mk B K r E v p m j).cells] (.val (dz ((dR (.mk B K r E v p m j)).map Guard.d) 96 11) .empty):=by
 have F:=ab.ji r;refine aK func139 ?_;simp only[f139];simp only[go_sem,ab.cells,dR];have z:ao (.ofNat 1) 1=C:=rfl;have M:ai B 0=C->∃a l,r=a::l:=λR=>by cases r<;>grind[Kr]
 apply sp<;>intro h<;>simp only[h,go_sem];rotate_left;apply sp<;>intro h<;>simp only[h,go_sem];rotate_left;apply sp<;>intro h<;>simp only[h,go_sem];rotate_left;apply sp<;>intro h<;>simp only[h,go_sem];rotate_left;apply sp<;>intro h<;>simp only[h,go_sem];rotate_left;apply sp<;>intro N<;>simp only[N,go_sem]
 . skip;refine iB (r) ([]:List Guard) (λi s=>[(5,iS i),(3,dz (s.map Guard.d) 96 11)]) (λi l s=>.val (dz ((s++nW l).map Guard.d) 96 11) .empty) (λi l s=>s.length+ab.aR l<=400) ae rfl aj (by rfl) (λs I=>?_) (λi x l s hi t w I c=>?_)
   . simp only[nW,fy];rcases fu (s=[])with d|d;.subst d;simp only[go_sem]
     .simp only[go_sem,eE d]
   . have L:=t;have e1:=H x (cI L);have c:=c (s++dR x) (by grind[zZ,ab.aR]);have O:=zZ x;simp only[ab.aR]at I;simp only[nW];rw[<-kr];have k:s≠[]->iM 96 11 112 (.ay (s.map Guard.d) 96 11) (.ex 96) ((dR x).map Guard.d)=J (.ay (s.map Guard.d++(dR x).map Guard.d) 96 11,.ex 96):=λ_=>Og aj;have q:(((dR x).map Guard.d).all λy=>decide (y.flat.length=11))=V:=Pm _;have G:=λ(h:dR x≠[])(o:aX)=>Kq (f:=Guard.d) (e:=96) (n:=11) (b:=112) (o:=o) ae ae h ae;rcases fu (s=[])with d|d<;>rcases fu (dR x=[])with g|g;.subst d;rw[g]at e1 c|-;simp only[fy,bP,go_sem]at c e1;simp only[go_sem,hi,L,w,e1,c,Kp,fy,dk]
     .subst d;simp only[dk,eE g,go_sem]at c e1;simp only[go_sem,hi,L,w,e1,q,c,G g,uB,dk]
     .rw[g]at e1 c k|-;simp only[fy,bP,eE d,go_sem]at c e1 k;simp only[go_sem,hi,L,w,e1,c,k d,eE d,fy]
     .have D:s++dR x≠[]:=aP;rw[eE D]at c;simp only[eE g,eI,go_sem]at c e1;simp only[go_sem,hi,L,w,e1,q,c,k d,uB,eE d,eI,kr]
 .refine iB ([]:aF) () (λi _=>[(5,iS i)]) (λ_ _ _=>.val (.dv .nl .any) .empty) (λ_ _ _=>True) aj rfl trivial rfl (λs I=>?_) (λi x l s hi t w I c=>aP);have u:ao (.ofNat 0) 0=C:=rfl;simp only[eD,go_sem]
 all_goals(
   obtain⟨a,l0,rfl⟩:=M (by grind[kz]);simp only[ab.aR]at P;first|refine iB ([a]) ([⟨p,E,v,j⟩]:List Guard) (λi s=>[(5,iS i),(3,dz (s.map Guard.d) 96 11)]) (λi l s=>.val (dz ((s++nW l).map Guard.d) 96 11) .empty) (λi l s=>s.length+ab.aR l<=400) aO rfl (by grind[ab.aR]) (by simp only[nW,nV,fy,dk,fA,de,go_sem];try rfl) (λs I=>?_) (λi x l s hi t w I c=>?_)|refine iB ([a]) ([]:List Guard) (λi s=>[(5,iS i),(3,dz (s.map Guard.d) 96 11)]) (λi l s=>.val (dz ((s++nW l).map Guard.d) 96 11) .empty) (λi l s=>s.length+ab.aR l<=400) aO rfl (by grind[ab.aR]) (by simp[nW,nV]) (λs I=>?_) (λi x l s hi t w I c=>?_)
   . simp only[nW,fy];rcases fu (s=[])with d|d;.subst d;simp only[bU,eD,jM,z,go_sem]
     .simp only[bU,eD,jM,z,go_sem,eE d]
   . have L:=aCX (l:=l0) t;have A:ao (.ofNat i) 1=V:=by have:=rX hi;rw[eP];exact lS (by simp only[bU,eD,wH]at*;omega)
     have e1:=H x (cI L);have c:=c (s++dR x) (by have:=zZ x;simp only[ab.aR]at I;rw[db];omega);have O:=zZ x;simp only[ab.aR]at I;simp only[nW];rw[<-kr];have k:s≠[]->iM 96 11 112 (.ay (s.map Guard.d) 96 11) (.ex 96) ((dR x).map Guard.d)=J (.ay (s.map Guard.d++(dR x).map Guard.d) 96 11,.ex 96):=λ_=>Og (by rw[dU,dU];omega);have q:(((dR x).map Guard.d).all λy=>decide (y.flat.length=11))=V:=Pm _;have G:=λ(h:dR x≠[])(o:aX)=>Kq (f:=Guard.d) (e:=96) (n:=11) (b:=112) (o:=o) gD gD h ae;rcases fu (s=[])with d|d<;>rcases fu (dR x=[])with g|g;.subst d;rw[g]at e1 c|-;simp only[fy,bP,go_sem]at c e1;simp only[go_sem,A,L,w,e1,c,Kp,fy,dk]
     .subst d;simp only[dk,eE g,go_sem]at c e1;simp only[go_sem,A,L,w,e1,q,c,G g,uB,dk]
     .rw[g]at e1 c k|-;simp only[fy,bP,eE d,go_sem]at c e1 k;simp only[go_sem,A,L,w,e1,c,k d,eE d,fy]
     . have D:s++dR x≠[]:=by simp[d]
       rw[eE D]at c;simp only[eE g,eI,go_sem]at c e1;simp only[go_sem,A,L,w,e1,q,c,k d,uB,eE d,eI,kr])
theorem adS:∀p:ab,tu p->p.nn<=90->CC 139 [.agg p.cells] (.val (dz ((dR p).map Guard.d) 96 11) .empty)|.mk o l args t v s a c,b,n=>by have hr:∀x∈args,CC 139 [.agg x.cells] (.val (dz ((dR x).map Guard.d) 96 11) .empty):=λx h=>adS x (b.yM h) (by have:=ab.lM args x h;simp only[ab.nn]at n;omega);exact aJ4 o l args t v s a c (by simp only[ab.nn]at n;omega) b.ar hr termination_by p=>kb p decreasing_by simp_wf;have:=jY h;omega
def F6:ah DV->ah aX->aX|some .nl,_=>.any|_,x=>x.getD .no
section
variable{P:aM}{u:jq}{t:al}{A:aA}{os:List (Nat×aX)}{o:Nat×aX}{D e a c:Nat}{b:LB}{l:aA}{d:DV}{x:ah aX}
theorem aDw:fg ⟨A,o::os⟩ D=F6 (A[D]?) (look (o::os) D):=by
 show(match A[D]? with|some .nl=>aX.any|_=>(look _ _).getD _)=_;rcases A[D]? with _|d;.rfl
 cases d<;>rfl
theorem aAz(h:AM.isAgg P t=J C):gP P u t ⟨A,o::os⟩ D=(A[D]?).bind λd=>J (pO u ⟨A,o::os⟩ D d (fg ⟨A,o::os⟩ D)):=by grind[gP]
theorem aDt:F6 (J .nl) x=.any:=rfl
theorem aDs:F6 (J (.ay l a c)) x=x.getD .no:=rfl
theorem aDr{k:gZ}{n:Int}:F6 (J (.int k n)) x=x.getD .no:=rfl
theorem aDp:F6 (J (.agg l)) x=x.getD .no:=rfl
theorem aDq{z:Bool}:F6 (J (.bool z)) x=x.getD .no:=rfl
theorem aDu{z:an}:F6 (J (.str z)) x=x.getD .no:=rfl
theorem aFK:pO .take b D d (.ex e)=(.dv d (.ex e),{cells:=jo b.cells D .jk,own:=dB b.own D 1}):=rfl
theorem aFJ:pO .take b D d .any=(.dv d .any,b):=rfl
theorem aFL:pO .take b D d .no=(.dv d .no,b):=rfl
theorem aFC:pO .len b D (.ay l a c) (.ex e)=(.hd l.length,b):=rfl
theorem aFB:pO .len b D d .any=(.dv d .no,b):=rfl
theorem aFD:pO .len b D d .no=(.dv d .no,b):=rfl
theorem aFz:pO .copy b D d .no=(.dv d .no,b):=rfl
theorem aFx:pO .copy b D d .any=(.dv d .no,b):=rfl
theorem aFy:pO .copy b D d (.ex e)=(.dv d .no,{b with own:=(D,.ty e)::dB b.own D 1}):=rfl
theorem aFG:pO .ref b D d (.ex e)=(.dv d .no,{b with own:=(D,.ty e)::dB b.own D 1}):=rfl
theorem aFH:pO .ref b D d .no=(.dv d .no,b):=rfl
theorem aFF:pO .ref b D d .any=(.dv d .no,b):=rfl
theorem getD_none{a:α}:(Z:ah α).getD a=a:=rfl
end
attribute[go_sem]aDw aAz aDt aDs aDr aDp aDq aDu aFK aFJ aFL aFC aFB aFD aFz aFx aFy aFG aFH aFF getD_none afh
theorem SM:∀(l o:aF),∃s,oI l o=o++s|[],o=>⟨[],(fy o).symm⟩|r::l,o=>by rw[oI];cases ao (kS r o 0) 0 with|true=>obtain⟨s,h⟩:=SM l (o++[r]);exact⟨r::s,by rw[aL,h];simp⟩|false=>exact SM l o
theorem Rn:∀(f i:Nat)(o l:aF),sh f i o=J l->(∀q∈o,GP q)->i<=o.length->(∀j q,j<i->o[j]?=J q->(gE q).1=0)->∀q∈l,GP q/\(gE q).1=0|0,_,_,_,h,_,_,_=>by cases h|f+1,i,o,l,h,g,hi,hd=>by rw[sh]at h;cases a:o[i]? with|none=>rw[a]at h;cases h;intro q m;refine⟨g q m,?_⟩;obtain⟨j,c,rfl⟩:=List.getElem_of_mem m;have:=List.getElem?_eq_none_iff.1 a;exact hd j _ ae (eZ c)|some q=>rw[a]at h;simp only at h;have n:=g q (cI a);cases e:ai (gE q).1 0 with|false=>rw[e]at h;cases h|true=>rw[e,aL]at h;cases d:ao 256 (.ofNat (oI (gE q).2.2 o).length)with|true=>rw[d]at h;cases h|false=>
 rw[d,bg]at h;obtain⟨d1,_,_⟩:=KQ n;obtain⟨k,_,r⟩:=Kl _ o d1 g;obtain⟨s,p⟩:=SM (gE q).2.2 o;have y:=(List.getElem?_eq_some_iff.1 a).1;refine Rn f (i+1) _ l h k ae (λj z c b=>?_);rw[p,oF ae]at b;by_cases B:j<i;.exact hd j z B b
 .have:j=i:=ae;subst this;rw[a]at b;cases b;exact kz e
def nC(l:aF)(i:Nat)(r:aF)(x:Edge):Edge:=⟨.ofNat i,bif ao x.dst 0 then x.dst else kS (r.getD x.dst.toNat zP) l 0,x.var,x.ty,x.cond,x.opens,x.gK,x.gC,x.fx,x.inside⟩
def qD(f:aF):aF->Nat->List Stat×bR->List Stat×bR|[],_,s=>s|q::l,i,(a,es)=>qD f l (i+1) (a++[⟨⟨V,dR q⟩⟩],es++(gE q).2.1.map (nC f i (gE q).2.2))
def Ox(v s:Int)(a:List Stat)(e:bR):LB:=match a with|[]=>⟨[iD v,iD s,.nl,.nl],[]⟩|_=>⟨[iD v,iD s,.ay (a.map Stat.d) 60 1,.ay (e.map Edge.d) 64 17],[(3,.ex 64),(2,.ex 60)]⟩
theorem am3(v s:Int)(a:List Stat)(e:bR):(a=[]/\Ox v s a e=⟨[iD v,iD s,.nl,.nl],[]⟩)\/(a≠[]/\Ox v s a e=⟨[iD v,iD s,.ay (a.map Stat.d) 60 1,.ay (e.map Edge.d) 64 17],[(3,.ex 64),(2,.ex 60)]⟩):=by
 cases a;.exact .inl ⟨rfl,rfl⟩
 .exact .inr ⟨aP,rfl⟩
theorem aco{a:List Stat}(h:a≠[]):Ox v s a es=⟨[iD v,iD s,.ay (a.map Stat.d) 60 1,.ay (es.map Edge.d) 64 17],[(3,.ex 64),(2,.ex 60)]⟩:=by
 cases a;.grind
 rfl
def RH(v s:Int)(l:aF)(i:Nat)(x:List Stat×bR):St:=⟨71,97,[(10,.lp 10 0),(5,.dv (.ay (ab.aN l) 32 14) (.ex 32)),(11,iS i),(2,.lp 2 0)],[(10,Ox v s x.1 x.2),(2,⟨[iD 0,iD 0,.nl,.nl],[]⟩)],.empty⟩
def Ht(l:aF)(v s:Int)(x:List Stat×bR):bt:=bif ao 2048 (.ofNat x.2.length)then .val (.tp [(.agg (bm.cells ⟨0,0,⟨V,[]⟩,⟨V,[]⟩⟩),.no),(.nl,.any),iO 17]) .empty else .val (.tp [(.agg (bm.cells ⟨v,s,⟨V,x.1⟩,⟨V,x.2⟩⟩),.no),(.ay (ab.aN l) 32 14,.ex 32),iO 0]) .empty
def Ta(B a:LB):Nat->LB|0=>B|_=>a
theorem acq{B a:LB}{j:Nat}(h:j=0):Ta B a j=B:=by rw[h];rfl
theorem Oy{a B:LB}{j:Nat}(h:j≠0):Ta a B j=B:=by
 cases j;.omega
 rfl
def Gz(B:LB)(R:SV)(l:aF)(H:bR)(v s:Int)(i:Nat)(a:List Stat)(j:Nat)(e:bR):St:=⟨71,97,[(15,iS j),(10,.lp 10 0),(13,R),(5,.dv (.ay (ab.aN l) 32 14) (.ex 32)),(11,iS i),(12,.dv (.ay (List.map Edge.d H) 64 17) (.ex 64)),(2,.lp 2 0)],[(10,Ta B ⟨[iD v,iD s,.ay (a.map Stat.d) 60 1,.ay (e.map Edge.d) 64 17],[(3,.ex 64),(2,.ex 60)]⟩ j),(2,⟨[iD 0,iD 0,.nl,.nl],[]⟩)],.empty⟩
theorem vY{l:List α}{n:Nat}(h:l≠[]):cp V (l.map f) e n=.ay (l.map f) e n:=by
 cases l;.grind
 rfl
theorem agU(p:ab):∀(l:aF)(i:Nat),ao (kS p l i) 0=C->∃n:Nat,kS p l i=.ofNat n/\i<=n/\n<i+l.length|[],_,h=>by simp[kS,eP]at h|q::l,i,h=>by rw[kS]at h|-;cases b:q.same p with|true=>exact⟨i,by rw[aL],bo _,by simp only[bU];omega⟩|false=>rw[b,bg]at h;obtain⟨n,a,c,d⟩:=agU p l (i+1) h;exact⟨n,by rw[bg,a],ae,by simp only[bU];omega⟩
theorem OO:∀(l:List Pr)(es:bR)(s:aF)(r:bR×aF),(∀x∈es,ao x.dst 0=C->x.dst.toNat<s.length)->kx l es s=J r->∀x∈r.1,ao x.dst 0=C->x.dst.toNat<r.2.length|[],es,s,r,b,h=>by simp only[kx,xU]at h;subst h;exact b|y::l,es,s,r,b,h=>by simp only[kx]at h;cases hd:y.done with
 |true=>
 rw[hd,aL]at h;refine OO l _ _ r (λx a=>?_) h;rcases List.mem_append.1 a with a|a;.exact b x a
 .rw[List.mem_singleton.1 a];intro h;simp[eA,eP]at h|false=>rw[hd,bg]at h;cases c:ai y.rest.fe 0 with|false=>rw[c]at h;simp at h|true=>rw[c,aL]at h;cases hi:ao (kS y.rest s 0) 0 with
 |true=>
 rw[hi,aL]at h;refine OO l _ _ r (λx a=>?_) h;rw[db];rcases List.mem_append.1 a with a|a;.intro d;have:=b x a d;omega
 .rw[List.mem_singleton.1 a];intro _;show(dI s.length).toNat<_;simp|false=>
 rw[hi,bg]at h;refine OO l _ _ r (λx a=>?_) h;rcases List.mem_append.1 a with a|a;.exact b x a
 .rw[List.mem_singleton.1 a];intro _;obtain⟨n,e,_,f⟩:=agU _ _ _ hi;show(kS y.rest s 0).toNat<_;rw[e];show n<_;omega
theorem aoX(a:GP p)(b:(gE p).1=0):(gE p).2.1≠[]:=by
 have A:=Xc p a.a;revert b;unfold gE;rcases d:ai p.fe 0 with _|_;.intro b;simp_all[ai]
 cases l:ao 2048 (.ofNat (eM p).length)with|true=>grind|false=>
 simp only[aL,bg];rcases hd:kx (eM p) [] []with _|r;.grind
 intro _ h;obtain⟨_,_,c⟩:=KP _ _ _ _ (aiU a) (λq h=>absurd h gT) hd;simp only at h;rw[h]at c;grind
theorem aoW:∀x∈(gE p).2.1,ao x.dst 0=C->x.dst.toNat<(gE p).2.2.length:=by unfold gE;cases ai p.fe 0 with|false=>simp_all|true=>cases ao 2048 (.ofNat (eM p).length)with|true=>simp_all|false=>simp only[aL,bg];cases hd:kx (eM p) [] []with|none=>simp_all|some r=>exact OO _ _ _ _ (λx h=>absurd h gT) hd
theorem aKj(p:ab)(hp:fY p)(l:aF)(hg:∀q∈l,GP q/\(gE q).1=0)(W:l≠[])(xb:l.length<=256)(e1:CC 138 [.agg p.cells] (.val (.tp [(.ay (ab.aN l) 32 14,.ex 32),iO 0]) .empty)):CC 71 [.agg p.cells] (Ht l (hO p).1 (hO p).2.1 (qD l l 0 ([],[]))):=by
 have d1:=aJl;simp only[bq,opsOf,f71,qA,go_sem]at d1;have e2:=adQ p hp;refine aK func71 ?_;simp only[f71,qA];have p2:cF (ab.aN l)=V:=ab.qX l;simp only[go_sem,e1,e2,p2];generalize(hO p).1=v;generalize(hO p).2.1=s;refine IQ l ([],[]) (RH v s l) (λi m x=>Ht l v s (qD l m i x)) (λi m x=>x.1.length=i/\x.2.length<=i*2048/\(i=0->x.2=[])/\(i≠0->x.2≠[])) ae rfl ⟨rfl,kH _,λ_=>rfl,λh=>absurd rfl h⟩ rfl (λx I=>?_) (λi q m x hi hq hw I u=>?_)
 . simp only[RH,qD,Ht,go_sem];have c:x.1≠[]:=by intro h;have:=I.1;rw[h]at this;exact W (Eu this.symm)
   simp only[aco c,go_sem];apply sp<;>intro h<;>simp only[h,go_sem];.rfl
   .have r1:∀a b,cp V (List.map Stat.d x.1) a b=.ay (List.map Stat.d x.1) a b:=λa b=>vY c;have r2:cp V (List.map Edge.d x.2) 64 17=.ay (List.map Edge.d x.2) 64 17:=vY (I.2.2.2 (by rw[I.1]at*;exactλh=>W (Eu h)));rw[r1,r2]
 .obtain⟨w,es⟩:=x;obtain⟨P,qc,Au,E⟩:=I;simp only at P qc Au E;have hm:=cI hq;obtain⟨D,dq⟩:=hg q hm;have e3:=adS q D.a (by have:=D.n;omega);have e4:=adT q D.o;rw[adu,dq]at e4;obtain⟨k1,k2,k3⟩:=KQ D;have Y:(gE q).2.1≠[]:=aoX D dq;have Dn:=@aoW q;have ct:=rX hi;have X:(w.length<1200000)=True:=ki ae;have d2:dB [(3,.ex 64),(2,.ex 60)] 2 1=[(3,.ex 64)]:=rfl;have d3:dB [(3,.ex 64)] 2 1=[(3,.ex 64)]:=rfl;have p1:cF ((gE q).2.1.map Edge.d)=V:=lz Edge.pure _;have p2:cF (ab.aN (gE q).2.2)=V:=ab.qX _;simp only[qD]at u|-;generalize(gE q).2.1=M at*;generalize(gE q).2.2=G at*;have d4:dB [(2,.ex 60)] 3 1=[(2,.ex 60)]:=rfl;have d5:dB [(2,.ex 60),(3,.ex 64)] 3 1=[(2,.ex 60)]:=rfl;have d6:dB [(3,.ex 64),(2,.ex 60)] 3 1=[(2,.ex 60)]:=rfl;have e5:=λ(r:ab)=>ap7 V l r ae (λz K=>by have:=(hg z K).1.c;omega);rw[IT W]at e5;have S:w++[Stat.mk ⟨V,dR q⟩]≠[]:=aO;have u:=λe h1 h2=>u (w++[⟨⟨V,dR q⟩⟩],e) ⟨by simp;omega,h1,λh=>ae,h2⟩;simp only[RH,aco S,eI,de,bP,Stat.d,pC]at u;simp only[go_sem]at u;simp only[RH];have PJ:w=[]->es=[]:=λh=>Au (by rw[h]at P;exact P.symm);have T:w≠[]->es≠[]:=λh=>E (by rintro rfl;exact h (Eu P));rcases am3 v s w es with⟨c,lh⟩|⟨c,lh⟩<;>rcases fu (dR q=[])with H|H<;>rcases fu (G=[])with hr|hr;all_goals
   first|have L:=PJ c|have L:=T c
   first|have y:=vY (f:=Guard.d) (e:=96) (n:=11) H|have y:cp V ((dR q).map Guard.d) 96 11=.nl:=by rw[H];rfl
   first|rw[eE H]at e3|rw[H,bP,BD]at e3
   first|rw[vA,sC hr,rH Y]at e4|rw[vA,hr,ab.aN,oH,rH Y]at e4
   simp only[lh];simp only[go_sem,c,d1,d2,d3,hi,hq,X,dU,e3,e4,p1,p2,uB];rw[ur];refine IQ M es (Gz _ _ l M v s i (w++[⟨⟨V,dR q⟩⟩])) (λj r e=>Ht l v s (qD l m (i+1) (w++[⟨⟨V,dR q⟩⟩],e++r.map (nC l i G)))) (λj r e=>e.length=es.length+j/\j+r.length=M.length/\(j=0->e=es)/\(j≠0->e≠[])) ae rfl ⟨rfl,aO,λ_=>rfl,λh=>absurd rfl h⟩ (by simp only[c,dk]) (λe I=>?_) (λj x r e N F O I jh=>?_);.obtain⟨R,A,U,B⟩:=I;have o:M.length≠0:=λh=>Y (Eu h);have yr:e≠[]:=B o;have u:=u e ae (λ_=>yr);simp only[bP,fy];simp only[Gz,Oy o];simp only[eI,de,bP,Stat.d,pC]at|-;simp only[go_sem,u,hw]
   .obtain⟨R,A,U,B⟩:=I;simp only[bU]at A;have kB:=cI F;have qd:=Dn x kB;have d:=jh (e++[nC l i G x]) ⟨by simp;omega,ae,λh=>ae,λ_=>aO⟩;have g:(e.length<1200000)=True:=ki ae;simp only[Gz,Oy (Nat.succ_ne_zero j)]at d;simp only[c,eI,de,bP,Stat.d,pC,nC,Edge.d,Edge.cells,y,go_sem]at d;simp only[de,nC];rw[List.append_cons];obtain⟨src,t,var,ty,⟨o1,o2,o3,o4,o5,o6,o7,o8,o9⟩,ops,cls,kL,kT,ins⟩:=x;simp only at qd;cases hd:ao t 0 with
   |true=>
   simp only[hd,Expr.cells,aL,go_sem]at d;simp only[aL];rcases SA j with k|k
   . have w7:=U k;subst w7;try simp only[L,bP,dk]at d
     simp only[Gz,acq k,go_sem,c,L,N,F,O,d4,d5,hd,g,y,d,dU,eI,de,bP,Stat.d,pC,Edge.d,Edge.cells,Expr.cells]
   .simp only[Gz,Oy (Nat.ne_of_gt k),go_sem,c,N,F,O,d4,d6,hd,g,y,d,dU,eI,de,bP,Stat.d,pC,Edge.d,Edge.cells,Expr.cells]|false=>
   have Q:=qd hd;have Vl:¬t<0:=by rw[eP]at hd;exact I5 hd
   obtain⟨n,rfl⟩:∃n:Nat,t=.ofNat n:=⟨t.toNat,by simp only[wH];omega⟩;first
   |(rw[hr]at Q;exact absurd Q aO)
   | obtain⟨z,K⟩:∃z,G[n]?=J z:=⟨_,eZ Q⟩;have dS:G.getD (dI n).toNat zP=z:=by show G.getD n zP=z;rw[List.getD_eq_getElem?_getD,K];rfl
     have e6:=e5 z;have yC:(n<G.length)=True:=ki Q;simp only[hd,dS,Expr.cells,bg,go_sem]at d;simp only[dS,bg];rcases SA j with k|k
     . have w7:=U k;subst w7;try simp only[L,bP,dk]at d
       simp only[Gz,acq k,go_sem,c,L,N,F,O,d4,d5,hd,g,y,K,yC,e6,d,dU,eI,de,bP,Stat.d,pC,Edge.d,Edge.cells,Expr.cells]
     .simp only[Gz,Oy (Nat.ne_of_gt k),go_sem,c,N,F,O,d4,d6,hd,g,y,K,yC,e6,d,dU,eI,de,bP,Stat.d,pC,Edge.d,Edge.cells,Expr.cells]
set_option maxHeartbeats 4000000
def pw(s:bR)(e:Edge)(r:aF):ah bz×(bR×aF):=bif s.any e.xI then(Z,(s,r))else bif ao 2048 (.ofNat (s++[e]).length)then(J .ret,(s++[e],r))else(Z,(s++[e],r))
def fF(x:Pr)(s:bR×aF):ah bz×(bR×aF):=bif x.done then pw s.1 (eA x.bw (-1)) s.2 else bif ao (fD x.rest.same s.2 0) 0 then(bif ai x.rest.fe 0 then pw s.1 (eA x.bw (.ofNat s.2.length)) (s.2++[x.rest])else(J .ret,s))else pw s.1 (eA x.bw (fD x.rest.same s.2 0)) s.2
section
variable{P:aM}{t fn n I D e:Nat}{sl:cT}{lb:dX}{g:GH}{d:ah Tmp}{b:LB}{dd:DV}{l new:aA}
theorem az5:xp P t .copy ⟨fn,n,sl,lb,g⟩ d I D (.box b)=(gP P .copy t b D).bind λr=>aJ ⟨fn,n,sl,lb,g.set I (.box r.2)⟩ d r.1:=by simp[xp]
theorem az8:xp P t .take ⟨fn,n,sl,lb,g⟩ d I D (.box b)=(gP P .take t b D).bind λr=>aJ ⟨fn,n,sl,lb,g.set I (.box r.2)⟩ d r.1:=by simp[xp]
theorem az6:xp P t .len ⟨fn,n,sl,lb,g⟩ d I D (.box b)=(gP P .len t b D).bind λr=>aJ ⟨fn,n,sl,lb,g.set I (.box r.2)⟩ d r.1:=by simp[xp]
theorem aFA:pO .copy b D dd (.ty e)=(.dv dd .no,b):=rfl
theorem aFE:pO .len b D dd (.ty e)=(.dv dd .no,b):=rfl
theorem aFM:pO .take b D dd (.ty e)=(.dv dd (.ty e),{b with own:=dB b.own D 1}):=rfl
theorem amh{b:Nat}(c:n≠0)(h:(l.length+new.length)*b<=bF)(a:l.length+new.length<=bF):iM e n b (.ay l e n) (.ty e) new=J (.ay (l++new) e n,.ty e):=by grind[iM,iW,nT,rB]
end
theorem aC0{k:Nat}:qn D (.ay l m k) (.ty e)=[(D,.ty e)]:=rfl
theorem aC1{k:Nat}:qn D (.ay l m k) (.ex e)=[(D,.ex e)]:=rfl
def aez(o:Nat):GO->ah DV|.box b=>(match b.cells[o]?,fg b o with|some d,.ex _=>J d|_,_=>Z)|_=>Z
theorem ar6{f n i:Nat}{s:cT}{l:dX}{g:GH}:EW ⟨f,n,s,l,g⟩ i D=(g.get i).bind (aez D):=by
 show(match g.get i with|some (.box b)=>_|_=>Z)=_;rcases g.get i with _|o;.rfl
 cases o<;>rfl
theorem ar7{k:Nat}:aez 0 (.box ⟨[.ay l a m],[(0,.ex k)]⟩)=J (.ay l a m):=rfl
theorem aDa{s:St}:cP cf.aq s (.const (.agg #[.int .i64 0,.slice Z 0 0,.int .i64 0,.int .i64 0,.int .i64 0,.int .i64 0,.int .i64 0,.slice Z 0 0,.int .i64 0,.int .i64 0,.int .i64 0,.int .i64 0,.int .i64 0,.string ⟨#[]⟩]))=J (.dv (.agg [iD 0,.nl,iD 0,iD 0,iD 0,iD 0,iD 0,.nl,iD 0,iD 0,iD 0,iD 0,iD 0,.str []]) .no):=by rfl
theorem axB{P:aM}{t:St}{d:ah Tmp}{s i n k:Nat}{x:aA}(h:bC P e=J n):FE P t d (.tmp s) i (J (.slice e)) (.dv (.ay x e n) (.ex k))=bif cM i x.length then aJ t d (.se s i 0)else Z:=by show(bC P e).bind _=_;simp_all
attribute[go_sem]axB
theorem aDG:tW .nl=.any:=rfl
attribute[go_sem]aDG aDa
attribute[go_sem]ar6 ar7 aC0 aC1 az5 az8 az6 aFA aFE aFM
theorem Rx{P:aM}{c:cj}{r:eK}{l:ah Nat}{i:Nat}{o:List aC}{s:St}{k:eJ->ah bt}{Q:SV->GH->Prop}(a b:List Unit)(h:oK c cB o=V)(f:D6 c o=[(a.length,a.length+1+b.length)])(j:FQ o (a.length+1+(b.length+1))=V)(d:Sat (Nf P c r (c.uA s.fn) (c.BN s.fn) (.mk o (.mk o)) b a (.mk o (.mk o)) (IW (c.keep s.fn i) k) s) Q):Sat (exec P c r l (.region i ⟨o⟩ V) s k) Q:=by obtain⟨v,g,e,q⟩:=d;exact⟨v,g,aeD a b h f j e,q⟩
def pY(e:bR)(o:aX):GO:=match e with|[]=>.box ⟨[.nl],[]⟩|a::l=>.box ⟨[.ay ((a::l).map Edge.d) 64 17],[(0,o)]⟩
def sE:aF->GO|[]=>.box ⟨[.nl],[]⟩|a::l=>.box ⟨[.ay (ab.aN (a::l)) 32 14],[(0,.ex 32)]⟩
theorem rK{o:aX}(h:es≠[]):pY es o=.box ⟨[.ay (es.map Edge.d) 64 17],[(0,o)]⟩:=by
 cases es;.grind
 .rfl
theorem uu{r:aF}(h:r≠[]):sE r=.box ⟨[.ay (ab.aN r) 32 14],[(0,.ex 32)]⟩:=by
 cases r;.grind
 .rfl
theorem sD{x:Edge}{o:aX}:pY (es++[x]) o=.box ⟨[.ay (es.map Edge.d++[x.d]) 64 17],[(0,o)]⟩:=by simp[rK]
theorem CP{r:aF}{x:ab}:sE (r++[x])=.box ⟨[.ay (ab.aN r++[.agg x.cells]) 32 14],[(0,.ex 32)]⟩:=by rw[uu aO,ab.vC];rfl
structure ak2(cap:GH->Prop)(ps:List Pr)(c:ah bz)(s:bR×aF)(g:GH):Prop where e:∃o,(o=.ex 64\/o=.ty 64)/\g.get 4=J (pY s.1 o)p:g.get 5=J (sE s.2)a:g.get 1=J (.box ⟨[.nl],[]⟩)b:g.get 2=J (.box ⟨[.nl],[]⟩)d:g.get 3=J (.box ⟨[iD (bif c.isSome then 17 else 0)],[]⟩)c:cap g
theorem UO:∀(l:List Pr)(s:bR×aF),(∀x∈l,fY x.rest)->(∀q∈s.2,GP q)->(bB fF l s).2.1.length<=s.1.length+l.length/\(bB fF l s).2.2.length<=s.2.length+l.length/\∀q∈(bB fF l s).2.2,GP q
 |[],s,_,h=>⟨bo _,bo _,h⟩|x::l,s,i,h=>by
  have j:∀y∈l,fY y.rest:=λy m=>i y (iL _ m);have f:∀e r,(pw s.1 e r).2.1.length<=s.1.length+1/\(pw s.1 e r).2.2=r:=by intro e r;unfold pw;cases s.1.any e.xI with|true=>exact⟨J' _,rfl⟩|false=>cases ao 2048 (.ofNat (s.1++[e]).length)with|true=>exact⟨aO,rfl⟩|false=>exact⟨aO,rfl⟩
  have g:(fF x s).2.1.length<=s.1.length+1/\(fF x s).2.2.length<=s.2.length+1/\∀q∈(fF x s).2.2,GP q:=by unfold fF;cases x.done with|true=>rw[aL];obtain⟨a,b⟩:=f (eA x.bw (-1)) s.2;rw[b];exact⟨a,ae,h⟩|false=>rw[bg];cases ao (fD x.rest.same s.2 0) 0 with|false=>rw[bg];obtain⟨a,b⟩:=f (eA x.bw (fD x.rest.same s.2 0)) s.2;rw[b];exact⟨a,ae,h⟩|true=>rw[aL];cases k:ai x.rest.fe 0 with|false=>exact⟨by show s.1.length<=_;omega,by show s.2.length<=_;omega,h⟩|true=>
   rw[aL];obtain⟨a,b⟩:=f (eA x.bw (.ofNat s.2.length)) (s.2++[x.rest]);rw[b];refine⟨a,aO,λq d=>?_⟩;rcases List.mem_append.1 d with d|d;.exact h q d
   .rw[List.mem_singleton.1 d];exact KF (i x eQ) (kz k)
  rw[rN,bU];cases(fF x s).1 with|some c=>exact⟨by show(fF x s).2.1.length<=_;omega,by show(fF x s).2.2.length<=_;omega,g.2.2⟩|none=>obtain⟨a,b,c⟩:=UO l (fF x s).2 j g.2.2;exact⟨by show(bB fF l (fF x s).2).2.1.length<=_;omega,by show(bB fF l (fF x s).2).2.2.length<=_;omega,c⟩
theorem aJX(x:Pr)(s:bR×aF)(c:bz)(h:(fF x s).1=J c):c=.ret:=by grind[pw,fF]
theorem afb:∀(l:List Pr)(s:bR×aF)(c:bz),(bB fF l s).1=J c->c=.ret|[],_,_,h=>by cases h|x::l,s,c,h=>by rw[rN]at h;cases a:(fF x s).1 with|none=>rw[a]at h;exact afb l _ c h|some d=>rw[a]at h;exact aJX x s c (by rw[a];exact h)
def eO(p:ab):Int×(bR×aF):=match(bB fF (dF p) ([],[])).1 with|none=>(0,(bB fF (dF p) ([],[])).2)|some _=>(17,[],[])
def xX(e:bR)(o:aX):DV×aX:=match e with|[]=>(.nl,.any)|a::l=>(.ay ((a::l).map Edge.d) 64 17,o)
theorem Hk{o:aX}:xX [] o=(.nl,.any):=rfl
theorem BE{o:aX}(h:es≠[]):xX es o=(.ay (es.map Edge.d) 64 17,o):=by
 cases es;.grind
 .rfl
theorem ad3(p:ab)(P:GP p):Sat (ev PP cf (.call 183 [.agg p.cells] .no .empty)) λv _=>∃o,(o=.ex 64\/o=.ty 64)/\v=.tp [xX (eO p).2.1 o,iV (ab.aN (eO p).2.2) 32 14,iO (eO p).1]:=by
 refine kp func183 ?_;obtain⟨h,ca,cap,g1,e1,l1,c1,w,it,hp⟩:=SG p P.a (by have:=P.n;omega) ⟨6,[(0,jO p),(1,.box ⟨[.nl],[]⟩),(2,.box ⟨[.nl],[]⟩),(3,.box ⟨[iD 0],[]⟩),(4,.box ⟨[.nl],[]⟩),(5,.box ⟨[.nl],[]⟩)]⟩;have k0:=l1.2 1 (by show 1<6;decide);have k1:=l1.2 2 (by show 2<6;decide);have k2:=l1.2 3 (by show 3<6;decide);have k3:=l1.2 4 (by show 4<6;decide);have k4:=l1.2 5 (by show 5<6;decide);have hn:6<=g1.next:=l1.1;simp only[f183];simp only[go_sem,e1];have hpo:=Jd p P.a;have dP:=(Q7 p).1;have Ix:p.nn*p.nn<=4096:=ph P.n P.n;refine yX it fF (ak2 cap (dF p)) ([],[]) hp rfl ⟨⟨.ex 64,.inl rfl,k3⟩,k4,k0,k1,k2,c1⟩ (λc s g' h=>h.c) (λc s g3 g4 h R=>⟨let⟨o,a,u⟩:=h.e;⟨o,a,(R.2 4 ae).trans u⟩,(R.2 5 ae).trans h.p,(R.2 1 ae).trans h.a,(R.2 2 ae).trans h.b,(R.2 3 ae).trans h.d,w _ _ h.c R.1 λi _ hi=>R.2 i hi⟩) (λx s g2 hx hR hN L=>?_) (λg2 hR hN=>?_)
 . have oU:=hx.mem;have hxb:=hpo x oU;have agf:∀x∈dF p,fY x.rest:=λx hx=>(hpo x hx).pat (by have:=P.n;omega) (by have:=P.c;omega);have hlen:s.1.length<=4096/\s.2.length<=4096/\∀aa∈s.2,GP aa:=by obtain⟨pre,post,a,u⟩:=hx;have:=UO pre ([],[]) (λy hy=>agf y (by rw[a];exact zQ _ hy)) (λaa h=>absurd h gT);rw[u]at this;have R:=fH List.length a;rw[db]at R;simp only[eD]at this;exact⟨ae,ae,this.2.2⟩
   obtain⟨⟨oe,Q,r1⟩,r2,l,m,r,A⟩:=hR;refine ze L rfl ?_;have n:∀i,i<=6->(i=g2.next)=False:=λi h=>bW ae;have b:∀i,i<=6->(i=g2.next+1)=False:=λi h=>bW ae;have O:∀i,i<=6->(g2.next=i)=False:=λi h=>bW ae;have H:∀i,i<=5->(g1.next=i)=False:=λi h=>bW ae;have n6:∀i,i<=6->(g2.next+1=i)=False:=λi h=>bW ae;have f:∀i,i<=5->(i=g1.next)=False:=λi h=>bW ae;have B:∀i,6<=i->i<g1.next->(∀k,k<=5->(i=k)=False)/\(i=g1.next)=False/\(i=g2.next)=False/\(i=g2.next+1)=False:=λi a u=>⟨λk h=>bW ae,bW ae,bW ae,bW ae⟩;have E:(g1.next=g2.next)=False:=bW ae;have F:(g1.next=g2.next+1)=False:=bW ae;have D:(g2.next=g1.next)=False:=bW ae;have z4:(g2.next+1=g1.next)=False:=bW ae;have mj:(g2.next+1=g2.next)=False:=bW ae;have j:(g2.next=g2.next+1)=False:=bW ae;obtain⟨⟨src,K,var,ty,⟨U,W,X,Y,o5,o6,o7,o8,o9⟩,M,I,S,T,ins⟩,done,rest⟩:=x;obtain⟨es,N⟩:=s;simp only at r1 r2 hlen;have OR:=λ(e:Edge)(t:qz e)(g:GH)(hb:g.get g2.next=J (EI e))=>Uu (d:=Edge.d) (q:=e.xI) 251 [] [.ptr g2.next 0] g V es ae (λy hy=>.inl ⟨aI,aI,aqB e y g2.next g hb t⟩) (.inr (.inr rfl)) (λx=>⟨rfl,Edge.eN x⟩);simp only[qJ,Pr.rd,Edge.d,Edge.cells,Expr.cells];have hE:∀k,qz (eA ⟨src,K,var,ty,⟨U,W,X,Y,o5,o6,o7,o8,o9⟩,M,I,S,T,ins⟩ k):=λk=>let h:=(hxb.ok (by have:=P.n;omega) (by have:=P.c;omega)).e
   ⟨h.c,h.k,h.e,h.o,h.p,h.i,h.l⟩;have ha:∀x:DV,iM 64 17 240 (.ay (es.map Edge.d) 64 17) (.ty 64) [x]=J (.ay (es.map Edge.d++[x]) 64 17,.ty 64):=λe=>amh gD (by show(List.length (es.map Edge.d)+1)*240<=bF;rw[dU];unfold bF;omega) (by show List.length (es.map Edge.d)+1<=bF;rw[dU];unfold bF;omega);have d3:dB [(0,.ex 32)] 0 1=[]:=rfl;have d0:dB [] 0 1=[]:=rfl;have d1:dB [(0,.ex 64)] 0 1=[]:=rfl;have d2:dB [(0,.ty 64)] 0 1=[]:=rfl;cases done with
   |true=>
   simp only[fF,aL];have e9:=OR _ (hE (-1));unfold pw;generalize hq:es.any (Edge.xI (eA ⟨src,K,var,ty,⟨U,W,X,Y,o5,o6,o7,o8,o9⟩,M,I,S,T,ins⟩ (-1)))=aa at*;simp only[EI,eA,Edge.cells,Expr.cells,go_sem]at e9;rcases fu (es=[])with t|t
   . subst t;simp only[pY]at r1;simp only[bP,pr]at e9;simp only[go_sem,L,E,F,D,z4,mj,j,n,b,f,r1,e9];have l1:ao 2048 (.ofNat 1)=C:=rfl;apply eC<;>intro h<;>simp only[h,l1,go_sem,L,E,F,D,j,n,b,f,H,r1];.refine⟨rfl,⟨⟨.ex 64,.inl rfl,?_⟩,?_,?_,?_,?_,w _ _ A ?_ (λi a u=>?_)⟩,gF,rfl⟩<;>first|(simp only[cL,dW];omega)|(simp only[go_sem,n,b,f,r1,pY,r2,l,m,r,iT];done)|simp only[go_sem,B i a ae]
     .refine⟨rfl,⟨⟨.ex 64,.inl rfl,?_⟩,?_,?_,?_,?_,w _ _ A ?_ (λi a u=>?_)⟩,gF,rfl⟩<;>first|(simp only[cL,dW];omega)|(simp only[go_sem,n,b,f,r1,pY,de,bP,eA,Edge.d,Edge.cells,Expr.cells,r2,l,m,r,iT];done)|simp only[go_sem,B i a ae]
   . rw[rK t]at r1;rw[vY t]at e9;have yr:es++[eA ⟨src,K,var,ty,⟨U,W,X,Y,o5,o6,o7,o8,o9⟩,M,I,S,T,ins⟩ (-1)]≠[]:=aO;rcases Q with rfl|rfl
     . simp only[go_sem,L,E,F,D,z4,mj,j,n,b,f,O,r1,e9,d1];apply eC<;>intro h<;>simp only[h,go_sem,L,E,F,D,j,n,b,f,O,H,r1,d2,ha,db,bU,eD,dU,jM];.refine⟨rfl,⟨⟨.ty 64,.inr rfl,?_⟩,?_,?_,?_,?_,w _ _ A ?_ (λi a u=>?_)⟩,gF,rfl⟩<;>first|(simp only[cL,dW];omega)|(simp only[go_sem,n,b,f,r1,rK t,r2,l,m,r,iT];done)|simp only[go_sem,B i a ae]
       . refine eC (λG=>?_) (λG=>?_)<;>simp only[G,go_sem,L,E,F,n,b,f,H,l,m,r];.refine⟨rfl,⟨⟨.ty 64,.inr rfl,?_⟩,?_,?_,?_,?_,w _ _ A ?_ (λi a u=>?_)⟩,gF,rfl⟩<;>first|(simp only[cL,dW];omega)|(simp only[go_sem,n,b,f,r1,sD,eA,Edge.d,Edge.cells,Expr.cells,r2,l,m,r,iT];done)|simp only[go_sem,B i a ae]
         .refine⟨rfl,⟨⟨.ty 64,.inr rfl,?_⟩,?_,?_,?_,?_,w _ _ A ?_ (λi a u=>?_)⟩,gF,rfl⟩<;>first|(simp only[cL,dW];omega)|(simp only[go_sem,n,b,f,r1,sD,eA,Edge.d,Edge.cells,Expr.cells,r2,l,m,r,iT];done)|simp only[go_sem,B i a ae]
     . simp only[go_sem,L,E,F,D,z4,mj,j,n,b,f,r1,e9];apply eC<;>intro h<;>simp only[h,go_sem,L,E,F,D,j,n,b,f,O,r1,d2,ha,db,bU,eD,dU,jM];.refine⟨rfl,⟨⟨.ty 64,.inr rfl,?_⟩,?_,?_,?_,?_,w _ _ A ?_ (λi a u=>?_)⟩,gF,rfl⟩<;>first|(simp only[cL,dW];omega)|(simp only[go_sem,n,b,f,r1,rK t,r2,l,m,r,iT];done)|simp only[go_sem,B i a ae]
       . refine eC (λG=>?_) (λG=>?_)<;>simp only[G,go_sem,L,E,F,n,b,f,H,l,m,r];.refine⟨rfl,⟨⟨.ty 64,.inr rfl,?_⟩,?_,?_,?_,?_,w _ _ A ?_ (λi a u=>?_)⟩,gF,rfl⟩<;>first|(simp only[cL,dW];omega)|(simp only[go_sem,n,b,f,r1,sD,eA,Edge.d,Edge.cells,Expr.cells,r2,l,m,r,iT];done)|simp only[go_sem,B i a ae]
         .refine⟨rfl,⟨⟨.ty 64,.inr rfl,?_⟩,?_,?_,?_,?_,w _ _ A ?_ (λi a u=>?_)⟩,gF,rfl⟩<;>first|(simp only[cL,dW];omega)|(simp only[go_sem,n,b,f,r1,sD,eA,Edge.d,Edge.cells,Expr.cells,r2,l,m,r,iT];done)|simp only[go_sem,B i a ae]
   |false=>
   have P0:=agf _ oU;have Lu:=(hxb.ok (by have:=P.n;omega) (by have:=P.c;omega)).p;simp only at P0 Lu;obtain⟨gz,e8⟩:=ad4 V N rest ae Lu;obtain⟨_,g0,h0,rfl⟩:=O0 rest P0;have b1:=aGM;have b2:=aG2;simp only[bq,opsOf,f183,go_sem]at b1 b2;simp only[fF,bg];rcases fu (N=[])with hr|hr
   . subst hr;have i1:fD rest.same [] 0=-1:=rfl;have i2:ao (-1) 0=V:=rfl;simp only[sE]at r2;simp only[ab.aN,pr,i1]at e8;simp only[i1,i2,aL];simp only[go_sem,L,E,F,D,z4,mj,j,n,b,f,r2,e8,i2,h0];apply eC<;>intro h<;>simp only[h,go_sem,L,E,F,D,j,n,b,f,H,r2,l,m,r]
     . refine Rx [(),(),(),(),(),(),()] [] b2 b1 rfl ?_;simp only[go_sem,z4,mj,n,b,f,r2];have e9:=OR _ (hE (0));unfold pw;generalize hq:es.any (Edge.xI (eA ⟨src,K,var,ty,⟨U,W,X,Y,o5,o6,o7,o8,o9⟩,M,I,S,T,ins⟩ (0)))=aa at*;simp only[EI,eA,Edge.cells,Expr.cells,go_sem]at e9;rcases fu (es=[])with t|t
       . subst t;simp only[pY]at r1;simp only[bP,pr]at e9;simp only[go_sem,D,j,n,b,f,O,r1,e9];have l1:ao 2048 (.ofNat 1)=C:=rfl;apply eC<;>intro h<;>simp only[h,l1,go_sem,L,E,F,D,j,n,b,f,O,H,r1];.refine⟨rfl,⟨⟨.ex 64,.inl rfl,?_⟩,?_,?_,?_,?_,w _ _ A ?_ (λi a u=>?_)⟩,gF,rfl⟩<;>first|(simp only[cL,dW];omega)|(simp only[go_sem,n,b,f,r1,pY,r2,sE,ab.aN,l,m,r,iT];done)|simp only[go_sem,B i a ae]
         .refine⟨rfl,⟨⟨.ex 64,.inl rfl,?_⟩,?_,?_,?_,?_,w _ _ A ?_ (λi a u=>?_)⟩,gF,rfl⟩<;>first|(simp only[cL,dW];omega)|(simp only[go_sem,n,b,f,r1,pY,de,bP,eA,Edge.d,Edge.cells,Expr.cells,r2,sE,ab.aN,l,m,r,iT];done)|simp only[go_sem,B i a ae]
       . rw[rK t]at r1;rw[vY t]at e9;have yr:es++[eA ⟨src,K,var,ty,⟨U,W,X,Y,o5,o6,o7,o8,o9⟩,M,I,S,T,ins⟩ (0)]≠[]:=aO;rcases Q with rfl|rfl
         . simp only[go_sem,D,j,O,r1,e9,d1];apply eC<;>intro h<;>simp only[h,go_sem,L,E,F,D,j,n,b,f,O,H,r1,d2,ha,db,bU,eD,dU,jM];.refine⟨rfl,⟨⟨.ty 64,.inr rfl,?_⟩,?_,?_,?_,?_,w _ _ A ?_ (λi a u=>?_)⟩,gF,rfl⟩<;>first|(simp only[cL,dW];omega)|(simp only[go_sem,n,b,f,r1,rK t,r2,sE,ab.aN,l,m,r,iT];done)|simp only[go_sem,B i a ae]
           . refine eC (λG=>?_) (λG=>?_)<;>simp only[G,go_sem,L,E,F,n,b,f,H,l,m,r];.refine⟨rfl,⟨⟨.ty 64,.inr rfl,?_⟩,?_,?_,?_,?_,w _ _ A ?_ (λi a u=>?_)⟩,gF,rfl⟩<;>first|(simp only[cL,dW];omega)|(simp only[go_sem,n,b,f,r1,sD,eA,Edge.d,Edge.cells,Expr.cells,r2,sE,ab.aN,l,m,r,iT];done)|simp only[go_sem,B i a ae]
             .refine⟨rfl,⟨⟨.ty 64,.inr rfl,?_⟩,?_,?_,?_,?_,w _ _ A ?_ (λi a u=>?_)⟩,gF,rfl⟩<;>first|(simp only[cL,dW];omega)|(simp only[go_sem,n,b,f,r1,sD,eA,Edge.d,Edge.cells,Expr.cells,r2,sE,ab.aN,l,m,r,iT];done)|simp only[go_sem,B i a ae]
         . simp only[go_sem,D,j,n,b,f,O,r1,e9];apply eC<;>intro h<;>simp only[h,go_sem,L,E,F,D,j,n,b,f,O,H,r1,d2,ha,db,bU,eD,dU,jM];.refine⟨rfl,⟨⟨.ty 64,.inr rfl,?_⟩,?_,?_,?_,?_,w _ _ A ?_ (λi a u=>?_)⟩,gF,rfl⟩<;>first|(simp only[cL,dW];omega)|(simp only[go_sem,n,b,f,r1,rK t,r2,sE,ab.aN,l,m,r,iT];done)|simp only[go_sem,B i a ae]
           . refine eC (λG=>?_) (λG=>?_)<;>simp only[G,go_sem,L,E,F,n,b,f,H,l,m,r];.refine⟨rfl,⟨⟨.ty 64,.inr rfl,?_⟩,?_,?_,?_,?_,w _ _ A ?_ (λi a u=>?_)⟩,gF,rfl⟩<;>first|(simp only[cL,dW];omega)|(simp only[go_sem,n,b,f,r1,sD,eA,Edge.d,Edge.cells,Expr.cells,r2,sE,ab.aN,l,m,r,iT];done)|simp only[go_sem,B i a ae]
             .refine⟨rfl,⟨⟨.ty 64,.inr rfl,?_⟩,?_,?_,?_,?_,w _ _ A ?_ (λi a u=>?_)⟩,gF,rfl⟩<;>first|(simp only[cL,dW];omega)|(simp only[go_sem,n,b,f,r1,sD,eA,Edge.d,Edge.cells,Expr.cells,r2,sE,ab.aN,l,m,r,iT];done)|simp only[go_sem,B i a ae]
     . rcases fu (es=[])with t|t;.subst t;have hb:pY [] oe=.box ⟨[.nl],[]⟩:=rfl;refine⟨rfl,⟨⟨oe,Q,?_⟩,?_,?_,?_,?_,w _ _ A ?_ (λi a u=>?_)⟩,gF,rfl⟩<;>first|(simp only[cL,dW];omega)|(simp only[go_sem,n,b,f,r1,hb,r2,sE,l,m,r,iT];done)|simp only[go_sem,B i a ae]
       .refine⟨rfl,⟨⟨oe,Q,?_⟩,?_,?_,?_,?_,w _ _ A ?_ (λi a u=>?_)⟩,gF,rfl⟩<;>first|(simp only[cL,dW];omega)|(simp only[go_sem,n,b,f,r1,rK t,r2,sE,l,m,r,iT];done)|simp only[go_sem,B i a ae]
   . rw[uu hr]at r2;rw[IT hr]at e8;generalize fD rest.same N 0=iq at*;simp only[go_sem,L,E,F,D,z4,mj,j,n,b,f,r2,e8];apply eC<;>intro h<;>simp only[h,go_sem,h0,z4,mj,n,b,f]
     . apply eC<;>intro h<;>simp only[h,go_sem,L,E,F,D,j,n,b,f,H,r2,l,m,r]
       . refine Rx [(),(),(),(),(),(),()] [] b2 b1 rfl ?_;have hlr:(N.length<1200000)=True:=ki ae;have tk:∀z:DV,List.take N.length (ab.aN N++[z])=ab.aN N:=λz=>List.take_left' (ab.jP N);have dr:∀z:DV,List.drop (N.length+1) (ab.aN N++[z])=[]:=λz=>List.drop_eq_nil_of_le (by simp[ab.jP]);have gt:∀z:DV,(ab.aN N++[z])[N.length]?=J z:=λz=>by rw[oG (by rw[ab.jP];exact bo _),ab.jP,Nat.sub_self];rfl
         have lt:(N.length<N.length+1)=True:=ki ae;simp only[go_sem,z4,mj,n,b,f,n6,r2,ab.jP,hlr,tk,dr,gt,lt,db,bU,eD,jM];have e9:=OR _ (hE (.ofNat N.length));unfold pw;generalize hq:es.any (Edge.xI (eA ⟨src,K,var,ty,⟨U,W,X,Y,o5,o6,o7,o8,o9⟩,M,I,S,T,ins⟩ (.ofNat N.length)))=aa at*;simp only[EI,eA,Edge.cells,Expr.cells,go_sem]at e9;rcases fu (es=[])with t|t
         . subst t;simp only[pY]at r1;simp only[bP,pr]at e9;simp only[go_sem,D,j,n,b,f,O,r1,e9];have l1:ao 2048 (.ofNat 1)=C:=rfl;apply eC<;>intro h<;>simp only[h,l1,go_sem,L,E,F,D,j,n,b,f,O,H,r1];.refine⟨rfl,⟨⟨.ex 64,.inl rfl,?_⟩,?_,?_,?_,?_,w _ _ A ?_ (λi a u=>?_)⟩,gF,rfl⟩<;>first|(simp only[cL,dW];omega)|(simp only[go_sem,n,b,f,r1,pY,r2,CP,d3,d0,l,m,r,iT];done)|simp only[go_sem,B i a ae]
           .refine⟨rfl,⟨⟨.ex 64,.inl rfl,?_⟩,?_,?_,?_,?_,w _ _ A ?_ (λi a u=>?_)⟩,gF,rfl⟩<;>first|(simp only[cL,dW];omega)|(simp only[go_sem,n,b,f,r1,pY,de,bP,eA,Edge.d,Edge.cells,Expr.cells,r2,CP,d3,d0,l,m,r,iT];done)|simp only[go_sem,B i a ae]
         . rw[rK t]at r1;rw[vY t]at e9;have yr:es++[eA ⟨src,K,var,ty,⟨U,W,X,Y,o5,o6,o7,o8,o9⟩,M,I,S,T,ins⟩ (.ofNat N.length)]≠[]:=aO;rcases Q with rfl|rfl
           . simp only[go_sem,D,j,O,r1,e9,d1];apply eC<;>intro h<;>simp only[h,go_sem,L,E,F,D,j,n,b,f,O,H,r1,d2,ha,db,bU,eD,dU,jM];.refine⟨rfl,⟨⟨.ty 64,.inr rfl,?_⟩,?_,?_,?_,?_,w _ _ A ?_ (λi a u=>?_)⟩,gF,rfl⟩<;>first|(simp only[cL,dW];omega)|(simp only[go_sem,n,b,f,r1,rK t,r2,CP,d3,d0,l,m,r,iT];done)|simp only[go_sem,B i a ae]
             . refine eC (λG=>?_) (λG=>?_)<;>simp only[G,go_sem,L,E,F,n,b,f,H,l,m,r];.refine⟨rfl,⟨⟨.ty 64,.inr rfl,?_⟩,?_,?_,?_,?_,w _ _ A ?_ (λi a u=>?_)⟩,gF,rfl⟩<;>first|(simp only[cL,dW];omega)|(simp only[go_sem,n,b,f,r1,sD,eA,Edge.d,Edge.cells,Expr.cells,r2,CP,d3,d0,l,m,r,iT];done)|simp only[go_sem,B i a ae]
               .refine⟨rfl,⟨⟨.ty 64,.inr rfl,?_⟩,?_,?_,?_,?_,w _ _ A ?_ (λi a u=>?_)⟩,gF,rfl⟩<;>first|(simp only[cL,dW];omega)|(simp only[go_sem,n,b,f,r1,sD,eA,Edge.d,Edge.cells,Expr.cells,r2,CP,d3,d0,l,m,r,iT];done)|simp only[go_sem,B i a ae]
           . simp only[go_sem,D,j,n,b,f,O,r1,e9];apply eC<;>intro h<;>simp only[h,go_sem,L,E,F,D,j,n,b,f,O,H,r1,d2,ha,db,bU,eD,dU,jM];.refine⟨rfl,⟨⟨.ty 64,.inr rfl,?_⟩,?_,?_,?_,?_,w _ _ A ?_ (λi a u=>?_)⟩,gF,rfl⟩<;>first|(simp only[cL,dW];omega)|(simp only[go_sem,n,b,f,r1,rK t,r2,CP,d3,d0,l,m,r,iT];done)|simp only[go_sem,B i a ae]
             . refine eC (λG=>?_) (λG=>?_)<;>simp only[G,go_sem,L,E,F,n,b,f,H,l,m,r];.refine⟨rfl,⟨⟨.ty 64,.inr rfl,?_⟩,?_,?_,?_,?_,w _ _ A ?_ (λi a u=>?_)⟩,gF,rfl⟩<;>first|(simp only[cL,dW];omega)|(simp only[go_sem,n,b,f,r1,sD,eA,Edge.d,Edge.cells,Expr.cells,r2,CP,d3,d0,l,m,r,iT];done)|simp only[go_sem,B i a ae]
               .refine⟨rfl,⟨⟨.ty 64,.inr rfl,?_⟩,?_,?_,?_,?_,w _ _ A ?_ (λi a u=>?_)⟩,gF,rfl⟩<;>first|(simp only[cL,dW];omega)|(simp only[go_sem,n,b,f,r1,sD,eA,Edge.d,Edge.cells,Expr.cells,r2,CP,d3,d0,l,m,r,iT];done)|simp only[go_sem,B i a ae]
       . rcases fu (es=[])with t|t;.subst t;have hb:pY [] oe=.box ⟨[.nl],[]⟩:=rfl;refine⟨rfl,⟨⟨oe,Q,?_⟩,?_,?_,?_,?_,w _ _ A ?_ (λi a u=>?_)⟩,gF,rfl⟩<;>first|(simp only[cL,dW];omega)|(simp only[go_sem,n,b,f,r1,hb,r2,uu hr,l,m,r,iT];done)|simp only[go_sem,B i a ae]
         .refine⟨rfl,⟨⟨oe,Q,?_⟩,?_,?_,?_,?_,w _ _ A ?_ (λi a u=>?_)⟩,gF,rfl⟩<;>first|(simp only[cL,dW];omega)|(simp only[go_sem,n,b,f,r1,rK t,r2,uu hr,l,m,r,iT];done)|simp only[go_sem,B i a ae]
     . skip;have e9:=OR _ (hE (iq));unfold pw;generalize hq:es.any (Edge.xI (eA ⟨src,K,var,ty,⟨U,W,X,Y,o5,o6,o7,o8,o9⟩,M,I,S,T,ins⟩ (iq)))=aa at*;simp only[EI,eA,Edge.cells,Expr.cells,go_sem]at e9;rcases fu (es=[])with t|t
       . subst t;simp only[pY]at r1;simp only[bP,pr]at e9;simp only[go_sem,D,j,n,b,f,r1,e9];have l1:ao 2048 (.ofNat 1)=C:=rfl;apply eC<;>intro h<;>simp only[h,l1,go_sem,L,E,F,D,j,n,b,f,H,r1];.refine⟨rfl,⟨⟨.ex 64,.inl rfl,?_⟩,?_,?_,?_,?_,w _ _ A ?_ (λi a u=>?_)⟩,gF,rfl⟩<;>first|(simp only[cL,dW];omega)|(simp only[go_sem,n,b,f,r1,pY,r2,uu hr,l,m,r,iT];done)|simp only[go_sem,B i a ae]
         .refine⟨rfl,⟨⟨.ex 64,.inl rfl,?_⟩,?_,?_,?_,?_,w _ _ A ?_ (λi a u=>?_)⟩,gF,rfl⟩<;>first|(simp only[cL,dW];omega)|(simp only[go_sem,n,b,f,r1,pY,de,bP,eA,Edge.d,Edge.cells,Expr.cells,r2,uu hr,l,m,r,iT];done)|simp only[go_sem,B i a ae]
       . rw[rK t]at r1;rw[vY t]at e9;have yr:es++[eA ⟨src,K,var,ty,⟨U,W,X,Y,o5,o6,o7,o8,o9⟩,M,I,S,T,ins⟩ (iq)]≠[]:=aO;rcases Q with rfl|rfl
         . simp only[go_sem,D,j,O,r1,e9,d1];apply eC<;>intro h<;>simp only[h,go_sem,L,E,F,D,j,n,b,f,O,H,r1,d2,ha,db,bU,eD,dU,jM];.refine⟨rfl,⟨⟨.ty 64,.inr rfl,?_⟩,?_,?_,?_,?_,w _ _ A ?_ (λi a u=>?_)⟩,gF,rfl⟩<;>first|(simp only[cL,dW];omega)|(simp only[go_sem,n,b,f,r1,rK t,r2,uu hr,l,m,r,iT];done)|simp only[go_sem,B i a ae]
           . refine eC (λG=>?_) (λG=>?_)<;>simp only[G,go_sem,L,E,F,n,b,f,H,l,m,r];.refine⟨rfl,⟨⟨.ty 64,.inr rfl,?_⟩,?_,?_,?_,?_,w _ _ A ?_ (λi a u=>?_)⟩,gF,rfl⟩<;>first|(simp only[cL,dW];omega)|(simp only[go_sem,n,b,f,r1,sD,eA,Edge.d,Edge.cells,Expr.cells,r2,uu hr,l,m,r,iT];done)|simp only[go_sem,B i a ae]
             .refine⟨rfl,⟨⟨.ty 64,.inr rfl,?_⟩,?_,?_,?_,?_,w _ _ A ?_ (λi a u=>?_)⟩,gF,rfl⟩<;>first|(simp only[cL,dW];omega)|(simp only[go_sem,n,b,f,r1,sD,eA,Edge.d,Edge.cells,Expr.cells,r2,uu hr,l,m,r,iT];done)|simp only[go_sem,B i a ae]
         . simp only[go_sem,D,j,n,b,f,r1,e9];apply eC<;>intro h<;>simp only[h,go_sem,L,E,F,D,j,n,b,f,O,r1,d2,ha,db,bU,eD,dU,jM];.refine⟨rfl,⟨⟨.ty 64,.inr rfl,?_⟩,?_,?_,?_,?_,w _ _ A ?_ (λi a u=>?_)⟩,gF,rfl⟩<;>first|(simp only[cL,dW];omega)|(simp only[go_sem,n,b,f,r1,rK t,r2,uu hr,l,m,r,iT];done)|simp only[go_sem,B i a ae]
           . refine eC (λG=>?_) (λG=>?_)<;>simp only[G,go_sem,L,E,F,n,b,f,H,l,m,r];.refine⟨rfl,⟨⟨.ty 64,.inr rfl,?_⟩,?_,?_,?_,?_,w _ _ A ?_ (λi a u=>?_)⟩,gF,rfl⟩<;>first|(simp only[cL,dW];omega)|(simp only[go_sem,n,b,f,r1,sD,eA,Edge.d,Edge.cells,Expr.cells,r2,uu hr,l,m,r,iT];done)|simp only[go_sem,B i a ae]
             .refine⟨rfl,⟨⟨.ty 64,.inr rfl,?_⟩,?_,?_,?_,?_,w _ _ A ?_ (λi a u=>?_)⟩,gF,rfl⟩<;>first|(simp only[cL,dW];omega)|(simp only[go_sem,n,b,f,r1,sD,eA,Edge.d,Edge.cells,Expr.cells,r2,uu hr,l,m,r,iT];done)|simp only[go_sem,B i a ae]
 .obtain⟨⟨oe,Q,r1⟩,r2,l,m,r,A⟩:=hR;have b1:=aGN;have b2:=aG3;simp only[bq,opsOf,f183,go_sem]at b1 b2;unfold eO;have Dm:=afb (dF p) ([],[]);generalize bB fF (dF p) ([],[])=z at*;obtain⟨c,es,N⟩:=z;simp only at r1 r2 r Dm;cases c with|some c=>obtain rfl:=Dm c rfl;simp only[SC,aL]at r;simp only[go_sem,l,m,r];exact⟨.ex 64,.inl rfl,rfl⟩|none=>
   simp only[iT,bg]at r;simp only[go_sem];refine Rx [()] [] b2 b1 rfl ?_;have d0:dB [] 0 1=[]:=rfl;have d1:dB [(0,.ex 64)] 0 1=[]:=rfl;have d2:dB [(0,.ty 64)] 0 1=[]:=rfl;have d3:dB [(0,.ex 32)] 0 1=[]:=rfl;rcases fu (es=[])with t|t<;>rcases fu (N=[])with hr|hr;.subst t;subst hr;simp only[pY,sE]at r1 r2;simp only[go_sem,r1,r2,l,m,r,d0];exact⟨.ex 64,.inl rfl,rfl⟩
   .subst t;rw[uu hr]at r2;simp only[pY]at r1;simp only[go_sem,r1,r2,l,m,r,d0,d3];exact⟨.ex 64,.inl rfl,by rw[Hk,sC hr]⟩
   . subst hr;rw[rK t]at r1;simp only[sE]at r2;rcases Q with rfl|rfl;.simp only[go_sem,r1,r2,l,m,r,d0,d1];exact⟨.ex 64,.inl rfl,by rw[BE t];rfl⟩
     .simp only[go_sem,r1,r2,l,m,r,d0,d2];exact⟨.ty 64,.inr rfl,by rw[BE t];rfl⟩
   . rw[rK t]at r1;rw[uu hr]at r2;rcases Q with rfl|rfl;.simp only[go_sem,r1,r2,l,m,r,d0,d1,d3];exact⟨.ex 64,.inl rfl,by rw[BE t,sC hr]⟩
     .simp only[go_sem,r1,r2,l,m,r,d0,d2,d3];exact⟨.ty 64,.inr rfl,by rw[BE t,sC hr]⟩
set_option maxHeartbeats 1000000
def pq:aF->aF->aF|[],o=>o|r::l,o=>bif ao (fD r.same o 0) 0 then pq l (o++[r])else pq l o
theorem Kk:∀(l o:aF),(∀q∈l,GP q)->(∀q∈o,GP q)->(∀q∈pq l o,GP q)/\(pq l o).length<=o.length+l.length/\o.length<=(pq l o).length|[],o,_,h=>⟨h,bo _,bo _⟩|r::l,o,e,f=>by rw[pq];have i:∀q∈l,GP q:=λq d=>e q (iL _ d);cases ao (fD r.same o 0) 0 with
 |true=>obtain⟨a,b,c⟩:=Kk l (o++[r]) i (λq d=>by
 rcases List.mem_append.1 d with d|d;.exact f q d
 .rw[List.mem_singleton.1 d];exact e r eQ);simp only[db,bU,eD]at b c;simp only[bU,aL];exact⟨a,ae,ae⟩|false=>obtain⟨a,b,c⟩:=Kk l o i f;simp only[bU,bg];exact⟨a,ae,ae⟩
def u7:Nat->Nat->aF->ah aF|0,_,_=>Z|f+1,i,o=>match o[i]? with|none=>J o|some q=>bif ai (eO q).1 0 then(bif ao 256 (.ofNat (pq (eO q).2.2 o).length)then Z else u7 f (i+1) (pq (eO q).2.2 o))else Z
theorem CU(h:GP p):(∀q∈(eO p).2.2,GP q)/\(eO p).2.2.length<=4096/\(eO p).2.1.length<=4096:=by have b:=UO _ ([],[]) (λx a=>(Jd p h.a x a).pat (by have:=h.n;omega) (by have:=h.c;omega)) aP;have l:=(Q7 p).1;have I:=ph h.n h.n;grind[eO]
theorem ao0(p:ab):(eO p).1=0\/eO p=(17,[],[]):=by grind[eO]
theorem apQ(p:ab)(Q:fY p):CC 118 [.agg p.cells] (bif ai p.hM 0 then xH (u7 258 0 [p])else .val (.tp [(.nl,.any),iO p.hM]) .empty):=by have e1:=OY p Q;refine aK func118 ?_;simp only[f118];cases B:ai p.hM 0 with|false=>simp only[go_sem,e1,B]|true=>
 have g:=EJ Q (kz B);simp only[go_sem,e1,B];refine iB (List.replicate 258 ()) [p] (λi o=>[(6,iS i),(5,dz (ab.aN o) 32 14)]) (λi l o=>xH (u7 l.length i o)) (λi l o=>o≠[]/\i<=o.length/\o.length<=256/\l.length+i=258/\∀q∈o,GP q) aP rfl ⟨aO,aO,aO,by rfl,λq v=>aP⟩ (by rfl) (λo f=>?_) (λi x m o hi k R f r=>?_);.grind
 . obtain⟨n,a,b,c,P⟩:=f;simp only[bU,u7];by_cases L:i<o.length
   . obtain⟨q,v⟩:∃q,o[i]?=J q:=⟨_,eZ L⟩;have M:=P q (cI v);obtain⟨_,g2,e2,oe,qN,rfl⟩:=ad3 q M;have I:=ao0 q;obtain⟨d1,d2,d3⟩:=CU M;have w:(i<o.length)=True:=ki L;simp only[v];generalize eO q=D at*;obtain⟨e,es,y⟩:=D;simp only at e2 d1 d2 d3 I|-;have p1:cF (es.map Edge.d)=V:=lz Edge.pure _;have p2:cF (ab.aN y)=V:=ab.qX y;rcases I with I|I;rotate_left 1;.cases I;have X:ai 17 0=C:=rfl;simp only[ab.aN,Hk,oH]at e2;simp only[go_sem,mr n,w,v,e2,X];rfl
     . have q0:ai 0 0=V:=rfl;subst I;rcases fu (es=[])with u|u<;>rcases fu (y=[])with hr|hr;case' inl.inl=>simp only[u,hr,ab.aN,Hk,oH]at e2
       case' inl.inr=>simp only[u,Hk,sC hr]at e2
       case' inr.inl=>simp only[hr,ab.aN,oH,BE u]at e2
       case' inr.inr=>simp only[sC hr,BE u]at e2
       all_goals rcases qN with rfl|rfl;all_goals simp only[go_sem,mr n,w,v,e2,p1,p2,q0];rw[ur]
       all_goals
       refine iB y o (λj s=>[(39,iS j),(5,dz (ab.aN s) 32 14)]) (λ_ t s=>xH (bif ao 256 (.ofNat (pq t s).length)then Z else u7 m.length (i+1) (pq t s))) (λ_ t s=>s≠[]/\(∀q∈s,GP q)/\o.length<=s.length/\s.length+t.length<=4500) ae (by first|rfl|(rw[mr n];rfl)) ⟨n,P,bo _,ae⟩ rfl (λs f=>?_) (λj z t s W E hv f S=>?_)
       . obtain⟨d,A,T,U⟩:=f;have r:=λh=>r s ⟨d,ae,h,aj,A⟩;rw[mr d]at r;simp only[go_sem]at r;have O:ao 256 (.ofNat s.length)=C->s.length<=256:=λh=>by grind[eP]
         first
         | simp only[go_sem,mr d,pq];apply sp<;>intro h;.simp only[h,go_sem];rfl
           .simp only[h,r (O h),R,go_sem]
         | simp only[hr,go_sem,mr d,pq,eD];apply sp<;>intro h;.simp only[h,go_sem];rfl
           .simp only[h,r (O h),R,go_sem]
       .first|(rw[hr]at E;simp_all)|obtain⟨d,A,T,U⟩:=f;simp only[bU]at U;have N:=d1 z (cI E);obtain⟨gy,e3⟩:=ad4 V s z ae (by have:=N.c;omega);rw[IT d]at e3;have H:=S (s++[z]) ⟨aO,λx k=>by
           rcases List.mem_append.1 k with k|k;.exact A x k
           .rw[List.mem_singleton.1 k];exact N,by simp only[db];omega,by simp only[db,bU,eD];omega⟩;have K:=S s ⟨d,A,T,ae⟩;rw[mr aO]at H;rw[mr d]at K;have Y:(s.length<1200000)=True:=ki ae;simp only[ab.vC,ab.aN,go_sem]at H K;simp only[go_sem,mr d,W,E,e3,pq];apply sp<;>intro h<;>simp only[h,hv,H,K,Y,ab.jP,go_sem]
   .have e0:o[i]?=Z:=List.getElem?_eq_none ae;have w:(i<o.length)=False:=bW L;simp only[e0];simp only[go_sem,mr n,w,xH,sC n]
theorem ah1(e:Nat):∀a b:aA,jB e (a++b)=(jB e a&&jB e b)|[],b=>by simp[jB]|x::a,b=>by simp only[fA,jB,ah1 e a b,Bool.and_assoc]
theorem QP{b:Type}{f:b->DV}{e:Nat}(h:∀a,(f a).ia e=V):∀l:List b,jB e (l.map f)=V|[]=>rfl|a::l=>by simp[jB,h a,QP h l]
theorem MD{a:Bool}{k n:Nat}(h:aw k e=C)(b:jB e l=V):(cp a l k n).ia e=V:=by cases l<;>grind[cp,DV.ia]
mutual
theorem Expr.ia {k : Nat} (h : aw 30 k = C) : ∀ e : Expr, jB k e.cells = V
  | .mk o l args v c n i num str => by
    simp only [Expr.cells, jB, DV.ia, zD, xP]
    exact MD h (Expr.FU h args)
theorem Expr.FU {k : Nat} (h : aw 30 k = C) : ∀ l : List Expr, jB k (Expr.aN l) = V
  | [] => rfl
  | e :: l => by
    simp only [Expr.aN, jB, DV.ia, Expr.ia h e, Expr.FU h l, zD]
end
theorem ax4(s:Sl Int):(hZ s).ia 64=V:=MD rfl (QP (λ_=>rfl) _)
theorem Edge.ia(x:Edge):x.d.ia 64=V:=by show jB 64 _=V;simp only[Edge.cells,ah1,jB,DV.ia,zD,xP,Expr.ia (k:=64) rfl,ax4,vD,yN];rw[MD rfl (Expr.FU rfl _),MD rfl (QP (λ_=>rfl) _)];rfl
mutual
theorem ab.ia : ∀ p : ab, jB 64 p.cells = V
  | .mk o n args t v s a c => by
    simp only [ab.cells, fA, dk, jB, DV.ia, zD, xP, Expr.ia (k := 64) rfl]
    exact MD rfl (ab.FU args)
theorem ab.FU : ∀ l : aF, jB 64 (ab.aN l) = V
  | [] => rfl
  | e :: l => by
    simp only [ab.aN, jB, DV.ia, ab.ia e, ab.FU l, zD]
end
theorem alG(r:aF):(iV (ab.aN r) 32 14).1.ia 64=V:=by
 rcases r with _|⟨a,l⟩;.rfl
 show(!(aw 32 64)&&jB 64 (ab.aN (a::l)))=V;rw[ab.FU];rfl
theorem aKv(e:bR)(r:aF)(k:Int)(o:aX)(d:o=.ex 64\/o=.ty 64):ri V (.tp [xX e o,iV (ab.aN r) 32 14,iO k])=.tp [xX e (.ex 64),iV (ab.aN r) 32 14,iO k]:=by
 have b:∀l j,xL l j (iV (ab.aN r) 32 14)=iV (ab.aN r) 32 14:=by intro l j;cases r<;>rfl
 have h:xL [xX e o,iV (ab.aN r) 32 14,iO k] 0 (xX e o)=xX e (.ex 64):=by
  rcases e with _|⟨a,l⟩;.rfl
  rcases d with rfl|rfl;.rfl
  . have c:([xX (a::l) (.ty 64),iV (ab.aN r) 32 14,iO k].zipIdx.all λy=>aw y.2 0||y.1.1.ia 64)=V:=by simp[alG,DV.ia]
    show(bif aw 64 64&&(jB 64 _&&([xX _ _,iV _ 32 14,iO k].zipIdx.all _))then _ else _)=_;rw[c,QP Edge.ia];rfl
 show SV.tp [xL _ 0 _,xL _ 1 _,xL _ 2 _]=_;rw[h,b];rfl
theorem aqg(p:ab)(g:GP p):∃o,(o=.ex 64\/o=.ty 64)/\CC 186 [.agg p.cells] (.val (.tp [xX (eO p).2.1 o,iV (ab.aN (eO p).2.2) 32 14,iO (eO p).1]) .empty):=by
 obtain⟨_,g1,e1,rfl⟩:=O0 p g.o;obtain⟨_,g2,e2,a,q,rfl⟩:=ad3 p g;generalize eO p=D at*;obtain⟨e,es,r⟩:=D;have q0:ai 0 0=V:=rfl;refine⟨a,q,aK func186 ?_⟩;simp only at e2|-;have b:cF (es.map Edge.d)=V:=lz Edge.pure _;have c:cF (ab.aN r)=V:=ab.qX r;simp only[f186];rcases fu (es=[])with h|h<;>rcases fu (r=[])with hr|hr;case' inl.inl=>simp only[h,hr,ab.aN,Hk,oH]at e2|-
 case' inl.inr=>simp only[h,Hk,sC hr]at e2|-
 case' inr.inl=>simp only[hr,ab.aN,oH,BE h]at e2|-
 case' inr.inr=>simp only[sC hr,BE h]at e2|-
 all_goals rcases q with rfl|rfl<;>simp only[go_sem,e1,g.r,q0,e2,b,c]
set_option maxHeartbeats 4000000
theorem aEB(b:Bool)(f:aF)(a:ab)(l:aF)(k:Nat)(h:dF a≠[]):me b f (a::l) k≠[]:=by simp_all[me]
theorem aCV(p:ab)(x:Pr):yR p x≠[]:=by obtain⟨op,nl,args,ty,var,scope,s,cond⟩:=p;grind[yR,tY,WU]
theorem aiQ:∀p:ab,tu p->dF p≠[]|.mk o g args t v s n c,d=>by have i:∀a∈args,dF a≠[]:=λa b=>aiQ a (d.yM b);have f:=d.ar;rw[dF];cases e:ai o 0 with|true=>rw[aL];simp|false=>rw[bg];cases args with|nil=>exact absurd f (λh=>Kr e h)|cons a l=>have x:=i a eQ;cases ai o 2||ai o 3 with|true=>rw[aL];exact aEB _ _ _ _ _ x|false=>rw[bg,xz];cases q:dF a with|nil=>exact absurd q x|cons y m=>rw[vu];exactλh=>aCV _ y (List.append_eq_nil_iff.1 h).1 termination_by p=>kb p decreasing_by simp_wf;have:=jY b;omega
theorem aJW(x:Pr)(s:bR×aF)(h:(fF x s).1=Z):(fF x s).2.1≠[]:=by grind[pw,fF]
theorem afa:∀(l:List Pr)(s:bR×aF),(bB fF l s).1=Z->l≠[]->(bB fF l s).2.1≠[]|[x],s,h,_=>by rw[wW]at h|-;exact aJW x s h|x::y::l,s,h,_=>by rw[rN]at h|-;cases a:(fF x s).1 with|none=>rw[a]at h;exact afa (y::l) _ h aO|some c=>rw[a]at h;cases h
theorem adv(h:GP p)(a:(eO p).1=0):(eO p).2.1≠[]:=by
 revert a;unfold eO;rcases b:(bB _ _ _).1 with _|c;.intro _;exact afa _ _ b (aiQ p h.a)
 grind
theorem agV{a:Type}(f:a->Bool):∀(l:List a)(i:Nat),ao (fD f l i) 0=C->∃n:Nat,fD f l i=.ofNat n/\i<=n/\n<i+l.length|[],_,h=>by simp[fD,eP]at h|q::l,i,h=>by rw[fD]at h|-;cases c:f q with|true=>exact⟨i,by rw[aL],bo _,by simp only[bU];omega⟩|false=>rw[c,bg]at h;obtain⟨n,b,d,e⟩:=agV f l (i+1) h;exact⟨n,by rw[bg,b],ae,by simp only[bU];omega⟩
theorem aJV(x:Pr)(s:bR×aF)(h:∀y∈s.1,ao y.dst 0=C->y.dst.toNat<s.2.length):∀y∈(fF x s).2.1,ao y.dst 0=C->y.dst.toNat<(fF x s).2.2.length:=by grind[pw,fF,eA,eP,agV]
theorem ae8:∀(l:List Pr)(s:bR×aF),(∀y∈s.1,ao y.dst 0=C->y.dst.toNat<s.2.length)->∀y∈(bB fF l s).2.1,ao y.dst 0=C->y.dst.toNat<(bB fF l s).2.2.length|[],_,h=>h|x::l,s,h=>by rw[rN];have:=aJV x s h;cases(fF x s).1 with|none=>exact ae8 l _ this|some c=>exact this
theorem aoZ(p:ab):∀y∈(eO p).2.1,ao y.dst 0=C->y.dst.toNat<(eO p).2.2.length:=by unfold eO;cases(bB _ _ _).1<;>simp_all[ae8]
theorem agT(p:ab):∀(l:aF)(i:Nat),kS p l i=fD (λq=>q.same p) l i|[],_=>rfl|q::l,i=>by rw[kS,fD,agT p l (i+1)]
theorem aBm{s:St}{x:aH}{d b c:Nat}{u:jq}:uR s x d u (.se a b c)=aJ s (J d) (.se a b c):=(rfl)
theorem aBP{s:St}{d:ah Tmp}{b c:Nat}:Wz s d (.se a b c)=aJ s d (.se a b c):=(rfl)
attribute[go_sem]aBm aBP
def pT(f:aF):aF->Nat->List (Nat×bR)|[],_=>[]|q::l,i=>(i,(eO q).2.1.map (nC f i (eO q).2.2))::pT f l (i+1)
abbrev adC:Nat×bR->aA:=λx=>[iD (.ofNat x.1),.ay (x.2.map Edge.d) 64 17]
def acs(g:GH)(b:Nat)(l:aF):Prop:=g.get b=J (.box ⟨[.ay (ab.aN l) 32 14],[]⟩)/\b<g.next
structure StI{σ:Type}(k:Nat)(g0:GH)(rel:ah bz->σ->GH->Prop)(step:Nat×bR->σ->ah bz×σ)(s0:σ)(X Y:List (Nat×bR))(s:σ×GH):Prop where
 r:rel Z s.1 s.2
 h:Hi k g0 s.2
 n:k<=s.2.next
 f:bB step Y s.1=bB step X s0
 d:∃dn,X=dn++Y/\bB step dn s0=(Z,s.1)
theorem ayi(u:aF)(b:Nat)(hl:u.length<=256)(hg:∀q∈u,GP q/\(eO q).1=0):vq adC 185 [] [.ptr b 0] (λg=>acs g b u) (pT u u 0):=by
 intro n k σ F step s U Y g hr hk;suffices hS:Sat (ev PP cf (.call 185 ([]++[.dK n]++[.ptr b 0]) .no g)) λv L=>v=.tp []/\F (bB step (pT u u 0) s).1 (bB step (pT u u 0) s).2 L/\Hi k g L by obtain⟨v,L,e,rfl,r,h⟩:=hS;simp_all
 obtain⟨lV,mU⟩:=Y _ _ _ hr;have d1:=aIz;simp only[bq,opsOf,f185,go_sem]at d1;refine kp func185 ?_;simp only[f185];simp only[go_sem,lV];refine vX u (s,g) (λi _=>[(12,iS i)]) (λs=>s.2) (λi l o=>StI k g F step s (pT u u 0) (pT u l i) o) ae rfl rfl ⟨hr,Hi.refl,hk,rfl,[],rfl,rfl⟩ (λo I=>?_) (λi q l o hi hx hw I H=>?_);.obtain⟨r,h2,_,f,_⟩:=I;rw[pT]at f;rw[<-f];simp only[go_sem];exact⟨trivial,r,h2⟩
 . obtain⟨S,g1⟩:=o;obtain⟨R,M,uK,G,w,E,p⟩:=I;simp only at R M uK G p;obtain⟨N,X⟩:=hg q (cI hx);obtain⟨oe,qN,e2⟩:=aqg q N;obtain⟨iR,pF⟩:=Y _ _ _ R;have oR:=adv N X;have t:=aKv (eO q).2.1 (eO q).2.2 (eO q).1 oe qN;obtain⟨d3,d4,d5⟩:=CU N;have p1:cF ((eO q).2.1.map Edge.d)=V:=lz Edge.pure _;have p2:cF (ab.aN (eO q).2.2)=V:=ab.qX _;simp only[BE oR]at e2 t;rw[X]at e2 t;have O:∀x∈(eO q).2.1,ao x.dst 0=C->x.dst.toNat<(eO q).2.2.length:=aoZ q;rw[pT]at G E;generalize(eO q).2.1=es at*;generalize(eO q).2.2=a at*;have iN:aX.yK .no=V:=rfl;simp only[ri,ctt]at t;rcases fu (a=[])with hr|hr;case' inl=>simp only[hr,ab.aN,oH]at e2 t
   case' inr=>simp only[sC hr]at e2 t
   all_goals
   simp only[go_sem,iN,hi,hx,e2,t,p1,p2];rw[ur];refine vX es () (λj _=>[(25,iS j),(5,.dv (.ay (((es.take j).map (nC u i a)++es.drop j).map Edge.d) 64 17) (.ex 64))]) (λ_=>g1) (λj r _=>r=es.drop j) ae rfl rfl rfl (λ_ I=>?_) (λj x r _ Q hy hv I c=>?_);.have uH:((es.take es.length).map (nC u i a)++es.drop es.length).map Edge.d=(es.map (nC u i a)).map Edge.d:=aO;obtain⟨g3,e3,r3,P⟩:=U.run (i,es.map (nC u i a)) S g1 ⟨w,pT u l (i+1),E,p⟩ R uK;simp only[adC]at e3;rw[uH];rw[rN]at G;have Lv:∀o,(step (i,es.map (nC u i a)) S)=(Z,o)->∃w,pT u u 0=w++pT u l (i+1)/\bB step w s=(Z,o):=λo h=>⟨w++[(i,es.map (nC u i a))],aj,by grind[lT,wW]⟩;generalize step (i,es.map (nC u i a)) S=z at*;obtain⟨W,sz⟩:=z;cases W with|none=>have H:=H (sz,g3) ⟨r3,M.trans P,by have:=P.1;grind,G,Lv _ rfl⟩;simp only[pj]at e3;simp only[go_sem]at H;simp only[go_sem,e3,hw,H]|some W=>simp only[pn]at e3;simp only[go_sem,e3];rw[<-G];exact⟨trivial,r3,M.trans P⟩
   . have K:∃A B:aA,A.length=j/\((es.take j).map (nC u i a)++es.drop j).map Edge.d=A++x.d::B/\((es.take (j+1)).map (nC u i a)++es.drop (j+1)).map Edge.d=A++(nC u i a x).d::B:=by have yy:=rX Q;obtain⟨_,hxj⟩:=List.getElem?_eq_some_iff.1 hy;refine⟨((es.take j).map (nC u i a)).map Edge.d,(es.drop (j+1)).map Edge.d,aj,?_,?_⟩;all_goals simp_all[G5,List.take_succ_eq_append_getElem]
     obtain⟨A,B,hA,jQ,nI⟩:=K;have c:=c () (by grind[zT]);simp only at c;rw[nI]at c;simp only[jQ];have yz:∀y:DV,(A++y::B)[j]?=J y:=λy=>aP;have D:∀y:DV,List.take j (A++y::B)=A:=λy=>List.take_left' hA;have iH:∀y:DV,List.drop (j+1) (A++y::B)=B:=λy=>by simp_all[List.drop_append]
     have T:(j<A.length+(B.length+1))=True:=ki ae;have kB:=cI hy;obtain⟨src,d,var,ty,⟨o1,o2,o3,o4,o5,o6,o7,o8,o9⟩,ops,cls,kL,kT,ins⟩:=x;have E:=O _ kB;simp only at E;simp only[nC,Edge.d,Edge.cells,Expr.cells]at c|-;cases hd:ao d 0 with|true=>simp only[hd,aL,go_sem]at c;simp only[go_sem,Q,yz,D,iH,T,hd,hv,c]|false=>
     have p:=E hd;have Vl:¬d<0:=by rw[eP]at hd;exact I5 hd
     obtain⟨m,rfl⟩:∃m:Nat,d=.ofNat m:=⟨d.toNat,by simp only[wH];omega⟩;first
     |(rw[hr]at p;exact absurd p aO)
     | obtain⟨z,hz⟩:∃z,a[m]?=J z:=⟨_,eZ p⟩;have dS:a.getD (dI m).toNat zP=z:=by show a.getD m zP=z;rw[List.getD_eq_getElem?_getD,hz];rfl
       obtain⟨gz,e6⟩:=aqh C u z ae (λq hq=>by have:=(hg q hq).1.c;omega);rw[KW,<-agT]at e6;have yC:(m<a.length)=True:=ki p;simp only[hd,dS,bg,go_sem]at c;simp only[go_sem,Q,yz,D,iH,T,hd,hv,c,hz,yC,e6,iR,d1]
set_option maxHeartbeats 1000000
theorem Rm:∀(f i:Nat)(o l:aF),sh f i o=J l->(∀q∈o,GP q)->o≠[]->o.length<=256->l≠[]/\l.length<=256|0,_,_,_,h,_,_,_=>by cases h|f+1,i,o,l,h,g,n,k=>by rw[sh]at h;cases a:o[i]? with|none=>rw[a]at h;cases h;exact⟨n,k⟩|some q=>rw[a]at h;simp only at h;cases e:ai (gE q).1 0 with|false=>rw[e]at h;cases h|true=>rw[e,aL]at h;cases j:ao 256 (.ofNat (oI (gE q).2.2 o).length)with|true=>rw[j]at h;cases h|false=>rw[j,bg]at h;obtain⟨d1,_,_⟩:=KQ (g q (cI a));obtain⟨c,_,b⟩:=Kl _ o d1 g;refine Rm f (i+1) _ l h c (λd=>n (Eu (by rw[d]at b;simpa using b))) ?_;rw[eP]at j;have:=I5 j;simp only[wH]at this;omega
abbrev zA:bm:=⟨0,0,⟨V,[]⟩,⟨V,[]⟩⟩
def Ky(p:ab):bt:=bif ai p.hM 0 then(match sh 258 0 [p]with|none=>.val (.tp [(.agg zA.cells,.no),(.nl,.any),iO 17]) .empty|some l=>Ht l (hO p).1 (hO p).2.1 (qD l l 0 ([],[])))else .val (.tp [(.agg zA.cells,.no),(.nl,.any),iO p.hM]) .empty
theorem arH(p:ab)(b:fY p):CC 71 [.agg p.cells] (Ky p):=by
 have e1:=ap4 p b;unfold Ky;rcases h:ai p.hM 0 with _|_;.rw[h,bg]at e1;refine aK func71 ?_;simp only[f71,qA];simp only[go_sem,e1,h];rfl
 rw[h,aL]at e1;have g:=EJ b (kz h);have d:∀q∈[p],GP q:=λq f=>aj;rcases a:sh _ 0 _ with _|l;.rw[a]at e1;refine aK func71 ?_;simp only[xH]at e1;simp only[f71,qA];simp only[go_sem,e1];rfl
 rw[a]at e1;obtain⟨c,e⟩:=Rm _ _ _ _ a d aO aO;simp only[xH,sC c]at e1;exact aKj p b l (Rn _ _ _ _ a d ae ae) c e e1
def sG(p:ab):bm×Int:=bif ai p.hM 0 then(match sh 258 0 [p]with|none=>(zA,17)|some l=>bif ao 2048 (.ofNat (qD l l 0 ([],[])).2.length)then(zA,17)else(⟨(hO p).1,(hO p).2.1,⟨V,(qD l l 0 ([],[])).1⟩,⟨V,(qD l l 0 ([],[])).2⟩⟩,0))else(zA,p.hM)
theorem am2(p:ab)(h:fY p):(∃l,l≠[]/\Ky p=.val (.tp [(.agg (sG p).1.cells,.no),(.ay (ab.aN l) 32 14,.ex 32),iO (sG p).2]) .empty)\/Ky p=.val (.tp [(.agg (sG p).1.cells,.no),(.nl,.any),iO (sG p).2]) .empty:=by grind[Ky,sG,sh,EJ,kz,Rm,Ht]
theorem aqX(p:ab)(a:fY p):CC 30 [.agg p.cells] (.val (.tp [(.agg (sG p).1.cells,.no),iO (sG p).2]) .empty):=by
 have e1:=arH p a;rcases am2 p a with⟨l,c,h⟩|h;.rw[h]at e1;refine aK func30 ?_;simp only[f30];have b:=ab.qX l;simp only[go_sem,e1,b,bm.cells]
 .rw[h]at e1;refine aK func30 ?_;simp only[f30];simp only[go_sem,e1,bm.cells]
theorem aKa(q R r E v p t d)(W:ab.aR r<=89)(Y:qC q r.length=V)(K:∀x∈r,CC 189 [.agg x.cells] (.val (dz ((dR x).map Guard.d) 96 11) .empty)):CC 189 [.agg (ab.mk q R r E v p t d).cells] (.val (dz ((dR (.mk q R r E v p t d)).map Guard.d) 96 11) .empty):=by
 have H:=ab.ji r;have A:ai q 0=C->∃a l,r=a::l:=λh0=>by cases r<;>grind[Kr]
 have w:∀k:Int,ai k 0=C->ai q k=V->ai q 0=C:=λk hk h=>by grind[kz]
 refine aK func189 ?_;simp only[f189];simp only[go_sem,ab.cells,dR];have M:∀a l,r=a::l->(dR a=[]/\CC 189 [.agg a.cells] (.val (.dv .nl .any) .empty))\/(dR a≠[]/\CC 189 [.agg a.cells] (.val (.dv (.ay ((dR a).map Guard.d) 96 11) (.ex 96)) .empty)):=by
  intro a l h;have:=K a aP;rcases fu (dR a=[])with c|c;.rw[c]at this;exact .inl ⟨c,this⟩
  grind[eE]
 cases G:ai q 9 with|true=>
  obtain rfl:=kz G;obtain⟨a,l,rfl⟩:=A rfl;have L:ai 9 1=C:=rfl;have N:ai 9 8=C:=rfl;have O:ai 9 3=C:=rfl;have Q:ai 9 9=V:=rfl;have U:=zZ a;simp only[ab.aR]at W;have m:iM 96 11 112 (.ay [Guard.d ⟨p,E,v,d⟩] 96 11) (.ex 96) ((dR a).map Guard.d)=J (.ay ([Guard.d ⟨p,E,v,d⟩]++(dR a).map Guard.d) 96 11,.ex 96):=Og aj;have z:(((dR a).map Guard.d).all λy=>decide (y.flat.length=11))=V:=Pm _;simp only[go_sem]at m;rcases M a l rfl with⟨c,e1⟩|⟨c,e1⟩;.rw[c]at m;simp only[bP,go_sem]at m;simp only[go_sem,L,N,O,Q,ab.aN,e1,nV,c]
  .simp only[go_sem,L,N,O,Q,ab.aN,e1,m,z,uB,nV]|false=>
  apply sp<;>intro h<;>simp only[h,go_sem]
  . obtain⟨a,l,rfl⟩:=A (w 1 rfl h);rcases M a l rfl with⟨c,e1⟩|⟨c,e1⟩;.simp only[go_sem,ab.aN,e1,nV,c,bP]
    .simp only[go_sem,ab.aN,e1,nV,uB,eE c]
  apply sp<;>intro F<;>simp only[F,go_sem]
  . obtain⟨a,l,rfl⟩:=A (w 8 rfl F);rcases M a l rfl with⟨c,e1⟩|⟨c,e1⟩;.simp only[go_sem,ab.aN,e1,nV,c,bP]
    .simp only[go_sem,ab.aN,e1,nV,uB,eE c]
  apply sp<;>intro T<;>simp only[T,G,go_sem]
  . have P:ai q 10=C:=by grind[kz]
    have B:ai q 7=C:=by grind[kz]
    simp only[P,B,go_sem];refine iB r ([]:List Guard) (λi s=>[(21,iS i),(3,dz (s.map Guard.d) 96 11)]) (λi l s=>.val (dz ((s++nW l).map Guard.d) 96 11) .empty) (λi l s=>s.length+ab.aR l<=400) ae rfl aj rfl (λs I=>?_) (λi x l s hi u D I g=>?_)
    . simp only[nW,fy];rcases fu (s=[])with j|j;.subst j;simp only[go_sem]
      .simp only[go_sem,eE j]
    . have e1:=K x (cI u);have g:=g (s++dR x) (by grind[zZ,ab.aR]);have U:=zZ x;simp only[ab.aR]at I;simp only[nW];rw[<-kr];have m:s≠[]->iM 96 11 112 (.ay (s.map Guard.d) 96 11) (.ex 96) ((dR x).map Guard.d)=J (.ay (s.map Guard.d++(dR x).map Guard.d) 96 11,.ex 96):=λ_=>Og aj;have z:(((dR x).map Guard.d).all λy=>decide (y.flat.length=11))=V:=Pm _;have X:=λ(h:dR x≠[])(o:aX)=>Kq (f:=Guard.d) (e:=96) (n:=11) (b:=112) (o:=o) ae ae h ae;rcases fu (s=[])with j|j<;>rcases fu (dR x=[])with c|c;.subst j;rw[c]at e1 g|-;simp only[fy,bP,go_sem]at g e1;simp only[go_sem,hi,u,D,e1,g,Kp,fy,dk]
      .subst j;simp only[dk,eE c,go_sem]at g e1;simp only[go_sem,hi,u,D,e1,z,g,X c,uB,dk]
      .rw[c]at e1 g m|-;simp only[fy,bP,eE j,go_sem]at g e1 m;simp only[go_sem,hi,u,D,e1,g,m j,eE j,fy]
      .have S:s++dR x≠[]:=aP;rw[eE S]at g;simp only[eE c,eI,go_sem]at g e1;simp only[go_sem,hi,u,D,e1,z,g,m j,uB,eE j,eI,kr]
  apply sp<;>intro P<;>simp only[P,go_sem]
  . obtain⟨a,l,rfl⟩:=A (w 10 rfl P);rcases M a l rfl with⟨c,e1⟩|⟨c,e1⟩;.simp only[go_sem,ab.aN,e1,nV,c,bP]
    .simp only[go_sem,ab.aN,e1,nV,uB,eE c]
  apply sp<;>intro B<;>simp only[B,go_sem]
  . obtain⟨a,l,rfl⟩:=A (w 7 rfl B);rcases M a l rfl with⟨c,e1⟩|⟨c,e1⟩;.simp only[go_sem,ab.aN,e1,nV,c,bP]
    .simp only[go_sem,ab.aN,e1,nV,uB,eE c]
theorem ad5:∀p:ab,tu p->p.nn<=90->CC 189 [.agg p.cells] (.val (dz ((dR p).map Guard.d) 96 11) .empty)|.mk o l args t v s a c,b,n=>by have hr:∀x∈args,CC 189 [.agg x.cells] (.val (dz ((dR x).map Guard.d) 96 11) .empty):=λx h=>ad5 x (b.yM h) (by have:=ab.lM args x h;simp only[ab.nn]at n;omega);exact aKa o l args t v s a c (by simp only[ab.nn]at n;omega) b.ar hr termination_by p=>kb p decreasing_by simp_wf;have:=jY h;omega
theorem apT(p:ab)(b:fY p):CC 120 [.agg p.cells] (.val (.tp [iV ((bif ai p.fe 0 then dR p else[]).map Guard.d) 96 11,iO p.fe]) .empty):=by
 obtain⟨_,g0,a,rfl⟩:=O0 p b;refine aK func120 ?_;rcases c:ai _ 0 with _|_;.simp only[go_sem,f120,a,c,bP,oH]
 have g:=KF b (kz c);have e1:=ad5 p g.a (by have:=g.n;omega);have z:=kz c;rcases fu (dR p=[])with h|h;.rw[h]at e1|-;simp only[go_sem,f120,a,e1,bP,oH,z]
 .rw[eE h]at e1;simp only[go_sem,f120,a,e1,uB,rH h,z]
set_option maxHeartbeats 4000000
section
variable{P:aM}{t fn n I D e a m:Nat}{sl:cT}{lb:dX}{g:GH}{d:ah Tmp}{b:LB}{dd:DV}{l:aA}
theorem az7:xp P t .ref ⟨fn,n,sl,lb,g⟩ d I 0 (.box ⟨[.ay l a m],[(0,.ty e)]⟩)=(gP P .ref t ⟨[.ay l a m],[(0,.ty e)]⟩ 0).bind λr=>aJ ⟨fn,n,sl,lb,g.set I (.box r.2)⟩ d r.1:=by rfl
theorem aFI:pO .ref b D dd (.ty e)=(.dv dd .no,b):=rfl
end
attribute[go_sem]az7 aFI
theorem apR(l:aF)(g:GH):ev PP cf (.call 119 [.ay (ab.aN l) 32 14] .no g)=J (.val (.dv (.func 185 [] [.ptr g.next 0]) .no) (g.alloc (.box ⟨[.ay (ab.aN l) 32 14],[]⟩))):=by refine aK func119 ?_;simp only[go_sem,f119]
def uh(f:aF)(x:Nat×bR)(s:List Stat×bR):ah bz×(List Stat×bR):=(Z,(s.1++[⟨⟨V,dR (f.getD x.1 zP)⟩⟩],s.2++x.2))
def tw(f:aF):aF->Nat->List Stat×bR->List Stat×bR|[],_,s=>s|q::l,i,(a,es)=>tw f l (i+1) (a++[⟨⟨V,dR q⟩⟩],es++(eO q).2.1.map (nC f i (eO q).2.2))
theorem UQ(f:aF):∀(l:aF)(i:Nat)(s:List Stat×bR),f.drop i=l->bB (uh f) (pT f l i) s=(Z,tw f l i s)
 |[],_,_,_=>rfl|q::l,i,s,h=>by
  have k:f[i]?=J q:=by rw[<-Bt,h];rfl
  rw[pT,rN];show bB (uh f) (pT f l (i+1)) (uh f _ s).2=_;rw[UQ f l (i+1) _ (by rw[<-zT,h];rfl)];obtain⟨a,es⟩:=s;simp only[uh,tw,List.getD_eq_getElem?_getD,k,EA]
theorem RP(f:aF):∀(l:aF)(i:Nat),f.drop i=l->∀x∈pT f l i,∃q,f[x.1]?=J q/\x.2=(eO q).2.1.map (nC f x.1 (eO q).2.2)
 |[],_,_,x,h=>by rw[pT]at h;exact absurd h gT|q::l,i,h,x,a=>by
  have k:f[i]?=J q:=by rw[<-Bt,h];rfl
  rw[pT]at a;rcases List.mem_cons.1 a with rfl|a;.exact⟨q,k,rfl⟩
  .exact RP f l (i+1) (by rw[<-zT,h];rfl) x a
def Td(v s:Int)(x:List Stat×bR):GO:=match x.1 with|[]=>.box ⟨[iD v,iD s,.nl,.nl],[]⟩|_=>.box ⟨[iD v,iD s,.ay (x.1.map Stat.d) 60 1,.ay (x.2.map Edge.d) 64 17],[(3,.ex 64),(2,.ex 60)]⟩
structure R59(v s:Int)(full:aF)(x:List Stat×bR)(g:GH):Prop where
 a:g.get 1=J (.box ⟨[iD 0,iD 0,.nl,.nl],[]⟩)b:g.get 2=J (.box ⟨[.nl],[]⟩)d:g.get 3=J (.box ⟨[iD 0],[]⟩)l:g.get 4=J (.box ⟨[.ay (ab.aN full) 32 14],[(0,.ty 32)]⟩)m:g.get 5=J (Td v s x)c:acs g 6 full
 n:(x.1=[]->x.2=[])/\(x.1≠[]->x.2≠[])
theorem UR(f:aF):∀(l:List (Nat×bR))(s:List Stat×bR),(∀x∈l,x.2.length<=4096)->(bB (uh f) l s).2.1.length=s.1.length+l.length/\(bB (uh f) l s).2.2.length<=s.2.length+l.length*4096|[],_,_=>⟨rfl,SB _ _⟩|x::l,s,h=>by rw[rN];obtain⟨a,b⟩:=UR f l (uh f x s).2 (λy c=>h y (iL _ c));have:=h x eQ;show(bB (uh f) l (uh f x s).2).2.1.length=_/\(bB (uh f) l (uh f x s).2).2.2.length<=_;simp only[uh,db,bU,eD]at a b|-;exact⟨ae,ae⟩
theorem aad(f:aF):∀(l:aF)(i:Nat),(pT f l i).length=l.length|[],_=>rfl|q::l,i=>by rw[pT,bU,bU,aad f l (i+1)]
theorem Oz{a:List Stat}(h:a≠[]):Td v s (a,es)=.box ⟨[iD v,iD s,.ay (a.map Stat.d) 60 1,.ay (es.map Edge.d) 64 17],[(3,.ex 64),(2,.ex 60)]⟩:=by
 cases a;.grind
 rfl
theorem acy:Td v s ([],es)=.box ⟨[iD v,iD s,.nl,.nl],[]⟩:=rfl
theorem atl(l:bR):((l.map Edge.d).all λy=>decide (y.flat.length=17))=V:=by simp[DV.flat,Edge.d,Edge.eN]
theorem aKi(p:ab)(hp:fY p)(u:aF)(hn:u≠[])(d:u.length<=256)(B:∀q∈u,GP q/\(eO q).1=0)(hc:ai p.hM 0=V)(e1:CC 118 [.agg p.cells] (.val (.tp [(.ay (ab.aN u) 32 14,.ex 32),iO 0]) .empty)):Sat (ev PP cf (.call 59 [.agg p.cells] .no .empty)) λv _=>∃w:DV×aX,w.1.pure=V/\v=.tp [(.agg (bif ao 2048 (.ofNat (tw u u 0 ([],[])).2.length)then zA else⟨(hO p).1,(hO p).2.1,⟨V,(tw u u 0 ([],[])).1⟩,⟨V,(tw u u 0 ([],[])).2⟩⟩).cells,.no),w,iO (bif ao 2048 (.ofNat (tw u u 0 ([],[])).2.length)then 17 else 0)]:=by
 have e2:=adI p hp;have e3:=apR u;have q0:ai 0 0=V:=rfl;have hz:(hO p).2.2=0:=by unfold hO;rw[hc];rfl
 rw[hz]at e2;have p2:cF (ab.aN u)=V:=ab.qX u;refine kp func59 ?_;simp only[f59,qA];have r32:dB [(0,.ex 32)] 0 1=[]:=rfl;simp only[go_sem,e1,e2,p2,q0,r32,e3];refine yX (ayi u 6 d B) (uh u) (λ_ x g=>R59 (hO p).1 (hO p).2.1 u x g) ([],[]) (λm=>rfl) rfl ⟨rfl,rfl,rfl,rfl,rfl,⟨rfl,by show 6<7;decide⟩,λ_=>rfl,λh=>absurd rfl h⟩ (λc s g' h=>h.c) (λc s g3 g4 h d=>⟨(d.2 1 (by show 1<7;decide)).trans h.a,(d.2 2 (by show 2<7;decide)).trans h.b,(d.2 3 (by show 3<7;decide)).trans h.d,(d.2 4 (by show 4<7;decide)).trans h.l,(d.2 5 (by show 5<7;decide)).trans h.m,⟨(d.2 6 (by show 6<7;decide)).trans h.c.1,fj h.c.2 d.1⟩,h.n⟩) (λx s g2 hx R hN X=>?_) (λg2 R hN=>?_)
 . obtain⟨r1,r2,K,L,r,⟨r6,r7⟩,r8,F⟩:=R;refine ze X rfl ?_;simp only at hN X;obtain⟨z,E⟩:=s;obtain⟨j,es⟩:=x;have oU:=hx.mem;have hj:=RP u u 0 (wJ) _ oU;simp only at hj;obtain⟨q,D,oR⟩:=hj;have H:=(B q (cI D)).1;have e4:=apT q H.o;rw[H.r,show ai 0 0=V from rfl,aL]at e4;have d1:=aJi;simp only[bq,opsOf,f59,qA,go_sem]at d1;have oS:(j<u.length)=True:=ki (List.getElem?_eq_some_iff.1 D).1;have hb:=CU H;have M:es≠[]:=by rw[oR];have:=adv H (B q (cI D)).2;simpa using this
   have aMQ:es.length<=4096:=by rw[oR,dU];exact hb.2.2
   have hlen:z.length<=256/\E.length<=256*4096:=by obtain⟨pre,post,A,T⟩:=hx;have:=UR u pre ([],[]) (λy a=>by obtain⟨Y,k1,k2⟩:=RP u u 0 (wJ) y (by rw[A];exact zQ _ a);rw[k2,dU];exact(CU (B Y (cI k1)).1).2.2);rw[T]at this;have jd:=fH List.length A;rw[db,aad]at jd;simp only[eD]at this;have:pre.length*4096<=256*4096:=ph ae (bo _);omega
   have AD:(z.length<1200000)=True:=ki ae;have S:=Kq (f:=Edge.d) (e:=64) (n:=17) (b:=240) (l:=es) (o:=.any) gD gD M ae;have U:iM 64 17 240 (.ay (E.map Edge.d) 64 17) (.ex 64) (es.map Edge.d)=J (.ay (E.map Edge.d++es.map Edge.d) 64 17,.ex 64):=wN gD (by rw[dU,dU];unfold bF;omega) (by rw[dU,dU];unfold bF;omega);have W:=atl es;have uJ:u.getD j zP=q:=by rw[List.getD_eq_getElem?_getD,D];rfl
   have N:dB [(2,.ex 60)] 3 1=[(2,.ex 60)]:=rfl;have O:dB [(3,.ex 64),(2,.ex 60)] 2 1=[(3,.ex 64)]:=rfl;have P:dB [(3,.ex 64)] 3 1=[]:=rfl;have dd4:dB [(3,.ex 64)] 2 1=[(3,.ex 64)]:=rfl;have dd5:dB [(2,.ex 60)] 2 1=[]:=rfl;have dd6:dB [(3,.ex 64),(2,.ex 60)] 3 1=[(2,.ex 60)]:=rfl;have dd7:dB [] 3 1=[]:=rfl;have Q:dB [] 2 1=[]:=rfl;simp only at r8 F;rcases fu (z=[])with i|i<;>rcases fu (dR q=[])with a|a;case' inl.inl=>rw[i,acy]at r
   case' inl.inr=>rw[i,acy]at r
   case' inr.inl=>rw[Oz i]at r
   case' inr.inr=>rw[Oz i]at r
   case' inl.inl=>simp only[a,bP,oH]at e4
   case' inr.inl=>simp only[a,bP,oH]at e4
   case' inl.inr=>simp only[rH a]at e4
   case' inr.inr=>simp only[rH a]at e4
   all_goals simp only[go_sem,X,L,r,D,e4,d1,uB,S,U,W,AD,dU,N,O,P,Q]
   all_goals
   have bG:(uh u (j,es) (z,E)).2=(z++[⟨⟨V,dR q⟩⟩],E++es):=by unfold uh;simp only[uJ]
   rw[bG];refine⟨rfl,⟨?_,?_,?_,?_,?_,⟨?_,?_⟩,λh=>absurd h aO,λ_=>by simp[M]⟩,gF,rfl⟩;.simp only[go_sem,r1]
   .simp only[go_sem,r2]
   .simp only[go_sem,K]
   .simp only[go_sem,L]
   . rw[Oz aO];first|have hG:=vY (f:=Guard.d) (e:=96) (n:=11) a|have hG:cp V ((dR q).map Guard.d) 96 11=.nl:=by rw[a];rfl
     first|have I:=r8 i|have I:=M
     simp only[go_sem,r,eI,de,bP,Stat.d,pC,hG,i,I]
   .simp only[go_sem,r6]
   .simp only[dW];exact r7
 . rw[UQ u u 0 _ (wJ)]at R|-;obtain⟨r1,r2,K,L,r,⟨r6,r7⟩,r8,F⟩:=R;have G:(tw u u 0 ([],[])).1≠[]:=by have A:=UR u (pT u u 0) ([],[]) (λy a=>by obtain⟨Y,k1,k2⟩:=RP u u 0 (wJ) y a;rw[k2,dU];exact(CU (B Y (cI k1)).1).2.2);rw[UQ u u 0 _ (wJ)]at A;intro h0;have T:=A.1;simp only[h0,eD,aad]at T;exact hn (Eu ae)
   simp only at r F;generalize tw u u 0 ([],[])=x at*;obtain⟨z,E⟩:=x;simp only at G F;have I:=F G;rw[Oz G]at r;have b1:=aGP;have b2:=aG5;simp only[bq,opsOf,f59,qA,go_sem]at b1 b2;simp only[go_sem,r];apply eC<;>intro h<;>simp only[h,go_sem,r1,r2,K];.exact⟨(.nl,.any),rfl,rfl⟩
   .refine Rx [()] [] b2 b1 rfl ?_;simp only[go_sem,r1,r2,K,L,r];exact⟨(.ay (ab.aN u) 32 14,.ty 32),p2,by rw[vY G,vY I]⟩
theorem SK:∀(l o:aF),∃s,pq l o=o++s|[],o=>⟨[],(fy o).symm⟩|r::l,o=>by rw[pq];cases ao (fD r.same o 0) 0 with|true=>obtain⟨s,h⟩:=SK l (o++[r]);exact⟨r::s,by rw[aL,h];simp⟩|false=>exact SK l o
theorem ZR:∀(f i:Nat)(o l:aF),u7 f i o=J l->(∀q∈o,GP q)->i<=o.length->(∀j q,j<i->o[j]?=J q->(eO q).1=0)->∀q∈l,GP q/\(eO q).1=0|0,_,_,_,h,_,_,_=>by cases h|f+1,i,o,l,h,g,hi,hd=>by rw[u7]at h;cases a:o[i]? with|none=>rw[a]at h;cases h;intro q m;refine⟨g q m,?_⟩;obtain⟨j,c,rfl⟩:=List.getElem_of_mem m;have:=List.getElem?_eq_none_iff.1 a;exact hd j _ ae (eZ c)|some q=>rw[a]at h;simp only at h;have n:=g q (cI a);cases e:ai (eO q).1 0 with|false=>rw[e]at h;cases h|true=>rw[e,aL]at h;cases d:ao 256 (.ofNat (pq (eO q).2.2 o).length)with|true=>rw[d]at h;cases h|false=>
 rw[d,bg]at h;obtain⟨d1,_,_⟩:=CU n;obtain⟨k,_,r⟩:=Kk _ o d1 g;obtain⟨s,p⟩:=SK (eO q).2.2 o;have y:=(List.getElem?_eq_some_iff.1 a).1;refine ZR f (i+1) _ l h k ae (λj z c b=>?_);rw[p,oF ae]at b;by_cases B:j<i;.exact hd j z B b
 .have:j=i:=ae;subst this;rw[a]at b;cases b;exact kz e
theorem ajz:∀(f i:Nat)(o l:aF),u7 f i o=J l->(∀q∈o,GP q)->o≠[]->o.length<=256->l≠[]/\l.length<=256|0,_,_,_,h,_,_,_=>by cases h|f+1,i,o,l,h,g,n,k=>by rw[u7]at h;cases a:o[i]? with|none=>rw[a]at h;cases h;exact⟨n,k⟩|some q=>rw[a]at h;simp only at h;cases e:ai (eO q).1 0 with|false=>rw[e]at h;cases h|true=>rw[e,aL]at h;cases j:ao 256 (.ofNat (pq (eO q).2.2 o).length)with|true=>rw[j]at h;cases h|false=>rw[j,bg]at h;obtain⟨d1,_,_⟩:=CU (g q (cI a));obtain⟨c,_,b⟩:=Kk _ o d1 g;refine ajz f (i+1) _ l h c (λd=>n (Eu (by rw[d]at b;simpa using b))) ?_;rw[eP]at j;have:=I5 j;simp only[wH]at this;omega
def vz(p:ab):bm×Int:=bif ai p.hM 0 then(match u7 258 0 [p]with|none=>(zA,17)|some l=>bif ao 2048 (.ofNat (tw l l 0 ([],[])).2.length)then(zA,17)else(⟨(hO p).1,(hO p).2.1,⟨V,(tw l l 0 ([],[])).1⟩,⟨V,(tw l l 0 ([],[])).2⟩⟩,0))else(zA,p.hM)
theorem arz(p:ab)(b:fY p):Sat (ev PP cf (.call 59 [.agg p.cells] .no .empty)) λv _=>∃w:DV×aX,w.1.pure=V/\v=.tp [(.agg (vz p).1.cells,.no),w,iO (vz p).2]:=by
 have e1:=apQ p b;unfold vz;rcases h:ai p.hM 0 with _|_;.rw[h,bg]at e1;refine kp func59 ?_;simp only[f59,qA];simp only[go_sem,e1,h];exact⟨(.nl,.any),rfl,rfl⟩
 rw[h,aL]at e1;have g:=EJ b (kz h);have d:∀q∈[p],GP q:=λq n=>aj;rw[aL];rcases a:u7 258 0 [p]with _|l;.rw[a]at e1;simp only[xH]at e1;have X:ai 17 0=C:=rfl;refine kp func59 ?_;simp only[f59,qA];simp only[go_sem,e1,X];exact⟨(.nl,.any),rfl,rfl⟩
 rw[a]at e1;obtain⟨c,i⟩:=ajz _ _ _ _ a d aO aO;simp only[xH,sC c]at e1;obtain⟨v,f,e,w,k,rfl⟩:=aKi p b l c i (ZR _ _ _ _ a d (kH _) (λj q m=>ae)) h e1;refine⟨_,f,e,w,k,?_⟩;grind
theorem aqQ(p:ab)(h:fY p):Sat (ev PP cf (.call 27 [.agg p.cells] .no .empty)) λv _=>v=.tp [(.agg (vz p).1.cells,.no),iO (vz p).2]:=by obtain⟨_,g1,e1,w,a,rfl⟩:=arz p h;refine kp func27 ?_;simp only[f27];simp only[go_sem,e1,a,bm.cells]
mutual
def Expr.nf : Expr -> Expr
  | .mk op _ args var c n k num str => .mk op V (Expr.fK args) var c n k num str
def Expr.fK : List Expr -> List Expr
  | [] => []
  | a :: l => a.nf :: Expr.fK l
end
theorem mR{a b:Int}:ai a b=V↔a=b:=by simp[kO]
theorem aGH{a b:Int}{s:an}{c d:Int}{e:an}:DZ a b s c d e=V↔a=c/\b=d/\s=e:=by grind[DZ,mR]
mutual
theorem Expr.pc : ∀ e d : Expr, e.same d = V ↔ e.nf = d.nf
  | .mk o l args v G n k num str, .mk r x m i q W O A B => by
    simp only [Expr.same, Expr.nf, iC, mR, aGH, Expr.Nr args m, Expr.mk.injEq, true_and]
    constructor
    · rintro ⟨a, b, c, d, ⟨e, f, g⟩, h⟩; exact ⟨a, h, b, c, d, e, f, g⟩
    · rintro ⟨a, h, b, c, d, e, f, g⟩; exact ⟨a, b, c, d, ⟨e, f, g⟩, h⟩
theorem Expr.Nr : ∀ e d : List Expr, Expr.pP e d = V ↔ Expr.fK e = Expr.fK d
  | [], [] => by simp [Expr.pP, Expr.fK]
  | a :: l, b :: m => by
    simp only [Expr.pP, Expr.fK, iC, Expr.pc a b, Expr.Nr l m, Sx]
  | [], _ :: _ => by simp [Expr.pP, Expr.fK]
  | _ :: _, [] => by simp [Expr.pP, Expr.fK]
end
mutual
def ab.nf : ab -> ab
  | .mk op _ args ty var scope s cond => .mk op V (ab.fK args) ty var scope s cond.nf
def ab.fK : aF -> aF
  | [] => []
  | a :: l => a.nf :: ab.fK l
end
mutual
theorem ab.pc : ∀ e d : ab, e.same d = V ↔ e.nf = d.nf
  | .mk i l args t v s p o, .mk r u m w n h x H => by
    simp only [ab.same, ab.nf, iC, mR, Expr.pc, ab.Nr args m, ab.mk.injEq, true_and]
    constructor
    · rintro ⟨a, b, c, d, e, f, g⟩; exact ⟨a, g, b, c, d, e, f⟩
    · rintro ⟨a, g, b, c, d, e, f⟩; exact ⟨a, b, c, d, e, f, g⟩
theorem ab.Nr : ∀ e d : aF, ab.pP e d = V ↔ ab.fK e = ab.fK d
  | [], [] => by simp [ab.pP, ab.fK]
  | a :: l, b :: m => by
    simp only [ab.pP, ab.fK, iC, ab.pc a b, ab.Nr l m, Sx]
  | [], _ :: _ => by simp [ab.pP, ab.fK]
  | _ :: _, [] => by simp [ab.pP, ab.fK]
end
theorem Expr.AY:∀l:List Expr,Expr.fK l=l.map Expr.nf|[]=>rfl|a::l=>by rw[Expr.fK,Expr.AY l];rfl
theorem ab.AY:∀l:aF,ab.fK l=l.map ab.nf|[]=>rfl|a::l=>by rw[ab.fK,ab.AY l];rfl
theorem CK{d e:Type}{q:d->d->Bool}{f:d->e}(h:∀a b,q a b=V↔f a=f b):∀s c:List d,fM q s c=V↔s.map f=c.map f|[],[]=>by simp[fM]|x::s,y::c=>by have:=CK h s c;simp only[fM,de,Sx,<-h,<-this];cases q x y<;>simp|[],_::_=>by simp[fM]|_::_,[]=>by simp[fM]
theorem aGD{a b:fU}:za a b=V↔a=b:=by obtain⟨x,y⟩:=a;obtain⟨z,w⟩:=b;simp[za,mR]
structure EK where
 var:Int
 ty:Int
 cond:Expr
 opens:bT
 gK:bT
 gC:List Expr
 fx:List fU
 inside:bT
def Edge.k(e:Edge):EK:=⟨e.var,e.ty,e.cond.nf,e.opens.l,e.gK.l,e.gC.l.map Expr.nf,e.fx.l,e.inside.l⟩
theorem Edge.pc(e d:Edge):e.same d=V↔e.k=d.k:=by
 have hi:∀x y,fM ai x y=V↔x=y:=λx y=>by have:=CK (f:=id) (λa b=>mR) x y;simp_all
 have h:∀x y,fM za x y=V↔x=y:=λx y=>by have:=CK (f:=id) (λa b=>aGD) x y;simp_all
 grind[Edge.same,Edge.k,mR,Expr.pc,CK]
abbrev PK:=Bool×EK×ab
def Pr.k(x:Pr):PK:=(x.done,x.bw.k,x.rest.nf)
theorem ajJ(x y:Pr):Bb x y=V↔x.k=y.k:=by simp[Bb,Pr.k,Edge.pc,ab.pc]
theorem Guard.pc(x y:Guard):x.same y=V↔(x.scope,x.ty,x.var,x.cond.nf)=(y.scope,y.ty,y.var,y.cond.nf):=by simp[Guard.same,mR,Expr.pc]
open Classical in def dd{a:Type}(o l:List a):List a:=l.foldl (λo x=>if x∈o then o else o++[x]) o
section
variable{β:Type}
open Classical in theorem tx{o l:List α}(h:x∈o):dd o (x::l)=dd o l:=by show List.foldl _ (ite _ _ _) l=_;rw[if_pos h];rfl
open Classical in theorem tz{o l:List α}(h:x∉o):dd o (x::l)=dd (o++[x]) l:=by show List.foldl _ (ite _ _ _) l=_;rw[if_neg h];rfl
theorem HD(o a b:List α):dd o (a++b)=dd (dd o a) b:=List.foldl_append
theorem KO:∀(l o:List α),∀x∈o,x∈dd o l
 |[],_,_,h=>h|y::l,o,x,h=>by
  by_cases a:y∈o;.rw[tx a];exact KO l o x h
  .rw[tz a];exact KO l _ x (zQ _ h)
theorem ON:∀(l o:List α),∀x∈l,x∈dd o l
 |y::l,o,x,h=>by
  rcases List.mem_cons.1 h with rfl|h
  . by_cases a:x∈o;.rw[tx a];exact KO l o x a
    .rw[tz a];exact KO l _ x aO
  . by_cases a:y∈o;.rw[tx a];exact ON l o x h
    .rw[tz a];exact ON l _ x h
theorem adr:∀(l o:List α),(∀x∈l,x∈o)->dd o l=o|[],_,_=>rfl|y::l,o,h=>by rw[tx (h y eQ)];exact adr l o λx a=>h x (iL _ a)
theorem TA(F:α->List β):∀(L s:List α)(o:List β),(∀y∈s,∀z∈F y,z∈o)->∃t,dd s L=s++t/\dd o (t.flatMap F)=dd o (L.flatMap F)
 |[],s,o,_=>⟨[],by rw[fy];rfl,rfl⟩|x::L,s,o,h=>by
  by_cases d:x∈s;.obtain⟨t,b,c⟩:=TA F L s o h;refine⟨t,by rw[tx d,b],?_⟩;rw[vu,HD,adr _ _ (h x d),c]
  .obtain⟨t,b,c⟩:=TA F L (s++[x]) (dd o (F x)) (λy a z e=>by
  rcases List.mem_append.1 a with a|a;.exact KO _ _ _ (h y a z e)
  .rw[List.mem_singleton.1 a]at e;exact ON _ _ _ e);refine⟨x::t,by rw[tz d,b,kr];rfl,?_⟩;rw[vu,vu,HD,HD,c]
theorem TB(F:α->List β)(L:List α)(o:List β):dd o ((dd [] L).flatMap F)=dd o (L.flatMap F):=by obtain⟨t,a,b⟩:=TA F L [] o (λy h=>absurd h gT);grind
end
theorem aba:∀(s o:List Pr),(mi o s).map Pr.k=dd (o.map Pr.k) (s.map Pr.k)
 |[],_=>rfl|x::s,o=>by
  rw[aa9,aba s];have:(o.any λy=>Bb y x)=V↔x.k∈o.map Pr.k:=by
   rw[List.any_eq_true,List.mem_map];constructor;.rintro⟨y,b,a⟩;exact⟨y,b,(ajJ y x).1 a⟩
   .rintro⟨y,b,a⟩;exact⟨y,b,(ajJ y x).2 a⟩
  rw[de,sw];cases h:(o.any λy=>Bb y x);.rw[tz (λa=>by rw[this.2 a]at h;exact mK h),bg,eI];rfl
  .rw[tx (this.1 h),aL]
def Ns(k:Int):aF->ab|[p]=>p|l=>.mk k V l 0 0 0 0 zE.nf
theorem ZW(n:Bool)(k:Int):∀l:aF,(kq n k l).nf=Ns k (l.map ab.nf)|[]=>rfl|[p]=>rfl|p::q::l=>by simp only[kq,ab.nf,ab.AY,de,Ns]
def adg(x:PK)(l:aF):PK:=match l with|[]=>x|l=>(C,x.2.1,bif x.1 then Ns 1 l else Ns 1 (x.2.2::l))
theorem aor(x:Pr)(n:Bool)(l:aF):(kg x n l).k=adg x.k (l.map ab.nf):=by
 rcases l with _|⟨a,l⟩;.rfl
 obtain⟨e,d,r⟩:=x;cases d;.show(C,e.k,(kq n 1 (r::a::l)).nf)=_;rw[ZW];rfl
 .show(C,e.k,(kq n 1 _).nf)=_;rw[ZW];rfl
def Ri(p:ab)(x:PK):List PK:=bif x.1 then[x,(C,x.2.1,.mk 4 V [p] 0 0 0 0 zE.nf)]else[(C,x.2.1,.mk 8 V [x.2.2,p] 0 0 0 0 zE.nf)]
theorem ajl(p:ab)(x:Pr):(rZ p x).map Pr.k=Ri p.nf x.k:=by obtain⟨e,d,r⟩:=x;cases d<;>rfl
theorem aFQ(p a:ab)(x:Pr)(h:p.nf=.mk 4 V [a.nf] 0 0 0 0 zE.nf):(tY p a x).map Pr.k=Ri a.nf x.k:=by
 obtain⟨e,d,r⟩:=x;cases d;.rfl
 .show[_,(C,e.k,p.nf)]=_;rw[h];rfl
def SI(e:EK)(c:Expr):EK:={e with gC:=e.gC++[c]}
def WD(k:Int)(p q:ab):ab:=match p with|.mk _ _ _ ty var scope s cond=>.mk k V [q] ty var scope s cond
theorem ah7(k:Int)(p q:ab):(jU k p q).nf=WD k p.nf q.nf:=by cases p;rfl
def akD(x:PK)(p:ab)(c:Expr):PK:=bif x.1 then(V,SI x.2.1 c,zP.nf)else(C,x.2.1,WD 7 p x.2.2)
theorem aLq(x:Pr)(p:ab)(c:Expr):(Bk x p c).k=akD x.k p.nf c.nf:=by
 obtain⟨e,d,r⟩:=x;cases d;.show(C,e.k,(jU 7 p r).nf)=_;rw[ah7];rfl
 .show(V,(Aa e c).k,zP.nf)=(V,SI e.k _,zP.nf);simp[Aa,Edge.k,SI]
def Wa(e:EK)(n o d:Bool)(s p:Int):EK:={e with opens:=bif o then s::e.opens else e.opens,gK:=bif d then e.gK++[s]else e.gK,fx:=bif n then e.fx else⟨s,p⟩::e.fx,inside:=bif n then s::e.inside else e.inside}
theorem ahh(e:Edge)(n o d:Bool)(s p:Int):(mZ e n o d s p).k=Wa e.k n o d s p:=by cases n<;>cases o<;>cases d<;>rfl
def ajP(x:PK)(o s a:Int)(p:ab):PK:=bif x.1 then(V,Wa x.2.1 (jA o) (bif ai o 5 then V else ai o 6) x.1 s a,zP.nf)else(C,Wa x.2.1 (jA o) (bif ai o 5 then V else ai o 6) x.1 s a,WD (bif jA o then 9 else 10) p x.2.2)
theorem aG0(x:Pr)(o s a:Int)(p:ab):(ud x o s a p).k=ajP x.k o s a p.nf:=by
 obtain⟨e,d,r⟩:=x;cases d;.show(C,(mZ e _ _ _ _ _).k,(jU _ p r).nf)=_;rw[ahh,ah7];rfl
 .show(V,(mZ e _ _ _ _ _).k,_)=_;rw[ahh];rfl
def V6(x:PK)(f:aF)(k:Nat):PK:=(C,x.2.1,Ns 3 (f.take k++((bif x.1 then[]else[x.2.2])++f.drop (k+1))))
theorem ayq(x:Pr)(f:aF)(k:Nat):(FI x f k).k=V6 x.k (f.map ab.nf) k:=by obtain⟨e,d,r⟩:=x;show(C,e.k,(kq _ 3 _).nf)=_;grind[ZW,FH,V6,List.map_take,List.map_drop,Pr.k]
def Qo(a:Bool)(f:aF)(k:Nat)(x:PK):PK:=bif a then V6 x f k else x
theorem ag8(a:Bool)(f:aF)(k:Nat)(x:Pr):(lu a f k x).k=Qo a (f.map ab.nf) k x.k:=by
 cases a;.rfl
 .exact ayq x _ k
def QS:ab->PK->List PK|.mk o n args t v s p c,x=>bif ai o 1 then[adg x (args.drop 1)]else bif ai o 4 then Ri (rO args) x else bif ai o 8 then Ri (rO (args.drop 1)) x else bif ai o 7 then[akD x (.mk o n args t v s p c) c]else[ajP x o s p (.mk o n args t v s p c)]
theorem avM(l:aF):(rO l).nf=rO (l.map ab.nf):=by cases l<;>rfl
theorem aim(p:ab)(x:Pr):(kD p x).map Pr.k=QS p.nf x.k:=by obtain⟨op,nl,args,ty,var,scope,s,cond⟩:=p;grind[kD,ab.nf,ab.AY,QS,aG0,aLq,ajl,avM,List.map_drop,aor]
theorem aCT(p:ab)(x:Pr)(h:ai p.op 4=V->p.nf=.mk 4 V [(rO p.args).nf] 0 0 0 0 zE.nf):(yR p x).map Pr.k=QS p.nf x.k:=by rw[<-aim];obtain⟨op,nl,args,ty,var,scope,s,cond⟩:=p;grind[ab.op,ab.args,yR,aFQ,mR,kD,ajl]
mutual
def Jb : ab -> List PK
  | .mk o n args t v s p c => bif ai o 0 then [(V, ⟨v, t, c, [], [], [], [], []⟩, zP.nf)] else bif ai o 2 || ai o 3 then Jc (ai o 3) args args 0 [] else dd [] ((MV args).flatMap (QS (.mk o n args t v s p c)))
def MV : aF -> List PK
  | [] => []
  | a :: _ => Jb a
def Jc (b : Bool) (f : aF) : aF -> Nat -> List PK -> List PK
  | [], _, o => o
  | a :: l, k, o => Jc b f l (k + 1) (dd o ((Jb a).map (Qo b f k)))
end
theorem ahF{a b c:Type}(k:α->a)(f:α->List b)(h:b->c)(F:a->List c)(e:∀x,(f x).map h=F (k x))(l:List α):(l.flatMap f).map h=(l.map k).flatMap F:=by grind[List.flatMap_map]
mutual
theorem Xb : ∀ p : ab, (eM p).map Pr.k = Jb p.nf
  | .mk o n args t v s a c => by
    have b := aiM (ai o 3) args args 0 []
    have d := aEx args
    have h := ahF Pr.k _ Pr.k _ (aim (.mk o n args t v s a c)) (wa args)
    simp only [ab.nf, ab.AY] at h
    simp only [eM, ab.nf, ab.AY, Jb]
    cases ai o 0
    · cases (ai o 2 || ai o 3)
      · simp only [bg, aba, bP, h, d]
      · simp only [bg, aL, b, bP]
    · rfl
theorem aEx : ∀ l : aF, (wa l).map Pr.k = MV (l.map ab.nf)
  | [] => rfl
  | a :: l => by rw [wa, de, MV, Xb a]
theorem aiM (b : Bool) (f : aF) : ∀ (l : aF) (k : Nat) (o : List Pr), (ou b f l k o).map Pr.k = Jc b (f.map ab.nf) (l.map ab.nf) k (o.map Pr.k)
  | [], _, _ => rfl
  | a :: l, k, o => by
    rw [ou, aiM b f l, de, Jc, aba, Bw, <- Xb a, Bw]
    congr 2
    exact fH (λ g => (eM a).map g) (funext λ x => ag8 b f k x)
end
def SE(p:ab):Prop:=∀q∈nodes p,ai q.op 4=V->q.nf=.mk 4 V [(rO q.args).nf] 0 0 0 0 zE.nf
def SF(l:aF):Prop:=∀q∈dL l,ai q.op 4=V->q.nf=.mk 4 V [(rO q.args).nf] 0 0 0 0 zE.nf
theorem aoQ(x:α):dd [] [x]=[x]:=by rfl
mutual
theorem Xa : ∀ p : ab, SE p -> dd [] ((dF p).map Pr.k) = Jb p.nf
  | .mk o n args t v s a c, b => by
    have d : SF args := λ q g => b q (by rw [nodes]; exact iL _ g)
    have e := aiR (ai o 3) args args 0 [] d
    have f := aEv args d
    have h := ahF Pr.k _ Pr.k _ (λ x => aCT (.mk o n args t v s a c) x (b _ (by rw [nodes]; exact eQ))) (xz args)
    simp only [ab.nf, ab.AY] at h
    simp only [dF, ab.nf, ab.AY, Jb]
    cases ai o 0
    · cases (ai o 2 || ai o 3)
      · simp only [bg, h, <- f, TB]
      · simp only [bg, aL, e]
    · exact aoQ _
theorem aEv : ∀ l : aF, SF l -> dd [] ((xz l).map Pr.k) = MV (l.map ab.nf)
  | [], _ => rfl
  | a :: l, h => by
    rw [xz, de, MV]
    exact Xa a λ q b => h q (by rw [dL]; exact zQ _ b)
theorem aiR (b : Bool) (f : aF) : ∀ (l : aF) (k : Nat) (o : List PK), SF l -> dd o ((me b f l k).map Pr.k) = Jc b (f.map ab.nf) (l.map ab.nf) k o
  | [], _, _, _ => rfl
  | a :: l, k, o, h => by
    have e := Xa a λ q c => h q (by rw [dL]; exact zQ _ c)
    have i := aiR b f l (k + 1)
    rw [me, eI, HD, i _ λ q c => h q (by rw [dL]; exact J7 _ c), de, Jc, <- e]
    have d : ∀ m : List PK, m.map (Qo b (f.map ab.nf) k) = m.flatMap λ x => [Qo b (f.map ab.nf) k x] := λ m => by
      induction m with
      | nil => rfl
      | cons x m j => rw [de, vu, j]; rfl
    rw [d, TB, <- d, Bw, Bw]
    congr 2
    exact fH (λ g => (dF a).map g) (funext λ x => ag8 b f k x)
end
mutual
theorem Expr.IY : ∀ e : Expr, e.nf.nf = e.nf
  | .mk o l args v c n k num str => by simp only [Expr.nf, Expr.MA args]
theorem Expr.MA : ∀ e : List Expr, Expr.fK (Expr.fK e) = Expr.fK e
  | [] => rfl
  | a :: l => by simp only [Expr.fK, Expr.IY a, Expr.MA l]
end
theorem Expr.QK:∀e:List Expr,(Expr.fK e).length=e.length|[]=>rfl|a::l=>by simp only[Expr.fK,bU,Expr.QK l]
mutual
theorem Expr.Ch : ∀ e : Expr, e.nf.nn = e.nn
  | .mk o l args v c n k num str => by simp only [Expr.nf, Expr.nn, Expr.MB args]
theorem Expr.MB : ∀ e : List Expr, Expr.aR (Expr.fK e) = Expr.aR e
  | [] => rfl
  | a :: l => by simp only [Expr.fK, Expr.aR, Expr.Ch a, Expr.MB l]
end
mutual
theorem Expr.My : ∀ e : Expr, e.nf.dep = e.dep
  | .mk o l args v c n k num str => by simp only [Expr.nf, Expr.dep, Expr.Mz args]
theorem Expr.Mz : ∀ (e : List Expr) (d : Nat), Expr.kM (Expr.fK e) d = Expr.kM e d
  | [], _ => rfl
  | a :: l, d => by simp only [Expr.fK, Expr.kM, Expr.My a, Expr.Mz l]
end
theorem Expr.Wy:∀e:Expr,e.nf.fE=e.fE|.mk o l args v c n k num str=>by simp only[Expr.nf,Expr.fE,Expr.QK]
mutual
theorem Expr.ahT : ∀ e : Expr, e.nf.pe = e.pe
  | .mk o l args v c n k num str => by
    have h := Expr.Wy (.mk o l args v c n k num str)
    rw [Expr.nf] at h
    simp only [Expr.nf, Expr.pe, Expr.ahV args, h]
theorem Expr.ahV : ∀ (e : List Expr), Expr.vj (Expr.fK e) = Expr.vj e
  | [] => rfl
  | a :: l => by simp only [Expr.fK, Expr.vj, Expr.ahT a, Expr.ahV l]
end
theorem Expr.aBL(e:Expr):e.nf.gU=e.gU:=by simp[Expr.gU,Expr.Ch,Expr.My,Expr.ahT]
theorem Expr.aBM(e d:Expr):e.nf.same d=e.same d:=by grind[Expr.pc,Expr.IY]
mutual
theorem ab.IY : ∀ e : ab, e.nf.nf = e.nf
  | .mk o n args t v s p c => by simp only [ab.nf, ab.MA args, Expr.IY]
theorem ab.MA : ∀ e : aF, ab.fK (ab.fK e) = ab.fK e
  | [] => rfl
  | a :: l => by simp only [ab.fK, ab.IY a, ab.MA l]
end
theorem ab.QK(l:aF):(ab.fK l).length=l.length:=by simp[ab.AY]
mutual
theorem ab.Ch : ∀ e : ab, e.nf.nn = e.nn
  | .mk o n args t v s p c => by simp only [ab.nf, ab.nn, ab.MB args]
theorem ab.MB : ∀ e : aF, ab.aR (ab.fK e) = ab.aR e
  | [] => rfl
  | a :: l => by simp only [ab.fK, ab.aR, ab.Ch a, ab.MB l]
end
mutual
theorem ab.My : ∀ e : ab, e.nf.dep = e.dep
  | .mk o n args t v s p c => by simp only [ab.nf, ab.dep, ab.Mz args]
theorem ab.Mz : ∀ (e : aF) (d : Nat), ab.kM (ab.fK e) d = ab.kM e d
  | [], _ => rfl
  | a :: l, d => by simp only [ab.fK, ab.kM, ab.My a, ab.Mz l]
end
mutual
theorem ab.ahS : ∀ e : ab, nodes e.nf = (nodes e).map ab.nf
  | .mk o n args t v s p c => by simp only [ab.nf, nodes, ab.ahU args, de]
theorem ab.ahU : ∀ e : aF, dL (ab.fK e) = (dL e).map ab.nf
  | [] => rfl
  | a :: l => by simp only [ab.fK, dL, ab.ahS a, ab.ahU l, eI]
end
theorem ab.Wy:∀e:ab,e.nf.fE=e.fE|.mk o n args t v s p c=>by simp only[ab.nf,ab.fE,ab.QK,Expr.aBL,Expr.aBM]
theorem aeP:∀l:aF,tD (l.map ab.nf)=tD l|[]=>rfl|a::l=>by simp only[de,tD,ab.Wy,aeP l]
theorem an3(p:ab):p.nf.fe=p.fe:=by simp[ab.fe,ab.Ch,ab.My,ab.ahS,aeP]
theorem acL{q:ab}(h:p.nf=q.nf):p.fe=q.fe:=by grind[an3]
end Go.VM
