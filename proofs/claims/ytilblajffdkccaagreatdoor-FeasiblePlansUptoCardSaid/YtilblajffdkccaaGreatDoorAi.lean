/- Proved: what functions of the program and of the references answer (a part of the proof of FeasiblePlansUptoCardSaid, whose theorem stands in the last text), within the sizes that each theorem names. -/
import Derived.Test.YtilblajffdkccaaGreatDoorAh
open Option renaming some->J,none->Z
open Bool renaming true->V,false->C
open Bool renaming noConfusion->mK
open Go renaming TypeId->al,Value->aB,Oper->aC,Operand->aH,Program->aM,World->aT,Code->bz,FuncId->bS,Frame->cZ,lone->eT,IntKind->gZ,MapEntry->kZ
open Go.Builtin renaming zeroCells->nR,firstCells->oE,append_->s8,copy_->zF
open Go.Lib renaming compact->tb
open Go.Op renaming operands->eB,mapUpdate->rC
open Go.Proofs.Tryz renaming prog->eS
open Go.Region renaming binds->uq
open Go.stepG renaming exec->ug
open Int renaming ofNat->dI,sub->nS
open List renaming rec->kG,append->qA
open Nat renaming beq->aw,ble->bV,blt->cM,succ->eU,add->im,mul->jD
open SizeOf renaming sizeOf->kb
open UInt8 renaming toNat->nU
noncomputable section
set_option linter.all false
namespace Go.VM
open Go Go.AM Proofs.Tryz
variable{x:DV}{l:aA}{p:ab}
attribute[local congr]cC cD
set_option maxRecDepth 100000
set_option maxHeartbeats 1000000
def xR(p:ab):Prop:=(iX (nodes p)).Pairwise (.<.)
theorem aia:∀(l:aF)(x:ab),x∈l->(nodes x).Sublist (dL l)
 |[],_,h=>by simp at h|y::l,x,h=>by
  rw[dL];rcases List.mem_cons.1 h with rfl|h;.exact List.sublist_append_left _ _
  .exact(aia l x h).trans (List.sublist_append_right _ _)
theorem xR.arg{o n a t v s p c}(h:xR (.mk o n a t v s p c)){x:ab}(b:x∈a):xR x:=by refine h.sublist ?_;rw[nodes];exact(((aia _ x b).trans aP).filter _).map _
theorem aae(n:Nat)(h:n<1100000):fS .i64 (nS (.ofNat (n+1)) 1)=.ofNat n:=by grind[Bl]
theorem aJ0(n m:Nat)(h:n<1100000)(a:m<=n):fS .i64 (nS (.ofNat n) (.ofNat m))=.ofNat (n-m):=by grind[Bl]
theorem aKf(i m r t v p g e)(H:te (.mk i m r t v p g e))(P:xR (.mk i m r t v p g e))(L:LR)(u:Int)(n:Nat)(x:ab×LR)(z:(nM (.mk i m r t v p g e) L)[n]?=J x)(X:kW x.1.op=V)(U:L.1.length<1200000)(W:L.2.length<1200000)(T:∀q,q∈r->∀(L:LR)(u:Int)(n:Nat),(nM q L)[n]?=J x->L.1.length<1200000->L.2.length<1200000->CC 262 [.agg q.cells,iD (.ofNat n),ly L u] (.val (.dv (pM x.1 x.2).d .no) .empty)):CC 262 [.agg (ab.mk i m r t v p g e).cells,iD (.ofNat n),ly L u] (.val (.dv (pM x.1 x.2).d .no) .empty):=by
 have hr:ab.mk i m r t v p g e∈nodes (.mk i m r t v p g e):=by simp[nodes]
 have d1:=aIR;have d2:=aIQ;simp only[bq,opsOf,f262,go_sem]at d1 d2;have yC:n<(nM (.mk i m r t v p g e) L).length:=(List.getElem?_eq_some_iff.1 z).1;rw[Dy]at yC;have hpa:=H.a;refine aK func262 ?_;cases n with|zero=>rw[nM]at z;simp only[List.getElem?_cons_zero,xU]at z;subst z;have e1:=aq8 i m r t v p g e L u H.toBB P U W (λh=>H.e _ hr X h) X;generalize pM _ L=y at e1|-;obtain⟨us,si,f⟩:=y;simp only[go_sem,ab.cells,iU.d,ly]at e1;simp only[go_sem,f262,ab.cells,ly,e1,iU.d]|succ n=>
 rw[nM]at z;simp only[J6]at z;have F:=aae n ae;have e0:ai (.ofNat (n+1)) 0=C:=rfl;simp only[go_sem,f262,ab.cells,ly,F,e0];generalize hy:pM x.1 x.2=y at T|-;obtain⟨us,si,f⟩:=y;refine IQ r ((L,u,n):LR×Int×Nat) (λk s=>⟨262,67,[(6,.lp 6 0),(5,.lp 5 0),(1,iS s.2.2),(7,iS k),(3,.lp 3 0)],[(6,⟨[.nl,.nl,iD 0],[]⟩),(5,⟨[cp V (s.1.1.map iD) 3 1,cp V (s.1.2.map iD) 3 1,iD s.2.1],[]⟩),(3,⟨.int .i64 i::cp m (ab.aN r) 32 14::.int .i64 t::.int .i64 v::.int .i64 p::.int .i64 g::e.cells,[]⟩)],.empty⟩) (λ_ _ _=>.val (.dv (iU.d ⟨us,si,f⟩) .no) .empty) (λ_ l s=>(xq i l s.1)[s.2.2]?=J x/\s.2.2<1100000/\s.1.1.length<1200000/\s.1.2.length<1200000) (by grind[ab.ji,ab.nn]) rfl ⟨z,aj,U,W⟩ rfl (λs P=>?_) (λk q l s Q K Y hS ih=>?_);.grind[xq]
 .obtain⟨⟨D,E⟩,u,j⟩:=s;obtain⟨a,b,c,d⟩:=hS;have N:=cI K;have R:=H.arg N;have A:=R.a;have CW:=yi q ae;simp only[xq]at a;cases w:ao (.ofNat j) (.ofNat q.nn)with
 |true=>
 have M:j<q.nn:=by rw[eP,mw]at w;simp only[wH]at w;omega
 rw[oF (by rw[Dy];omega)]at a;have hr:=T q N (D,E) u j a c d;have M:=ki M;simp only[go_sem,ly,iU.d]at hr;simp only[go_sem,Q,K,CW,rW,w,d1,hr,iU.d]|false=>
 have M:¬j<q.nn:=by rw[eP,EN]at w;simp only[wH]at w;omega
 rw[oG (by rw[Dy];omega),Dy]at a;have F:=aJ0 j q.nn b ae;have aMZ:=bW M;cases G:ai i 1 with|true=>have I:xR q:=P.arg N;have hc:iX (nodes q)=iF q:=(Tk (Ov R.c) I).symm;have O:=Uj q A I;rw[hc]at O;obtain⟨ob,eb⟩:=N9 ((iF q).map iD);rw[eb]at O;obtain⟨o,S⟩:=O2 q A;obtain⟨o1,u1⟩:=NM D (iF q) c (by have:=CR (iX (nodes q));unfold iF;omega);obtain⟨o2,u2⟩:=NM E q.gW d (by have:=MI q;omega);have B:=ih ((ja D (iF q),ja E q.gW),-1,j-q.nn) ⟨by rw[G]at a;exact a,by show j-q.nn<1100000;have:j<1100000:=b;omega,NO _ _,NO _ _⟩;simp only[mb]at S;simp only[go_sem,iU.d]at B;simp only[go_sem,Q,K,Y,CW,rW,w,F,G,O,S,u1,u2,d2,B,iU.d]|false=>have B:=ih ((D,E),u,j-q.nn) ⟨by rw[G]at a;exact a,by show j-q.nn<1100000;have:j<1100000:=b;omega,c,d⟩;simp only[go_sem,iU.d]at B;simp only[go_sem,Q,K,Y,CW,rW,w,F,G,B,iU.d]
theorem aee(x:ab×LR)(t:kW x.1.op=V):∀p:ab,te p->xR p->∀(L:LR)(f:Int)(n:Nat),(nM p L)[n]?=J x->L.1.length<1200000->L.2.length<1200000->CC 262 [.agg p.cells,iD (.ofNat n),ly L f] (.val (.dv (pM x.1 x.2).d .no) .empty)|.mk o l args y v s b c,a,I,L,f,n,g,d,e=>aKf _ _ _ _ _ _ _ _ a I L f n x g t d e λq h=>aee x t q (a.arg h) (I.arg h)termination_by p=>kb p decreasing_by simp_wf;have:=jY h;omega
theorem aqJ(p:ab)(b:p.nn<1100000)(n:Nat)(q:ab)(h:(nodes p)[n]?=J q):CC 261 [.agg p.cells,iD (.ofNat n)] (vT [(.agg q.cells,.no),iO 0]):=by have a:=yi p ae;have l:=Cd h;refine aK func261 ?_;simp only[go_sem,f261,a,l,h]
theorem aAd:∀(p:ab)(L:LR),(nM p L).map (·.1)=nodes p:=by intro p;exact ab.rec (motive_2:=λl=>∀(op:Int)(L:LR),(xq op l L).map (·.1)=dL l) (λop nl args ty var scope s cond i L=>by grind[nM,nodes]) (λop L=>rfl) (λq l h a op L=>by grind[xq,dL]) p
theorem aho{L:LR}{i:Nat}{x:ab×LR}(h:(nM p L)[i]?=J x):(nodes p)[i]?=J x.1:=by grind[aAd]
theorem aqk(p:ab)(i:te p)(I:xR p)(g:p.hM=0)(d:fY p)(n:Nat)(x:ab×LR)(e:(nM p ([],[]))[n]?=J x):CC 197 [.agg p.cells,iD (.ofNat n)] (vT (bif kW x.1.op then[((pM x.1 x.2).d,.no),iO 0]else[(.agg [.nl,.nl,iD 0],.no),iO 1])):=by have b:=K5 p d;rw[g]at b;have c:=aqJ p d.a n x.1 (aho e);have a:=λt=>aee x t p i I ([],[]) 0 n e aO aO;obtain⟨q,L⟩:=x;generalize pM (q,L).1 (q,L).2=y at a|-;obtain⟨u,j,f⟩:=y;obtain⟨op,nl,args,ty,var,scope,s,cond⟩:=q;simp only[go_sem,ab.cells]at b c;simp only[go_sem,ly,bP,pr,iU.d]at a;refine aK func197 ?_;simp only[go_sem,f197,b,c,ab.op];cases t:kW op with
 |true=>
 have a:=a t;unfold kW at t;repeat'(with_reducible apply sp<;>intro h<;>simp only[h,go_sem,a,iU.d])
 grind|false=>
 unfold kW at t;repeat'(with_reducible apply sp<;>intro h<;>simp only[h,go_sem])
 all_goals grind
def NJ(r:ah (Nat×Int)):bt:=match r with|none=>vT [iO 0,iO 0]|some (j,e)=>vT [iO (.ofNat j),iO e]
theorem aKG(p:ab)(h:p.hM=0):vT [iO (wt p).1,iO (wt p).2]=NJ (mG (nM p ([],[])) 0):=by unfold wt NJ;rw[h];show vT [iO (match mG _ 0 with|none=>(0,0)|some (j,e)=>(dI j,e)).1,iO (match mG _ 0 with|none=>(0,0)|some (j,e)=>(dI j,e)).2]=_;grind
theorem ap1(p:ab)(v:p.hM=0->te p/\xR p)(c:fY p):CC 134 [.agg p.cells] (vT [iO (wt p).1,iO (wt p).2]):=by have d:=K5 p c;have u:=yi p (by have:=c.a;omega);have d1:=aIn;simp only[bq,opsOf,f134,go_sem]at d1;cases j:ai p.hM 0 with|false=>refine aK func134 ?_;simp only[go_sem,f134,d,j,wt]|true=>
 have W:=pZ j;obtain⟨r,I⟩:=v W;rw[aKG p W];rw[W]at d;refine aK func134 ?_;simp only[go_sem,f134,d,u];refine dJ (nM p ([],[])) (λi=>[(6,iS i)]) (λi l=>NJ (mG l i)) (by rw[Dy];have:=c.a;omega) rfl rfl ?_ (λi x l hi m k g=>?_);.simp only[go_sem,mG,NJ,Dy,rW]
 .have a:=aqk p r I W c i x m;have n:=aho m;have e:=cI n;have G:=r.d _ e;have o:=aiD x.1 x.2;have b:=Ui _ o.1 o.2 x.1.cond G;rw[Dy]at hi;obtain⟨q,L⟩:=x;simp only[mG,BU];simp only at a b n o;generalize Expr.ym _ _=w at b|-;generalize pM q L=y at a b;obtain⟨A,z,f⟩:=y;obtain⟨op,nl,args,ty,var,scope,s,cond⟩:=q;simp only[iU.d,ab.cond,go_sem]at b;simp only[ab.op,iU.d,go_sem]at a|-;cases t:kW op with|false=>simp only[t,go_sem]at a;simp only[go_sem,hi,k,a,rW]at g|-;omega|true=>simp only[t,go_sem]at a;simp only[go_sem,hi,n,a,b,d1,rW,ab.cells]at g|-;apply sp<;>intro h<;>simp only[h,k,g,NJ,go_sem]
def A7(p:iU):List Expr->Nat->Int×Int|[],_=>(0,0)|e::l,i=>bif ai e.gU 0 then(bif ai (e.ym p) 0 then A7 p l (i+1)else(.ofNat i,e.ym p))else(.ofNat i,e.gU)
def A8(p:ab)(l:List Expr):Int×Int:=bif ai p.hM 0 then(bif ao 256 (.ofNat l.length)then(0,5)else A7 ⟨⟨V,iF p⟩,⟨V,p.gW⟩,-1⟩ l 0)else(0,p.hM)
theorem apO(p:ab)(r:Sl Expr)(j:p.hM=0->te p)(q:fY p)(k:r.l.length<1100000)(n:∀e∈r.l,e.nn<1100000):CC 117 [.agg p.cells,vD r] (vT [iO (A8 p r.l).1,iO (A8 p r.l).2]):=by
 have f:=OY p q;have d1:=aIj;simp only[bq,opsOf,f117,go_sem]at d1;refine aK func117 ?_;simp only[go_sem,f117,f,A8];apply sp<;>intro h<;>simp only[h,go_sem];apply sp<;>intro g<;>simp only[g,go_sem];have w:=j (pZ h);obtain⟨_,g1,b,rfl⟩:=Ug p w.toBB;obtain⟨o,a⟩:=OZ p w.toBB;have k1:(iF p).length<1200000:=by grind[CR,iF]
 have k2:p.gW.length<1200000:=by grind[MI]
 simp only[mb]at b a;rw[show qF (iX (nodes p))=iF p from rfl]at b;simp only[go_sem,b,a,d1];refine dJ r.l (λi=>[(26,iS i)]) (λi l=>vT [iO (A7 ⟨⟨V,iF p⟩,⟨V,p.gW⟩,-1⟩ l i).1,iO (A7 ⟨⟨V,iF p⟩,⟨V,p.gW⟩,-1⟩ l i).2]) ae rfl rfl ?_ (λi x l hi c w d=>?_);.simp only[go_sem,A7]
 .have U:=cI c;have e1:=HL x aj;have e2:=Uf ⟨⟨V,iF p⟩,⟨V,p.gW⟩,-1⟩ k1 k2 x (n x U);simp only[iU.d,go_sem]at e2;simp only[go_sem,hi,c,e1,A7]at d|-;repeat'(with_reducible apply sp<;>intro h<;>simp only[h,w,e2,d,go_sem])
theorem ap3(p:ab)(r:Sl Expr)(k:p.hM=0->te p/\xR p)(q:fY p)(m:r.l.length<1100000)(n:∀e∈r.l,e.nn<1100000):CC 137 [.agg p.cells,vD r] (vT [iO (A8 p r.l).1,iO (A8 p r.l).2]):=by
 have g:=K5 p q;have d1:=aIp;have d2:=aIo;simp only[bq,opsOf,f137,go_sem]at d1 d2;refine aK func137 ?_;simp only[go_sem,f137,g,A8];apply sp<;>intro h<;>simp only[h,go_sem];apply sp<;>intro j<;>simp only[j,go_sem];obtain⟨w,I⟩:=k (pZ h);have b:=Uj p w.a I;rw[show iX (nodes p)=iF p from(Tk (Ov w.c) I).symm]at b;obtain⟨s,f⟩:=N9 ((iF p).map iD);rw[f]at b;obtain⟨o,c⟩:=O2 p w.a;have k1:(iF p).length<1200000:=by grind[CR,iF]
 have k2:p.gW.length<1200000:=by grind[MI]
 simp only[mb]at b c;simp only[go_sem,b,c,d1];refine dJ r.l (λi=>[(8,iS i)]) (λi l=>vT [iO (A7 ⟨⟨V,iF p⟩,⟨V,p.gW⟩,-1⟩ l i).1,iO (A7 ⟨⟨V,iF p⟩,⟨V,p.gW⟩,-1⟩ l i).2]) ae rfl rfl ?_ (λi x l hi a w d=>?_);.simp only[go_sem,A7]
 .have U:=cI a;have e1:=HM x aj;have e2:=Ui ⟨⟨V,iF p⟩,⟨V,p.gW⟩,-1⟩ k1 k2 x (n x U);simp only[iU.d,go_sem]at e2;simp only[go_sem,hi,a,e1,A7]at d|-;repeat'(with_reducible apply sp<;>intro h<;>simp only[h,a,w,e2,d2,d,go_sem])
def Ee:an->List an|[]=>[]|c::r=>bif aw c 32 then(bif r.any (aw 32)then r.takeWhile (λx=>!Nat.beq x 32)::Ee r else Ee r)else Ee r
theorem ag5:∀(s r:an),s.any (aw 32)=C->mY (s++[32]) r=(r.any (aw 32)&&decide (s=r.takeWhile (λx=>!Nat.beq x 32)))
 |s,[],_=>by cases s<;>rfl|[],c::r,_=>by
  show(aw 32 c&&mY [] r)=_;rw[show mY [] r=V by cases r<;>rfl,Bool.and_true,nv];by_cases h:c=32;.subst h;simp[List.takeWhile]
  .have e1:aw 32 c=C:=iW λe=>h e.symm;have e2:aw c 32=C:=iW h;simp[e1,e2,List.takeWhile]|a::s,c::r,h=>by
  rw[nv,J1]at h;have i:=ag5 s r h.2;show(aw a c&&mY (s++[32]) r)=_;rw[i,nv];have f:a≠32:=λe=>by subst e;exact absurd h.1 gD
  by_cases d:c=32;.subst d;have e2:aw a 32=C:=iW f;simp[e2,List.takeWhile]
  . have e1:aw 32 c=C:=iW λe=>d e.symm;have e2:aw c 32=C:=iW d;rw[e1,vp];simp only[List.takeWhile,e2,GZ];by_cases b:a=c;.subst b;rw[nT];simp
    .rw[iW b];simp[b]
theorem agW(s:an)(b:s.any (aw 32)=C):∀(l:an)(i:Nat),(uO (32::(s++[32])) i l).isSome=(Ee l).any λw=>decide (s=w)
 |[],i=>rfl|c::r,i=>by
  have a:=agW s b r (i+1);show(bif aw 32 c&&mY (s++[32]) r then J i else uO (32::(s++[32])) (i+1) r).isSome=(bif aw c 32 then(bif r.any (aw 32)then r.takeWhile (λx=>!Nat.beq x 32)::Ee r else Ee r)else Ee r).any _;rw[ag5 s r b];by_cases h:c=32;.subst h;rw[show aw 32 32=V from rfl,Bool.true_and,aL];cases r.any (aw 32)with|false=>simp[a]|true=>rw[Bool.true_and,aL,nv];cases decide (s=r.takeWhile λx=>!Nat.beq x 32)with|true=>rfl|false=>rw[bg,a,vp]
  .rw[iW h,iW λe=>h e.symm,Bool.false_and,bg,bg,a]
theorem aLC:Ee kwT=IL:=gD
theorem azu{s:an}(h:sS s=V):FK s=IL.any λw=>decide (s=w):=by
 have a:s≠[]/\s.all word=V:=by cases s<;>grind[sS]
 have c:s.any (aw 32)=C:=by rw[List.any_eq_false];intro x d e;have:=List.all_eq_true.1 a.2 x d;rw[<-Nat.eq_of_beq_eq_true e]at this;exact absurd this gD
 have b:uO [32] 0 s=Z:=by
  have:∀(l:List _)(i:Nat),l.any (aw 32)=C->uO [32] i l=Z:=by intro l;induction l<;>grind[mY,uO]
  grind
 unfold FK Du;rw[wS a.1,b];show(bif C then C else bif V then !ao _ 0 else C)=_;rw[bg,aL,<-aLC,<-agW s c _ 0];cases uO _ 0 _<;>rfl
def AZ(s:an):Int:=bif sS s then bif FK s then 8 else 0 else 8
theorem ahW(s:an):(bif sS s then bif IL.any (λw=>decide (s=w))then 8 else 0 else 8:Int)=AZ s:=by grind[AZ,azu]
def Cy(n:Nat):List an->List dg->Int|_,[]=>0|b,v::l=>bif ai (AZ v.name) 0 then bif b.any (λm=>decide (v.name=m))then 7 else bif !ao v.ty 0&&ao v.ty (.ofNat n)then Cy n (b++[v.name]) l else 6 else AZ v.name
def Ed(t:Sl bJ)(v:Sl dg):Int:=bif ao 16 (.ofNat v.l.length)then 5 else Cy t.l.length [] v.l
theorem aqb(t:Sl bJ)(a:Sl dg)(o:∀v,v∈a.l->v.name.length<1200000)(q:a.l.length<1200000):sB (ev PP cf (.call 172 [ep t,ic a] .no .empty)) (zS (Ed t a)):=by
 refine Oe func172 ?_;simp only[go_sem,f172,Ed];apply wv<;>intro h<;>simp only[h,go_sem];refine Mp a.l ([]:List an) (λi b=>⟨172,43,[(15,iS i),(0,.dv (ep t) .no),(5,.dv (.map 0) .no),(13,.dv (ic a) .no),(14,iS a.l.length)],[],⟨1,[(0,.map (tB b) b.length)]⟩⟩) (λ_ l b=>zS (Cy t.l.length b l)) (λ_ _ _=>True) ae rfl trivial rfl (λs _=>?_) (λi x l b hi n w _ d=>?_);.simp only[go_sem,Cy]
 .have d:=d (b++[x.name]) trivial;have p:=o x (cI n);have hr:=aeq x.name p;simp only[T6,db,bU,eD,go_sem]at d;rw[show(bif sS x.name then bif FK x.name then 8 else 0 else 8:Int)=AZ x.name from rfl]at hr;simp only[go_sem,hi,n,hr,Cy];apply wv<;>intro h<;>simp only[h,go_sem];cases g:b.any λm=>decide (x.name=m)with|true=>obtain⟨k,c,m,e⟩:=Ph b 0 0 g;simp only[go_sem,tB,e]|false=>have e:=Pf b 0 0 g;simp only[tB]at d;cases f:ao x.ty 0 with|true=>simp only[go_sem,tB,e,f]|false=>cases j:ao x.ty (.ofNat t.l.length)with|true=>simp only[go_sem,tB,e,f,j,w];omega|false=>simp only[go_sem,tB,e,f,j]
theorem aLa(b:List dg)(n:an):(b.map dg.name).any (λm=>decide (n=m))=b.any λv=>decide (v.name=n):=aj
theorem adP(t:Sl bJ)(s:Sl dg)(f:kK t)(m:∀v,v∈s.l->v.name.length<1200000)(p:s.l.length<1200000):CC 130 [ep t,ic s] (vI (bif ai (sj t.l) 0 then Ed t s else sj t.l)):=by
 have e:=Us t f.a f.b;have d1:=aIm;simp only[bq,opsOf,f130,go_sem]at d1;simp only[go_sem]at e;refine aK func130 ?_;simp only[go_sem,f130,e,Ed];apply sp<;>intro h<;>simp only[h,go_sem];apply sp<;>intro h<;>simp only[h,go_sem];refine dJ s.l (λi=>[(6,iS i)]) (λi l=>vI (Cy t.l.length ((s.l.take i).map dg.name) l)) ae rfl rfl ?_ (λi x l hi a w d=>?_);.simp only[go_sem,Cy]
 . have hr:=aet x.name (m x (cI a));rw[D9 a,eI,de,bP]at d;simp only[go_sem]at d;rw[ahW]at hr;simp only[Cy,aLa];have o:i<=s.l.length:=aj;have X:(s.l.take i).length=i:=aj;simp only[go_sem,hi,a,hr];apply sp<;>intro h<;>simp only[h,go_sem];rw[ur];refine dJ (s.l.take i) (λj=>[(8,iS j)]) (λ_ k=>vI (bif k.any (λv=>decide (v.name=x.name))then 7 else bif !ao x.ty 0&&ao x.ty (.ofNat t.l.length)then Cy t.l.length ((s.l.take i).map dg.name++[x.name]) l else 6)) ae rfl rfl ?_ (λj y k b c n g=>?_);.rw[X];simp only[go_sem,a,zM];repeat'(with_reducible apply sp<;>intro h<;>simp only[h,a,w,d,go_sem])
   .rw[X]at b;rw[List.getElem?_take]at c;have B:j<i:=rX b;rw[if_pos B]at c;have S:(j<s.l.length)=True:=ki ae;simp only[go_sem]at g;simp only[go_sem,b,a,c,d1,nv];apply sp<;>intro h<;>simp only[h,n,g,go_sem]
def A1(l:aF):Nat:=(l.filter λq=>iK q.op).length
structure abw(l:aF)(a:Nat):Prop where
 v:∀q∈l,iK q.op=V->∃k:Nat,q.var=.ofNat k/\a<=k/\k<a+A1 l
 s:((l.filter λq=>iK q.op).map ab.var).Pairwise (.<.)
theorem aLs(n:Nat)(h:n<100000000):NS (.ofNat n)=.ofNat (n+1):=xO ae
theorem Tq:∀(l:aF)(a:Nat)(b:Int),a+l.length<100000000->(l.foldl qH (.ofNat a,b,V)).2.2=V->(l.foldl qH (.ofNat a,b,V)).1=.ofNat (a+A1 l)/\abw l a|[],a,b,_,_=>⟨rfl,⟨λq h=>by simp at h,List.Pairwise.nil⟩⟩|q::l,a,b,p,h=>by rw[xS]at h|-;simp only[bU]at p;cases v:iK q.op with
 |false=>
 have e:∃f d,qH (.ofNat a,b,V) q=(.ofNat a,f,d):=by unfold qH;rw[v];cases wq q.op<;>simp
 obtain⟨f,d,e⟩:=e;rw[e]at h|-;cases d with|false=>rw[KE]at h;simp at h|true=>
  have i:=Tq l a f ae h;have e2:A1 (q::l)=A1 l:=by simp[A1,v]
  rw[e2];refine⟨i.1,⟨λx c m=>?_,by simp only[zN,v,Bool.false_eq_true,if_false];exact i.2.s⟩⟩;rw[e2];rcases List.mem_cons.1 c with rfl|c;.rw[v]at m;simp at m
  .exact i.2.v x c m|true=>
 have e:∃f d,qH (.ofNat a,b,V) q=(NS (.ofNat a),f,d)/\(d=V->q.var=.ofNat a):=by
  unfold qH;rw[v];cases wq q.op;.exact⟨b,_,rfl,λh=>by simp only[zD]at h;exact ES h⟩
  .refine⟨_,_,rfl,λh=>?_⟩;simp only[aL,zD,iC]at h;exact ES h.1
 obtain⟨f,d,e,e3⟩:=e;rw[e]at h|-;cases d with|false=>rw[KE]at h;simp at h|true=>
  rw[aLs a ae]at h|-;have i:=Tq l (a+1) f ae h;have e2:A1 (q::l)=A1 l+1:=by simp[A1,v]
  have j:=e3 rfl;rw[e2];refine⟨by rw[i.1];congr 1;omega,⟨λx c m=>?_,?_⟩⟩
  . rw[e2];rcases List.mem_cons.1 c with rfl|c;.exact⟨a,j,ae,ae⟩
    .obtain⟨k,g,n,o⟩:=i.2.v x c m;exact⟨k,g,ae,ae⟩
  .simp only[zN,v,if_true,de];refine List.pairwise_cons.2 ⟨λz r=>?_,i.2.s⟩;obtain⟨x,c,rfl⟩:=List.mem_map.1 r;have c:=List.mem_filter.1 c;obtain⟨k,g,n,o⟩:=i.2.v x c.1 c.2;rw[j,g];simp only[wH];omega
theorem acN(h:p.hM=0)(n:p.nn<1100000):(wR (nodes p)).1=.ofNat (A1 (nodes p))/\abw (nodes p) 0:=by
 have w:=OH h;have c:(wR (nodes p)).2.2=V:=by unfold ab.hM at h;rw[show ai _ 0=V by rw[w];rfl,aL]at h;grind
 have:=Tq _ 0 0 (by grind[rW]) c;rw[jM]at this;exact this
theorem acM(h:p.hM=0)(n:p.nn<1100000):xR p:=by
 have:=(acN h n).2.s;unfold xR iX;have:∀l:aF,(l.filter λq=>ai q.op 0).Sublist (l.filter λq=>iK q.op):=by intro l;induction l<;>grind[iK]
 grind
theorem WC{o n a t v s p c}(h:(ab.mk o n a t v s p c).fE=0)(l:a.length<=64):(0<=v/\v<16)/\qC o a.length=V/\(iK o=V->0<=t/\t<16):=by simp only[ab.fE,DK]at h;cases b:(ao o 0||!ao o 11)with|true=>grind|false=>
 rw[b,bg,SW _ _ l]at h;rcases d:qC o _ with _|_;.grind
 rcases e:(qR (iK o) t 15&&(qR (iK o) v 15&&(qR (wq o) s 63&&qR (ue o) p 1099511627776)))with _|_;.grind
 cases f:(sF o&&!ai c.gU 0)with|true=>simp_all[ai]|false=>grind[vg,qR,eP,pZ]
theorem OJ(h:p.hM=0)(d:fY p):te p:=by
 have w:=R4 (OH h);have g:=OI w.1;have f:=Lf g.1;have m:∀q∈nodes p,q.args.length<=64:=λq a=>by have:=ab.ME p q a;obtain⟨op,nl,args,ty,var,scope,s,cond⟩:=q;grind[ab.ji,ab.nn,ab.args]
 refine⟨⟨d.a,λq a=>?_,λq a=>?_⟩,d.b,λq a t e=>?_⟩;.grind[ah4]
 .have c:=f q a;have b:=m q a;obtain⟨op,nl,args,ty,var,scope,s,cond⟩:=q;exact(WC c b).1
 . have c:=f q a;have b:=m q a;obtain⟨op,nl,args,ty,var,scope,s,cond⟩:=q;have i:=(WC c b).2.1;simp only[ab.op]at t e;simp only[ab.args]at b|-;have:args.length=1:=by grind[kW,qC,ES]
   match args,this with|[x],_=>grind
theorem aBO{s:St}{d:ah Tmp}{i f:Nat}{o:aX}:Wz s d (.dv (.ptr i f) o)=aJ s d (.dv (.ptr i f) .no):=(rfl)
attribute[go_sem]aBO
def ab.ty:ab->Int|.mk _ _ _ ty _ _ _ _=>ty
def GG(s:List dg)(a:Int):Int:=match s[a.toNat]? with|some v=>v.ty|none=>0
def zj(t:Sl bJ)(v:Sl dg)(q:ab):Int:=bif kW q.op then(bif !ai q.op 7&&!ai q.ty (GG v.l q.var)then 9 else KN t v q.cond)else 0
def mH(t:Sl bJ)(v:Sl dg):aF->Nat->ah (Nat×Int)|[],_=>Z|q::l,i=>bif ai (zj t v q) 0 then mH t v l (i+1)else J (i,zj t v q)
theorem aki(t:Sl bJ)(v:Sl dg):∀(a b:aF)(i:Nat),mH t v (a++b) i=match mH t v a i with|none=>mH t v b (i+a.length)|some r=>J r
 |[],_,_=>rfl|x::a,b,i=>by simp only[fA,mH];cases ai (zj t v x) 0 with|false=>rfl|true=>rw[aL,aL,aki t v a b (i+1),bU,By,Ex 1]
theorem aaQ(t:Sl bJ)(v:Sl dg):∀(l:aF)(i j:Nat)(e:Int),mH t v l i=J (j,e)->ai e 0=C|[],_,_,_,h=>by simp[mH]at h|q::l,i,j,e,h=>by simp only[mH]at h;cases z:ai (zj t v q) 0 with|true=>rw[z]at h;exact aaQ t v l _ _ _ h|false=>rw[z]at h;simp only[bg,xU,Kc]at h;rw[<-h.2];exact z
def mI(t:Sl bJ)(v:Sl dg)(i:Nat):GO:=.box ⟨[ep t,ic v,iD (.ofNat i)],[]⟩
def vf(r:ah (Nat×Int))(g:GH)(b:Nat)(t:Sl bJ)(v:Sl dg)(i:Nat):bt:=match r with|none=>.val (.tp [iO 0,iO 0]) (g.set b (mI t v i))|some (j,e)=>.val (.tp [iO (.ofNat j),iO e]) (g.set b (mI t v (j+1)))
theorem aIg:dw cf (bq f107 7)=V:=by rfl
theorem aIh:dw cf (bq f107 9)=V:=by rfl
section
variable{ts:Sl bJ}{vs:Sl dg}
theorem aJ2(H:kK ts)(X:vs.l.length<1200000)(o n a y d s p c)(R:(ab.mk o n a y d s p c).nn<1100000)(O:c.nn<1100000)(F:iK o=V->∃k v,d=dI k/\vs.l[k]?=J v)(N:∀x,x∈a->∀(g:GH)(b e:Nat),e+x.nn<1100000->g.get b=J (mI ts vs e)->ev PP cf (.call 107 [.ptr b 0,.agg x.cells] .no g)=J (vf (mH ts vs (nodes x) e) g b ts vs (e+x.nn)))(g:GH)(b e:Nat)(Q:e+(ab.mk o n a y d s p c).nn<1100000)(m:g.get b=J (mI ts vs e)):ev PP cf (.call 107 [.ptr b 0,.agg (ab.mk o n a y d s p c).cells] .no g)=J (vf (mH ts vs (nodes (.mk o n a y d s p c)) e) g b ts vs (e+(ab.mk o n a y d s p c).nn)):=by
 have e1:=aqc ts vs c H X O;have d1:=aIg;have d2:=aIh;simp only[bq,opsOf,f107,go_sem]at d1 d2;simp only[go_sem]at e1;have K:=xO (i:=e) ae;refine aK func107 ?_;rw[nodes,mH];simp only[mI]at m;have M:kW o=C\/(ai o 7=V/\ai o 0=C/\ai o 5=C/\kW o=V)\/(ai o 7=C/\ai o 0=V/\iK o=V/\kW o=V)\/(ai o 7=C/\ai o 0=C/\ai o 5=V/\iK o=V/\kW o=V):=by grind[kW,iK,jA,kO]
 have W:(ab.mk o n a y d s p c).nn=ab.aR a+1:=by rfl
 rw[W]at R Q|-;rcases M with t|⟨u,f,z,t⟩|⟨u,f,D,t⟩|⟨u,f,z,D,t⟩;case' inl=>
  have f:ai o 0=C/\ai o 5=C/\ai o 7=C:=by grind[kW]
  simp only[go_sem,f107,ab.cells,m,K,f.1,f.2.1,f.2.2,zj,ab.op,t]
 case' inr.inl=>simp only[go_sem,f107,ab.cells,m,K,f,z,u,d2,e1,zj,ab.op,ab.cond,t];apply sp<;>intro h<;>simp only[h,go_sem,vf,mI]
 case' inr.inr.inl=>
  obtain⟨k,v,B,q⟩:=F D;have L:GG vs.l (.ofNat k)=v.ty:=by grind[GG]
  simp only[go_sem,f107,ab.cells,m,K,u,q,d1,zj,ab.op,ab.ty,ab.var,ab.cond,t,B,L,f];repeat'(with_reducible apply sp<;>intro h<;>simp only[h,go_sem,m,d2,e1,vf,mI])
 case' inr.inr.inr=>
  obtain⟨k,v,B,q⟩:=F D;have L:GG vs.l (.ofNat k)=v.ty:=by grind[GG]
  simp only[go_sem,f107,ab.cells,m,K,u,q,d1,zj,ab.op,ab.ty,ab.var,ab.cond,t,B,L,f,z];repeat'(with_reducible apply sp<;>intro h<;>simp only[h,go_sem,m,d2,e1,vf,mI])
 all_goals
  refine IQ a (e+1) (λk j=>⟨107,76,[(61,iS k),(0,.dv (.ptr b 0) .no),(59,.dv (cp n (ab.aN a) 32 14) .no),(60,.dv (.int .i64 (.ofNat a.length)) .no)],[],g.set b (mI ts vs j)⟩) (λ_ l j=>vf (mH ts vs (dL l) j) g b ts vs (e+(ab.aR a+1))) (λ_ l j=>j+ab.aR l=e+(ab.aR a+1)) (by grind[ab.ji]) rfl ae rfl (λj I=>?_) (λk x l j q E S I T=>?_);.simp only[ab.aR,zU]at I;subst I;simp only[go_sem,dL,mH,vf,mI]
  .simp only[ab.aR]at I;have hr:=N x (cI E) (g.set b (mI ts vs j)) b j ae (by simp[oP]);have G:=T (j+x.nn) ae;simp only[dL];rw[aki,rW];cases A:mH ts vs (nodes x) j with|some r=>obtain⟨j',Y⟩:=r;have P:=aaQ ts vs _ _ _ _ A;rw[A]at hr;simp only[go_sem,mI,vf]at hr;simp only[go_sem,mI,q,E,hr,P,vf]|none=>rw[A]at hr;simp only[go_sem,mI,vf]at hr G;simp only[go_sem,mI,q,E,S,hr,G,vf]
theorem adJ(A:kK ts)(u:vs.l.length<1200000):∀p:ab,(∀q∈nodes p,q.cond.nn<1100000)->(∀q∈nodes p,iK q.op=V->∃k v,q.var=dI k/\vs.l[k]?=J v)->∀(g:GH)(b i:Nat),i+p.nn<1100000->g.get b=J (mI ts vs i)->ev PP cf (.call 107 [.ptr b 0,.agg p.cells] .no g)=J (vf (mH ts vs (nodes p) i) g b ts vs (i+p.nn))
 |.mk o n args t r s a c,f,e,g,b,i,hi,j=>by
  have hr:ab.mk o n args t r s a c∈nodes (.mk o n args t r s a c):=by rw[nodes];exact eQ ..
  have m:∀x∈args,∀q∈nodes x,q∈nodes (.mk o n args t r s a c):=λx d q h=>by rw[nodes];exact iL _ (ab.MF args x d q h)
  exact aJ2 A u o n args t r s a c ae (f _ hr) (e _ hr) (λx d=>adJ A u x (λq h=>f q (m x d q h)) (λq h=>e q (m x d q h))) g b i hi j termination_by p=>kb p decreasing_by simp_wf;have:=jY d;omega
end
theorem apZ(o n a t v s p c):CC 132 [.agg (ab.mk o n a t v s p c).cells] (vB (kW o)):=by refine aK func132 ?_;simp only[go_sem,f132,ab.cells,kW];repeat'(with_reducible apply sp<;>intro h<;>simp only[h,go_sem])
def Ec(t:Sl bJ)(v:Sl dg):Int:=bif ai (sj t.l) 0 then Ed t v else sj t.l
def GF(p:ab)(r:ah (Nat×Int)):Int×Int:=match r with|none=>wt p|some (j,e)=>(.ofNat j,e)
abbrev vP(r:Int×Int):bt:=vT [iO r.1,iO r.2]
def sV(t:Sl bJ)(v:Sl dg)(p:ab):Int×Int:=bif ai (Ec t v) 0 then(bif ai (hO p).2.2 0 then(bif ai (hO p).1 (.ofNat v.l.length)then GF p (mH t v (nodes p) 0)else(0,15))else(0,(hO p).2.2))else(0,Ec t v)
theorem aon(h:ai (hO p).2.2 0=V):p.hM=0/\(hO p).1=(wR (nodes p)).1:=by grind[hO,pZ]
theorem ac9{s:Sl dg}(d:fY p)(h:ai (hO p).2.2 0=V)(a:ai (hO p).1 (.ofNat s.l.length)=V):∀q∈nodes p,iK q.op=V->∃k v,q.var=dI k/\s.l[k]?=J v:=by intro q e f;obtain⟨b,g⟩:=aon h;obtain⟨i,c⟩:=acN b d.a;obtain⟨k,j,_,m⟩:=c.v q e f;have o:=ES a;have:A1 (nodes p)=s.l.length:=aj;obtain⟨v,B⟩:=SZ (l:=s.l) (n:=k) ae;grind
structure Hj(vs:Sl dg):Prop where
 a:∀v,v∈vs.l->v.name.length<1200000
 b:vs.l.length<1200000
theorem aKt(p:ab)(t:Sl bJ)(v:Sl dg)(q:ab)(l:aF)(i:Nat):GF p (mH t v (q::l) i)=bif ai (zj t v q) 0 then GF p (mH t v l (i+1))else(.ofNat i,zj t v q):=by simp only[mH];cases ai _ 0<;>rfl
theorem aeu(t:Sl bJ)(s:Sl dg)(p:ab)(o:kK t)(g:Hj s)(a:fY p):CC 68 [ep t,ic s,.agg p.cells] (vP (sV t s p)):=by
 have j:CC 130 [ep t,ic s] (vI (Ec t s)):=adP t s o g.a g.b;have q:=adQ p a;have r:=yi p (by have:=a.a;omega);have u:=ap1 p (λh=>⟨OJ h a,acM h a.a⟩) a;have d1:=aJj;simp only[bq,opsOf,f68,go_sem]at d1;simp only[go_sem]at j;refine aK func68 ?_;simp only[go_sem,f68,j,sV];apply sp<;>intro k1<;>simp only[k1,go_sem,q];apply sp<;>intro k2<;>simp only[k2,go_sem];apply sp<;>intro k3<;>simp only[k3,go_sem,r];have z:=ac9 a k2 k3;refine dJ (nodes p) (λi=>[(13,iS i)]) (λi l=>vP (GF p (mH t s l i))) (by rw[rW];have:=a.a;omega) rfl rfl ?_ (λi x l hi e w c=>?_);.simp only[go_sem,mH,GF,u]
 .have U:=cI e;have f:=ap0 t s x.cond o g.b (a.b x U);have m:=z x U;rw[aKt];obtain⟨op,nl,args,ty,var,scope,n,cond⟩:=x;have d:=apZ op nl args ty var scope n cond;simp only[ab.cells,ab.cond,go_sem]at f d;simp only[ab.op,ab.var]at m;simp only[zj,ab.op,ab.ty,ab.var,ab.cond];cases y:kW op with|false=>simp only[go_sem,hi,e,w,d,y,ab.cells]at c|-;omega|true=>cases b:ai op 7 with|true=>simp only[go_sem,hi,e,d,y,b,f,d1,ab.cells]at c|-;apply sp<;>intro h<;>simp only[h,w,c,go_sem]|false=>
 have B:iK op=V:=by grind[kW,iK,jA]
 obtain⟨k,v,K,A⟩:=m B;subst K;have L:GG s.l (.ofNat k)=v.ty:=by grind[GG]
 simp only[go_sem,hi,e,d,y,b,A,L,d1,ab.cells]at c|-;repeat'(with_reducible apply sp<;>intro h<;>simp only[h,w,f,c,go_sem])
def zl(s:List dg)(i:Int):Bool:=s.any λv=>ai v.ty i
theorem ap2(v:Sl dg)(i:Int)(c:v.l.length<1200000):CC 135 [ic v,iD i] (vB (zl v.l i)):=by
 refine aK func135 ?_;simp only[go_sem,f135,zl];refine dJ v.l (λj=>[(5,iS j)]) (λ_ l=>vB (l.any _)) ae rfl rfl ?_ (λj x l hi b w a=>?_);.simp only[go_sem,zM]
 .simp only[go_sem,hi,b,nv]at a|-;apply sp<;>intro h<;>simp only[h,w,a,go_sem]
def yg(u:bT)(i:Nat):List pf:=(u.zipIdx i).map λx=>(iD x.1,.bool V,x.2)
theorem apn{u:bT}{z:Int}:yg (u++[z]) 0=yg u 0++[(iD z,.bool V,u.length)]:=by grind[yg]
theorem UF{z:Int}:∀{u:bT}{i j:Nat},gV u z=C->findD PP 3 (iD z) (yg u i) j=J Z|[],_,_,_=>rfl|m::u,i,j,h=>by have:gV (m::u) z=(ai m z||gV u z):=rfl;rw[this,J1]at h;show(kN PP 50 3 (iD z) (iD m)).bind (λb=>bif b then J (J (j,(iD m,.bool V,i)))else findD PP 3 (iD z) (yg u (i+1)) (j+1))=_;rw[OU,cU,T' z m,h.1];exact UF h.2
theorem UG{z:Int}:∀{u:bT}{i a:Nat},gV u z=V->∃k m c,findD PP 3 (iD z) (yg u i) a=J (J (a+k,(iD m,.bool V,c)))/\(yg u i)[k]?=J (iD m,.bool V,c)|[],_,_,h=>by simp[gV]at h|m::u,i,a,h=>by have e:findD PP 3 (iD z) (yg (m::u) i) a=(kN PP 50 3 (iD z) (iD m)).bind (λb=>bif b then J (J (a,(iD m,.bool V,i)))else findD PP 3 (iD z) (yg u (i+1)) (a+1)):=rfl;rw[e,OU,cU,T' z m];cases d:ai m z with|true=>exact⟨0,m,i,rfl,rfl⟩|false=>
 have:gV (m::u) z=(ai m z||gV u z):=rfl;rw[this,d,vp]at h;obtain⟨k,f,c,e1,e2⟩:=UG (i:=i+1) (a:=a+1) h;refine⟨k+1,f,c,?_,?_⟩;.rw[bg,e1];simp only[Ex,Nat.add_left_comm]
 .exact e2
theorem take_set{a:Type}{l:List a}{k:Nat}{x:a}(h:l[k]?=J x):l.take k++x::l.drop (k+1)=l:=by grind[G5,J9]
theorem akX{a b:Type}{x:List a}{y:List b}{i:Nat}{p:a×b}(h:(x.zip y)[i]?=J p):x[i]?=J p.1/\y[i]?=J p.2:=aj
theorem ayW{n:Int}:vV PP 3 (iD n)=V:=by rfl
attribute[go_sem]ayW
def Oa(u:bT)(z:Int):bT:=bif gV u z then u else u++[z]
theorem alM(u:bT)(z v:Int):gV (Oa u z) v=(gV u v||ai z v):=by grind[Oa,gV,ES]
def AP(u:Int->Bool):List (bJ×Int)->Nat->Int->Int|[],_,_=>0|x::l,i,z=>bif u (.ofNat i)then(bif ao x.2 0||!ao x.2 (.ofNat x.1.fields.l.length)then 16 else match x.1.fields.l[x.2.toNat]? with|some f=>bif ao z 0||ai f.kind z then AP u l (i+1) f.kind else 9|none=>0)else bif ai x.2 (-1)then AP u l (i+1) z else 16
def IM(t:Sl bJ)(q:cR):Int:=bif ai (.ofNat q.key.l.length) 0 then 0 else bif ai (.ofNat q.key.l.length) (.ofNat t.l.length)then AP (zl q.vars.l) (t.l.zip q.key.l) 0 (-1)else 15
theorem apM(t:Sl bJ)(q:cR)(A:t.l.length<1200000)(y:q.key.l.length<1200000)(B:q.vars.l.length<1200000):sB (ev PP cf (.call 111 [ep t,.agg q.cells] .no .empty)) (zS (IM t q)):=by
 refine Oe func111 ?_;simp only[go_sem,f111,cR.cells,IM];apply wv<;>intro h<;>simp only[h,go_sem];apply wv<;>intro o<;>simp only[o,go_sem];refine Mp q.vars.l ([]:bT) (λi u=>⟨111,78,[(26,iS i),(5,.dv (.map 0) .no),(24,.dv (ic q.vars) .no),(0,.dv (ep t) .no),(3,.lp 3 0),(25,iS q.vars.l.length)],[(3,⟨q.cells,[]⟩)],⟨1,[(0,.map (yg u 0) u.length)]⟩⟩) (λ_ _ _=>zS (AP (zl q.vars.l) (t.l.zip q.key.l) 0 (-1))) (λ_ l u=>∀v,(gV u v||zl l v)=zl q.vars.l v) ae rfl (λv=>rfl) rfl (λu I=>?_) (λi x l u hi g w I n=>?_)
 . have b:t.l.length=q.key.l.length:=(A2 o).symm;have r:∀v,gV u v=zl q.vars.l v:=λv=>by grind[zl]
   simp only[go_sem,cR.cells];refine Mp (t.l.zip q.key.l) (-1:Int) (λi z=>⟨111,78,[(37,iS i),(8,zS z),(0,.dv (ep t) .no),(5,.dv (.map 0) .no),(35,.dv (hZ q.key) .no),(36,iS q.key.l.length)],[],⟨1,[(0,.map (yg u 0) u.length)]⟩⟩) (λi l z=>zS (AP (zl q.vars.l) l i z)) (λ_ _ _=>True) aj rfl trivial rfl (λz _=>?_) (λi x l z hi g w _ n=>?_);.have p:(t.l.zip q.key.l).length=q.key.l.length:=aP;simp only[p,go_sem,AP]
   .obtain⟨H,Z⟩:=akX g;have d:(i<q.key.l.length)=True:=Cd Z;obtain⟨s,k⟩:=x;simp only at H Z;simp only[AP,<-r];cases b:gV u (.ofNat i)with|false=>have e1:=UF (i:=0) (j:=0) b;have a:=n z trivial;simp only[go_sem]at a;simp only[go_sem,d,Z,e1];apply wv<;>intro h<;>simp only[h,w,go_sem];omega|true=>obtain⟨C,m,c,e1,e2⟩:=UG (i:=0) (a:=0) b;cases k with|negSucc m=>simp only[go_sem,d,H,Z,e1,Wo]|ofNat m=>cases e:s.fields.l[m]? with|none=>have e3:=H9 e;simp only[go_sem,d,H,Z,e1,e3]|some f=>
   have e3:=Cd e;have a:=n f.kind trivial;simp only[go_sem]at a;simp only[go_sem,d,H,Z,e1,e3,e,tn];repeat'(with_reducible apply wv<;>intro h<;>simp only[h,e,w,go_sem])
   all_goals omega
 .have a:=n (Oa u x.ty) (λv=>by rw[alM,Bool.or_assoc];exact I v);simp only[go_sem,cR.cells]at a;unfold Oa at a;cases b:gV u x.ty with|true=>obtain⟨k,m,c,e1,e2⟩:=UG (i:=0) (a:=0) b;have e3:=take_set e2;rw[jM]at e1;simp only[b,go_sem]at a;simp only[go_sem,cR.cells,hi,g,w,e1,e3,a]|false=>have e1:=UF (i:=0) (j:=0) b;simp only[b,go_sem,apn,db,bU,eD]at a;simp only[go_sem,cR.cells,hi,g,w,e1,a]
def Ca(t:Sl bJ)(q:cR):Int:=bif ai (Ec t q.vars) 0 then IM t q else Ec t q.vars
theorem arE(t:Sl bJ)(q:cR)(n:kK t)(v:Hj q.vars)(A:q.key.l.length<1200000):CC 69 [ep t,.agg q.cells] (vI (Ca t q)):=by
 have e:CC 130 [ep t,ic q.vars] (vI (Ec t q.vars)):=adP t q.vars n v.a v.b;simp only[go_sem]at e;refine aK func69 ?_;simp only[go_sem,f69,cR.cells,e,Ca,IM];apply sp<;>intro h<;>simp only[h,go_sem];apply sp<;>intro h<;>simp only[h,go_sem];apply sp<;>intro g<;>simp only[g,go_sem];have a:t.l.length=q.key.l.length:=(A2 g).symm;have r:=n.b;have p:(t.l.zip q.key.l).length=t.l.length:=aj;refine iB (t.l.zip q.key.l) (-1:Int) (λi z=>[(7,iS i),(6,zS z)]) (λi l z=>vI (AP (zl q.vars.l) l i z)) (λ_ _ _=>True) ae rfl trivial rfl (λz _=>?_) (λi x l z hi s w _ o=>?_);.simp only[p,go_sem,AP]
 .obtain⟨j,Z⟩:=akX s;have c:(i<t.l.length)=True:=Cd j;have u:=ap2 q.vars (.ofNat i) v.b;obtain⟨y,k⟩:=x;simp only at j Z;simp only[go_sem]at u;simp only[AP];cases a:zl q.vars.l (.ofNat i)with|false=>have d:=o z trivial;simp only[go_sem]at d;simp only[go_sem,c,Z,u,a];apply sp<;>intro h<;>simp only[h,w,go_sem];omega|true=>cases k with|negSucc m=>simp only[go_sem,c,Z,u,a,Wo]|ofNat m=>cases b:y.fields.l[m]? with|none=>have e3:=H9 b;simp only[go_sem,c,j,Z,u,a,e3]|some f=>
 have e3:=Cd b;have d:=o f.kind trivial;simp only[go_sem]at d;simp only[go_sem,c,j,Z,u,a,e3,b,tn];apply sp<;>intro h<;>simp only[h,j,b,w,go_sem];.omega
 .apply sp<;>intro h<;>simp only[h,w,go_sem];rw[<-ES h];omega
theorem aED:List.take 15 (p.cells++[x])=p.cells++[x]:=by simp[G9,ab.eN]
theorem aEL:cF (p.cells++[x])=x.pure:=by simp[DM,ab.pure,cF]
attribute[go_sem]aED aEL
structure rE(q:cR):Prop where
 n:q.name.length<1200000
 v:Hj q.vars
 k:q.key.l.length<1200000
 p:fY q.pat
 r:q.jJ.l.length<1100000
 e:∀e∈q.jJ.l,e.nn<1100000
def wm(t:Sl bJ)(v:Sl dg):List Expr->Int|[]=>0|e::l=>bif ai (tQ t v e).2 0 then wm t v l else(tQ t v e).2
def DU(t:Sl bJ)(q:cR):Int:=bif ai (sV t q.vars q.pat).2 0 then(bif ai (.ofNat q.jJ.l.length) 0 then 15 else bif ao 256 (.ofNat q.jJ.l.length)then 5 else bif ai (wm t q.vars q.jJ.l) 0 then(A8 q.pat q.jJ.l).2 else wm t q.vars q.jJ.l)else(sV t q.vars q.pat).2
theorem arG(b:Sl bJ)(q:cR)(j:kK b)(a:rE q):Sat (ev PP cf (.call 70 [ep b,.agg q.cells] .no .empty)) λv _=>∃x,v=.tp [x,iO (DU b q)]/\x.1.pure=V:=by
 have e:=aeu b q.vars q.pat j a.v a.p;have f:=ap3 q.pat q.jJ (λg=>⟨OJ g a.p,acM g a.p.a⟩) a.p a.r a.e;have d1:=aJk;simp only[bq,opsOf,f70,go_sem]at d1;simp only[go_sem]at e f;refine kp func70 ?_;simp only[go_sem,f70,cR.cells,e,DU];apply eC<;>intro k1<;>simp only[k1,go_sem];case a=>exact⟨_,rfl,rfl⟩
 apply eC<;>intro k2<;>simp only[k2,go_sem];case h=>exact⟨_,rfl,rfl⟩
 apply eC<;>intro k3<;>simp only[k3,go_sem];case h=>exact⟨_,rfl,rfl⟩
 have n:=a.r;refine vX q.jJ.l ([]:bT) (λi s=>[(9,iS i),(8,dz (s.map iD) 3 1)]) (λ_=>.empty) (λi l s=>wm b q.vars q.jJ.l=wm b q.vars l/\s.length=i) ae rfl rfl ⟨rfl,rfl⟩ (λs I=>?_) (λi x l s hi c w I m=>?_);.rw[I.1];cases s with|nil=>grind[pZ]|cons y t=>
  have p:(DV.ay (iD y::t.map iD) 3 1).pure=V:=by simp[DV.pure,cF,W6]
  simp only[go_sem,wm,f];apply eC<;>intro h<;>simp only[h,go_sem];.grind[pZ]
  .exact⟨_,rfl,rfl⟩
 .have o:=cI c;have hr:=adR b q.vars x j a.v.b (a.e x o);simp only[go_sem]at hr;simp only[wm]at I;cases h:ai (tQ b q.vars x).2 0 with|false=>rw[h]at I;rw[I.1];cases s<;>simp only[go_sem,hi,c,hr,d1,h]<;>exact⟨_,rfl,rfl⟩|true=>rw[h]at I;have d:=m (s++[(tQ b q.vars x).1]) ⟨I.1,aP⟩;cases s with|nil=>simp only[go_sem,dk]at d;simp only[go_sem,hi,c,w,hr,d1,h];omega|cons y t=>have k:(t.length+1<1200000)=True:=ki (by have:=I.2;rw[eq_iff_iff,iff_true]at hi;simp only[bU]at this;omega);simp only[go_sem,fA,eI]at d;simp only[go_sem,hi,c,w,hr,d1,h,k,dU];exact d
def EL(t:Sl bJ)(q:cR):Int:=bif ai (sj t.l) 0 then(bif ai (AZ q.name) 0 then(bif ai (sV t q.vars q.pat).2 0 then(bif ai (Ca t q) 0 then DU t q else Ca t q)else(sV t q.vars q.pat).2)else AZ q.name)else sj t.l
theorem aqV(t:Sl bJ)(q:cR)(b:kK t)(a:rE q):CC 29 [ep t,.agg q.cells] (vI (EL t q)):=by have c:=Us t b.a b.b;have d:=aet q.name a.n;rw[ahW]at d;have e:=aeu t q.vars q.pat b a.v a.p;have f:=arE t q b a.v a.k;obtain⟨_,g4,g,⟨x,o⟩,rfl,i⟩:=arG t q b a;simp only[go_sem,cR.cells]at c e f g i;refine aK func29 ?_;simp only[go_sem,f29,cR.cells,c,EL];repeat'(with_reducible apply sp<;>intro h<;>simp only[h,d,e,f,g,i,go_sem])
def CG(n:Nat)(b:GH)(f:Nat)(c:aA)(r:Int×Int):Prop:=∀g,Lo n b g->∃a,ev PP cf (.call f c .no g)=J (.val (.tp [iO r.1,iO r.2]) a)/\Lo n g a
def zI(n:Nat)(b:GH)(f:Nat)(c:aA)(e:Int):Prop:=∀g,Lo n b g->∃a,ev PP cf (.call f c .no g)=J (.val (.dv (iD e) .no) a)/\Lo n g a
abbrev zV:=Nat×aA×(Int×Int)
def mq(H:GH->Prop):List zV->(GH->Prop)->Prop|[],E=>∀g,H g->E g|x::l,E=>∃a:GH->Prop,((∀g,H g->∃b,ev PP cf (.call x.1 x.2.1 .no g)=J (.val (.tp [iO x.2.2.1,iO x.2.2.2]) b)/\a b)/\cf.eF x.1=C/\cf.fk x.1=0)/\(ai x.2.2.2 0=V->mq a l E)
theorem CG.to{n f:Nat}{b:GH}{c:aA}{r:Int×Int}(h:CG n b f c r):∀g,Lo n b g->∃a,ev PP cf (.call f c .no g)=J (.val (.tp [iO r.1,iO r.2]) a)/\Lo n b a:=λg d=>by obtain⟨a,e,k⟩:=h g d;exact⟨a,e,d.trans k⟩
theorem mq.step{n:Nat}{g:GH}{x:zV}{l:List zV}{E:GH->Prop}(h:CG n g x.1 x.2.1 x.2.2)(a:cf.eF x.1=C)(b:cf.fk x.1=0)(c:ai x.2.2.2 0=V->mq (Lo n g) l E):mq (Lo n g) (x::l) E:=⟨Lo n g,⟨h.to,a,b⟩,c⟩
def qa:List zV->Int×Int|[]=>(0,0)|x::l=>bif ai x.2.2.2 0 then qa l else x.2.2
def DL(x:zV):DV:=.agg [.func x.1 [] x.2.1]
theorem O'(l:List zV)(B:l.length<1000)(H E:GH->Prop)(h:mq H l E)(g:GH)(u:H g):∃d,ev PP cf (.call 47 [.ay (l.map DL) 127 1] .no g)=J (.val (.tp [iO (qa l).1,iO (qa l).2]) d)/\(ai (qa l).2 0=V->E d):=by
 suffices S:Sat (ev PP cf (.call 47 [.ay (l.map DL) 127 1] .no g)) λv d=>v=.tp [iO (qa l).1,iO (qa l).2]/\(ai (qa l).2 0=V->E d)by obtain⟨v,d,e,rfl,k⟩:=S;grind
 refine kp func47 ?_;simp only[go_sem,f47];refine vX l g (λi _=>[(10,iS i)]) (λs=>s) (λ_ n s=>(∃H:GH->Prop,H s/\mq H n E)/\qa n=qa l) ae rfl rfl ⟨⟨H,u,h⟩,rfl⟩ (λs I=>?_) (λi x n s hi p w I z=>?_);.obtain⟨⟨H,a,b⟩,c⟩:=I;rw[<-c];simp only[go_sem];exact⟨rfl,λ_=>b _ a⟩
 .obtain⟨⟨H,a,q,⟨t,j,m⟩,o⟩,c⟩:=I;obtain⟨d,e,k⟩:=t s a;obtain⟨f,A,r⟩:=x;simp only[acH,acI]at j m e o;cases hr:ai r.2 0 with|true=>have y:=z d ⟨⟨q,k,o hr⟩,by grind[qa]⟩;simp only[go_sem]at y;simp only[go_sem,hi,p,w,DL,j,m,e,hr];omega|false=>rw[<-c];simp only[go_sem,hi,p,DL,j,m,e,hr,qa];simp_all
theorem K8(f:Nat)(c:aA)(g:GH):ev PP cf (.call 48 [.func f [] c] .no g)=J (.val (.dv (.agg [.func 96 [] [.ptr g.next 0]]) .no) (g.alloc (.box ⟨[.func f [] c],[]⟩))):=by refine aK func48 ?_;simp only[go_sem,f48]
theorem yS{n b f:Nat}{c:aA}{a:GH}{e:Int}(o:b<n)(p:a.get b=J (.box ⟨[.func f [] c],[]⟩))(j:cf.eF f=C)(m:cf.fk f=0)(h:zI n a f c e):CG n a 96 [.ptr b 0] (0,e):=by intro g l;obtain⟨i,d,k⟩:=h g l;have u:=(l.2 b o).trans p;refine⟨i,?_,k⟩;refine aK func96 ?_;simp only[go_sem,f96,u,j,m,d]
abbrev bD(d:DV):GO:=.box ⟨[d],[]⟩
abbrev bL(l:aA):GO:=.box ⟨l,[]⟩
section
variable{n:Nat}{g0:GH}{ts:Sl bJ}{vs:Sl dg}{p:ab}{q:cR}{a b c:Nat}
theorem afd(h:kK ts)(c:a<n)(b:g0.get a=J (bD (ep ts))):zI n g0 170 [.ptr a 0] (sj ts.l):=by intro g l;obtain⟨g1,e1⟩:=Ur ts h.a h.b;have i:=(l.2 a c).trans b;refine⟨g,?_,Lo.refl⟩;simp only[go_sem]at e1;refine aK func170 ?_;simp only[go_sem,f170,i,e1]
theorem auc(h:kK ts)(c:a<n)(b:g0.get a=J (bD (ep ts))):zI n g0 49 [.ptr a 0] (sj ts.l):=by intro g l;obtain⟨g1,e1⟩:=Ur ts h.a h.b;have i:=(l.2 a c).trans b;refine⟨g,?_,Lo.refl⟩;simp only[go_sem]at e1;refine aK func49 ?_;simp only[go_sem,f49,i,e1]
theorem afe(v:Hj vs)(e:a<n)(f:b<n)(c:g0.get a=J (bD (ep ts)))(d:g0.get b=J (bD (ic vs))):zI n g0 171 [.ptr a 0,.ptr b 0] (Ed ts vs):=by intro g h;obtain⟨g1,e1⟩:=aqb ts vs v.a v.b;have i:=(h.2 a e).trans c;have j:=(h.2 b f).trans d;refine⟨g,?_,Lo.refl⟩;simp only[go_sem]at e1;refine aK func171 ?_;simp only[go_sem,f171,i,j,e1]
theorem at9(i:fY p)(e:a<n)(f:b<n)(c:g0.get a=J (bL p.cells))(d:g0.get b=J (bD (ic vs))):zI n g0 104 [.ptr a 0,.ptr b 0] (bif ai (hO p).2.2 0&&!ai (hO p).1 (.ofNat vs.l.length)then 15 else(hO p).2.2):=by intro g l;have e1:=adI p i;have Q:=(l.2 a e).trans c;have j:=(l.2 b f).trans d;refine⟨g,?_,Lo.refl⟩;refine aK func104 ?_;simp only[go_sem,f104,Q,e1];repeat'(with_reducible apply sp<;>intro h<;>simp only[h,j,go_sem])
theorem aDQ(A:kK ts)(D:Hj vs)(d:fY p)(u:∀q∈nodes p,iK q.op=V->∃k v,q.var=dI k/\vs.l[k]?=J v)(z:n<=g0.next)(w:a<n)(x:b<n)(y:c<n)(m:g0.get a=J (bD (ep ts)))(o:g0.get b=J (bD (ic vs)))(s:g0.get c=J (bL p.cells)):CG n g0 106 [.ptr a 0,.ptr b 0,.ptr c 0] (match mH ts vs (nodes p) 0 with|none=>(0,0)|some (j,e)=>(.ofNat j,e)):=by
 intro g h;have i:=(h.2 a w).trans m;have t:=(h.2 b x).trans o;have B:=(h.2 c y).trans s;have I:=gv z h.1;have l:(c=g.next)=False:=bW ae;have e1:=adJ A D.b p d.b u (g.alloc (mI ts vs 0)) g.next 0 (by have:=d.a;omega) (by simp[pB]);rcases f:mH ts vs _ 0 with _|r;.rw[f]at e1;simp only[mI,vf,go_sem]at e1;refine⟨(g.alloc (mI ts vs 0)).set _ (mI ts vs (0+p.nn)),?_,(Lo.alloc I).trans (Lo.set I)⟩;refine aK func106 ?_;simp only[go_sem,f106,i,t,B,l,e1,mI]
 obtain⟨j,e⟩:=r;rw[f]at e1;simp only[mI,vf,go_sem]at e1;refine⟨(g.alloc (mI ts vs 0)).set _ (mI ts vs (j+1)),?_,(Lo.alloc I).trans (Lo.set I)⟩;refine aK func106 ?_;simp only[go_sem,f106,i,t,B,l,e1,mI]
theorem aDR(b:fY p)(d:a<n)(c:g0.get a=J (bL p.cells)):CG n g0 108 [.ptr a 0] (wt p):=by intro g l;obtain⟨_,g1,e1,rfl⟩:=apK p (λh=>OJ h b) b;have i:=(l.2 a d).trans c;refine⟨g,?_,Lo.refl⟩;refine aK func108 ?_;simp only[go_sem,f108,i,e1]
end
theorem adH(t:Sl bJ)(v:Sl dg)(g:GH):ev PP cf (.call 103 [ep t,ic v] .no g)=J (.val (.dv (.ay [.agg [.func 96 [] [.ptr (g.next+1+1) 0]],.agg [.func 96 [] [.ptr (g.next+1+1+1) 0]]] 127 1) (.ex 127)) ((((g.alloc (bD (ep t))).alloc (bD (ic v))).alloc (bD (.func 170 [] [.ptr g.next 0]))).alloc (bD (.func 171 [] [.ptr g.next 0,.ptr (g.next+1) 0])))):=by refine aK func103 ?_;simp only[go_sem,f103,K8]
def OL(p:ab)(v:Sl dg):Int:=bif ai (hO p).2.2 0&&!ai (hO p).1 (.ofNat v.l.length)then 15 else(hO p).2.2
def tcP(r:ah (Nat×Int)):Int×Int:=match r with|none=>(0,0)|some (j,e)=>(.ofNat j,e)
theorem aol{v:Sl dg}(h:ai (OL p v) 0=V):ai (hO p).2.2 0=V/\ai (hO p).1 (.ofNat v.l.length)=V:=by
 unfold OL at h;rcases a:ai _ 0 with _|_;.grind
 cases b:ai _ _ with|true=>grind|false=>simp_all[ai]
theorem Hl{e:Nat}{new:aA}(h:l.length+new.length<1000):iM e 1 8 (.ay l e 1) (.ex e) new=J (.ay (l++new) e 1,.ex e):=by grind[wN,bF]
def Q9(t:Sl bJ)(v:Sl dg)(p:ab):List zV:=[(96,[.ptr 5 0],(0,sj t.l)),(96,[.ptr 6 0],(0,Ed t v)),(96,[.ptr 7 0],(0,OL p v)),(106,[.ptr 0 0,.ptr 1 0,.ptr 2 0],tcP (mH t v (nodes p) 0)),(108,[.ptr 2 0],wt p)]
theorem ajO:∀(l:List (ab×LR))(i j:Nat)(e:Int),mG l i=J (j,e)->ai e 0=C|[],_,_,_,h=>by simp[mG]at h|x::l,i,j,e,h=>by simp only[mG]at h;cases z:kW x.1.op&&!ai (BU x.1 x.2) 0 with|false=>rw[z]at h;exact ajO l _ _ _ h|true=>rw[z]at h;simp only[aL,xU,Kc]at h;simp only[iC,Bool.not_eq_true']at z;rw[<-h.2];exact z.2
theorem atf(t:Sl bJ)(v:Sl dg)(p:ab):qa (Q9 t v p)=sV t v p:=by
 simp only[Q9,qa,sV,Ec,OL];rcases h:ai _ 0 with _|_;.grind
 simp only[aL];rcases a:ai _ 0 with _|_;.rfl
 rcases b:ai (hO p).2.2 0 with _|_;.grind
 rcases c:ai _ (.ofNat v.l.length)with _|_;.rfl
 rcases d:mH t v _ 0 with _|r;.simp only[tcP,GF];rw[show ai 0 0=V from rfl,aL];grind[wt,ajO]
 grind[tcP,GF,aaQ]
theorem aer(t:Sl bJ)(s:Sl dg)(p:ab)(b:kK t)(d:Hj s)(a:fY p):∃g,CC 54 [ep t,ic s,.agg p.cells] (.val (.tp [iO (sV t s p).1,iO (sV t s p).2]) g):=by
 have e0:=adH t s ⟨3,[(0,bD (ep t)),(1,bD (ic s)),(2,bL p.cells)]⟩;simp only[go_sem]at e0;suffices S:Sat (ev PP cf (.call 54 [ep t,ic s,.agg p.cells] .no .empty)) λv _=>v=.tp [iO (sV t s p).1,iO (sV t s p).2]by obtain⟨v,g,e,rfl⟩:=S;grind
 have l:mq (Lo 8 ⟨8,[(0,bD (ep t)),(1,bD (ic s)),(2,bL p.cells),(3,bD (ep t)),(4,bD (ic s)),(5,bD (.func 170 [] [.ptr 3 0])),(6,bD (.func 171 [] [.ptr 3 0,.ptr 4 0])),(7,bD (.func 104 [] [.ptr 2 0,.ptr 1 0]))]⟩) (Q9 t s p) (λ_=>True):=by refine mq.step (yS ae rfl (by rfl) (by rfl) (afd b ae rfl)) (by rfl) (by rfl) λ_=>?_;refine mq.step (yS ae rfl (by rfl) (by rfl) (afe d ae ae rfl rfl)) (by rfl) (by rfl) λ_=>?_;refine mq.step (yS ae rfl (by rfl) (by rfl) (at9 a ae ae rfl rfl)) (by rfl) (by rfl) λh=>?_;have c:=aol h;refine mq.step (aDQ b d a (ac9 a c.1 c.2) aP ae ae ae rfl rfl rfl) (by rfl) (by rfl) λ_=>?_;exact mq.step (aDR a ae rfl) (by rfl) (by rfl) λ_ _ _=>trivial
 obtain⟨g,e1,_⟩:=O' _ (by show 5<1000;omega) _ _ l _ Lo.refl;rw[atf]at e1;simp only[Q9,de,bP,DL,go_sem]at e1;refine kp func54 ?_;simp only[go_sem,f54,e0,K8,kY,nu,Hl,bU,eD,e1]
section
variable{n:Nat}{g0:GH}{ts:Sl bJ}{vs:Sl dg}{p:ab}{q:cR}{a b c:Nat}
theorem aua(t:kK ts)(c:rE q)(f:a<n)(i:b<n)(d:g0.get a=J (bD (ep ts)))(e:g0.get b=J (bL q.cells)):zI n g0 110 [.ptr a 0,.ptr b 0] (IM ts q):=by intro g h;obtain⟨g1,e1⟩:=apM ts q t.b c.k c.v.b;have Q:=(h.2 a f).trans d;have j:=(h.2 b i).trans e;refine⟨g,?_,Lo.refl⟩;simp only[go_sem,cR.cells]at e1 j;refine aK func110 ?_;simp only[go_sem,f110,Q,j,e1]
end
def Q'(t:Sl bJ)(q:cR):List zV:=[(96,[.ptr 4 0],(0,sj t.l)),(96,[.ptr 5 0],(0,Ed t q.vars)),(96,[.ptr 6 0],(0,IM t q))]
theorem atg(t:Sl bJ)(q:cR):(qa (Q' t q)).2=Ca t q:=by grind[Q',qa,Ca,Ec,pZ]
theorem arx(t:Sl bJ)(q:cR)(a:kK t)(h:rE q):∃g,CC 56 [ep t,.agg q.cells] (.val (.dv (iD (Ca t q)) .no) g):=by
 have e0:=adH t q.vars ⟨2,[(0,bD (ep t)),(1,bL q.cells)]⟩;have l:mq (Lo 7 ⟨7,[(0,bD (ep t)),(1,bL q.cells),(2,bD (ep t)),(3,bD (ic q.vars)),(4,bD (.func 170 [] [.ptr 2 0])),(5,bD (.func 171 [] [.ptr 2 0,.ptr 3 0])),(6,bD (.func 110 [] [.ptr 0 0,.ptr 1 0]))]⟩) (Q' t q) (λ_=>True):=by refine mq.step (yS ae rfl (by rfl) (by rfl) (afd a ae rfl)) (by rfl) (by rfl) λ_=>?_;refine mq.step (yS ae rfl (by rfl) (by rfl) (afe h.v ae ae rfl rfl)) (by rfl) (by rfl) λ_=>?_;exact mq.step (yS ae rfl (by rfl) (by rfl) (aua a h ae ae rfl rfl)) (by rfl) (by rfl) λ_ _ _=>trivial
 obtain⟨g,e1,_⟩:=O' _ (by show 3<1000;omega) _ _ l _ Lo.refl;rw[atg]at e1;simp only[Q',de,bP,DL,go_sem,cR.cells]at e1;simp only[go_sem,cR.cells]at e0;refine⟨g,?_⟩;refine aK func56 ?_;simp only[go_sem,f56,cR.cells,e0,K8,kY,nu,Hl,bU,eD,e1]
section
variable{n:Nat}{g0:GH}{ts:Sl bJ}{q:cR}{a b c:Nat}
theorem aDS(t:kK ts)(c:rE q)(f:a<n)(i:b<n)(d:g0.get a=J (bD (ep ts)))(e:g0.get b=J (bL q.cells)):CG n g0 112 [.ptr a 0,.ptr b 0] (sV ts q.vars q.pat):=by intro g h;obtain⟨g1,e1⟩:=aer ts _ _ t c.v c.p;have Q:=(h.2 a f).trans d;have j:=(h.2 b i).trans e;refine⟨g,?_,Lo.refl⟩;simp only[go_sem,cR.cells]at e1 j;refine aK func112 ?_;simp only[go_sem,f112,Q,j,e1]
theorem aDU(t:kK ts)(c:rE q)(f:a<n)(i:b<n)(d:g0.get a=J (bD (ep ts)))(e:g0.get b=J (bL q.cells)):CG n g0 53 [.ptr a 0,.ptr b 0] (sV ts q.vars q.pat):=by intro g h;obtain⟨g1,e1⟩:=aer ts _ _ t c.v c.p;have Q:=(h.2 a f).trans d;have j:=(h.2 b i).trans e;refine⟨g,?_,Lo.refl⟩;simp only[go_sem,cR.cells]at e1 j;refine aK func53 ?_;simp only[go_sem,f53,Q,j,e1]
def Qy(q:cR):Int:=bif ai (.ofNat q.jJ.l.length) 0 then 15 else bif ao 256 (.ofNat q.jJ.l.length)then 5 else 0
theorem aub(c:b<n)(a:g0.get b=J (bL q.cells)):zI n g0 113 [.ptr b 0] (Qy q):=by intro g l;have j:=(l.2 b c).trans a;refine⟨g,?_,Lo.refl⟩;simp only[go_sem,cR.cells]at j;refine aK func113 ?_;simp only[go_sem,f113,j,Qy];repeat'(with_reducible apply sp<;>intro h<;>simp only[h,go_sem])
theorem apN(m:kK ts)(d:rE q)(g:GH)(c:g.get 0=J (bD (ep ts)))(a:g.get 1=J (bL q.cells))(k:g.get 2=J (bD .nl)):Sat (ev PP cf (.call 114 [.ptr 1 0,.ptr 0 0,.ptr 2 0] .no g)) λv j=>v=zS (wm ts q.vars q.jJ.l)/\∃l,j=g.set 2 (.box (rJ l)):=by
 have p:=d.r;simp only[go_sem,cR.cells]at a;refine kp func114 ?_;simp only[go_sem,f114,a];refine vX q.jJ.l ([]:bT) (λi _=>[(11,iS i)]) (λs=>g.set 2 (.box (rJ s))) (λi l s=>wm ts q.vars q.jJ.l=wm ts q.vars l/\s.length=i) ae rfl (Z1 k) ⟨rfl,rfl⟩ (λs I=>?_) (λi x l s hi b w I n=>?_);.rw[I.1];simp only[go_sem,wm];grind
 .have o:=cI b;obtain hr:=adL ts q.vars x m d.v.b (d.e x o);simp only[go_sem]at hr;simp only[wm]at I;have r:(0=2)=False:=aj;cases h:ai (tQ ts q.vars x).2 0 with|false=>rw[h]at I;rw[I.1];simp only[go_sem,hi,b,c,a,hr,h];grind|true=>rw[h]at I;have e:=n (s++[(tQ ts q.vars x).1]) ⟨I.1,aP⟩;cases s with|nil=>simp only[go_sem,rJ,dk,bP]at e;simp only[go_sem,rJ,hi,b,w,c,a,hr,h];omega|cons y t=>have f:(t.length+1<1200000)=True:=ki aj;simp only[go_sem,rJ,fA,eI]at e;simp only[go_sem,rJ,hi,b,w,c,a,hr,h,f,dU];omega
theorem aDT(h:rE q)(g:GH)(a:g.get 1=J (bL q.cells)):ev PP cf (.call 116 [.ptr 1 0] .no g)=J (.val (.tp [iO (A8 q.pat q.jJ.l).1,iO (A8 q.pat q.jJ.l).2]) g):=by have e1:=apO _ _ (λc=>OJ c h.p) h.p h.r h.e;simp only[go_sem,cR.cells]at e1 a;refine aK func116 ?_;simp only[go_sem,f116,a,e1]
end
def Ra(t:Sl bJ)(q:cR):List zV:=[(112,[.ptr 0 0,.ptr 1 0],sV t q.vars q.pat),(96,[.ptr 3 0],(0,Qy q)),(96,[.ptr 4 0],(0,wm t q.vars q.jJ.l)),(116,[.ptr 1 0],A8 q.pat q.jJ.l)]
theorem ath(t:Sl bJ)(q:cR):(qa (Ra t q)).2=DU t q:=by grind[Ra,qa,DU,Qy,pZ]
theorem ary(s:Sl bJ)(q:cR)(d:kK s)(b:rE q):Sat (ev PP cf (.call 58 [ep s,.agg q.cells] .no .empty)) λv _=>∃x,v=.tp [x,iO (DU s q)]/\x.1.pure=V:=by
 let E:GH->Prop:=λg=>g.get 1=J (bL q.cells)/\∃l,g.get 2=J (.box (rJ l));have U:mq (Lo 5 ⟨5,[(0,bD (ep s)),(1,bL q.cells),(2,bD .nl),(3,bD (.func 113 [] [.ptr 1 0])),(4,bD (.func 114 [] [.ptr 1 0,.ptr 0 0,.ptr 2 0]))]⟩) (Ra s q) E:=by
   refine mq.step (aDS d b ae ae rfl rfl) (by rfl) (by rfl) λ_=>?_;refine mq.step (yS ae rfl (by rfl) (by rfl) (aub ae rfl)) (by rfl) (by rfl) λ_=>?_;refine⟨E,⟨λg a=>?_,by rfl,by rfl⟩,λ_=>?_⟩
   . have k0:=a.2 0 ae;have k1:g.get 1=J _:=a.2 1 ae;have k2:=a.2 2 ae;have k4:=a.2 4 ae;obtain⟨v,f,e,rfl,l,rfl⟩:=apN d b g k0 k1 k2;refine⟨g.set 2 (.box (rJ l)),?_,?_,l,?_⟩;rotate_left;.grind[oP]
     .simp[oP]
     .refine aK func96 ?_;simp only[go_sem,f96,k4,e]
   .exact⟨E,⟨λg c=>⟨g,aDT b g c.1,c⟩,by rfl,by rfl⟩,λ_ _ h=>h⟩
 obtain⟨f,e1,k⟩:=O' _ (by show 4<1000;omega) _ _ U _ Lo.refl;rw[ath]at e1 k;simp only[Ra,de,bP,DL,go_sem,cR.cells]at e1;refine kp func58 ?_;simp only[go_sem,f58,cR.cells,K8,e1];apply eC<;>intro h<;>simp only[h,go_sem]
 . obtain⟨_,l,a⟩:=k h;rw[pZ h];rcases l with _|⟨y,t⟩;.simp only[rJ]at a;simp only[go_sem,a];exact⟨_,rfl,rfl⟩
   have p:(DV.ay (iD y::t.map iD) 3 1).pure=V:=by simp[DV.pure,cF,W6]
   simp only[rJ]at a;simp only[go_sem,a];grind
 .exact⟨_,rfl,rfl⟩
section
variable{n:Nat}{g0:GH}{ts:Sl bJ}{q:cR}{a b c:Nat}
theorem aud(c:rE q)(a:b<n)(h:g0.get b=J (bL q.cells)):zI n g0 51 [.ptr b 0] (AZ q.name):=by intro g l;have j:=(l.2 b a).trans h;have e1:ev PP cf _=J (vI (AZ _)):=aeq _ c.n;refine⟨g,?_,Lo.refl⟩;simp only[go_sem,cR.cells]at j;refine aK func51 ?_;simp only[go_sem,f51,j,e1]
theorem aue(t:kK ts)(i:rE q)(e:a<n)(f:b<n)(c:g0.get a=J (bD (ep ts)))(d:g0.get b=J (bL q.cells)):zI n g0 55 [.ptr a 0,.ptr b 0] (Ca ts q):=by intro g h;obtain⟨g1,e1⟩:=arx ts q t i;have Q:=(h.2 a e).trans c;have j:=(h.2 b f).trans d;refine⟨g,?_,Lo.refl⟩;simp only[go_sem,cR.cells]at e1 j;refine aK func55 ?_;simp only[go_sem,f55,Q,j,e1]
theorem auf(t:kK ts)(k:rE q)(f:a<n)(i:b<n)(d:g0.get a=J (bD (ep ts)))(e:g0.get b=J (bL q.cells)):zI n g0 57 [.ptr a 0,.ptr b 0] (DU ts q):=by intro g h;obtain⟨_,g1,e1,⟨x,o⟩,rfl,c⟩:=ary ts q t k;have Q:=(h.2 a f).trans d;have j:=(h.2 b i).trans e;refine⟨g,?_,Lo.refl⟩;simp only[go_sem,cR.cells]at e1 j c;refine aK func57 ?_;simp only[go_sem,f57,Q,j,e1,c]
end
def Q8(t:Sl bJ)(q:cR):List zV:=[(96,[.ptr 2 0],(0,sj t.l)),(96,[.ptr 3 0],(0,AZ q.name)),(53,[.ptr 0 0,.ptr 1 0],sV t q.vars q.pat),(96,[.ptr 4 0],(0,Ca t q)),(96,[.ptr 5 0],(0,DU t q))]
theorem ate(t:Sl bJ)(q:cR):(qa (Q8 t q)).2=EL t q:=by grind[Q8,qa,EL,pZ]
theorem aqH(t:Sl bJ)(q:cR)(a:kK t)(h:rE q):∃g,CC 26 [ep t,.agg q.cells] (.val (.dv (iD (EL t q)) .no) g):=by
 have l:mq (Lo 6 ⟨6,[(0,bD (ep t)),(1,bL q.cells),(2,bD (.func 49 [] [.ptr 0 0])),(3,bD (.func 51 [] [.ptr 1 0])),(4,bD (.func 55 [] [.ptr 0 0,.ptr 1 0])),(5,bD (.func 57 [] [.ptr 0 0,.ptr 1 0]))]⟩) (Q8 t q) (λ_=>True):=by refine mq.step (yS ae rfl (by rfl) (by rfl) (auc a ae rfl)) (by rfl) (by rfl) λ_=>?_;refine mq.step (yS ae rfl (by rfl) (by rfl) (aud h ae rfl)) (by rfl) (by rfl) λ_=>?_;refine mq.step (aDU a h ae ae rfl rfl) (by rfl) (by rfl) λ_=>?_;refine mq.step (yS ae rfl (by rfl) (by rfl) (aue a h ae ae rfl rfl)) (by rfl) (by rfl) λ_=>?_;exact mq.step (yS ae rfl (by rfl) (by rfl) (auf a h ae ae rfl rfl)) (by rfl) (by rfl) λ_ _ _=>trivial
 obtain⟨g,e1,_⟩:=O' _ (by show 5<1000;omega) _ _ l _ Lo.refl;rw[ate]at e1;simp only[Q8,de,bP,DL,go_sem,cR.cells]at e1;refine⟨g,?_⟩;refine aK func26 ?_;simp only[go_sem,f26,cR.cells,K8,bU,eD,e1]
theorem yj(i m:Int):CC 43 [iD i,iD m] (vB (bif ao i 0 then V else ao m i)):=by refine aK func43 ?_;simp only[go_sem,f43];apply sp<;>intro h<;>simp only[h,go_sem]
theorem aka(n:Int)(a:0<=n)(h:n<1100000):fS .i64 (nS n 1)=n-1:=by cases n with|negSucc m=>omega|ofNat m=>
 rcases m with _|m;.rfl
 grind[aae]
theorem W5(i n:Int):(bif ao i 0 then V else ao (n-1) i)=!within i n:=by grind[within,eP]
theorem QV(i n:Int)(a:0<=n)(h:n<1100000):(bif ao i 0 then V else ao (fS .i64 (nS n 1)) i)=!within i n:=by rw[aka n a h,W5]
def xN(n:Int):bT->bT->Int|_,[]=>0|b,s::l=>bif within s n then(bif gV b s then 7 else xN n (b++[s]) l)else 2
theorem adY(l:Sl Int)(n:Int)(g:0<=n)(h:n<1100000)(k:l.l.length<1200000):CC 165 [hZ l,iD n] (vI (xN n [] l.l)):=by
 have d1:=aIt;simp only[bq,opsOf,f165,go_sem]at d1;refine aK func165 ?_;simp only[go_sem,f165];refine dJ l.l (λi=>[(5,iS i)]) (λi e=>vI (xN n (l.l.take i) e)) ae rfl rfl ?_ (λi x e hi b w d=>?_);.simp only[go_sem,xN]
 . have e1:=yj x (fS .i64 (nS n 1));rw[QV x n g h]at e1;rw[D9 b]at d;simp only[go_sem]at d;have t:i<=l.l.length:=aj;have X:(l.l.take i).length=i:=aj;simp only[xN];simp only[go_sem,hi,b,e1];apply sp<;>intro h<;>simp only[h,go_sem];rw[ur];refine dJ (l.l.take i) (λj=>[(6,iS j)]) (λ_ m=>vI (bif m.any (λy=>ai y x)then 7 else xN n (l.l.take i++[x]) e)) ae rfl rfl ?_ (λj y m a c v f=>?_);.rw[X];simp only[go_sem,w,d,zM]
   .rw[X]at a;rw[List.getElem?_take]at c;have B:j<i:=rX a;rw[if_pos B]at c;have o:(j<l.l.length)=True:=ki ae;simp only[go_sem]at f;simp only[go_sem,a,b,c,d1,nv];apply sp<;>intro h<;>simp only[h,v,f,go_sem]
theorem aHR{n:Nat}(a:n<=l.length)(h:n<1200000):oz PP 24 (.ay l 3 1) Z (J (.int .i64 (.ofNat n))) Z=J (.ay (l.take n) 3 1,.no):=by unfold oz;grind[Proofs.Tryz.underlying24,RQ,nT,nY,rB,bF]
theorem ax3(l:bT):hZ ⟨C,l⟩=.ay (l.map iD) 3 1:=by cases l<;>rfl
def rk(n:Int):List (Sl Int)->Int|[]=>0|l::t=>bif ai (xN n [] l.l) 0 then rk n t else xN n [] l.l
theorem arN(l:Sl fU)(j:l.l.length<1100000):∃o,CC 85 [yN l] (.val (mb (l.l.map fU.scope) o) .empty):=by
 suffices S:Sat (ev PP cf (.call 85 [yN l] .no .empty)) λv g=>g=.empty/\∃o,v=mb (l.l.map fU.scope) o by obtain⟨v,g,e,rfl,o,rfl⟩:=S;grind
 refine kp func85 ?_;simp only[go_sem,f85];refine vX l.l ([]:bT) (λi s=>[(8,iS i),(3,dz (s.map iD) 3 1)]) (λ_=>.empty) (λi c s=>s++c.map fU.scope=l.l.map fU.scope/\s.length=i) ae rfl rfl ⟨rfl,rfl⟩ (λs h=>?_) (λi x c s hi a w h d=>?_);.rw[<-h.1,bP,fy];cases s with|nil=>simp only[go_sem];exact⟨trivial,.any,rfl⟩|cons y t=>simp only[go_sem];exact⟨trivial,.ex 3,rfl⟩
 .have b:=d (s++[x.scope]) ⟨aj,aj⟩;cases s with|nil=>simp only[go_sem,dk]at b;simp only[go_sem,hi,a,w,fU.d];omega|cons y t=>have f:(t.length+1<1200000)=True:=ki aj;simp only[go_sem,fA,eI]at b;simp only[go_sem,hi,a,w,fU.d,f,dU];omega
theorem arM(a:bm)(s:List (Sl Int))(p:s.length<1000)(g:∀l∈s,l.l.length<1100000):CC 84 [.agg a.cells,.ay (s.map hZ) 24 1] (vI (rk a.scopes s)):=by
 refine aK func84 ?_;simp only[go_sem,f84,bm.cells];refine dJ s (λi=>[(11,iS i)]) (λ_ l=>vI (rk a.scopes l)) ae rfl rfl ?_ (λi x k hi d w f=>?_);.simp only[go_sem,rk]
 . have Q:=g x (cI d);simp only[go_sem]at f;simp only[rk];simp only[go_sem,hi,d];rw[ur];refine dJ x.l (λj=>[(17,iS j)]) (λj m=>vI (bif ai (xN a.scopes (x.l.take j) m) 0 then rk a.scopes k else xN a.scopes (x.l.take j) m)) ae rfl rfl ?_ (λj y m c e v b=>?_);.simp only[go_sem,xN,w,f]
   . have q:j<x.l.length:=rX c;have e1:=EU y a.scopes;have e2:=Ue ⟨C,x.l.take j⟩ y aj;have e3:=aHR (l:=x.l.map iD) (n:=j) aj ae;have e4:cp x.nl (x.l.map iD) 3 1=.ay (x.l.map iD) 3 1:=by cases o:x.l with|nil=>simp_all|cons=>rfl
     rw[ax3]at e2;rw[<-List.map_take]at e3;rw[D9 e]at b;simp only[go_sem,e4]at b;simp only[xN];simp only[go_sem,c,e,e1,e4];apply sp<;>intro h<;>simp only[h,e3,go_sem];simp only[e2,go_sem];apply sp<;>intro h<;>simp only[h,v,b,go_sem]
def wX(s v:Int):bT->List Guard->Int|_,[]=>0|b,g::l=>bif within g.scope s&&(within g.ty 16&&within g.var v)then(bif gV b g.scope then 7 else bif ai g.cond.gU 0 then wX s v (b++[g.scope]) l else g.cond.gU)else 2
def E6(a:bm)(l:List Guard):Int:=bif ao 64 (.ofNat l.length)then 5 else wX a.scopes a.vars [] l
theorem arL(a c:Guard)(b:Nat)(g:GH)(h:g.get b=J (bL c.cells)):ev PP cf (.call 82 [a.d,.ptr b 0] .no g)=J (.val (.dv (.bool (ai a.scope c.scope)) .no) g):=by refine aK func82 ?_;simp only[go_sem,f82,Guard.d,Guard.cells,h]
theorem afG(l:List Guard)(s:Int):gV (l.map Guard.scope) s=l.any λg=>ai g.scope s:=by grind[gV]
theorem aHQ{n:Nat}(a:n<=l.length)(h:n<1200000):oz PP 58 (.ay l 96 11) Z (J (.int .i64 (.ofNat n))) Z=J (.ay (l.take n) 96 11,.no):=by unfold oz;grind[Proofs.Tryz.underlying58,ake,nT,nY,rB,bF]
theorem arp(a:bm)(b:Sl Guard)(p:b.l.length<1100000)(o:∀g∈b.l,g.cond.nn<1100000):sB (ev PP cf (.call 40 [.agg a.cells,pC b] .no .empty)) (zS (E6 a b.l)):=by
 suffices S:Sat (ev PP cf (.call 40 [.agg a.cells,pC b] .no .empty)) λv _=>v=zS (E6 a b.l)by obtain⟨v,g,e,rfl⟩:=S;exact⟨g,e⟩
 refine kp func40 ?_;simp only[go_sem,f40,bm.cells,E6];apply eC<;>intro h<;>simp only[h,go_sem];refine vX b.l GH.empty (λi _=>[(13,iS i)]) (λs=>s) (λi f _=>wX a.scopes a.vars ((b.l.take i).map Guard.scope) f=wX a.scopes a.vars [] b.l) ae rfl rfl rfl (λs I=>?_) (λi x f s hi c w I m=>?_);.rw[<-I];simp only[go_sem,wX]
 . have t:i<b.l.length:=rX hi;have u:=o x (cI c);have e4:cp b.nl (b.l.map Guard.d) 96 11=.ay (b.l.map Guard.d) 96 11:=by cases Q:b.l with|nil=>rw[Q]at t;simp at t|cons=>rfl
   have e3:=aHQ (l:=b.l.map Guard.d) (n:=i) (by rw[dU];omega) ae;rw[<-List.map_take]at e3;have e5:cp C ((b.l.take i).map Guard.d) 96 11=.ay ((b.l.take i).map Guard.d) 96 11:=by cases b.l.take i<;>rfl
   have e6:=Uu (d:=Guard.d) (q:=λh=>ai h.scope x.scope) 82 [] [.ptr s.next 0] ((s.alloc (bL [iD 0,iD 0,iD 0,iD 0,.nl,iD 0,iD 0,iD 0,iD 0,iD 0,.str []])).set s.next (bL x.cells)) C (b.l.take i) (by rw[Bv];omega) (λy _=>.inl ⟨aI,aI,arL y x s.next _ (by rw[oP,if_pos rfl])⟩) (.inl rfl) (λy=>⟨rfl,by simp[Guard.d,DV.flat,Guard.eN]⟩);rw[e5]at e6;have e1:=EU x.scope a.scopes;have e2:=EU x.ty 16;have e7:=EU x.var a.vars;have e8:=HL x.cond ae;rw[<-afG]at e6;rw[D9 c,eI]at m;simp only[wX]at I;rw[<-I];simp only[Guard.cells,go_sem]at e6;have k:=m;simp only[go_sem,e4]at k;simp only[go_sem,hi,c,e1,e4,Guard.d,Guard.cells];repeat'(with_reducible apply eC<;>intro h<;>simp only[h,w,e2,e3,e7,e6,e8,go_sem])
   all_goals
   have j:wX a.scopes a.vars (List.map Guard.scope (List.take i b.l)++[x.scope]) f=wX a.scopes a.vars [] b.l:=by rw[<-I];simp only[*,xP,aL,bg]
   rw[j];exact k _ j
theorem aiA(i:Int):(bif ao i 0 then V else ao 15 i)=!within i 16:=W5 i 16
structure JZ(a:bm):Prop where
 v0:0<=a.vars
 v1:a.vars<1100000
 s0:0<=a.scopes
 s1:a.scopes<1100000
theorem art(a:bm)(c:JZ a)(l:Sl Guard)(p:l.l.length<1100000)(o:∀g∈l.l,g.cond.nn<1100000):CC 44 [.agg a.cells,pC l] (vI (E6 a l.l)):=by
 have d1:=aJh;have d2:=aJg;simp only[bq,opsOf,f44,go_sem]at d1 d2;refine aK func44 ?_;simp only[go_sem,f44,bm.cells,E6];apply sp<;>intro h<;>simp only[h,go_sem];refine dJ l.l (λi=>[(5,iS i)]) (λi k=>vI (wX a.scopes a.vars ((l.l.take i).map Guard.scope) k)) ae rfl rfl ?_ (λi x k hi b w f=>?_);.simp only[go_sem,wX]
 . have e1:=yj x.scope (fS .i64 (nS a.scopes 1));have e2:=yj x.ty 15;have e3:=yj x.var (fS .i64 (nS a.vars 1));have e8:=HM x.cond aj;rw[QV _ _ c.s0 c.s1]at e1;rw[aiA]at e2;rw[QV _ _ c.v0 c.v1]at e3;rw[D9 b,eI,de,bP]at f;simp only[go_sem]at f;have t:i<l.l.length:=rX hi;have X:(l.l.take i).length=i:=aj;simp only[wX];simp only[go_sem,hi,b,e1,d1,Guard.d,Guard.cells];repeat'(with_reducible apply sp<;>intro h<;>simp only[h,b,e2,e3,Guard.d,Guard.cells,go_sem])
   rw[ur,afG];refine dJ (l.l.take i) (λj=>[(6,iS j)]) (λ_ m=>vI (bif m.any (λy=>ai y.scope x.scope)then 7 else bif ai x.cond.gU 0 then wX a.scopes a.vars (List.map Guard.scope (List.take i l.l)++[x.scope]) k else x.cond.gU)) ae rfl rfl ?_ (λj y m d e v n=>?_);.rw[X];simp only[go_sem,b,e8,Guard.d,Guard.cells,zM];apply sp<;>intro h<;>simp only[h,w,f,go_sem]
   .rw[X]at d;rw[List.getElem?_take]at e;have B:j<i:=rX d;rw[if_pos B]at e;have S:(j<l.l.length)=True:=ki ae;simp only[go_sem]at n;simp only[go_sem,d,b,e,d2,Guard.d,Guard.cells,nv];apply sp<;>intro h<;>simp only[h,v,n,go_sem]
def D4(l:fU):Bool:=bif ao l.span 0 then V else ao 1099511627776 l.span
theorem arO(l:fU):CC 87 [l.d] (vB (D4 l)):=by refine aK func87 ?_;simp only[go_sem,f87,fU.d,D4];apply sp<;>intro h<;>simp only[h,go_sem]
def ye:List Expr->Int|[]=>0|e::l=>bif ai e.gU 0 then ye l else e.gU
def IS(a:bm)(x:Edge):Int:=bif ai (rk a.scopes [x.opens,x.gK,x.inside,⟨V,x.fx.l.map fU.scope⟩]) 0 then(bif x.fx.l.any D4 then 2 else 0)else rk a.scopes [x.opens,x.gK,x.inside,⟨V,x.fx.l.map fU.scope⟩]
def ZO(a:bm)(x:Edge):Bool:=within x.src (.ofNat a.gk.l.length)&&((!ao x.dst (-1)&&ao x.dst (.ofNat a.gk.l.length))&&(within x.var a.vars&&within x.ty 16))
def HE(a:bm)(x:Edge)(b:Int):Int:=bif ZO a x then(bif ao x.src b then 14 else bif ai x.cond.gU 0 then(bif ao 64 (.ofNat x.gC.l.length)then 5 else bif ai (ye x.gC.l) 0 then IS a x else ye x.gC.l)else x.cond.gU)else 2
structure qz(x:Edge):Prop where
 c:x.cond.nn<1100000
 k:x.gC.l.length<1100000
 e:∀e∈x.gC.l,e.nn<1100000
 o:x.opens.l.length<1100000
 p:x.gK.l.length<1100000
 i:x.inside.l.length<1100000
 l:x.fx.l.length<1100000
theorem arq(a:bm)(x:Edge)(f:Int)(b:qz x):CC 41 [.agg a.cells,x.d,iD f] (vI (HE a x f)):=by
 have d1:=aJf;simp only[bq,opsOf,f41,go_sem]at d1;have e1:=EU x.src (.ofNat a.gk.l.length);have e2:=EU x.var a.vars;have e3:=EU x.ty 16;have e4:=HL x.cond (by have:=b.c;omega);obtain⟨o,e5⟩:=arN x.fx b.l;have e6:=arM a [x.opens,x.gK,x.inside,⟨V,x.fx.l.map fU.scope⟩] (by show 4<1000;decide) (by
 intro l c;simp only[J8,gT,or_false]at c;rcases c with rfl|rfl|rfl|rfl;.exact b.o
 .exact b.p
 .exact b.i
 .show(x.fx.l.map fU.scope).length<1100000;rw[dU];exact b.l);have e7:=Uu (d:=fU.d) (q:=D4) 87 [] [] .empty x.fx.nl x.fx.l (by have:=b.l;omega) (λy _=>.inr ⟨aI,aI,by simp[cF,DV.pure,fU.d],arO y⟩) (.inr (.inl rfl)) (λy=>⟨rfl,rfl⟩);have k:=b.k;simp only[mb,go_sem]at e5;simp only[de,bP,bm.cells,go_sem]at e6;refine aK func41 ?_;simp only[go_sem,f41,bm.cells,Edge.d,Edge.cells,HE,ZO,e1];repeat'(with_reducible apply sp<;>intro h<;>simp only[h,e2,e3,e4,go_sem])
 refine dJ x.gC.l (λi=>[(65,iS i)]) (λ_ l=>vI (bif ai (ye l) 0 then IS a x else ye l)) ae rfl rfl ?_ (λi y l hi e w g=>?_);.simp only[go_sem,ye,IS,d1,e5,e6];apply sp<;>intro h<;>simp only[h,e7,go_sem];apply sp<;>intro h<;>simp only[h,go_sem]
 .have r:=HL y (by have:=b.e y (cI e);omega);simp only[go_sem,hi,e,r,ye]at g|-;apply sp<;>intro h<;>simp only[h,w,g,go_sem]
theorem arU(a:bm)(d:JZ a)(x:Edge)(f:qz x):CC 94 [.agg a.cells,x.d] (vI (IS a x)):=by
 have d1:=aJp;simp only[bq,opsOf,f94,go_sem]at d1;have k:=f.l;refine aK func94 ?_;simp only[go_sem,f94,bm.cells,Edge.d,Edge.cells,IS];generalize L:(bif x.fx.l.any D4 then(2:Int)else 0)=m;refine iB x.fx.l ([]:bT) (λi s=>[(6,iS i),(5,dz (s.map iD) 3 1)]) (λ_ _ _=>vI (bif ai (rk a.scopes [x.opens,x.gK,x.inside,⟨V,x.fx.l.map fU.scope⟩]) 0 then m else rk a.scopes [x.opens,x.gK,x.inside,⟨V,x.fx.l.map fU.scope⟩])) (λi l s=>s++l.map fU.scope=x.fx.l.map fU.scope/\s.length=i) ae rfl ⟨rfl,rfl⟩ rfl (λs I=>?_) (λi y l s hi b w I c=>?_)
 . obtain⟨I,_⟩:=I;rw[bP,fy]at I;rw[<-I];have A:∀y∈[x.opens,x.gK,x.inside,⟨V,s⟩],y.l.length<1200000:=by
    intro y b;simp only[J8,gT,or_false]at b;rcases b with rfl|rfl|rfl|rfl;.have:=f.o;omega
    .have:=f.p;omega
    .have:=f.i;omega
    grind
   cases s with|nil=>
    simp only[go_sem];refine dJ [x.opens,x.gK,x.inside,⟨V,[]⟩] (λi=>[(8,iS i)]) (λ_ l=>vI (bif ai (rk a.scopes l) 0 then m else rk a.scopes l)) aP rfl rfl ?_ (λi y l hi b w c=>?_)
    . simp only[go_sem,rk,bU,eD];subst L;refine dJ x.fx.l (λi=>[(10,iS i)]) (λ_ l=>vI (bif l.any D4 then 2 else 0)) ae rfl rfl ?_ (λi y l hi b w c=>?_);.simp only[go_sem,zM]
      simp_all
    .have e:=adY y a.scopes d.s0 d.s1 (A y (cI b));have P:=fH (Option.map hZ) b;rw[<-lE]at P;simp only[de,bP,iE,hZ,pr]at P;simp only[bU,eD]at hi;simp only[go_sem]at e P;simp only[go_sem,hi,P,e,d1,rk]at c|-;apply sp<;>intro h<;>simp only[h,w,c,go_sem]|cons z t=>
    simp only[go_sem];refine dJ [x.opens,x.gK,x.inside,⟨V,z::t⟩] (λi=>[(8,iS i)]) (λ_ l=>vI (bif ai (rk a.scopes l) 0 then m else rk a.scopes l)) aP rfl rfl ?_ (λi y l hi b w c=>?_)
    . simp only[go_sem,rk,bU,eD];subst L;refine dJ x.fx.l (λi=>[(10,iS i)]) (λ_ l=>vI (bif l.any D4 then 2 else 0)) ae rfl rfl ?_ (λi y l hi b w c=>?_);.simp only[go_sem,zM]
      .have e:=yj y.span 1099511627776;rw[show(bif ao y.span 0 then V else ao 1099511627776 y.span)=D4 y from rfl]at e;simp only[go_sem,hi,b,e,fU.d,nv]at c|-;apply sp<;>intro h<;>simp only[h,w,c,go_sem]
    .have e:=adY y a.scopes d.s0 d.s1 (A y (cI b));have P:=fH (Option.map hZ) b;rw[<-lE]at P;simp only[de,bP,iE,hZ,adB]at P;simp only[bU,eD]at hi;simp only[go_sem]at e P;simp only[go_sem,hi,P,e,d1,rk]at c|-;apply sp<;>intro h<;>simp only[h,w,c,go_sem]
 .have g:=c (s++[y.scope]) ⟨aP,aP⟩;cases s with|nil=>simp only[go_sem,dk]at g;simp only[go_sem,hi,b,w,fU.d];omega|cons z t=>have j:(t.length+1<1200000)=True:=ki aj;simp only[go_sem,fA,eI]at g;simp only[go_sem,hi,b,w,fU.d,j,dU];omega
theorem aDm(d:Int)(n:Nat):(bif ai d (-1)then C else bif ao d 0 then V else ao (dI n-1) d)=!(!ao d (-1)&&ao d (.ofNat n)):=by grind[eP,kO]
theorem apE{e:Expr}{a b c d f:DV}:List.take 13 (e.cells++[a,b,c,d,f])=e.cells++[a,b,c,d,f]:=by simp[G9,Expr.eN]
theorem aps{e:Expr}:cF (e.cells++l)=cF l:=by simp[DM,Expr.pure]
attribute[go_sem]apE aps
theorem arw(a:bm)(c:JZ a)(x:Edge)(f:Int)(b:qz x)(g:a.gk.l.length<1100000):CC 45 [.agg a.cells,x.d,iD f] (vI (HE a x f)):=by
 have n:fS .i64 (nS (.ofNat a.gk.l.length) 1)=dI a.gk.l.length-1:=aka _ (Int.natCast_nonneg _) aj;have e1:=yj x.src (dI a.gk.l.length-1);have e2:=yj x.dst (dI a.gk.l.length-1);have e3:=yj x.var (fS .i64 (nS a.vars 1));have e4:=yj x.ty 15;have e5:=HM x.cond (by have:=b.c;omega);have e6:=arU a c x b;rw[W5]at e1;rw[QV _ _ c.v0 c.v1]at e3;rw[aiA]at e4;have t:=aDm x.dst a.gk.l.length;have k:=b.k;simp only[bm.cells,Edge.d,Edge.cells,go_sem]at e6;have o:(!ao x.dst (-1)&&ao x.dst (.ofNat a.gk.l.length))=!(bif ai x.dst (-1)then C else(bif ao x.dst 0 then V else ao (dI a.gk.l.length-1) x.dst)):=aP;simp only[HE,ZO];rw[o];generalize(bif ao x.dst 0 then V else ao (dI a.gk.l.length-1) x.dst)=j at*;refine aK func45 ?_;simp only[go_sem,f45,bm.cells,Edge.d,Edge.cells,n,e1];repeat'(with_reducible apply sp<;>intro h<;>simp only[h,e2,e3,e4,e5,go_sem])
 all_goals
 refine dJ x.gC.l (λi=>[(9,iS i)]) (λ_ l=>vI (bif ai (ye l) 0 then IS a x else ye l)) ae rfl rfl ?_ (λi y l hi d w e=>?_);.simp only[go_sem,ye,e6]
 .have r:=HM y (by have:=b.e y (cI d);omega);simp only[go_sem,hi,d,r,ye]at e|-;apply sp<;>intro h<;>simp only[h,w,e,go_sem]
def CX(a:bm):bR->Int->Int|[],_=>0|x::l,b=>bif ai (HE a x b) 0 then CX a l x.src else HE a x b
def D5(a:bm):List Stat->Int|[]=>CX a a.bE.l 0|s::l=>bif ai (E6 a s.guards.l) 0 then D5 a l else E6 a s.guards.l
def bm.gU(a:bm):Int:=bif ao a.vars 0||(ao 16 a.vars||(ao a.scopes 0||ao 64 a.scopes))then 2 else bif ao (.ofNat a.gk.l.length) 1||(ao 256 (.ofNat a.gk.l.length)||ao 2048 (.ofNat a.bE.l.length))then 5 else D5 a a.gk.l
structure oD(a:bm):Prop where
 s:a.gk.l.length<1100000
 e:a.bE.l.length<1100000
 g:∀s∈a.gk.l,s.guards.l.length<1100000/\∀g∈s.guards.l,g.cond.nn<1100000
 x:∀x∈a.bE.l,qz x
theorem aqn(a:bm)(c:oD a):CC 22 [.agg a.cells] (vI a.gU):=by
 have k:=c.s;have j:=c.e;refine aK func22 ?_;simp only[go_sem,f22,bm.cells,bm.gU];repeat'(with_reducible apply sp<;>intro h<;>simp only[h,go_sem])
 refine dJ a.gk.l (λi=>[(49,iS i)]) (λ_ l=>vI (D5 a l)) ae rfl rfl ?_ (λi x l hi b w d=>?_)
 . simp only[go_sem,D5];refine iB _ _ (λi s=>[(64,iS i),(6,zS s)]) (λ_ l s=>vI (CX a l s)) (λ_ _ _=>True) ae rfl trivial rfl (λs _=>?_) (λi x l s hi b w _ d=>?_);.simp only[go_sem,CX]
   .have e1:=arq a x s (c.x x (cI b));have e:=d x.src trivial;simp only[Edge.d,Edge.cells,bm.cells,go_sem]at e1;simp only[go_sem]at e;simp only[CX];simp only[go_sem,hi,b,e1,Edge.d,Edge.cells];apply sp<;>intro h<;>simp only[h,w,e,go_sem]
 .obtain⟨f,g⟩:=c.g x (cI b);obtain⟨g1,e1⟩:=arp a x.guards f g;simp only[bm.cells,go_sem]at e1;simp only[go_sem,hi,b,e1,Stat.d,D5]at d|-;apply sp<;>intro h<;>simp only[h,w,d,go_sem]
theorem aqv(a:bm)(e:oD a):CC 24 [.agg a.cells] (vI a.gU):=by
 have k:=e.s;have p:=e.e;have d1:=aIO;have d2:=aIN;simp only[bq,opsOf,f24,go_sem]at d1 d2;have e1:=yj a.vars 16;have e2:=yj a.scopes 64;refine aK func24 ?_;have j:(ao a.vars 0||(ao 16 a.vars||(ao a.scopes 0||ao 64 a.scopes)))=((bif ao a.vars 0 then V else ao 16 a.vars)||(bif ao a.scopes 0 then V else ao 64 a.scopes)):=by grind
 have hN:(bif ao a.vars 0 then V else ao 16 a.vars)=C->(bif ao a.scopes 0 then V else ao 64 a.scopes)=C->JZ a:=by
   intro c d;simp only[eP]at c d;by_cases k1:a.vars<0;.grind
   . by_cases k2:a.scopes<0;.grind
     .simp[k1]at c;simp[k2]at d;exact⟨ae,ae,ae,ae⟩
 unfold bm.gU;rw[j];generalize D:(bif ao a.vars 0 then V else ao 16 a.vars)=m at*;generalize u:(bif ao a.scopes 0 then V else ao 64 a.scopes)=o at*;simp only[go_sem,f24,bm.cells,e1];repeat'(with_reducible apply sp<;>intro h<;>simp only[h,e2,go_sem])
 have n:JZ a:=hN ‹_› ‹_›;refine dJ a.gk.l (λi=>[(3,iS i)]) (λ_ l=>vI (D5 a l)) ae rfl rfl ?_ (λi x l hi b w f=>?_)
 . simp only[go_sem,D5];refine iB a.bE.l (0:Int) (λi s=>[(6,iS i),(5,zS s)]) (λ_ l s=>vI (CX a l s)) (λ_ _ _=>True) ae rfl trivial rfl (λs _=>?_) (λi x l s hi b w _ f=>?_);.simp only[go_sem,CX]
   .have e1:=arw a n x s (e.x x (cI b)) k;have g:=f x.src trivial;simp only[Edge.d,Edge.cells,bm.cells,go_sem]at e1;simp only[go_sem]at g;simp only[CX];simp only[go_sem,hi,b,e1,d2,Edge.d,Edge.cells];apply sp<;>intro h<;>simp only[h,b,w,g,Edge.d,Edge.cells,go_sem]
 .obtain⟨c,d⟩:=e.g x (cI b);have e1:=art a n x.guards c d;simp only[bm.cells,go_sem]at e1;simp only[go_sem,hi,b,e1,d1,Stat.d,D5]at f|-;apply sp<;>intro h<;>simp only[h,w,f,go_sem]
def aeH(s:bJ):Bool:=bif ao 20 (.ofNat s.fields.l.length)then V else ao 100 (.ofNat s.name.length)
def EX(n:Nat):List bJ->Bool|[]=>!ao 20 (.ofNat n)|s::l=>bif aeH s then C else EX n l
theorem apS(t:Sl bJ)(h:t.l.length<1100000):CC 12 [ep t] (vB (EX t.l.length t.l)):=by
 refine aK func12 ?_;simp only[go_sem,f12];refine dJ t.l (λi=>[(3,iS i)]) (λ_ l=>vB (EX t.l.length l)) ae rfl rfl ?_ (λi x l hi a w b=>?_);.simp only[go_sem,EX]
 .simp only[go_sem,hi,a,EX,aeH,bJ.d]at b|-;repeat'(with_reducible apply sp<;>intro h<;>simp only[h,a,w,b,bJ.d,go_sem])
def EY:aF->Bool|[]=>V|p::l=>bif ao 20 (.ofNat (p.cond.cN 20))then C else EY l
theorem ap5(p:ab)(n:p.nn<1100000)(d:∀q∈nodes p,q.cond.nn<1100000):CC 14 [.agg p.cells] (vB (bif ao 9 (.ofNat (p.cN 9))then C else EY (nodes p))):=by
 have e1:ev PP cf (.call 34 [.agg _,.int _ 9] _ _)=_:=O6 9 p ae;have e2:=yi p ae;have b:=FV [p];simp only[dL,fy,ab.aR]at b;refine aK func14 ?_;simp only[go_sem,f14,e1];apply sp<;>intro h<;>simp only[h,go_sem,e2];refine dJ _ (λi=>[(4,iS i)]) (λ_ l=>vB (EY l)) ae rfl rfl ?_ (λi x l hi c w a=>?_);.simp only[go_sem,EY]
 .have e3:ev PP cf (.call 36 [.agg x.cond.cells,.int .i64 20] .no .empty)=_:=O7 20 x.cond aj;cases x;simp only[ab.cond]at e3;simp only[go_sem,hi,c,e3,EY,ab.cells,ab.cond]at a|-;apply sp<;>intro h<;>simp only[h,w,a,go_sem]
def HQ:aF->Bool|[]=>V|p::l=>bif p.cond.HV then HQ l else C
theorem aq9(p:ab)(n:p.nn<1100000)(d:∀q∈nodes p,q.cond.nn<1100000):CC 33 [.agg p.cells] (vB (bif(bif ao 150 (.ofNat (p.cN 150))then V else ao 60 (.ofNat p.dep))then C else HQ (nodes p))):=by
 have e1:ev PP cf (.call 34 [.agg _,.int .i64 150] _ _)=_:=O6 150 p ae;have e2:=yi p ae;have e4:=Ut p ae;have b:=FV [p];simp only[dL,fy,ab.aR]at b;refine aK func33 ?_;simp only[go_sem,f33,e1];repeat'(with_reducible apply sp<;>intro h<;>simp only[h,go_sem,e2,e4])
 all_goals
 refine dJ (nodes p) (λi=>[(4,iS i)]) (λ_ l=>vB (HQ l)) ae rfl rfl ?_ (λi x l hi c w a=>?_);.simp only[go_sem,HQ]
 .have e3:=K4 x.cond aj;cases x;simp only[ab.cond]at e3;simp only[go_sem,hi,c,e3,HQ,ab.cells,ab.cond]at a|-;apply sp<;>intro h<;>simp only[h,w,a,go_sem]
def HP:List Guard->Bool|[]=>V|g::l=>bif g.cond.HV then HP l else C
theorem ap8(s:Sl Guard)(c:s.l.length<1100000)(d:∀g∈s.l,g.cond.nn<1100000):CC 16 [pC s] (vB (HP s.l)):=by
 refine aK func16 ?_;simp only[go_sem,f16];refine dJ _ (λi=>[(3,iS i)]) (λ_ l=>vB (HP l)) ae rfl rfl ?_ (λi x l hi b w a=>?_);.simp only[go_sem,HP]
 .have e3:=K4 x.cond aj;simp only[go_sem,hi,b,e3,HP,Guard.d,Guard.cells]at a|-;apply sp<;>intro h<;>simp only[h,w,a,go_sem]
def BR:List Expr->Bool|[]=>V|e::l=>bif e.HV then BR l else C
theorem apY(q:cR)(n:q.pat.nn<1100000)(c:∀p∈nodes q.pat,p.cond.nn<1100000)(r:q.jJ.l.length<1100000)(f:∀e∈q.jJ.l,e.nn<1100000):∃b,CC 13 [.agg q.cells] (vB b):=by
 have e1:=aq9 q.pat n c;generalize(bif(bif ao 150 (.ofNat (q.pat.cN 150))then V else ao 60 (.ofNat q.pat.dep))then C else HQ (nodes q.pat))=b at e1;refine⟨bif(bif(bif(bif(bif ao 20 (.ofNat q.vars.l.length)then V else ao 30 (.ofNat q.key.l.length))then V else ao 20 (.ofNat q.jJ.l.length))then V else ao 80 (.ofNat q.name.length))then V else !b)then C else BR q.jJ.l,?_⟩;refine aK func13 ?_;simp only[go_sem,f13,cR.cells];repeat'(with_reducible apply sp<;>intro h<;>simp only[h,go_sem,e1])
 all_goals
 refine dJ q.jJ.l (λi=>[(3,iS i)]) (λ_ l=>vB (BR l)) ae rfl rfl ?_ (λi x l hi d w a=>?_);.simp only[go_sem,BR]
 .have e3:=K4 x aj;simp only[go_sem,hi,d,e3,BR]at a|-;apply sp<;>intro h<;>simp only[h,w,a,go_sem]
mutual
def HO : ab -> Int
  | .mk op _ args _ _ _ _ _ => La args (bif ai op 0 then 1 else 0)
def La : aF -> Int -> Int
  | [], s => s
  | p :: l, s => La l (fS .i64 (Int.add s (HO p)))
end
theorem Ud:∀p:ab,p.nn<1200000->CC 15 [.agg p.cells] (vI (HO p))|.mk g f args t v c n o,d=>by simp only[ab.nn]at d;have hr:∀x∈args,CC 15 [.agg x.cells] (vI (HO x)):=λx a=>Ud x (by have:=ab.lM args _ a;omega);clear Ud;refine aK func15 ?_;simp only[go_sem,f15,ab.cells,HO];apply sp<;>intro h<;>simp only[h,go_sem];all_goals
 refine iB args (_:Int) (λi s=>[(4,iS i),(3,zS s)]) (λ_ l s=>vI (La l s)) (λ_ _ _=>True) (by have:=ab.ji args;omega) rfl trivial rfl (λs _=>?_) (λi x l s hi a w _ e=>?_);.simp only[go_sem,La]
 .have e1:=hr x (cI a);have b:=e (fS .i64 (Int.add s (HO x))) trivial;simp only[go_sem]at b;simp only[go_sem,hi,a,w,e1,b,La]termination_by p=>kb p decreasing_by simp_wf;have:=jY a;omega
def f5S(s:Stat):Bool:=bif(bif(bif ao 12 (.ofNat s.guards.l.length)then !ao 64 (.ofNat s.guards.l.length)else C)then V else ao 70 (.ofNat s.guards.l.length))then V else !HP s.guards.l
def f5E(e:Edge):Bool:=bif(bif(bif(bif(bif !e.cond.HV then V else ao 8 (.ofNat e.gC.l.length))then V else ao 12 (.ofNat e.opens.l.length))then V else ao 12 (.ofNat e.gK.l.length))then V else ao 12 (.ofNat e.inside.l.length))then V else ao 12 (.ofNat e.fx.l.length)
def C0(b:Bool):bR->Bool|[]=>b|e::l=>bif f5E e then C else bif BR e.gC.l then C0 b l else C
def HS(b:Bool):List Stat->Bool|[]=>b|e::l=>bif f5S e then C else HS b l
theorem akg{a}(l:List a)(k:Nat):∃m,(l.take k).length=m/\m<=k/\m<=l.length/\(decide (m<l.length)=C\/decide (m<l.length)=V/\ao (.ofNat m) (.ofNat k)=C)/\∀i x,i<m->(l.take k)[i]?=J x->l[i]?=J x/\(i<l.length)=True/\ao (.ofNat i) (.ofNat k)=V:=by refine⟨_,rfl,?_,?_,?_,λi x hi h=>?_⟩<;>grind[eP]
theorem ev5(a:bm)(g:oD a):∃b,CC 5 [.agg a.cells] (vB b):=by
 have E:=g.s;have D:=g.e;refine⟨HS (C0 (bif ao 20 (.ofNat a.gk.l.length)then C else !ao 40 (.ofNat a.bE.l.length)) (a.bE.l.take 60)) (a.gk.l.take 30),?_⟩;obtain⟨m,s,F,G,t,B⟩:=akg a.gk.l 30;obtain⟨k,k1,k2,k3,k4,k5⟩:=akg a.bE.l 60;have mk:∀m,ao (.ofNat m) (.ofNat 30)=ao (.ofNat m) 30:=λ_=>rfl;have A:∀m,ao (.ofNat m) (.ofNat 60)=ao (.ofNat m) 60:=λ_=>rfl;rw[mk]at t;rw[A]at k4;refine aK func5 ?_;simp only[go_sem,f5,bm.cells];refine dJ (a.gk.l.take 30) (λi=>[(3,iS i)]) (λ_ l=>vB (HS (C0 (bif ao 20 (.ofNat a.gk.l.length)then C else !ao 40 (.ofNat a.bE.l.length)) (a.bE.l.take 60)) l)) ae rfl rfl ?_ (λi x l hi n w f=>?_)
 . rw[s];rcases t with d|⟨d,p⟩;case' inl=>simp only[go_sem,d,HS]
   case' inr=>simp only[go_sem,d,p,HS]
   all_goals
   refine dJ (a.bE.l.take 60) (λi=>[(4,iS i)]) (λ_ l=>vB (C0 (bif ao 20 (.ofNat a.gk.l.length)then C else !ao 40 (.ofNat a.bE.l.length)) l)) ae rfl rfl ?_ (λi x l hi n w f=>?_)
   . rw[k1];rcases k4 with d|⟨d,p⟩;case' inl=>simp only[go_sem,d,C0]
     case' inr=>simp only[go_sem,d,p,C0]
     all_goals apply sp<;>intro h<;>simp only[h,go_sem]
   . rw[k1]at hi;obtain⟨e,hi,c⟩:=k5 i x (rX hi) n;have c:ao (.ofNat i) 60=V:=c;have ok:=g.x x (cI e);have e1:=K4 x.cond (by have:=ok.c;omega);simp only[go_sem,hi,e,c,e1,C0,f5E,Edge.d,Edge.cells]at f|-;repeat'(with_reducible apply sp<;>intro h<;>simp only[h,go_sem])
     all_goals
     rw[ur];refine dJ x.gC.l (λj=>[(6,iS j)]) (λ_ m=>vB (bif BR m then C0 (bif ao 20 (.ofNat a.gk.l.length)then C else !ao 40 (.ofNat a.bE.l.length)) l else C)) (by have:=ok.k;omega) rfl rfl ?_ (λj y m u z v q=>?_);.simp only[go_sem,w,f,BR]
     .have e2:=K4 y (by have:=ok.e y (cI z);omega);simp only[go_sem]at q;simp only[go_sem,u,z,e2,BR];apply sp<;>intro h<;>simp only[h,v,q,go_sem]
 .rw[s]at hi;obtain⟨e,hi,c⟩:=B i x (rX hi) n;have c:ao (.ofNat i) 30=V:=c;have ok:=g.g x (cI e);have e1:=ap8 x.guards ok.1 ok.2;simp only[go_sem]at e1;simp only[go_sem,hi,e,c,HS,f5S,Stat.d]at f|-;repeat'(with_reducible apply sp<;>intro h<;>simp only[h,e,w,e1,f,Stat.d,go_sem])
theorem aEE:List.take 15 (p.cells++x::l)=p.cells++[x]:=by have:p.cells++x::l=(p.cells++[x])++l:=aO;grind[List.take_left',ab.eN]
theorem aDY:List.drop 15 (p.cells++x::l)=l:=by have:p.cells++x::l=(p.cells++[x])++l:=aO;grind[List.drop_left',ab.eN]
attribute[go_sem]aEE aDY
theorem ev4(t:Sl bJ)(q:cR)(a:bm)(g:t.l.length<1100000)(n:q.pat.nn<1100000)(c:∀p∈nodes q.pat,p.cond.nn<1100000)(r:q.jJ.l.length<1100000)(j:∀e∈q.jJ.l,e.nn<1100000)(i:oD a):∃b,CC 4 [.agg (jZ.cells ⟨t,q,a⟩)] (vB b):=by have e1:=apS t g;obtain⟨d,e2⟩:=apY q n c r j;have e3:=ap5 q.pat n c;have e4:=Ud q.pat ae;obtain⟨f,e5⟩:=ev5 a i;refine⟨bif EX t.l.length t.l then bif d then bif(bif ao 9 (.ofNat (q.pat.cN 9))then C else EY (nodes q.pat))then bif !ao 4 (HO q.pat)then f else C else C else C else C,?_⟩;generalize EX t.l.length t.l=k at*;generalize(bif ao 9 (.ofNat (q.pat.cN 9))then C else EY (nodes q.pat))=l at*;refine aK func4 ?_;simp only[go_sem,bm.cells,cR.cells]at e1 e2 e3 e4 e5;simp only[go_sem,f4,jZ.cells,cR.cells,bm.cells,e1];repeat'(with_reducible apply sp<;>intro h<;>simp only[h,e2,e3,e4,e5,go_sem])
theorem Um(s t:Sl Int)(c:s.l.length<1000000000):CC 207 [hZ s,hZ t] (vB (fM ai s.l t.l)):=by
 have hd:=aIH;simp only[bq,opsOf,f207,go_sem]at hd;refine aK func207 ?_;by_cases e:s.l.length=t.l.length
 . simp only[go_sem,f207,e,tq _ _ e];refine dJ (s.l.zip t.l) (λi=>[(5,iS i)]) (λi l=>vB (l.all λp=>ai p.1 p.2)) aj rfl rfl ?_ (λi x l hi a w b=>?_);.simp only[go_sem,kX e,nu,e]
   .obtain⟨a,y⟩:=vn a;rw[kX e,e]at hi;simp only[go_sem,hd,hi,a,y,e,kY]at b|-;apply sp<;>intro h<;>simp only[h,w,b,go_sem]
 .simp only[go_sem,f207,e,tj _ _ e]
theorem aq3(s t:Sl Int)(c:s.l.length<1000000000):CC 32 [hZ s,hZ t] (vB (fM ai s.l t.l)):=by
 have hd:=aI6;simp only[bq,opsOf,f32,go_sem]at hd;refine aK func32 ?_;by_cases e:s.l.length=t.l.length
 . simp only[go_sem,f32,e,tq _ _ e];refine dJ (s.l.zip t.l) (λi=>[(5,iS i)]) (λi l=>vB (l.all λp=>ai p.1 p.2)) aj rfl rfl ?_ (λi x l hi a w b=>?_);.simp only[go_sem,kX e,nu,e]
   .obtain⟨a,y⟩:=vn a;rw[kX e,e]at hi;simp only[go_sem,hd,hi,a,y,e,kY]at b|-;apply sp<;>intro h<;>simp only[h,w,b,go_sem]
 .simp only[go_sem,f32,e,tj _ _ e]
theorem aqm(s t:Sl fU)(c:s.l.length<1000000000):CC 208 [yN s,yN t] (vB (fM za s.l t.l)):=by
 have hd:=aII;simp only[bq,opsOf,f208,go_sem]at hd;refine aK func208 ?_;by_cases e:s.l.length=t.l.length
 . simp only[go_sem,f208,e,tq _ _ e];refine dJ (s.l.zip _) (λi=>[(5,iS i)]) (λi l=>vB (l.all _)) aj rfl rfl ?_ (λi x l hi a w b=>?_);.simp only[go_sem,kX e,nu,e]
   .obtain⟨a,y⟩:=vn a;rw[kX e,e]at hi;simp only[go_sem,hd,hi,a,y,e,kY,za]at b|-;apply sp<;>intro h<;>simp only[h,w,b,go_sem]
 .simp only[go_sem,f208,e,tj _ _ e]
def Edge.same(e d:Edge):Bool:=ai e.var d.var&&(ai e.ty d.ty&&(e.cond.same d.cond&&(fM Expr.same e.gC.l d.gC.l&&(fM ai e.opens.l d.opens.l&&(fM ai e.gK.l d.gK.l&&(fM ai e.inside.l d.inside.l&&fM za e.fx.l d.fx.l))))))
theorem adU(e d:Edge)(b:qz e)(g:e.fx.l.length<1000000000)(j:e.opens.l.length<1000000000)(k:e.gK.l.length<1000000000)(m:e.inside.l.length<1000000000):CC 143 [e.d,d.d] (vB (e.same d)):=by
 have hd:=aIs;simp only[bq,opsOf,f143,go_sem]at hd;have e1:=HK e.cond d.cond (by have:=b.c;omega);have e2:=Um e.opens d.opens j;have e3:=Um e.gK d.gK k;have e4:=Um e.inside d.inside m;have e5:=aqm e.fx d.fx g;have n:=b.k;simp only[go_sem]at e2 e3 e4 e5;refine aK func143 ?_;by_cases c:e.gC.l.length=d.gC.l.length
 . simp only[go_sem,f143,Edge.d,Edge.cells,Edge.same,tq _ _ c];repeat'(with_reducible apply sp<;>intro h<;>simp only[h,e1,c,go_sem])
   refine dJ (e.gC.l.zip d.gC.l) (λi=>[(5,iS i)]) (λi l=>vB (l.all (λp=>p.1.same p.2)&&(fM ai e.opens.l d.opens.l&&(fM ai e.gK.l d.gK.l&&(fM ai e.inside.l d.inside.l&&fM za e.fx.l d.fx.l))))) aj rfl rfl ?_ (λi x l hi a w f=>?_);.simp only[go_sem,kX c,nu,c,e2];repeat'(with_reducible apply sp<;>intro h<;>simp only[h,e3,e4,e5,go_sem])
   .obtain⟨a,y⟩:=vn a;rw[kX c,c]at hi;have hr:=HK x.1 x.2 (by have:=b.e x.1 (cI a);omega);simp only[go_sem,hd,hi,a,y,hr,c,kY]at f|-;apply sp<;>intro h<;>simp only[h,w,f,go_sem]
 .simp only[go_sem,f143,Edge.d,Edge.cells,Edge.same,tj _ _ c];repeat'(with_reducible apply sp<;>intro h<;>simp only[h,e1,c,go_sem])
end Go.VM
