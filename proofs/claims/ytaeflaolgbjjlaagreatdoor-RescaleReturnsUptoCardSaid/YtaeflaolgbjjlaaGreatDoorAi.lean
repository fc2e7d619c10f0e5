/- Proved: what functions of the program answer (a part of the proof of RescaleReturnsUptoCardSaid, whose theorem stands in the last text), within the sizes that each theorem names. -/
import Derived.Test.YtaeflaolgbjjlaaGreatDoorAh
open Option renaming some->J,none->Z
open Bool renaming true->V,false->C
open Int renaming ofNat->di,add->jP
open SizeOf renaming sizeOf->oW
noncomputable section
set_option linter.all false
namespace Go.VM
open Go Go.AM Proofs.Tryz
set_option maxHeartbeats 1000000
variable{x:DV}{p:ae}{l:aq}
def Ag(l:bq):Nat:=(l.filter λq=>lT q.op).length
structure ZT(l:bq)(a:Nat):Prop where
 v:∀q∈l,lT q.op=V->∃k:Nat,q.var=.ofNat k/\a<=k/\k<a+Ag l
 s:((l.filter λq=>lT q.op).map ae.var).Pairwise (.<.)
theorem aK3(n:Nat)(h:n<100000000):Nb (.ofNat n)=.ofNat (n+1):=uL ab
theorem Sn:∀(l:bq)(a:Nat)(b:Int),a+l.length<100000000->(l.foldl uQ (.ofNat a,b,V)).2.2=V->(l.foldl uQ (.ofNat a,b,V)).1=.ofNat (a+Ag l)/\ZT l a|[],a,b,_,_=>⟨rfl,⟨λq h=>by simp at h,List.Pairwise.nil⟩⟩|q::l,a,b,p,h=>by rw[AI]at h|-;simp only[dE]at p;cases v:lT q.op with
 |false=>
 have e:∃f d,uQ (.ofNat a,b,V) q=(.ofNat a,f,d):=by unfold uQ;rw[v];cases Ap q.op<;>simp
 obtain⟨f,d,e⟩:=e;rw[e]at h|-;cases d with|false=>rw[Sp]at h;simp at h|true=>
  have i:=Sn l a f ab h;have e2:Ag (q::l)=Ag l:=by simp[Ag,v]
  rw[e2];refine⟨i.1,⟨λx c j=>?_,by simp only[tN,v,Gr,if_false];exact i.2.s⟩⟩;rw[e2];rcases List.mem_cons.1 c with rfl|c;.rw[v]at j;simp at j
  .exact i.2.v x c j|true=>
 have e:∃f d,uQ (.ofNat a,b,V) q=(Nb (.ofNat a),f,d)/\(d=V->q.var=.ofNat a):=by
  unfold uQ;rw[v];cases Ap q.op;.exact⟨b,_,rfl,λh=>by simp only[yV]at h;exact uR h⟩
  .refine⟨_,_,rfl,λh=>?_⟩;simp only[aR,yV,gD]at h;exact uR h.1
 obtain⟨f,d,e,e3⟩:=e;rw[e]at h|-;cases d with|false=>rw[Sp]at h;simp at h|true=>
  rw[aK3 a ab]at h|-;have i:=Sn l (a+1) f ab h;have e2:Ag (q::l)=Ag l+1:=by simp[Ag,v]
  have m:=e3 rfl;rw[e2];refine⟨by rw[i.1];congr 1;omega,⟨λx c j=>?_,?_⟩⟩
  . rw[e2];rcases List.mem_cons.1 c with rfl|c;.exact⟨a,m,ab,ab⟩
    .obtain⟨k,g,n,o⟩:=i.2.v x c j;exact⟨k,g,ab,ab⟩
  .simp only[tN,v,if_true,fS];refine List.pairwise_cons.2 ⟨λz r=>?_,i.2.s⟩;obtain⟨x,c,rfl⟩:=List.mem_map.1 r;have c:=List.mem_filter.1 c;obtain⟨k,g,n,o⟩:=i.2.v x c.1 c.2;rw[m,g];simp only[vY];omega
theorem amQ(h:p.jc=0)(n:p.nn<1100000):(zr (nodes p)).1=.ofNat (Ag (nodes p))/\ZT (nodes p) 0:=by
 have w:=NS h;have c:(zr (nodes p)).2.2=V:=by unfold ae.jc at h;rw[show aj _ 0=V by rw[w];rfl,aR]at h;grind
 have:=Sn _ 0 0 (by grind[Qc]) c;rw[iZ]at this;exact this
theorem U9{o n a t v s p c}(h:(ae.mk o n a t v s p c).iJ=0)(l:a.length<=64):(0<=v/\v<16)/\tW o a.length=V/\(lT o=V->0<=t/\t<16):=by simp only[ae.iJ,Fu]at h;cases b:(aA o 0||!aA o 11)with|true=>grind|false=>
 rw[b,bS,aao _ _ l]at h;rcases d:tW o _ with _|_;.grind
 rcases e:(tu (lT o) t 15&&(tu (lT o) v 15&&(tu (Ap o) s 63&&tu (FV o) p 1099511627776)))with _|_;.grind
 cases f:(Co o&&!aj c.ni 0)with|true=>simp_all[aj]|false=>grind[yM,tu,fQ,sY]
theorem abc(h:p.jc=0)(d:lE p):ze p:=by
 have w:=Rk (NS h);have g:=NT w.1;have f:=Kn g.1;have m:∀q∈nodes p,q.args.length<=64:=λq a=>by have:=ae.U' p q a;obtain⟨op,nl,args,ty,var,scope,s,cond⟩:=q;grind[ae.mj,ae.nn,ae.args]
 refine⟨⟨d.a,λq a=>?_,λq a=>?_⟩,d.b,λq a t e=>?_⟩;.grind[agr]
 .have c:=f q a;have b:=m q a;obtain⟨op,nl,args,ty,var,scope,s,cond⟩:=q;exact(U9 c b).1
 . have c:=f q a;have b:=m q a;obtain⟨op,nl,args,ty,var,scope,s,cond⟩:=q;have i:=(U9 c b).2.1;simp only[ae.op]at t e;simp only[ae.args]at b|-;have:args.length=1:=by grind[sM,tW,uR]
   match args,this with|[x],_=>grind
attribute[local congr]bz bA
set_option maxRecDepth 100000
theorem aAT{s:St}{d:ah Tmp}{i f:Nat}{o:aM}:U6 s d (.dv (.ptr i f) o)=aH s d (.dv (.ptr i f) .no):=(rfl)
attribute[go_sem]aAT
def ae.ty:ae->Int|.mk _ _ _ ty _ _ _ _=>ty
def M1(s:List dW)(a:Int):Int:=match s[a.toNat]? with|some v=>v.ty|none=>0
def Dw(t:Sl bY)(v:Sl dW)(q:ae):Int:=bif sM q.op then(bif !aj q.op 7&&!aj q.ty (M1 v.l q.var)then 9 else SF t v q.cond)else 0
def pJ(t:Sl bY)(v:Sl dW):bq->Nat->ah (Nat×Int)|[],_=>Z|q::l,i=>bif aj (Dw t v q) 0 then pJ t v l (i+1)else J (i,Dw t v q)
theorem aiR(t:Sl bY)(v:Sl dW):∀(a b:bq)(i:Nat),pJ t v (a++b) i=match pJ t v a i with|none=>pJ t v b (i+a.length)|some r=>J r
 |[],_,_=>rfl|x::a,b,i=>by simp only[lC,pJ];cases aj (Dw t v x) 0 with|false=>rfl|true=>rw[aR,aR,aiR t v a b (i+1),dE,xr,Nat.add_comm 1]
theorem Zo(t:Sl bY)(v:Sl dW):∀(l:bq)(i j:Nat)(e:Int),pJ t v l i=J (j,e)->aj e 0=C|[],_,_,_,h=>by simp[pJ]at h|q::l,i,j,e,h=>by simp only[pJ]at h;cases z:aj (Dw t v q) 0 with|true=>rw[z]at h;exact Zo t v l _ _ _ h|false=>rw[z]at h;simp only[bS,xw,Nv]at h;rw[<-h.2];exact z
def my(t:Sl bY)(v:Sl dW)(i:Nat):GO:=.box ⟨[cC t,kn v,iD (.ofNat i)],[]⟩
def uH(r:ah (Nat×Int))(g:GH)(b:Nat)(t:Sl bY)(v:Sl dW)(i:Nat):bh:=match r with|none=>.val (.tp [iO 0,iO 0]) (g.set b (my t v i))|some (j,e)=>.val (.tp [iO (.ofNat j),iO e]) (g.set b (my t v (j+1)))
theorem aIK:dm cf (bw f165 7)=V:=by rfl
theorem aIL:dm cf (bw f165 9)=V:=by rfl
section
variable{ts:Sl bY}{vs:Sl dW}
theorem aJH(R:lF ts)(Q:vs.l.length<1200000)(o n a y d s p c)(M:(ae.mk o n a y d s p c).nn<1100000)(H:c.nn<1100000)(F:lT o=V->∃k v,d=di k/\vs.l[k]?=J v)(W:∀x,x∈a->∀(g:GH)(b e:Nat),e+x.nn<1100000->g.get b=J (my ts vs e)->ev PP cf (.call 165 [.ptr b 0,.agg x.cells] .no g)=J (uH (pJ ts vs (nodes x) e) g b ts vs (e+x.nn)))(g:GH)(b e:Nat)(L:e+(ae.mk o n a y d s p c).nn<1100000)(m:g.get b=J (my ts vs e)):ev PP cf (.call 165 [.ptr b 0,.agg (ae.mk o n a y d s p c).cells] .no g)=J (uH (pJ ts vs (nodes (.mk o n a y d s p c)) e) g b ts vs (e+(ae.mk o n a y d s p c).nn)):=by
 have e1:=apF ts vs c R Q H;have d1:=aIK;have d2:=aIL;simp only[bw,opsOf,f165,go_sem]at d1 d2;simp only[go_sem]at e1;have w:=uL (i:=e) ab;refine aP func165 ?_;rw[nodes,pJ];simp only[my]at m;have Y:sM o=C\/(aj o 7=V/\aj o 0=C/\aj o 5=C/\sM o=V)\/(aj o 7=C/\aj o 0=V/\lT o=V/\sM o=V)\/(aj o 7=C/\aj o 0=C/\aj o 5=V/\lT o=V/\sM o=V):=by grind[sM,lT,oL,jU]
 have P:(ae.mk o n a y d s p c).nn=ae.bH a+1:=by rfl
 rw[P]at M L|-;rcases Y with t|⟨u,f,z,t⟩|⟨u,f,B,t⟩|⟨u,f,z,B,t⟩;case' inl=>
  have f:aj o 0=C/\aj o 5=C/\aj o 7=C:=by grind[sM]
  simp only[go_sem,f165,ae.cells,m,w,f.1,f.2.1,f.2.2,Dw,ae.op,t]
 case' inr.inl=>simp only[go_sem,f165,ae.cells,m,w,f,z,u,d2,e1,Dw,ae.op,ae.cond,t];apply sp<;>intro h<;>simp only[h,go_sem,uH,my]
 case' inr.inr.inl=>
  obtain⟨k,v,E,q⟩:=F B;have U:M1 vs.l (.ofNat k)=v.ty:=by grind[M1]
  simp only[go_sem,f165,ae.cells,m,w,u,q,d1,Dw,ae.op,ae.ty,ae.var,ae.cond,t,E,U,f];repeat'(with_reducible apply sp<;>intro h<;>simp only[h,go_sem,m,d2,e1,uH,my])
 case' inr.inr.inr=>
  obtain⟨k,v,E,q⟩:=F B;have U:M1 vs.l (.ofNat k)=v.ty:=by grind[M1]
  simp only[go_sem,f165,ae.cells,m,w,u,q,d1,Dw,ae.op,ae.ty,ae.var,ae.cond,t,E,U,f,z];repeat'(with_reducible apply sp<;>intro h<;>simp only[h,go_sem,m,d2,e1,uH,my])
 all_goals
  refine PU a (e+1) (λk j=>⟨165,76,[(61,iS k),(0,.dv (.ptr b 0) .no),(59,.dv (bP n (ae.bm a) 61 14) .no),(60,.dv (.int .i64 (.ofNat a.length)) .no)],[],g.set b (my ts vs j)⟩) (λ_ l j=>uH (pJ ts vs (eS l) j) g b ts vs (e+(ae.bH a+1))) (λ_ l j=>j+ae.bH l=e+(ae.bH a+1)) (by grind[ae.mj]) rfl ab rfl (λj I=>?_) (λk x l j q D N I O=>?_);.simp only[ae.bH,tQ]at I;subst I;simp only[go_sem,eS,pJ,uH,my]
  .simp only[ae.bH]at I;have hr:=W x (dw D) (g.set b (my ts vs j)) b j ab (by simp[lj]);have G:=O (j+x.nn) ab;simp only[eS];rw[aiR,Qc];cases A:pJ ts vs (nodes x) j with|some r=>obtain⟨T,S⟩:=r;have K:=Zo ts vs _ _ _ _ A;rw[A]at hr;simp only[go_sem,my,uH]at hr;simp only[go_sem,my,q,D,hr,K,uH]|none=>rw[A]at hr;simp only[go_sem,my,uH]at hr G;simp only[go_sem,my,q,D,N,hr,G,uH]
theorem ab9(z:lF ts)(u:vs.l.length<1200000):∀p:ae,(∀q∈nodes p,q.cond.nn<1100000)->(∀q∈nodes p,lT q.op=V->∃k v,q.var=di k/\vs.l[k]?=J v)->∀(g:GH)(b i:Nat),i+p.nn<1100000->g.get b=J (my ts vs i)->ev PP cf (.call 165 [.ptr b 0,.agg p.cells] .no g)=J (uH (pJ ts vs (nodes p) i) g b ts vs (i+p.nn))
 |.mk o n args t r s a c,f,e,g,b,i,l,j=>by
  have hr:ae.mk o n args t r s a c∈nodes (.mk o n args t r s a c):=by rw[nodes];exact gK ..
  have m:∀x∈args,∀q∈nodes x,q∈nodes (.mk o n args t r s a c):=λx d q h=>by rw[nodes];exact kG _ (ae.LW args x d q h)
  exact aJH z u o n args t r s a c ab (f _ hr) (e _ hr) (λx d=>ab9 z u x (λq h=>f q (m x d q h)) (λq h=>e q (m x d q h))) g b i l j termination_by p=>oW p decreasing_by simp_wf;have:=oU d;omega
end
def Jl(t:Sl bY)(v:Sl dW):Int:=bif aj (vJ t.l) 0 then Jm t v else vJ t.l
def Zp(p:ae)(r:ah (Nat×Int)):Int×Int:=match r with|none=>FP p|some (j,e)=>(.ofNat j,e)
def tD(t:Sl bY)(v:Sl dW)(p:ae):Int×Int:=bif aj (Jl t v) 0 then(bif aj (ku p).2.2 0 then(bif aj (ku p).1 (.ofNat v.l.length)then Zp p (pJ t v (nodes p) 0)else(0,15))else(0,(ku p).2.2))else(0,Jl t v)
theorem am4(h:aj (ku p).2.2 0=V):p.jc=0/\(ku p).1=(zr (nodes p)).1:=by grind[ku,sY]
theorem am5{s:Sl dW}(d:lE p)(h:aj (ku p).2.2 0=V)(a:aj (ku p).1 (.ofNat s.l.length)=V):∀q∈nodes p,lT q.op=V->∃k v,q.var=di k/\s.l[k]?=J v:=by intro q e f;obtain⟨b,g⟩:=am4 h;obtain⟨i,c⟩:=amQ b d.a;obtain⟨k,j,_,m⟩:=c.v q e f;have o:=uR a;have:Ag (nodes p)=s.l.length:=ai;obtain⟨v,B⟩:=aau (l:=s.l) (n:=k) ab;grind
structure Ny(vs:Sl dW):Prop where
 a:∀v,v∈vs.l->v.name.length<1200000
 b:vs.l.length<1200000
def Ga(s:List dW)(i:Int):Bool:=s.any λv=>aj v.ty i
def xL(u:cE)(i:Nat):List kX:=(u.zipIdx i).map λx=>(iD x.1,.bool V,x.2)
theorem ao4{u:cE}{z:Int}:xL (u++[z]) 0=xL u 0++[(iD z,.bool V,u.length)]:=by grind[xL]
theorem Tj{z:Int}:∀{u:cE}{i j:Nat},lq u z=C->findD PP 3 (iD z) (xL u i) j=J Z|[],_,_,_=>rfl|m::u,i,j,h=>by have:lq (m::u) z=(aj m z||lq u z):=rfl;rw[this,Nk]at h;show(gv PP 50 3 (iD z) (iD m)).bind (λb=>bif b then J (J (j,(iD m,.bool V,i)))else findD PP 3 (iD z) (xL u (i+1)) (j+1))=_;rw[A4,cQ,SS z m,h.1];exact Tj h.2
theorem Tk{z:Int}:∀{u:cE}{i a:Nat},lq u z=V->∃k m c,findD PP 3 (iD z) (xL u i) a=J (J (a+k,(iD m,.bool V,c)))/\(xL u i)[k]?=J (iD m,.bool V,c)|[],_,_,h=>by simp[lq]at h|m::u,i,a,h=>by have e:findD PP 3 (iD z) (xL (m::u) i) a=(gv PP 50 3 (iD z) (iD m)).bind (λb=>bif b then J (J (a,(iD m,.bool V,i)))else findD PP 3 (iD z) (xL u (i+1)) (a+1)):=rfl;rw[e,A4,cQ,SS z m];cases d:aj m z with|true=>exact⟨0,m,i,rfl,rfl⟩|false=>
 have:lq (m::u) z=(aj m z||lq u z):=rfl;rw[this,d,vR]at h;obtain⟨k,f,c,e1,e2⟩:=Tk (i:=i+1) (a:=a+1) h;refine⟨k+1,f,c,?_,?_⟩;.rw[bS,e1];simp only[Nat.add_comm,Nat.add_left_comm]
 .exact e2
theorem take_set{a:Type}{l:List a}{k:Nat}{x:a}(h:l[k]?=J x):l.take k++x::l.drop (k+1)=l:=by grind[DM,GC]
theorem aLp{a b:Type}{x:List a}{y:List b}{i:Nat}{p:a×b}(h:(x.zip y)[i]?=J p):x[i]?=J p.1/\y[i]?=J p.2:=ai
theorem axH{n:Int}:sC PP 3 (iD n)=V:=by rfl
attribute[go_sem]axH
def NC(u:cE)(z:Int):cE:=bif lq u z then u else u++[z]
theorem akf(u:cE)(z v:Int):lq (NC u z) v=(lq u v||aj z v):=by grind[NC,lq,uR]
def ET(u:Int->Bool):List (bY×Int)->Nat->Int->Int|[],_,_=>0|x::l,i,z=>bif u (.ofNat i)then(bif aA x.2 0||!aA x.2 (.ofNat x.1.fields.l.length)then 16 else match x.1.fields.l[x.2.toNat]? with|some f=>bif aA z 0||aj f.kind z then ET u l (i+1) f.kind else 9|none=>0)else bif aj x.2 (-1)then ET u l (i+1) z else 16
def Ly(t:Sl bY)(q:cq):Int:=bif aj (.ofNat q.key.l.length) 0 then 0 else bif aj (.ofNat q.key.l.length) (.ofNat t.l.length)then ET (Ga q.vars.l) (t.l.zip q.key.l) 0 (-1)else 15
theorem aps(t:Sl bY)(q:cq)(B:t.l.length<1200000)(A:q.key.l.length<1200000)(D:q.vars.l.length<1200000):rS (ev PP cf (.call 169 [cC t,.agg q.cells] .no .empty)) (zS (Ly t q)):=by
 refine GQ func169 ?_;simp only[go_sem,f169,cq.cells,Ly];apply vK<;>intro h<;>simp only[h,go_sem];apply vK<;>intro p<;>simp only[p,go_sem];refine LK q.vars.l ([]:cE) (λi u=>⟨169,78,[(26,iS i),(5,.dv (.map 0) .no),(24,.dv (kn q.vars) .no),(0,.dv (cC t) .no),(3,.lp 3 0),(25,iS q.vars.l.length)],[(3,⟨q.cells,[]⟩)],⟨1,[(0,.map (xL u 0) u.length)]⟩⟩) (λ_ _ _=>zS (ET (Ga q.vars.l) (t.l.zip q.key.l) 0 (-1))) (λ_ l u=>∀v,(lq u v||Ga l v)=Ga q.vars.l v) ab rfl (λv=>rfl) rfl (λu I=>?_) (λi x l u n e w I g=>?_)
 . have b:t.l.length=q.key.l.length:=(vu p).symm;have s:∀v,lq u v=Ga q.vars.l v:=λv=>by grind[Ga]
   simp only[go_sem,cq.cells];refine LK (t.l.zip q.key.l) (-1:Int) (λi z=>⟨169,78,[(37,iS i),(8,zS z),(0,.dv (cC t) .no),(5,.dv (.map 0) .no),(35,.dv (cL q.key) .no),(36,iS q.key.l.length)],[],⟨1,[(0,.map (xL u 0) u.length)]⟩⟩) (λi l z=>zS (ET (Ga q.vars.l) l i z)) (λ_ _ _=>True) ai rfl trivial rfl (λz _=>?_) (λi x l z n e w _ g=>?_);.have r:(t.l.zip q.key.l).length=q.key.l.length:=aT;simp only[r,go_sem,ET]
   .obtain⟨S,o⟩:=aLp e;have H:(i<q.key.l.length)=True:=PV o;obtain⟨y,k⟩:=x;simp only at S o;simp only[ET,<-s];cases b:lq u (.ofNat i)with|false=>have e1:=Tj (i:=0) (j:=0) b;have a:=g z trivial;simp only[go_sem]at a;simp only[go_sem,H,o,e1];apply vK<;>intro h<;>simp only[h,w,go_sem];omega|true=>obtain⟨E,m,c,e1,e2⟩:=Tk (i:=0) (a:=0) b;cases k with|negSucc m=>simp only[go_sem,H,S,o,e1,afY]|ofNat m=>cases d:y.fields.l[m]? with|none=>have e3:=TA d;simp only[go_sem,H,S,o,e1,e3]|some f=>
   have e3:=PV d;have a:=g f.kind trivial;simp only[go_sem]at a;simp only[go_sem,H,S,o,e1,e3,d,tn];repeat'(with_reducible apply vK<;>intro h<;>simp only[h,d,w,go_sem])
   all_goals omega
 .have a:=g (NC u x.ty) (λv=>by rw[akf,Bool.or_assoc];exact I v);simp only[go_sem,cq.cells]at a;unfold NC at a;cases b:lq u x.ty with|true=>obtain⟨k,m,c,e1,e2⟩:=Tk (i:=0) (a:=0) b;have e3:=take_set e2;rw[iZ]at e1;simp only[b,go_sem]at a;simp only[go_sem,cq.cells,n,e,w,e1,e3,a]|false=>have e1:=Tj (i:=0) (j:=0) b;simp only[b,go_sem,ao4,gJ,dE,gE]at a;simp only[go_sem,cq.cells,n,e,w,e1,a]
def ER(t:Sl bY)(q:cq):Int:=bif aj (Jl t q.vars) 0 then Ly t q else Jl t q.vars
theorem aFj:List.take 15 (p.cells++[x])=p.cells++[x]:=by simp[GD,ae.dG]
theorem aFl:cA (p.cells++[x])=x.pure:=by simp[BI,ae.pure,cA]
attribute[go_sem]aFj aFl
structure mB(q:cq):Prop where
 n:q.name.length<1200000
 v:Ny q.vars
 k:q.key.l.length<1200000
 p:lE q.pat
 r:q.jB.l.length<1100000
 e:∀e∈q.jB.l,e.nn<1100000
def BP(t:Sl bY)(v:Sl dW):List Expr->Int|[]=>0|e::l=>bif aj (z' t v e).2 0 then BP t v l else(z' t v e).2
def IU(t:Sl bY)(q:cq):Int:=bif aj (tD t q.vars q.pat).2 0 then(bif aj (.ofNat q.jB.l.length) 0 then 15 else bif aA 256 (.ofNat q.jB.l.length)then 5 else bif aj (BP t q.vars q.jB.l) 0 then(FM q.pat q.jB.l).2 else BP t q.vars q.jB.l)else(tD t q.vars q.pat).2
def wu(t:Sl bY)(q:cq):Int:=bif aj (vJ t.l) 0 then(bif aj (C6 q.name) 0 then(bif aj (tD t q.vars q.pat).2 0 then(bif aj (ER t q) 0 then IU t q else ER t q)else(tD t q.vars q.pat).2)else C6 q.name)else vJ t.l
def B8(n:Nat)(b:GH)(f:Nat)(c:aq)(r:Int×Int):Prop:=∀g,Lo n b g->∃a,ev PP cf (.call f c .no g)=J (.val (.tp [iO r.1,iO r.2]) a)/\Lo n g a
def yY(n:Nat)(b:GH)(f:Nat)(c:aq)(e:Int):Prop:=∀g,Lo n b g->∃a,ev PP cf (.call f c .no g)=J (.val (.dv (iD e) .no) a)/\Lo n g a
abbrev zf:=Nat×aq×(Int×Int)
def lZ(H:GH->Prop):List zf->(GH->Prop)->Prop|[],E=>∀g,H g->E g|x::l,E=>∃a:GH->Prop,((∀g,H g->∃b,ev PP cf (.call x.1 x.2.1 .no g)=J (.val (.tp [iO x.2.2.1,iO x.2.2.2]) b)/\a b)/\cf.eQ x.1=C/\cf.fk x.1=0)/\(aj x.2.2.2 0=V->lZ a l E)
theorem B8.to{n f:Nat}{b:GH}{c:aq}{r:Int×Int}(h:B8 n b f c r):∀g,Lo n b g->∃a,ev PP cf (.call f c .no g)=J (.val (.tp [iO r.1,iO r.2]) a)/\Lo n b a:=λg d=>by obtain⟨a,e,k⟩:=h g d;exact⟨a,e,d.trans k⟩
theorem lZ.step{n:Nat}{g:GH}{x:zf}{l:List zf}{E:GH->Prop}(h:B8 n g x.1 x.2.1 x.2.2)(a:cf.eQ x.1=C)(b:cf.fk x.1=0)(c:aj x.2.2.2 0=V->lZ (Lo n g) l E):lZ (Lo n g) (x::l) E:=⟨Lo n g,⟨h.to,a,b⟩,c⟩
def pQ:List zf->Int×Int|[]=>(0,0)|x::l=>bif aj x.2.2.2 0 then pQ l else x.2.2
def Dd(x:zf):DV:=.agg [.func x.1 [] x.2.1]
theorem Oi(l:List zf)(D:l.length<1000)(H E:GH->Prop)(h:lZ H l E)(g:GH)(w:H g):∃d,ev PP cf (.call 112 [.ay (l.map Dd) 212 1] .no g)=J (.val (.tp [iO (pQ l).1,iO (pQ l).2]) d)/\(aj (pQ l).2 0=V->E d):=by
 suffices S:Sat (ev PP cf (.call 112 [.ay (l.map Dd) 212 1] .no g)) λv d=>v=.tp [iO (pQ l).1,iO (pQ l).2]/\(aj (pQ l).2 0=V->E d)by obtain⟨v,d,e,rfl,k⟩:=S;grind
 refine mV func112 ?_;simp only[go_sem,f112];refine Ab l g (λi _=>[(10,iS i)]) (λs=>s) (λ_ n s=>(∃H:GH->Prop,H s/\lZ H n E)/\pQ n=pQ l) ab rfl rfl ⟨⟨H,w,h⟩,rfl⟩ (λs I=>?_) (λi x n s p q y I A=>?_);.obtain⟨⟨H,a,b⟩,c⟩:=I;rw[<-c];simp only[go_sem];exact⟨rfl,λ_=>b _ a⟩
 .obtain⟨⟨H,a,t,⟨u,j,m⟩,o⟩,c⟩:=I;obtain⟨d,e,k⟩:=u s a;obtain⟨f,B,r⟩:=x;simp only[aa5,aa6]at j m e o;cases hr:aj r.2 0 with|true=>have z:=A d ⟨⟨t,k,o hr⟩,by grind[pQ]⟩;simp only[go_sem]at z;simp only[go_sem,p,q,y,Dd,j,m,e,hr];omega|false=>rw[<-c];simp only[go_sem,p,q,Dd,j,m,e,hr,pQ];simp_all
theorem Ke(f:Nat)(c:aq)(g:GH):ev PP cf (.call 113 [.func f [] c] .no g)=J (.val (.dv (.agg [.func 156 [] [.ptr g.next 0]]) .no) (g.alloc (.box ⟨[.func f [] c],[]⟩))):=by refine aP func113 ?_;simp only[go_sem,f113]
theorem yr{n b f:Nat}{c:aq}{a:GH}{e:Int}(o:b<n)(p:a.get b=J (.box ⟨[.func f [] c],[]⟩))(j:cf.eQ f=C)(m:cf.fk f=0)(h:yY n a f c e):B8 n a 156 [.ptr b 0] (0,e):=by intro g l;obtain⟨i,d,k⟩:=h g l;have u:=(l.2 b o).trans p;refine⟨i,?_,k⟩;refine aP func156 ?_;simp only[go_sem,f156,u,j,m,d]
abbrev bD(d:DV):GO:=.box ⟨[d],[]⟩
abbrev bL(l:aq):GO:=.box ⟨l,[]⟩
section
variable{n:Nat}{g0:GH}{ts:Sl bY}{vs:Sl dW}{p:ae}{q:cq}{a b c:Nat}
theorem adt(h:lF ts)(c:a<n)(b:g0.get a=J (bD (cC ts))):yY n g0 210 [.ptr a 0] (vJ ts.l):=by intro g l;obtain⟨g1,e1⟩:=Kf ts h.a h.b;have k:=(l.2 a c).trans b;refine⟨g,?_,Lo.refl⟩;simp only[go_sem]at e1;refine aP func210 ?_;simp only[go_sem,f210,k,e1]
theorem asY(h:lF ts)(c:a<n)(b:g0.get a=J (bD (cC ts))):yY n g0 114 [.ptr a 0] (vJ ts.l):=by intro g l;obtain⟨g1,e1⟩:=Kf ts h.a h.b;have k:=(l.2 a c).trans b;refine⟨g,?_,Lo.refl⟩;simp only[go_sem]at e1;refine aP func114 ?_;simp only[go_sem,f114,k,e1]
theorem adu(v:Ny vs)(e:a<n)(f:b<n)(c:g0.get a=J (bD (cC ts)))(d:g0.get b=J (bD (kn vs))):yY n g0 211 [.ptr a 0,.ptr b 0] (Jm ts vs):=by intro g h;obtain⟨g1,e1⟩:=apE ts vs v.a v.b;have k:=(h.2 a e).trans c;have j:=(h.2 b f).trans d;refine⟨g,?_,Lo.refl⟩;simp only[go_sem]at e1;refine aP func211 ?_;simp only[go_sem,f211,k,j,e1]
theorem asV(i:lE p)(e:a<n)(f:b<n)(c:g0.get a=J (bL p.cells))(d:g0.get b=J (bD (kn vs))):yY n g0 163 [.ptr a 0,.ptr b 0] (bif aj (ku p).2.2 0&&!aj (ku p).1 (.ofNat vs.l.length)then 15 else(ku p).2.2):=by intro g l;have e1:=ab8 p i;have k:=(l.2 a e).trans c;have j:=(l.2 b f).trans d;refine⟨g,?_,Lo.refl⟩;refine aP func163 ?_;simp only[go_sem,f163,k,e1];repeat'(with_reducible apply sp<;>intro h<;>simp only[h,j,go_sem])
theorem aEz(A:lF ts)(D:Ny vs)(d:lE p)(u:∀q∈nodes p,lT q.op=V->∃k v,q.var=di k/\vs.l[k]?=J v)(z:n<=g0.next)(w:a<n)(x:b<n)(y:c<n)(o:g0.get a=J (bD (cC ts)))(s:g0.get b=J (bD (kn vs)))(t:g0.get c=J (bL p.cells)):B8 n g0 164 [.ptr a 0,.ptr b 0,.ptr c 0] (match pJ ts vs (nodes p) 0 with|none=>(0,0)|some (j,e)=>(.ofNat j,e)):=by
 intro g h;have l:=(h.2 a w).trans o;have i:=(h.2 b x).trans s;have B:=(h.2 c y).trans t;have H:=fX z h.1;have m:(c=g.next)=False:=cF ab;have e1:=ab9 A D.b p d.b u (g.alloc (my ts vs 0)) g.next 0 (by have:=d.a;omega) (by simp[ke]);rcases f:pJ ts vs _ 0 with _|r;.rw[f]at e1;simp only[my,uH,go_sem]at e1;refine⟨(g.alloc (my ts vs 0)).set _ (my ts vs (0+p.nn)),?_,(Lo.alloc H).trans (Lo.set H)⟩;refine aP func164 ?_;simp only[go_sem,f164,l,i,B,m,e1,my]
 obtain⟨j,e⟩:=r;rw[f]at e1;simp only[my,uH,go_sem]at e1;refine⟨(g.alloc (my ts vs 0)).set _ (my ts vs (j+1)),?_,(Lo.alloc H).trans (Lo.set H)⟩;refine aP func164 ?_;simp only[go_sem,f164,l,i,B,m,e1,my]
theorem aEA(b:lE p)(d:a<n)(c:g0.get a=J (bL p.cells)):B8 n g0 166 [.ptr a 0] (FP p):=by intro g l;obtain⟨_,g1,e1,rfl⟩:=apr p (λh=>abc h b) b;have k:=(l.2 a d).trans c;refine⟨g,?_,Lo.refl⟩;refine aP func166 ?_;simp only[go_sem,f166,k,e1]
end
theorem ab7(t:Sl bY)(v:Sl dW)(g:GH):ev PP cf (.call 162 [cC t,kn v] .no g)=J (.val (.dv (.ay [.agg [.func 156 [] [.ptr (g.next+1+1) 0]],.agg [.func 156 [] [.ptr (g.next+1+1+1) 0]]] 212 1) (.ex 212)) ((((g.alloc (bD (cC t))).alloc (bD (kn v))).alloc (bD (.func 210 [] [.ptr g.next 0]))).alloc (bD (.func 211 [] [.ptr g.next 0,.ptr (g.next+1) 0])))):=by refine aP func162 ?_;simp only[go_sem,f162,Ke]
def NV(p:ae)(v:Sl dW):Int:=bif aj (ku p).2.2 0&&!aj (ku p).1 (.ofNat v.l.length)then 15 else(ku p).2.2
def Zq(r:ah (Nat×Int)):Int×Int:=match r with|none=>(0,0)|some (j,e)=>(.ofNat j,e)
theorem am3{v:Sl dW}(h:aj (NV p v) 0=V):aj (ku p).2.2 0=V/\aj (ku p).1 (.ofNat v.l.length)=V:=by
 unfold NV at h;rcases a:aj _ 0 with _|_;.grind
 cases b:aj _ _ with|true=>grind|false=>simp_all[aj]
theorem aad{e:Nat}{n:aq}(h:l.length+n.length<1000):fB e 1 8 (.ay l e 1) (.ex e) n=J (.ay (l++n) e 1,.ex e):=by grind[qg,bl]
def Qw(t:Sl bY)(v:Sl dW)(p:ae):List zf:=[(156,[.ptr 5 0],(0,vJ t.l)),(156,[.ptr 6 0],(0,Jm t v)),(156,[.ptr 7 0],(0,NV p v)),(164,[.ptr 0 0,.ptr 1 0,.ptr 2 0],Zq (pJ t v (nodes p) 0)),(166,[.ptr 2 0],FP p)]
theorem ail:∀(l:List (ae×LR))(i j:Nat)(e:Int),pZ l i=J (j,e)->aj e 0=C|[],_,_,_,h=>by simp[pZ]at h|x::l,i,j,e,h=>by simp only[pZ]at h;cases z:sM x.1.op&&!aj (Cx x.1 x.2) 0 with|false=>rw[z]at h;exact ail l _ _ _ h|true=>rw[z]at h;simp only[aR,xw,Nv]at h;simp only[gD,Nj]at z;rw[<-h.2];exact z.2
theorem arU(t:Sl bY)(v:Sl dW)(p:ae):pQ (Qw t v p)=tD t v p:=by
 simp only[Qw,pQ,tD,Jl,NV];rcases h:aj _ 0 with _|_;.grind
 simp only[aR];rcases a:aj _ 0 with _|_;.rfl
 rcases b:aj (ku p).2.2 0 with _|_;.grind
 rcases c:aj _ (.ofNat v.l.length)with _|_;.rfl
 rcases d:pJ t v _ 0 with _|r;.simp only[Zq,Zp];rw[show aj 0 0=V from rfl,aR];grind[FP,ail]
 grind[Zq,Zp,Zo]
theorem acD(t:Sl bY)(s:Sl dW)(p:ae)(b:lF t)(d:Ny s)(a:lE p):∃g,CC 118 [cC t,kn s,.agg p.cells] (.val (.tp [iO (tD t s p).1,iO (tD t s p).2]) g):=by
 have e0:=ab7 t s ⟨3,[(0,bD (cC t)),(1,bD (kn s)),(2,bL p.cells)]⟩;simp only[go_sem]at e0;suffices S:Sat (ev PP cf (.call 118 [cC t,kn s,.agg p.cells] .no .empty)) λv _=>v=.tp [iO (tD t s p).1,iO (tD t s p).2]by obtain⟨v,g,e,rfl⟩:=S;grind
 have k:lZ (Lo 8 ⟨8,[(0,bD (cC t)),(1,bD (kn s)),(2,bL p.cells),(3,bD (cC t)),(4,bD (kn s)),(5,bD (.func 210 [] [.ptr 3 0])),(6,bD (.func 211 [] [.ptr 3 0,.ptr 4 0])),(7,bD (.func 163 [] [.ptr 2 0,.ptr 1 0]))]⟩) (Qw t s p) (λ_=>True):=by refine lZ.step (yr ab rfl (by rfl) (by rfl) (adt b ab rfl)) (by rfl) (by rfl) λ_=>?_;refine lZ.step (yr ab rfl (by rfl) (by rfl) (adu d ab ab rfl rfl)) (by rfl) (by rfl) λ_=>?_;refine lZ.step (yr ab rfl (by rfl) (by rfl) (asV a ab ab rfl rfl)) (by rfl) (by rfl) λh=>?_;have c:=am3 h;refine lZ.step (aEz b d a (am5 a c.1 c.2) aT ab ab ab rfl rfl rfl) (by rfl) (by rfl) λ_=>?_;exact lZ.step (aEA a ab rfl) (by rfl) (by rfl) λ_ _ _=>trivial
 obtain⟨g,e1,_⟩:=Oi _ (by show 5<1000;omega) _ _ k _ Lo.refl;rw[arU]at e1;simp only[Qw,fS,eG,Dd,go_sem]at e1;refine mV func118 ?_;simp only[go_sem,f118,e0,Ke,oT,nG,aad,dE,gE,e1]
section
variable{n:Nat}{g0:GH}{ts:Sl bY}{vs:Sl dW}{p:ae}{q:cq}{a b c:Nat}
theorem asW(t:lF ts)(c:mB q)(f:a<n)(i:b<n)(d:g0.get a=J (bD (cC ts)))(e:g0.get b=J (bL q.cells)):yY n g0 168 [.ptr a 0,.ptr b 0] (Ly ts q):=by intro g h;obtain⟨g1,e1⟩:=aps ts q t.b c.k c.v.b;have k:=(h.2 a f).trans d;have j:=(h.2 b i).trans e;refine⟨g,?_,Lo.refl⟩;simp only[go_sem,cq.cells]at e1 j;refine aP func168 ?_;simp only[go_sem,f168,k,j,e1]
end
def Qx(t:Sl bY)(q:cq):List zf:=[(156,[.ptr 4 0],(0,vJ t.l)),(156,[.ptr 5 0],(0,Jm t q.vars)),(156,[.ptr 6 0],(0,Ly t q))]
theorem arV(t:Sl bY)(q:cq):(pQ (Qx t q)).2=ER t q:=by grind[Qx,pQ,ER,Jl,sY]
theorem aqi(t:Sl bY)(q:cq)(a:lF t)(h:mB q):∃g,CC 120 [cC t,.agg q.cells] (.val (.dv (iD (ER t q)) .no) g):=by
 have e0:=ab7 t q.vars ⟨2,[(0,bD (cC t)),(1,bL q.cells)]⟩;have k:lZ (Lo 7 ⟨7,[(0,bD (cC t)),(1,bL q.cells),(2,bD (cC t)),(3,bD (kn q.vars)),(4,bD (.func 210 [] [.ptr 2 0])),(5,bD (.func 211 [] [.ptr 2 0,.ptr 3 0])),(6,bD (.func 168 [] [.ptr 0 0,.ptr 1 0]))]⟩) (Qx t q) (λ_=>True):=by refine lZ.step (yr ab rfl (by rfl) (by rfl) (adt a ab rfl)) (by rfl) (by rfl) λ_=>?_;refine lZ.step (yr ab rfl (by rfl) (by rfl) (adu h.v ab ab rfl rfl)) (by rfl) (by rfl) λ_=>?_;exact lZ.step (yr ab rfl (by rfl) (by rfl) (asW a h ab ab rfl rfl)) (by rfl) (by rfl) λ_ _ _=>trivial
 obtain⟨g,e1,_⟩:=Oi _ (by show 3<1000;omega) _ _ k _ Lo.refl;rw[arV]at e1;simp only[Qx,fS,eG,Dd,go_sem,cq.cells]at e1;simp only[go_sem,cq.cells]at e0;refine⟨g,?_⟩;refine aP func120 ?_;simp only[go_sem,f120,cq.cells,e0,Ke,oT,nG,aad,dE,gE,e1]
section
variable{n:Nat}{g0:GH}{ts:Sl bY}{q:cq}{a b c:Nat}
theorem aEB(t:lF ts)(c:mB q)(f:a<n)(i:b<n)(d:g0.get a=J (bD (cC ts)))(e:g0.get b=J (bL q.cells)):B8 n g0 170 [.ptr a 0,.ptr b 0] (tD ts q.vars q.pat):=by intro g h;obtain⟨g1,e1⟩:=acD ts _ _ t c.v c.p;have k:=(h.2 a f).trans d;have j:=(h.2 b i).trans e;refine⟨g,?_,Lo.refl⟩;simp only[go_sem,cq.cells]at e1 j;refine aP func170 ?_;simp only[go_sem,f170,k,j,e1]
theorem aED(t:lF ts)(c:mB q)(f:a<n)(i:b<n)(d:g0.get a=J (bD (cC ts)))(e:g0.get b=J (bL q.cells)):B8 n g0 117 [.ptr a 0,.ptr b 0] (tD ts q.vars q.pat):=by intro g h;obtain⟨g1,e1⟩:=acD ts _ _ t c.v c.p;have k:=(h.2 a f).trans d;have j:=(h.2 b i).trans e;refine⟨g,?_,Lo.refl⟩;simp only[go_sem,cq.cells]at e1 j;refine aP func117 ?_;simp only[go_sem,f117,k,j,e1]
def PQ(q:cq):Int:=bif aj (.ofNat q.jB.l.length) 0 then 15 else bif aA 256 (.ofNat q.jB.l.length)then 5 else 0
theorem asX(c:b<n)(a:g0.get b=J (bL q.cells)):yY n g0 171 [.ptr b 0] (PQ q):=by intro g l;have j:=(l.2 b c).trans a;refine⟨g,?_,Lo.refl⟩;simp only[go_sem,cq.cells]at j;refine aP func171 ?_;simp only[go_sem,f171,j,PQ];repeat'(with_reducible apply sp<;>intro h<;>simp only[h,go_sem])
theorem apt(m:lF ts)(e:mB q)(g:GH)(c:g.get 0=J (bD (cC ts)))(a:g.get 1=J (bL q.cells))(k:g.get 2=J (bD .nl)):Sat (ev PP cf (.call 172 [.ptr 1 0,.ptr 0 0,.ptr 2 0] .no g)) λv j=>v=zS (BP ts q.vars q.jB.l)/\∃l,j=g.set 2 (.box (qZ l)):=by
 have o:=e.r;simp only[go_sem,cq.cells]at a;refine mV func172 ?_;simp only[go_sem,f172,a];refine Ab q.jB.l ([]:cE) (λi _=>[(11,iS i)]) (λs=>g.set 2 (.box (qZ s))) (λi l s=>BP ts q.vars q.jB.l=BP ts q.vars l/\s.length=i) ab rfl (YT k) ⟨rfl,rfl⟩ (λs I=>?_) (λi x l s d b w I n=>?_);.rw[I.1];simp only[go_sem,BP];grind
 .have u:=dw b;obtain hr:=aca ts q.vars x m e.v.b (e.e x u);simp only[go_sem]at hr;simp only[BP]at I;have p:(0=2)=False:=ai;cases h:aj (z' ts q.vars x).2 0 with|false=>rw[h]at I;rw[I.1];simp only[go_sem,d,b,c,a,hr,h];grind|true=>rw[h]at I;have f:=n (s++[(z' ts q.vars x).1]) ⟨I.1,aT⟩;cases s with|nil=>simp only[go_sem,qZ,jF,eG]at f;simp only[go_sem,qZ,d,b,w,c,a,hr,h];omega|cons y t=>have M:(t.length+1<1200000)=True:=iT ai;simp only[go_sem,qZ,lC,qb]at f;simp only[go_sem,qZ,d,b,w,c,a,hr,h,M,fZ];omega
theorem aEC(h:mB q)(g:GH)(a:g.get 1=J (bL q.cells)):ev PP cf (.call 174 [.ptr 1 0] .no g)=J (.val (.tp [iO (FM q.pat q.jB.l).1,iO (FM q.pat q.jB.l).2]) g):=by have e1:=apu _ _ (λc=>abc c h.p) h.p h.r h.e;simp only[go_sem,cq.cells]at e1 a;refine aP func174 ?_;simp only[go_sem,f174,a,e1]
end
def Qy(t:Sl bY)(q:cq):List zf:=[(170,[.ptr 0 0,.ptr 1 0],tD t q.vars q.pat),(156,[.ptr 3 0],(0,PQ q)),(156,[.ptr 4 0],(0,BP t q.vars q.jB.l)),(174,[.ptr 1 0],FM q.pat q.jB.l)]
theorem arW(t:Sl bY)(q:cq):(pQ (Qy t q)).2=IU t q:=by grind[Qy,pQ,IU,PQ,sY]
theorem aqj(s:Sl bY)(q:cq)(d:lF s)(b:mB q):Sat (ev PP cf (.call 122 [cC s,.agg q.cells] .no .empty)) λv _=>∃x,v=.tp [x,iO (IU s q)]/\x.1.pure=V:=by
 let E:GH->Prop:=λg=>g.get 1=J (bL q.cells)/\∃l,g.get 2=J (.box (qZ l));have i:lZ (Lo 5 ⟨5,[(0,bD (cC s)),(1,bL q.cells),(2,bD .nl),(3,bD (.func 171 [] [.ptr 1 0])),(4,bD (.func 172 [] [.ptr 1 0,.ptr 0 0,.ptr 2 0]))]⟩) (Qy s q) E:=by
   refine lZ.step (aEB d b ab ab rfl rfl) (by rfl) (by rfl) λ_=>?_;refine lZ.step (yr ab rfl (by rfl) (by rfl) (asX ab rfl)) (by rfl) (by rfl) λ_=>?_;refine⟨E,⟨λg a=>?_,by rfl,by rfl⟩,λ_=>?_⟩
   . have k0:=a.2 0 ab;have k1:g.get 1=J _:=a.2 1 ab;have k2:=a.2 2 ab;have k4:=a.2 4 ab;obtain⟨v,f,e,rfl,l,rfl⟩:=apt d b g k0 k1 k2;refine⟨g.set 2 (.box (qZ l)),?_,?_,l,?_⟩;rotate_left;.grind[lj]
     .simp[lj]
     .refine aP func156 ?_;simp only[go_sem,f156,k4,e]
   .exact⟨E,⟨λg c=>⟨g,aEC b g c.1,c⟩,by rfl,by rfl⟩,λ_ _ h=>h⟩
 obtain⟨f,e1,k⟩:=Oi _ (by show 4<1000;omega) _ _ i _ Lo.refl;rw[arW]at e1 k;simp only[Qy,fS,eG,Dd,go_sem,cq.cells]at e1;refine mV func122 ?_;simp only[go_sem,f122,cq.cells,Ke,e1];apply gU<;>intro h<;>simp only[h,go_sem]
 . obtain⟨_,l,a⟩:=k h;rw[sY h];rcases l with _|⟨y,t⟩;.simp only[qZ]at a;simp only[go_sem,a];exact⟨_,rfl,rfl⟩
   have p:(DV.ay (iD y::t.map iD) 3 1).pure=V:=by simp[DV.pure,cA,ahh]
   simp only[qZ]at a;simp only[go_sem,a];grind
 .exact⟨_,rfl,rfl⟩
section
variable{n:Nat}{g0:GH}{ts:Sl bY}{q:cq}{a b c:Nat}
theorem asZ(c:mB q)(a:b<n)(h:g0.get b=J (bL q.cells)):yY n g0 115 [.ptr b 0] (C6 q.name):=by intro g l;have j:=(l.2 b a).trans h;have e1:ev PP cf _=J (vI (C6 _)):=acC _ c.n;refine⟨g,?_,Lo.refl⟩;simp only[go_sem,cq.cells]at j;refine aP func115 ?_;simp only[go_sem,f115,j,e1]
theorem as0(t:lF ts)(i:mB q)(e:a<n)(f:b<n)(c:g0.get a=J (bD (cC ts)))(d:g0.get b=J (bL q.cells)):yY n g0 119 [.ptr a 0,.ptr b 0] (ER ts q):=by intro g h;obtain⟨g1,e1⟩:=aqi ts q t i;have k:=(h.2 a e).trans c;have j:=(h.2 b f).trans d;refine⟨g,?_,Lo.refl⟩;simp only[go_sem,cq.cells]at e1 j;refine aP func119 ?_;simp only[go_sem,f119,k,j,e1]
theorem as1(t:lF ts)(k:mB q)(f:a<n)(i:b<n)(d:g0.get a=J (bD (cC ts)))(e:g0.get b=J (bL q.cells)):yY n g0 121 [.ptr a 0,.ptr b 0] (IU ts q):=by intro g h;obtain⟨_,g1,e1,⟨x,o⟩,rfl,c⟩:=aqj ts q t k;have l:=(h.2 a f).trans d;have j:=(h.2 b i).trans e;refine⟨g,?_,Lo.refl⟩;simp only[go_sem,cq.cells]at e1 j c;refine aP func121 ?_;simp only[go_sem,f121,l,j,e1,c]
end
def Qv(t:Sl bY)(q:cq):List zf:=[(156,[.ptr 2 0],(0,vJ t.l)),(156,[.ptr 3 0],(0,C6 q.name)),(117,[.ptr 0 0,.ptr 1 0],tD t q.vars q.pat),(156,[.ptr 4 0],(0,ER t q)),(156,[.ptr 5 0],(0,IU t q))]
theorem arT(t:Sl bY)(q:cq):(pQ (Qv t q)).2=wu t q:=by grind[Qv,pQ,wu,sY]
theorem acu(t:Sl bY)(q:cq)(a:lF t)(h:mB q):∃g,CC 70 [cC t,.agg q.cells] (.val (.dv (iD (wu t q)) .no) g):=by
 have k:lZ (Lo 6 ⟨6,[(0,bD (cC t)),(1,bL q.cells),(2,bD (.func 114 [] [.ptr 0 0])),(3,bD (.func 115 [] [.ptr 1 0])),(4,bD (.func 119 [] [.ptr 0 0,.ptr 1 0])),(5,bD (.func 121 [] [.ptr 0 0,.ptr 1 0]))]⟩) (Qv t q) (λ_=>True):=by refine lZ.step (yr ab rfl (by rfl) (by rfl) (asY a ab rfl)) (by rfl) (by rfl) λ_=>?_;refine lZ.step (yr ab rfl (by rfl) (by rfl) (asZ h ab rfl)) (by rfl) (by rfl) λ_=>?_;refine lZ.step (aED a h ab ab rfl rfl) (by rfl) (by rfl) λ_=>?_;refine lZ.step (yr ab rfl (by rfl) (by rfl) (as0 a h ab ab rfl rfl)) (by rfl) (by rfl) λ_=>?_;exact lZ.step (yr ab rfl (by rfl) (by rfl) (as1 a h ab ab rfl rfl)) (by rfl) (by rfl) λ_ _ _=>trivial
 obtain⟨g,e1,_⟩:=Oi _ (by show 5<1000;omega) _ _ k _ Lo.refl;rw[arT]at e1;simp only[Qv,fS,eG,Dd,go_sem,cq.cells]at e1;refine⟨g,?_⟩;refine aP func70 ?_;simp only[go_sem,f70,cq.cells,Ke,dE,gE,e1]
def F9(n:Int):cE->cE->Int|_,[]=>0|b,s::l=>bif within s n then(bif lq b s then 7 else F9 n (b++[s]) l)else 2
theorem aIh{n:Nat}(a:n<=l.length)(h:n<1200000):n8 PP 26 (.ay l 3 1) Z (J (.int .i64 (.ofNat n))) Z=J (.ay (l.take n) 3 1,.no):=by unfold n8;grind[Proofs.Tryz.underlying26,sz3,pM,nI,nH,bl]
theorem aw3(l:cE):cL ⟨C,l⟩=.ay (l.map iD) 3 1:=by cases l<;>rfl
def Dx(n:Int):List (Sl Int)->Int|[]=>0|l::t=>bif aj (F9 n [] l.l) 0 then Dx n t else F9 n [] l.l
theorem aqr(l:Sl ko)(j:l.l.length<1100000):∃o,CC 355 [C4 l] (.val (vm (l.l.map ko.scope) o) .empty):=by
 suffices S:Sat (ev PP cf (.call 355 [C4 l] .no .empty)) λv g=>g=.empty/\∃o,v=vm (l.l.map ko.scope) o by obtain⟨v,g,e,rfl,o,rfl⟩:=S;grind
 refine mV func355 ?_;simp only[go_sem,f355];refine Ab l.l ([]:cE) (λi s=>[(8,iS i),(3,fU (s.map iD) 3 1)]) (λ_=>.empty) (λi d s=>s++d.map ko.scope=l.l.map ko.scope/\s.length=i) ab rfl rfl ⟨rfl,rfl⟩ (λs h=>?_) (λi x d s a b w h f=>?_);.rw[<-h.1,eG,jQ];cases s with|nil=>simp only[go_sem];exact⟨trivial,.any,rfl⟩|cons y t=>simp only[go_sem];exact⟨trivial,.ex 3,rfl⟩
 .have c:=f (s++[x.scope]) ⟨ai,ai⟩;cases s with|nil=>simp only[go_sem,jF]at c;simp only[go_sem,a,b,w,ko.d];omega|cons y t=>have M:(t.length+1<1200000)=True:=iT ai;simp only[go_sem,lC,qb]at c;simp only[go_sem,a,b,w,ko.d,M,fZ];omega
theorem aqq(a:dK)(s:List (Sl Int))(p:s.length<1000)(k:∀l∈s,l.l.length<1100000):CC 354 [.agg a.cells,.ay (s.map cL) 26 1] (vI (Dx a.scopes s)):=by
 refine aP func354 ?_;simp only[go_sem,f354,dK.cells];refine gR s (λi=>[(11,iS i)]) (λ_ l=>vI (Dx a.scopes l)) ab rfl rfl ?_ (λi x o g d w f=>?_);.simp only[go_sem,Dx]
 . have P:=k x (dw d);simp only[go_sem]at f;simp only[Dx];simp only[go_sem,g,d];rw[Cf];refine gR x.l (λj=>[(17,iS j)]) (λj m=>vI (bif aj (F9 a.scopes (x.l.take j) m) 0 then Dx a.scopes o else F9 a.scopes (x.l.take j) m)) ab rfl rfl ?_ (λj y m c e v b=>?_);.simp only[go_sem,F9,w,f]
   . have H:j<x.l.length:=mT c;have e1:=D' y a.scopes;have e2:=SZ ⟨C,x.l.take j⟩ y ai;have e3:=aIh (l:=x.l.map iD) (n:=j) ai ab;have e4:bP x.nl (x.l.map iD) 3 1=.ay (x.l.map iD) 3 1:=by cases q:x.l with|nil=>simp_all|cons=>rfl
     rw[aw3]at e2;rw[<-List.map_take]at e3;rw[Y5 e]at b;simp only[go_sem,e4]at b;simp only[F9];simp only[go_sem,c,e,e1,e4];apply sp<;>intro h<;>simp only[h,e3,go_sem];simp only[e2,go_sem];apply sp<;>intro h<;>simp only[h,v,b,go_sem]
def CD(s v:Int):cE->List Guard->Int|_,[]=>0|b,g::l=>bif within g.scope s&&(within g.ty 16&&within g.var v)then(bif lq b g.scope then 7 else bif aj g.cond.ni 0 then CD s v (b++[g.scope]) l else g.cond.ni)else 2
def KB(a:dK)(l:List Guard):Int:=bif aA 64 (.ofNat l.length)then 5 else CD a.scopes a.vars [] l
theorem aqp(a c:Guard)(b:Nat)(g:GH)(h:g.get b=J (bL c.cells)):ev PP cf (.call 353 [a.d,.ptr b 0] .no g)=J (.val (.dv (.bool (aj a.scope c.scope)) .no) g):=by refine aP func353 ?_;simp only[go_sem,f353,Guard.d,Guard.cells,h]
theorem aud(l:List Guard)(s:Int):lq (l.map Guard.scope) s=l.any λg=>aj g.scope s:=by grind[lq]
theorem aIg{n:Nat}(a:n<=l.length)(h:n<1200000):n8 PP 225 (.ay l 281 11) Z (J (.int .i64 (.ofNat n))) Z=J (.ay (l.take n) 281 11,.no):=by unfold n8;grind[Proofs.Tryz.underlying225,aiN,pM,nI,nH,bl]
theorem aqd(a:dK)(b:Sl Guard)(r:b.l.length<1100000)(p:∀g∈b.l,g.cond.nn<1100000):rS (ev PP cf (.call 300 [.agg a.cells,CB b] .no .empty)) (zS (KB a b.l)):=by
 suffices S:Sat (ev PP cf (.call 300 [.agg a.cells,CB b] .no .empty)) λv _=>v=zS (KB a b.l)by obtain⟨v,g,e,rfl⟩:=S;exact⟨g,e⟩
 refine mV func300 ?_;simp only[go_sem,f300,dK.cells,KB];apply gU<;>intro h<;>simp only[h,go_sem];refine Ab b.l GH.empty (λi _=>[(13,iS i)]) (λs=>s) (λi f _=>CD a.scopes a.vars ((b.l.take i).map Guard.scope) f=CD a.scopes a.vars [] b.l) ab rfl rfl rfl (λs I=>?_) (λi x f s j c w I o=>?_);.rw[<-I];simp only[go_sem,CD]
 . have H:i<b.l.length:=mT j;have X:=p x (dw c);have e4:bP b.nl (b.l.map Guard.d) 281 11=.ay (b.l.map Guard.d) 281 11:=by cases P:b.l with|nil=>rw[P]at H;simp at H|cons=>rfl
   have e3:=aIg (l:=b.l.map Guard.d) (n:=i) (by rw[fZ];omega) ab;rw[<-List.map_take]at e3;have e5:bP C ((b.l.take i).map Guard.d) 281 11=.ay ((b.l.take i).map Guard.d) 281 11:=by cases b.l.take i<;>rfl
   have e6:=S6 (d:=Guard.d) (q:=λh=>aj h.scope x.scope) 353 [] [.ptr s.next 0] ((s.alloc (bL [iD 0,iD 0,iD 0,iD 0,.nl,iD 0,iD 0,iD 0,iD 0,iD 0,.str []])).set s.next (bL x.cells)) C (b.l.take i) (by rw[qa];omega) (λy _=>.inl ⟨aN,aN,aqp y x s.next _ (by rw[lj,if_pos rfl])⟩) (.inl rfl) (λy=>⟨rfl,by simp[Guard.d,DV.flat,Guard.dG]⟩);rw[e5]at e6;have e1:=D' x.scope a.scopes;have e2:=D' x.ty 16;have e7:=D' x.var a.vars;have e8:=Hg x.cond ab;rw[<-aud]at e6;rw[Y5 c,qb]at o;simp only[CD]at I;rw[<-I];simp only[Guard.cells,go_sem]at e6;have m:=o;simp only[go_sem,e4]at m;simp only[go_sem,j,c,e1,e4,Guard.d,Guard.cells];repeat'(with_reducible apply gU<;>intro h<;>simp only[h,w,e2,e3,e7,e6,e8,go_sem])
   all_goals
   have k:CD a.scopes a.vars (List.map Guard.scope (List.take i b.l)++[x.scope]) f=CD a.scopes a.vars [] b.l:=by rw[<-I];simp only[*,xj,aR,bS]
   rw[k];exact m _ k
def Q4(l:ko):Bool:=bif aA l.span 0 then V else aA 1099511627776 l.span
theorem aqs(l:ko):CC 357 [l.d] (vB (Q4 l)):=by refine aP func357 ?_;simp only[go_sem,f357,ko.d,Q4];apply sp<;>intro h<;>simp only[h,go_sem]
def D2:List Expr->Int|[]=>0|e::l=>bif aj e.ni 0 then D2 l else e.ni
def UU(a:dK)(x:Edge):Int:=bif aj (Dx a.scopes [x.opens,x.lI,x.inside,⟨V,x.jZ.l.map ko.scope⟩]) 0 then(bif x.jZ.l.any Q4 then 2 else 0)else Dx a.scopes [x.opens,x.lI,x.inside,⟨V,x.jZ.l.map ko.scope⟩]
def ahY(a:dK)(x:Edge):Bool:=within x.src (.ofNat a.mr.l.length)&&((!aA x.dst (-1)&&aA x.dst (.ofNat a.mr.l.length))&&(within x.var a.vars&&within x.ty 16))
def N3(a:dK)(x:Edge)(b:Int):Int:=bif ahY a x then(bif aA x.src b then 14 else bif aj x.cond.ni 0 then(bif aA 64 (.ofNat x.jJ.l.length)then 5 else bif aj (D2 x.jJ.l) 0 then UU a x else D2 x.jJ.l)else x.cond.ni)else 2
structure xm(x:Edge):Prop where
 c:x.cond.nn<1100000
 k:x.jJ.l.length<1100000
 e:∀e∈x.jJ.l,e.nn<1100000
 o:x.opens.l.length<1100000
 p:x.lI.l.length<1100000
 i:x.inside.l.length<1100000
 l:x.jZ.l.length<1100000
theorem aqe(a:dK)(x:Edge)(f:Int)(b:xm x):CC 301 [.agg a.cells,x.d,iD f] (vI (N3 a x f)):=by
 have d1:=aI3;simp only[bw,opsOf,f301,go_sem]at d1;have e1:=D' x.src (.ofNat a.mr.l.length);have e2:=D' x.var a.vars;have e3:=D' x.ty 16;have e4:=Hg x.cond (by have:=b.c;omega);obtain⟨o,e5⟩:=aqr x.jZ b.l;have e6:=aqq a [x.opens,x.lI,x.inside,⟨V,x.jZ.l.map ko.scope⟩] (by show 4<1000;decide) (by
 intro l c;simp only[Nq,mA,or_false]at c;rcases c with rfl|rfl|rfl|rfl;.exact b.o
 .exact b.p
 .exact b.i
 .show(x.jZ.l.map ko.scope).length<1100000;rw[fZ];exact b.l);have e7:=S6 (d:=ko.d) (q:=Q4) 357 [] [] .empty x.jZ.nl x.jZ.l (by have:=b.l;omega) (λy _=>.inr ⟨aN,aN,by simp[cA,DV.pure,ko.d],aqs y⟩) (.inr (.inl rfl)) (λy=>⟨rfl,rfl⟩);have k:=b.k;simp only[vm,go_sem]at e5;simp only[fS,eG,dK.cells,go_sem]at e6;refine aP func301 ?_;simp only[go_sem,f301,dK.cells,Edge.d,Edge.cells,N3,ahY,e1];repeat'(with_reducible apply sp<;>intro h<;>simp only[h,e2,e3,e4,go_sem])
 refine gR x.jJ.l (λi=>[(65,iS i)]) (λ_ l=>vI (bif aj (D2 l) 0 then UU a x else D2 l)) ab rfl rfl ?_ (λi y l j e w g=>?_);.simp only[go_sem,D2,UU,d1,e5,e6];apply sp<;>intro h<;>simp only[h,e7,go_sem];apply sp<;>intro h<;>simp only[h,go_sem]
 .have r:=Hg y (by have:=b.e y (dw e);omega);simp only[go_sem,j,e,r,D2]at g|-;apply sp<;>intro h<;>simp only[h,w,g,go_sem]
theorem apl{e:Expr}{a b c d f:DV}:List.take 13 (e.cells++[a,b,c,d,f])=e.cells++[a,b,c,d,f]:=by simp[GD,Expr.dG]
theorem ao8{e:Expr}:cA (e.cells++l)=cA l:=by simp[BI,Expr.pure]
attribute[go_sem]apl ao8
def J6(a:dK):fY->Int->Int|[],_=>0|x::l,b=>bif aj (N3 a x b) 0 then J6 a l x.src else N3 a x b
def MQ(a:dK):List Stat->Int|[]=>J6 a a.oC.l 0|s::l=>bif aj (KB a s.guards.l) 0 then MQ a l else KB a s.guards.l
def dK.ni(a:dK):Int:=bif aA a.vars 0||(aA 16 a.vars||(aA a.scopes 0||aA 64 a.scopes))then 2 else bif aA (.ofNat a.mr.l.length) 1||(aA 256 (.ofNat a.mr.l.length)||aA 2048 (.ofNat a.oC.l.length))then 5 else MQ a a.mr.l
structure qM(a:dK):Prop where
 s:a.mr.l.length<1100000
 e:a.oC.l.length<1100000
 g:∀s∈a.mr.l,s.guards.l.length<1100000/\∀g∈s.guards.l,g.cond.nn<1100000
 x:∀x∈a.oC.l,xm x
theorem apL(a:dK)(c:qM a):CC 249 [.agg a.cells] (vI a.ni):=by
 have m:=c.s;have k:=c.e;refine aP func249 ?_;simp only[go_sem,f249,dK.cells,dK.ni];repeat'(with_reducible apply sp<;>intro h<;>simp only[h,go_sem])
 refine gR a.mr.l (λi=>[(49,iS i)]) (λ_ l=>vI (MQ a l)) ab rfl rfl ?_ (λi x l e b w d=>?_)
 . simp only[go_sem,MQ];refine rC _ _ (λi s=>[(64,iS i),(6,zS s)]) (λ_ l s=>vI (J6 a l s)) (λ_ _ _=>True) ab rfl trivial rfl (λs _=>?_) (λi x l s e b w _ d=>?_);.simp only[go_sem,J6]
   .have e1:=aqe a x s (c.x x (dw b));have f:=d x.src trivial;simp only[Edge.d,Edge.cells,dK.cells,go_sem]at e1;simp only[go_sem]at f;simp only[J6];simp only[go_sem,e,b,e1,Edge.d,Edge.cells];apply sp<;>intro h<;>simp only[h,w,f,go_sem]
 .obtain⟨g,j⟩:=c.g x (dw b);obtain⟨g1,e1⟩:=aqd a x.guards g j;simp only[dK.cells,go_sem]at e1;simp only[go_sem,e,b,e1,Stat.d,MQ]at d|-;apply sp<;>intro h<;>simp only[h,w,d,go_sem]
def acQ(s:bY):Bool:=bif aA 20 (.ofNat s.fields.l.length)then V else aA 100 (.ofNat s.name.length)
def Eb(n:Nat):List bY->Bool|[]=>!aA 20 (.ofNat n)|s::l=>bif acQ s then C else Eb n l
theorem acb(t:Sl bY)(h:t.l.length<1100000):CC 33 [cC t] (vB (Eb t.l.length t.l)):=by
 refine aP func33 ?_;simp only[go_sem,f33];refine gR t.l (λi=>[(3,iS i)]) (λ_ l=>vB (Eb t.l.length l)) ab rfl rfl ?_ (λi x l c a w b=>?_);.simp only[go_sem,Eb]
 .simp only[go_sem,c,a,Eb,acQ,bY.d]at b|-;repeat'(with_reducible apply sp<;>intro h<;>simp only[h,a,w,b,bY.d,go_sem])
def Ec:bq->Bool|[]=>V|p::l=>bif aA 20 (.ofNat (p.cond.mE 20))then C else Ec l
theorem apA(p:ae)(n:p.nn<1100000)(e:∀q∈nodes p,q.cond.nn<1100000):CC 79 [.agg p.cells] (vB (bif aA 9 (.ofNat (p.mE 9))then C else Ec (nodes p))):=by
 have e1:ev PP cf (.call 135 [.agg _,.int _ 9] _ _)=_:=S3 9 p ab;have e2:=S4 p ab;have c:=Ff [p];simp only[eS,jQ,ae.bH]at c;refine aP func79 ?_;simp only[go_sem,f79,e1];apply sp<;>intro h<;>simp only[h,go_sem,e2];refine gR _ (λi=>[(4,iS i)]) (λ_ l=>vB (Ec l)) ab rfl rfl ?_ (λi x l b d w a=>?_);.simp only[go_sem,Ec]
 .have e3:ev PP cf (.call 137 [.agg x.cond.cells,.int .i64 20] .no .empty)=_:=S5 20 x.cond ai;cases x;simp only[ae.cond]at e3;simp only[go_sem,b,d,e3,Ec,ae.cells,ae.cond]at a|-;apply sp<;>intro h<;>simp only[h,w,a,go_sem]
def Hl:bq->Bool|[]=>V|p::l=>bif p.cond.Hr then Hl l else C
theorem ap8(p:ae)(n:p.nn<1100000)(e:∀q∈nodes p,q.cond.nn<1100000):CC 133 [.agg p.cells] (vB (bif(bif aA 150 (.ofNat (p.mE 150))then V else aA 60 (.ofNat p.dep))then C else Hl (nodes p))):=by
 have e1:ev PP cf (.call 135 [.agg _,.int .i64 150] _ _)=_:=S3 150 p ab;have e2:=S4 p ab;have e4:=acE p ab;have c:=Ff [p];simp only[eS,jQ,ae.bH]at c;refine aP func133 ?_;simp only[go_sem,f133,e1];repeat'(with_reducible apply sp<;>intro h<;>simp only[h,go_sem,e2,e4])
 all_goals
 refine gR (nodes p) (λi=>[(4,iS i)]) (λ_ l=>vB (Hl l)) ab rfl rfl ?_ (λi x l b d w a=>?_);.simp only[go_sem,Hl]
 .have e3:=Kc x.cond ai;cases x;simp only[ae.cond]at e3;simp only[go_sem,b,d,e3,Hl,ae.cells,ae.cond]at a|-;apply sp<;>intro h<;>simp only[h,w,a,go_sem]
def Hk:List Guard->Bool|[]=>V|g::l=>bif g.cond.Hr then Hk l else C
theorem apB(s:Sl Guard)(d:s.l.length<1100000)(e:∀g∈s.l,g.cond.nn<1100000):CC 138 [CB s] (vB (Hk s.l)):=by
 refine aP func138 ?_;simp only[go_sem,f138];refine gR _ (λi=>[(3,iS i)]) (λ_ l=>vB (Hk l)) ab rfl rfl ?_ (λi x l b c w a=>?_);.simp only[go_sem,Hk]
 .have e3:=Kc x.cond ai;simp only[go_sem,b,c,e3,Hk,Guard.d,Guard.cells]at a|-;apply sp<;>intro h<;>simp only[h,w,a,go_sem]
def A5:List Expr->Bool|[]=>V|e::l=>bif e.Hr then A5 l else C
theorem apz(q:cq)(n:q.pat.nn<1100000)(c:∀p∈nodes q.pat,p.cond.nn<1100000)(r:q.jB.l.length<1100000)(g:∀e∈q.jB.l,e.nn<1100000):∃b,CC 78 [.agg q.cells] (vB b):=by
 have e1:=ap8 q.pat n c;generalize(bif(bif aA 150 (.ofNat (q.pat.mE 150))then V else aA 60 (.ofNat q.pat.dep))then C else Hl (nodes q.pat))=b at e1;refine⟨bif(bif(bif(bif(bif aA 20 (.ofNat q.vars.l.length)then V else aA 30 (.ofNat q.key.l.length))then V else aA 20 (.ofNat q.jB.l.length))then V else aA 80 (.ofNat q.name.length))then V else !b)then C else A5 q.jB.l,?_⟩;refine aP func78 ?_;simp only[go_sem,f78,cq.cells];repeat'(with_reducible apply sp<;>intro h<;>simp only[h,go_sem,e1])
 all_goals
 refine gR q.jB.l (λi=>[(3,iS i)]) (λ_ l=>vB (A5 l)) ab rfl rfl ?_ (λi x l d f w a=>?_);.simp only[go_sem,A5]
 .have e3:=Kc x ai;simp only[go_sem,d,f,e3,A5]at a|-;apply sp<;>intro h<;>simp only[h,w,a,go_sem]
mutual
def Hh : ae -> Int
  | .mk op _ args _ _ _ _ _ => Ki args (bif aj op 0 then 1 else 0)
def Ki : bq -> Int -> Int
  | [], s => s
  | p :: l, s => Ki l (dI .i64 (jP s (Hh p)))
end
theorem SY:∀p:ae,p.nn<1200000->CC 80 [.agg p.cells] (vI (Hh p))|.mk j g args t v c n o,e=>by simp only[ae.nn]at e;have hr:∀x∈args,CC 80 [.agg x.cells] (vI (Hh x)):=λx a=>SY x (by have:=ae.rH args _ a;omega);clear SY;refine aP func80 ?_;simp only[go_sem,f80,ae.cells,Hh];apply sp<;>intro h<;>simp only[h,go_sem];all_goals
 refine rC args (_:Int) (λi s=>[(4,iS i),(3,zS s)]) (λ_ l s=>vI (Ki l s)) (λ_ _ _=>True) (by have:=ae.mj args;omega) rfl trivial rfl (λs _=>?_) (λi x l s d a w _ f=>?_);.simp only[go_sem,Ki]
 .have e1:=hr x (dw a);have b:=f (dI .i64 (jP s (Hh x))) trivial;simp only[go_sem]at b;simp only[go_sem,d,a,w,e1,b,Ki]termination_by p=>oW p decreasing_by simp_wf;have:=oU a;omega
def f5S(s:Stat):Bool:=bif(bif(bif aA 12 (.ofNat s.guards.l.length)then !aA 64 (.ofNat s.guards.l.length)else C)then V else aA 70 (.ofNat s.guards.l.length))then V else !Hk s.guards.l
def f5E(e:Edge):Bool:=bif(bif(bif(bif(bif !e.cond.Hr then V else aA 8 (.ofNat e.jJ.l.length))then V else aA 12 (.ofNat e.opens.l.length))then V else aA 12 (.ofNat e.lI.l.length))then V else aA 12 (.ofNat e.inside.l.length))then V else aA 12 (.ofNat e.jZ.l.length)
def Cu(b:Bool):fY->Bool|[]=>b|e::l=>bif f5E e then C else bif A5 e.jJ.l then Cu b l else C
def Hm(b:Bool):List Stat->Bool|[]=>b|e::l=>bif f5S e then C else Hm b l
theorem aiP{a}(l:List a)(k:Nat):∃m,(l.take k).length=m/\m<=k/\m<=l.length/\(decide (m<l.length)=C\/decide (m<l.length)=V/\aA (.ofNat m) (.ofNat k)=C)/\∀i x,i<m->(l.take k)[i]?=J x->l[i]?=J x/\(i<l.length)=True/\aA (.ofNat i) (.ofNat k)=V:=by refine⟨_,rfl,?_,?_,?_,λi x b h=>?_⟩<;>grind[fQ]
theorem ev5(a:dK)(n:qM a):∃b,CC 81 [.agg a.cells] (vB b):=by
 have D:=n.s;have B:=n.e;refine⟨Hm (Cu (bif aA 20 (.ofNat a.mr.l.length)then C else !aA 40 (.ofNat a.oC.l.length)) (a.oC.l.take 60)) (a.mr.l.take 30),?_⟩;obtain⟨m,r,E,F,s,A⟩:=aiP a.mr.l 30;obtain⟨k,k1,k2,k3,k4,k5⟩:=aiP a.oC.l 60;have mk:∀m,aA (.ofNat m) (.ofNat 30)=aA (.ofNat m) 30:=λ_=>rfl;have u:∀m,aA (.ofNat m) (.ofNat 60)=aA (.ofNat m) 60:=λ_=>rfl;rw[mk]at s;rw[u]at k4;refine aP func81 ?_;simp only[go_sem,f81,dK.cells];refine gR (a.mr.l.take 30) (λi=>[(3,iS i)]) (λ_ l=>vB (Hm (Cu (bif aA 20 (.ofNat a.mr.l.length)then C else !aA 40 (.ofNat a.oC.l.length)) (a.oC.l.take 60)) l)) ab rfl rfl ?_ (λi x l c o w g=>?_)
 . rw[r];rcases s with e|⟨e,p⟩;case' inl=>simp only[go_sem,e,Hm]
   case' inr=>simp only[go_sem,e,p,Hm]
   all_goals
   refine gR (a.oC.l.take 60) (λi=>[(4,iS i)]) (λ_ l=>vB (Cu (bif aA 20 (.ofNat a.mr.l.length)then C else !aA 40 (.ofNat a.oC.l.length)) l)) ab rfl rfl ?_ (λi x l c o w g=>?_)
   . rw[k1];rcases k4 with e|⟨e,p⟩;case' inl=>simp only[go_sem,e,Cu]
     case' inr=>simp only[go_sem,e,p,Cu]
     all_goals apply sp<;>intro h<;>simp only[h,go_sem]
   . rw[k1]at c;obtain⟨f,c,d⟩:=k5 i x (mT c) o;have d:aA (.ofNat i) 60=V:=d;have ok:=n.x x (dw f);have e1:=Kc x.cond (by have:=ok.c;omega);simp only[go_sem,c,f,d,e1,Cu,f5E,Edge.d,Edge.cells]at g|-;repeat'(with_reducible apply sp<;>intro h<;>simp only[h,go_sem])
     all_goals
     rw[Cf];refine gR x.jJ.l (λj=>[(6,iS j)]) (λ_ m=>vB (bif A5 m then Cu (bif aA 20 (.ofNat a.mr.l.length)then C else !aA 40 (.ofNat a.oC.l.length)) l else C)) (by have:=ok.k;omega) rfl rfl ?_ (λj y m t z v q=>?_);.simp only[go_sem,w,g,A5]
     .have e2:=Kc y (by have:=ok.e y (dw z);omega);simp only[go_sem]at q;simp only[go_sem,t,z,e2,A5];apply sp<;>intro h<;>simp only[h,v,q,go_sem]
 .rw[r]at c;obtain⟨f,c,d⟩:=A i x (mT c) o;have d:aA (.ofNat i) 30=V:=d;have ok:=n.g x (dw f);have e1:=apB x.guards ok.1 ok.2;simp only[go_sem]at e1;simp only[go_sem,c,f,d,Hm,f5S,Stat.d]at g|-;repeat'(with_reducible apply sp<;>intro h<;>simp only[h,f,w,e1,g,Stat.d,go_sem])
theorem aFk:List.take 15 (p.cells++x::l)=p.cells++[x]:=by have:p.cells++x::l=(p.cells++[x])++l:=aO;grind[List.take_left',ae.dG]
theorem aEG:List.drop 15 (p.cells++x::l)=l:=by have:p.cells++x::l=(p.cells++[x])++l:=aO;grind[List.drop_left',ae.dG]
attribute[go_sem]aFk aEG
theorem ev4(t:Sl bY)(q:cq)(a:dK)(g:t.l.length<1100000)(n:q.pat.nn<1100000)(c:∀p∈nodes q.pat,p.cond.nn<1100000)(r:q.jB.l.length<1100000)(j:∀e∈q.jB.l,e.nn<1100000)(i:qM a):∃b,CC 49 [.agg (eH.cells ⟨t,q,a⟩)] (vB b):=by have e1:=acb t g;obtain⟨d,e2⟩:=apz q n c r j;have e3:=apA q.pat n c;have e4:=SY q.pat ab;obtain⟨f,e5⟩:=ev5 a i;refine⟨bif Eb t.l.length t.l then bif d then bif(bif aA 9 (.ofNat (q.pat.mE 9))then C else Ec (nodes q.pat))then bif !aA 4 (Hh q.pat)then f else C else C else C else C,?_⟩;generalize Eb t.l.length t.l=k at*;generalize(bif aA 9 (.ofNat (q.pat.mE 9))then C else Ec (nodes q.pat))=l at*;refine aP func49 ?_;simp only[go_sem,dK.cells,cq.cells]at e1 e2 e3 e4 e5;simp only[go_sem,f49,eH.cells,cq.cells,dK.cells,e1];repeat'(with_reducible apply sp<;>intro h<;>simp only[h,e2,e3,e4,e5,go_sem])
def Edge.same(e d:Edge):Bool:=aj e.var d.var&&(aj e.ty d.ty&&(e.cond.same d.cond&&(kr Expr.same e.jJ.l d.jJ.l&&(kr aj e.opens.l d.opens.l&&(kr aj e.lI.l d.lI.l&&(kr aj e.inside.l d.inside.l&&kr MD e.jZ.l d.jZ.l))))))
theorem ac4:cf.fk 282=3/\cf.eQ 282=V:=by constructor<;>kernel_rfl
theorem ac8:cf.fk 291=3/\cf.eQ 291=V:=by constructor<;>kernel_rfl
theorem ac9:cf.fk 293=3/\cf.eQ 293=V:=by constructor<;>kernel_rfl
theorem ada:cf.fk 295=3/\cf.eQ 295=V:=by constructor<;>kernel_rfl
theorem acd(s t:Sl Expr)(l:s.l.length<1000000000)(a:∀e∈s.l,e.nn<1100000):CC 283 [ue s,ue t,.func 282 [] []] (vB (kr Expr.same s.l t.l)):=by have h:=Kg (α:=Expr) (d:=λe=>.agg e.cells) (c:=Expr.cells) (q:=Expr.same) 282 [] [] .empty s.nl t.nl s.l t.l l (λx y b=>.inr ⟨ac4.1,ac4.2,by simp only[jF,jQ,cA,DV.pure,Expr.pure,go_sem],D9 x y (by have:=a x b;omega)⟩) (.inr (.inr (.inr (.inl rfl)))) (λx=>⟨rfl,Expr.dG x⟩);rw[<-Expr.rh,<-Expr.rh]at h;exact h
def Edge.eqv(e d:Edge):Bool:=aj e.src d.src&&(aj e.dst d.dst&&e.same d)
theorem aqm(e d:Edge)(a:xm e):CC 291 [e.d,d.d] (vB (e.eqv d)):=by have e1:=D9 e.cond d.cond (by have:=a.c;omega);have e2:=Cr e.opens d.opens (by have:=a.o;omega);have e3:=Cr e.lI d.lI (by have:=a.p;omega);have e4:=Cr e.inside d.inside (by have:=a.i;omega);have e5:=ace e.jZ d.jZ (by have:=a.l;omega);have e6:=acd e.jJ d.jJ (by have:=a.k;omega) a.e;simp only[go_sem]at e2 e3 e4 e5 e6;refine aP func291 ?_;simp only[f291,List.append];simp only[go_sem,Edge.d,Edge.cells,Edge.eqv,Edge.same];repeat'(with_reducible apply sp<;>intro h<;>simp only[h,e1,e2,e3,e4,e5,e6,go_sem])
def Guard.same(g h:Guard):Bool:=aj g.scope h.scope&&(aj g.ty h.ty&&(aj g.var h.var&&g.cond.same h.cond))
theorem aqo(g k:Guard)(a:g.cond.nn<1100000):CC 295 [g.d,k.d] (vB (g.same k)):=by have e1:=D9 g.cond k.cond ab;refine aP func295 ?_;simp only[go_sem,f295,Guard.d,Guard.cells,Guard.same];repeat'(with_reducible apply sp<;>intro h<;>simp only[h,e1,go_sem])
theorem aqn(s t:Stat)(b:s.guards.l.length<1100000)(h:∀g∈s.guards.l,g.cond.nn<1100000):CC 293 [s.d,t.d] (vB (kr Guard.same s.guards.l t.guards.l)):=by have e1:=Kg (d:=Guard.d) (c:=Guard.cells) (q:=Guard.same) 295 [] [] .empty s.guards.nl t.guards.nl s.guards.l t.guards.l ab (λx y a=>.inr ⟨ada.1,ada.2,by simp only[jF,jQ,cA,go_sem],aqo x y (h x a)⟩) (.inr (.inr (.inl rfl))) (λx=>⟨rfl,Guard.dG x⟩);refine aP func293 ?_;simp only[go_sem,f293,Stat.d,e1]
def Stat.same(s t:Stat):Bool:=kr Guard.same s.guards.l t.guards.l
def dK.same(a b:dK):Bool:=aj a.vars b.vars&&(aj a.scopes b.scopes&&(kr Edge.eqv a.oC.l b.oC.l&&kr Stat.same a.mr.l b.mr.l))
theorem ap2(a b:dK)(e:qM a):CC 235 [.agg a.cells,.agg b.cells] (vB (a.same b)):=by have i:=e.s;have g:=e.e;have e1:=Kg (d:=Edge.d) (c:=Edge.cells) (q:=Edge.eqv) 291 [] [] .empty a.oC.nl b.oC.nl a.oC.l b.oC.l ab (λx y f=>.inr ⟨ac8.1,ac8.2,by simp only[jF,jQ,cA,go_sem],aqm x y (e.x x f)⟩) (.inl rfl) (λx=>⟨rfl,Edge.dG x⟩);have e2:=Kg (d:=Stat.d) (c:=λs=>[CB s.guards]) (q:=Stat.same) 293 [] [] .empty a.mr.nl b.mr.nl a.mr.l b.mr.l ab (λx y f=>.inr ⟨ac9.1,ac9.2,by simp only[jF,jQ,cA,go_sem],aqn x y (e.g x f).1 (e.g x f).2⟩) (.inr (.inl rfl)) (λx=>⟨rfl,rfl⟩);refine aP func235 ?_;simp only[go_sem,f235,dK.cells,dK.same];repeat'(with_reducible apply sp<;>intro h<;>simp only[h,e1,e2,go_sem])
mutual
def ae.same : ae -> ae -> Bool
  | .mk op _ args ty var scope s cond, .mk A _ x h f U Q S => aj op A && (aj ty h && (aj var f && (aj scope U && (aj s Q && (cond.same S && ae.An args x)))))
def ae.An : bq -> bq -> Bool
  | [], [] => V
  | x :: s, y :: a => x.same y && ae.An s a
  | _, _ => C
end
theorem ae.I6:∀s a:bq,ae.An s a=kr ae.same s a|[],[]=>rfl|x::s,y::a=>by simp only[ae.An,kr,ae.I6 s a];cases x.same y<;>rfl|[],_::_=>rfl|_::_,[]=>rfl
theorem ac6:cf.fk 229=3/\cf.eQ 229=V:=by constructor<;>kernel_rfl
mutual
def ae.cn : ae -> Nat
  | .mk _ _ args _ _ _ _ cond => 1 + cond.nn + ae.gb args
def ae.gb : bq -> Nat
  | [] => 0
  | p :: l => p.cn + ae.gb l
end
theorem ae.SD:∀(l:bq)x,x∈l->x.cn<=ae.gb l
 |y::l,x,h=>by
  rcases List.mem_cons.1 h with rfl|h;.simp only[ae.gb];omega
  .have:=ae.SD l x h;simp only[ae.gb];omega
theorem ae.aby:∀l:bq,l.length<=ae.gb l|[]=>bJ _|.mk _ _ _ _ _ _ _ _::l=>by have:=ae.aby l;simp only[ae.gb,ae.cn,dE];omega
theorem Oe:∀p b:ae,p.cn<100000000->CC 229 [.agg p.cells,.agg b.cells] (vB (p.same b))|.mk i l args t v s n o,.mk A L B g j U Q S,f=>by simp only[ae.cn]at f;have hr:∀x y,x∈args->CC 229 [.agg x.cells,.agg y.cells] (vB (x.same y)):=λx y a=>Oe x y (by have:=ae.SD args _ a;omega);clear Oe;have e1:=Kg (α:=ae) (d:=λe=>.agg e.cells) (c:=ae.cells) (q:=ae.same) 229 [] [] .empty l L args B (by have:=ae.aby args;omega) (λx y a=>.inr ⟨ac6.1,ac6.2,by simp only[jF,jQ,cA,DV.pure,ae.pure,go_sem],hr x y a⟩) (.inr (.inr (.inr (.inr rfl)))) (λx=>⟨rfl,ae.dG x⟩);rw[<-ae.rh,<-ae.rh,<-ae.I6]at e1;have e2:=D9 o S ab;refine aP func229 ?_;simp only[f229];simp only[go_sem,ae.cells,ae.same];repeat'(with_reducible apply sp<;>intro h<;>simp only[h,e1,e2,go_sem])termination_by p=>oW p decreasing_by simp_wf;have:=oU a;omega
end Go.VM
