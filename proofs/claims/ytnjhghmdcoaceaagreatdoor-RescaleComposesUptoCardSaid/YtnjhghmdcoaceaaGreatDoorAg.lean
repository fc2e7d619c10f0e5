/- Proved: what functions of the program answer, within the sizes that each theorem names. -/
import Derived.Test.YtnjhghmdcoaceaaGreatDoorAf
open Option renaming some->J,none->Z
open Bool renaming true->V,false->C
open Go renaming TypeId->an,Program->aH
open Int renaming ofNat->du,add->jX
open Nat renaming ble->bz
open SizeOf renaming sizeOf->pM
noncomputable section
set_option maxRecDepth 100000
set_option maxHeartbeats 4000000
set_option linter.all false
namespace Go.VM
open Go Go.AM Proofs.Tryz
variable{a f x:DV}{e:Expr}{p:ae}{l:ao}
attribute[local congr]bB bC
theorem aM3{t:Sl b9}{s:Sl eE}(h:s.l.all (λv=>!aA v.ty 0&&aA v.ty (.ofNat t.l.length))=V):R9 t s:=by intro v a;have:=A0.1 h v a;simp only[fX,gD,Ss,C0,jB,Kb]at this;exact⟨v.ty.toNat,ai,ab⟩
theorem Expr.aom(h:aj e.nG 0=V):e.wu=0:=by grind[Expr.nG,jl]
def I7(t:Sl b9)(v:Sl eE)(e:Expr):Int×Int:=bif aj e.nG 0 then e.tZ t.l v.l else(0,e.nG)
def An(t:Sl b9)(v:Sl eE)(e:Expr):Int×Int:=bif aj (wj t.l) 0 then bif aj (fe t v) 0 then I7 t v e else(0,fe t v)else(0,wj t.l)
structure lY(ts:Sl b9):Prop where
 a:∀s,s∈ts.l->s.ok
 b:ts.l.length<1200000
theorem adv(t:Sl b9)(s:Sl eE)(e:Expr)(n:lY t)(u:s.l.length<1200000)(p:e.nn<1100000):CC 165 [cm t,kE s,.agg e.cells] (vT [iO (An t s e).1,iO (An t s e).2]):=by
 obtain⟨g1,j⟩:=KY t n.a n.b;have k:=HU e ab;have m:=λh o=>LS t s (aM3 h) e p (Expr.aom o);simp only[go_sem]at j k m;refine aO func165 ?_;simp only[go_sem,f165,j,An,fe];apply sp<;>intro h<;>simp only[h,go_sem];apply sp<;>intro h<;>simp only[h,go_sem];all_goals try rfl
 have z:∀l:List eE,(bif aj (bif l.all (λv=>!aA v.ty 0&&aA v.ty (.ofNat t.l.length))then 0 else 6) 0 then I7 t s e else(0,bif l.all (λv=>!aA v.ty 0&&aA v.ty (.ofNat t.l.length))then 0 else 6))=bif l.all (λv=>!aA v.ty 0&&aA v.ty (.ofNat t.l.length))then I7 t s e else(0,6):=by intro l;cases l.all (λv=>!aA v.ty 0&&aA v.ty (.ofNat t.l.length))<;>rfl
 rw[z];refine tb s.l () (λi _=>[(22,iS i)]) (λ_ l _=>vT [iO (bif l.all (λv=>!aA v.ty 0&&aA v.ty (.ofNat t.l.length))then I7 t s e else(0,6)).1,iO (bif l.all (λv=>!aA v.ty 0&&aA v.ty (.ofNat t.l.length))then I7 t s e else(0,6)).2]) (λi _ _=>(s.l.take i).all (λv=>!aA v.ty 0&&aA v.ty (.ofNat t.l.length))=V) ab rfl rfl rfl (λ_ a=>?_) (λi x l _ g c w a r=>?_);.rw[A8]at a;simp only[go_sem,nY,k,I7];apply sp<;>intro h<;>simp only[h,m a,go_sem]
 . have I:=λq:(!aA x.ty 0&&aA x.ty (.ofNat t.l.length))=V=>r () (by rw[aai c,List.all_append,a,pH,q];rfl);simp only[go_sem]at I;cases b:aA x.ty 0
   . cases f:aA x.ty (.ofNat t.l.length);.simp only[go_sem,g,c,b,f,pH]
     .have d:=I (by rw[b,f];rfl);simp only[go_sem,g,c,w,b,f,pH,d]
   .simp only[go_sem,g,c,b,pH]
def TB(t:Sl b9)(v:Sl eE)(e:Expr):Int:=bif aj (An t v e).2 0 then(bif aj (An t v e).1 1 then 0 else 9)else(An t v e).2
theorem arv(t:Sl b9)(v:Sl eE)(e:Expr)(b:lY t)(c:v.l.length<1200000)(n:e.nn<1100000):CC 209 [cm t,kE v,.agg e.cells] (vI (TB t v e)):=by have a:=adv t v e b c n;simp only[go_sem]at a;refine aO func209 ?_;simp only[go_sem,f209,a,TB];repeat'(with_reducible apply sp<;>intro h<;>simp only[h,go_sem])
def Sv(p:ae):Prop:=(uC (nodes p)).Pairwise (.<.)
theorem Ae:∀(l:bt)(x:ae),x∈l->(nodes x).Sublist (eU l)
 |[],_,h=>by simp at h|y::l,x,h=>by
  rw[eU];rcases CI.1 h with rfl|h;.exact List.sublist_append_left _ _
  .exact(Ae l x h).trans (List.sublist_append_right _ _)
theorem Sv.arg{o n a t v s p c}(h:Sv (.mk o n a t v s p c)){x:ae}(b:x∈a):Sv x:=by refine h.sublist ?_;rw[nodes];exact(((Ae _ x b).trans aU).filter _).map _
def JC(p:qM):List Expr->Nat->Int×Int|[],_=>(0,0)|e::l,i=>bif aj e.nG 0 then(bif aj (e.Bx p) 0 then JC p l (i+1)else(.ofNat i,e.Bx p))else(.ofNat i,e.nG)
def Gt(p:ae)(l:List Expr):Int×Int:=bif aj p.ji 0 then(bif aA 256 (.ofNat l.length)then(0,5)else JC ⟨⟨V,oT p⟩,⟨V,p.nR⟩,-1⟩ l 0)else(0,p.ji)
theorem ari(p:ae)(r:Sl Expr)(k:p.ji=0->zq p)(q:lX p)(s:r.l.length<1100000)(n:∀e∈r.l,e.nn<1100000):CC 167 [.agg p.cells,uI r] (vT [iO (Gt p r.l).1,iO (Gt p r.l).2]):=by
 have f:=O3 p q;have d1:=aLc;simp only[bp,opsOf,f167,go_sem]at d1;refine aO func167 ?_;simp only[go_sem,f167,f,Gt];apply sp<;>intro h<;>simp only[h,go_sem];apply sp<;>intro g<;>simp only[g,go_sem];have w:=k (tI h);obtain⟨_,g1,b,rfl⟩:=T2 p w.toCL;obtain⟨o,a⟩:=O4 p w.toCL;have k1:(oT p).length<1200000:=by grind[OD,oT]
 have k2:p.nR.length<1200000:=by grind[aio]
 simp only[vR]at b a;rw[show wF (uC (nodes p))=oT p from rfl]at b;simp only[go_sem,b,a,d1];refine gC r.l (λi=>[(26,iS i)]) (λi l=>vT [iO (JC ⟨⟨V,oT p⟩,⟨V,p.nR⟩,-1⟩ l i).1,iO (JC ⟨⟨V,oT p⟩,⟨V,p.nR⟩,-1⟩ l i).2]) ab rfl rfl ?_ (λi x l j c w d=>?_);.simp only[go_sem,JC]
 .have m:=dw c;have e1:=HU x ai;have e2:=T1 ⟨⟨V,oT p⟩,⟨V,p.nR⟩,-1⟩ k1 k2 x (n x m);simp only[qM.d,go_sem]at e2;simp only[go_sem,j,c,e1,JC]at d|-;repeat'(with_reducible apply sp<;>intro h<;>simp only[h,w,e2,d,go_sem])
def DD(s:aE):Int:=bif B8 s then bif Mm s then 8 else 0 else 8
def NX(n:Nat):List aE->List eE->Int|_,[]=>0|b,v::l=>bif aj (DD v.name) 0 then bif b.any (λm=>decide (v.name=m))then 7 else bif !aA v.ty 0&&aA v.ty (.ofNat n)then NX n (b++[v.name]) l else 6 else DD v.name
def J0(t:Sl b9)(v:Sl eE):Int:=bif aA 16 (.ofNat v.l.length)then 5 else NX t.l.length [] v.l
theorem aru(t:Sl b9)(a:Sl eE)(o:∀v,v∈a.l->v.name.length<1200000)(r:a.l.length<1200000):sK (ev PP cf (.call 208 [cm t,kE a] .no .empty)) (zS (J0 t a)):=by
 refine Hz func208 ?_;simp only[go_sem,f208,J0];apply wm<;>intro h<;>simp only[h,go_sem];refine My a.l ([]:List aE) (λi b=>⟨208,43,[(15,iS i),(0,.dv (cm t) .no),(5,.dv (.map 0) .no),(13,.dv (kE a) .no),(14,iS a.l.length)],[],⟨1,[(0,.map (qp b) b.length)]⟩⟩) (λ_ l b=>zS (NX t.l.length b l)) (λ_ _ _=>True) ab rfl trivial rfl (λs _=>?_) (λi x l b p n w _ d=>?_);.simp only[go_sem,NX]
 .have d:=d (b++[x.name]) trivial;have q:=o x (dw n);have hr:=Lk x.name q;simp only[OZ,gR,dD,gL,go_sem]at d;rw[show(bif B8 x.name then bif Mm x.name then 8 else 0 else 8:Int)=DD x.name from rfl]at hr;simp only[go_sem,p,n,hr,NX];apply wm<;>intro h<;>simp only[h,go_sem];cases g:b.any λm=>decide (x.name=m)with|true=>obtain⟨k,c,m,e⟩:=La b 0 0 g;simp only[go_sem,qp,e]|false=>have e:=K9 b 0 0 g;simp only[qp]at d;cases f:aA x.ty 0 with|true=>simp only[go_sem,qp,e,f]|false=>cases j:aA x.ty (.ofNat t.l.length)with|true=>simp only[go_sem,qp,e,f,j,w];omega|false=>simp only[go_sem,qp,e,f,j]
def Av(l:bt):Nat:=(l.filter λq=>ml q.op).length
structure aa8(l:bt)(a:Nat):Prop where
 v:∀q∈l,ml q.op=V->∃k:Nat,q.var=.ofNat k/\a<=k/\k<a+Av l
 s:((l.filter λq=>ml q.op).map ae.var).Pairwise (.<.)
theorem aNQ(n:Nat)(h:n<100000000):N5 (.ofNat n)=.ofNat (n+1):=vn ab
theorem Tj:∀(l:bt)(a:Nat)(b:Int),a+l.length<100000000->(l.foldl vz (.ofNat a,b,V)).2.2=V->(l.foldl vz (.ofNat a,b,V)).1=.ofNat (a+Av l)/\aa8 l a|[],a,b,_,_=>⟨rfl,⟨λq h=>by simp at h,List.Pairwise.nil⟩⟩|q::l,a,b,p,h=>by rw[A7]at h|-;simp only[dD]at p;cases v:ml q.op with
 |false=>
 have e:∃f d,vz (.ofNat a,b,V) q=(.ofNat a,f,d):=by unfold vz;rw[v];cases AI q.op<;>simp
 obtain⟨f,d,e⟩:=e;rw[e]at h|-;cases d with|false=>rw[Tk]at h;simp at h|true=>
  have i:=Tj l a f ab h;have e2:Av (q::l)=Av l:=by simp[Av,v]
  rw[e2];refine⟨i.1,⟨λx c j=>?_,by simp only[Ek,v,Bool.false_eq_true,if_false];exact i.2.s⟩⟩;rw[e2];rcases CI.1 c with rfl|c;.rw[v]at j;simp at j
  .exact i.2.v x c j|true=>
 have e:∃f d,vz (.ofNat a,b,V) q=(N5 (.ofNat a),f,d)/\(d=V->q.var=.ofNat a):=by
  unfold vz;rw[v];cases AI q.op;.exact⟨b,_,rfl,λh=>by simp only[zf]at h;exact tJ h⟩
  .refine⟨_,_,rfl,λh=>?_⟩;simp only[aR,zf,gD]at h;exact tJ h.1
 obtain⟨f,d,e,e3⟩:=e;rw[e]at h|-;cases d with|false=>rw[Tk]at h;simp at h|true=>
  rw[aNQ a ab]at h|-;have i:=Tj l (a+1) f ab h;have e2:Av (q::l)=Av l+1:=by simp[Av,v]
  have m:=e3 rfl;rw[e2];refine⟨by rw[i.1];congr 1;omega,⟨λx c j=>?_,?_⟩⟩
  . rw[e2];rcases CI.1 c with rfl|c;.exact⟨a,m,ab,ab⟩
    .obtain⟨k,g,n,o⟩:=i.2.v x c j;exact⟨k,g,ab,ab⟩
  .simp only[Ek,v,if_true,gb];refine be.2 ⟨λz r=>?_,i.2.s⟩;obtain⟨x,c,rfl⟩:=au.1 r;have c:=bl.1 c;obtain⟨k,g,n,o⟩:=i.2.v x c.1 c.2;rw[m,g];simp only[Kb];omega
theorem aol(h:p.ji=0)(n:p.nn<1100000):(zH (nodes p)).1=.ofNat (Av (nodes p))/\aa8 (nodes p) 0:=by
 have w:=OJ h;have c:(zH (nodes p)).2.2=V:=by unfold ae.ji at h;rw[show aj _ 0=V by rw[w];rfl,aR]at h;grind
 have:=Tj _ 0 0 (by grind[Q3]) c;rw[kG]at this;exact this
theorem We{o n a t v s p c}(h:(ae.mk o n a t v s p c).iV=0)(l:a.length<=64):(0<=v/\v<16)/\uA o a.length=V/\(ml o=V->0<=t/\t<16):=by simp only[ae.iV,F9]at h;cases b:(aA o 0||!aA o 11)with|true=>grind|false=>
 rw[b,ch,TA _ _ l]at h;rcases d:uA o _ with _|_;.grind
 rcases e:(tX (ml o) t 15&&(tX (ml o) v 15&&(tX (AI o) s 63&&tX (GA o) p 1099511627776)))with _|_;.grind
 cases f:(CZ o&&!aj c.nG 0)with|true=>simp_all[aj]|false=>grind[yX,tX,fX,tI]
theorem acq(h:p.ji=0)(d:lX p):zq p:=by
 have w:=Se (OJ h);have g:=OK w.1;have f:=Lb g.1;have m:∀q∈nodes p,q.args.length<=64:=λq a=>by have:=ae.Wf p q a;obtain⟨op,nl,args,ty,var,scope,s,cond⟩:=q;grind[ae.mK,ae.nn,ae.args]
 refine⟨⟨d.a,λq a=>?_,λq a=>?_⟩,d.b,λq a t e=>?_⟩;.grind[A2]
 .have c:=f q a;have b:=m q a;obtain⟨op,nl,args,ty,var,scope,s,cond⟩:=q;exact(We c b).1
 . have c:=f q a;have b:=m q a;obtain⟨op,nl,args,ty,var,scope,s,cond⟩:=q;have i:=(We c b).2.1;simp only[ae.op]at t e;simp only[ae.args]at b|-;have:args.length=1:=by grind[tv,uA,tJ]
   match args,this with|[x],_=>grind
theorem aC4{s:St}{d:ah Tmp}{i f:Nat}{o:aN}:Wb s d (.dv (.ptr i f) o)=aG s d (.dv (.ptr i f) .no):=(rfl)
attribute[go_sem]aC4
def ae.ty:ae->Int|.mk _ _ _ ty _ _ _ _=>ty
def NU(s:List eE)(a:Int):Int:=match s[a.toNat]? with|some v=>v.ty|none=>0
def D4(t:Sl b9)(v:Sl eE)(q:ae):Int:=bif tv q.op then(bif !aj q.op 7&&!aj q.ty (NU v.l q.var)then 9 else TB t v q.cond)else 0
def qh(t:Sl b9)(v:Sl eE):bt->Nat->ah (Nat×Int)|[],_=>Z|q::l,i=>bif aj (D4 t v q) 0 then qh t v l (i+1)else J (i,D4 t v q)
theorem akc(t:Sl b9)(v:Sl eE):∀(a b:bt)(i:Nat),qh t v (a++b) i=match qh t v a i with|none=>qh t v b (i+a.length)|some r=>J r
 |[],_,_=>rfl|x::a,b,i=>by simp only[lU,qh];cases aj (D4 t v x) 0 with|false=>rfl|true=>rw[aR,aR,akc t v a b (i+1),dD,A9,Nat.add_comm 1]
theorem fy(t:Sl b9)(v:Sl eE):∀(l:bt)(i j:Nat)(e:Int),qh t v l i=J (j,e)->aj e 0=C|[],_,_,_,h=>by simp[qh]at h|q::l,i,j,e,h=>by simp only[qh]at h;cases z:aj (D4 t v q) 0 with|true=>rw[z]at h;exact fy t v l _ _ _ h|false=>rw[z]at h;simp only[ch,xL,Oj]at h;rw[<-h.2];exact z
def mR(t:Sl b9)(v:Sl eE)(i:Nat):GO:=.box ⟨[cm t,kE v,iD (.ofNat i)],[]⟩
def vj(r:ah (Nat×Int))(g:GH)(b:Nat)(t:Sl b9)(v:Sl eE)(i:Nat):bh:=match r with|none=>.val (.tp [iO 0,iO 0]) (g.set b (mR t v i))|some (j,e)=>.val (.tp [iO (.ofNat j),iO e]) (g.set b (mR t v (j+1)))
theorem aK9:dj cf (bp f157 7)=V:=by rfl
theorem aLa:dj cf (bp f157 9)=V:=by rfl
section
variable{ts:Sl b9}{vs:Sl eE}
theorem aL7(H:lY ts)(T:vs.l.length<1200000)(o n a y d s p c)(O:(ae.mk o n a y d s p c).nn<1100000)(K:c.nn<1100000)(E:ml o=V->∃k v,d=du k/\vs.l[k]?=J v)(Y:∀x,x∈a->∀(g:GH)(b e:Nat),e+x.nn<1100000->g.get b=J (mR ts vs e)->ev PP cf (.call 157 [.ptr b 0,.agg x.cells] .no g)=J (vj (qh ts vs (nodes x) e) g b ts vs (e+x.nn)))(g:GH)(b e:Nat)(M:e+(ae.mk o n a y d s p c).nn<1100000)(m:g.get b=J (mR ts vs e)):ev PP cf (.call 157 [.ptr b 0,.agg (ae.mk o n a y d s p c).cells] .no g)=J (vj (qh ts vs (nodes (.mk o n a y d s p c)) e) g b ts vs (e+(ae.mk o n a y d s p c).nn)):=by
 have e1:=arv ts vs c H T K;have d1:=aK9;have d2:=aLa;simp only[bp,opsOf,f157,go_sem]at d1 d2;simp only[go_sem]at e1;have N:=vn (i:=e) ab;refine aO func157 ?_;rw[nodes,qh];simp only[mR]at m;have R:tv o=C\/(aj o 7=V/\aj o 0=C/\aj o 5=C/\tv o=V)\/(aj o 7=C/\aj o 0=V/\ml o=V/\tv o=V)\/(aj o 7=C/\aj o 0=C/\aj o 5=V/\ml o=V/\tv o=V):=by grind[tv,ml,ph,jl]
 have W:(ae.mk o n a y d s p c).nn=ae.bP a+1:=by rfl
 rw[W]at O M|-;rcases R with t|⟨u,f,z,t⟩|⟨u,f,B,t⟩|⟨u,f,z,B,t⟩;case' inl=>
  have f:aj o 0=C/\aj o 5=C/\aj o 7=C:=by grind[tv]
  simp only[go_sem,f157,ae.cells,m,N,f.1,f.2.1,f.2.2,D4,ae.op,t]
 case' inr.inl=>simp only[go_sem,f157,ae.cells,m,N,f,z,u,d2,e1,D4,ae.op,ae.cond,t];apply sp<;>intro h<;>simp only[h,go_sem,vj,mR]
 case' inr.inr.inl=>
  obtain⟨k,v,F,q⟩:=E B;have w:NU vs.l (.ofNat k)=v.ty:=by grind[NU]
  simp only[go_sem,f157,ae.cells,m,N,u,q,d1,D4,ae.op,ae.ty,ae.var,ae.cond,t,F,w,f];repeat'(with_reducible apply sp<;>intro h<;>simp only[h,go_sem,m,d2,e1,vj,mR])
 case' inr.inr.inr=>
  obtain⟨k,v,F,q⟩:=E B;have w:NU vs.l (.ofNat k)=v.ty:=by grind[NU]
  simp only[go_sem,f157,ae.cells,m,N,u,q,d1,D4,ae.op,ae.ty,ae.var,ae.cond,t,F,w,f,z];repeat'(with_reducible apply sp<;>intro h<;>simp only[h,go_sem,m,d2,e1,vj,mR])
 all_goals
  refine QK a (e+1) (λk j=>⟨157,76,[(61,iS k),(0,.dv (.ptr b 0) .no),(59,.dv (bK n (ae.bn a) 62 14) .no),(60,.dv (.int .i64 (.ofNat a.length)) .no)],[],g.set b (mR ts vs j)⟩) (λ_ l j=>vj (qh ts vs (eU l) j) g b ts vs (e+(ae.bP a+1))) (λ_ l j=>j+ae.bP l=e+(ae.bP a+1)) (by grind[ae.mK]) rfl ab rfl (λj I=>?_) (λk x l j q D P I Q=>?_);.simp only[ae.bP,vq]at I;subst I;simp only[go_sem,eU,qh,vj,mR]
  .simp only[ae.bP]at I;have hr:=Y x (dw D) (g.set b (mR ts vs j)) b j ab (by simp[lI]);have G:=Q (j+x.nn) ab;simp only[eU];rw[akc,Q3];cases A:qh ts vs (nodes x) j with|some r=>obtain⟨U,S⟩:=r;have L:=fy ts vs _ _ _ _ A;rw[A]at hr;simp only[go_sem,mR,vj]at hr;simp only[go_sem,mR,q,D,hr,L,vj]|none=>rw[A]at hr;simp only[go_sem,mR,vj]at hr G;simp only[go_sem,mR,q,D,P,hr,G,vj]
theorem adu(A:lY ts)(u:vs.l.length<1200000):∀p:ae,(∀q∈nodes p,q.cond.nn<1100000)->(∀q∈nodes p,ml q.op=V->∃k v,q.var=du k/\vs.l[k]?=J v)->∀(g:GH)(b i:Nat),i+p.nn<1100000->g.get b=J (mR ts vs i)->ev PP cf (.call 157 [.ptr b 0,.agg p.cells] .no g)=J (vj (qh ts vs (nodes p) i) g b ts vs (i+p.nn))
 |.mk o n args t r s a c,f,e,g,b,i,l,j=>by
  have hr:ae.mk o n args t r s a c∈nodes (.mk o n args t r s a c):=by rw[nodes];exact fU ..
  have m:∀x∈args,∀q∈nodes x,q∈nodes (.mk o n args t r s a c):=λx d q h=>by rw[nodes];exact jy _ (ae.MJ args x d q h)
  exact aL7 A u o n args t r s a c ab (f _ hr) (e _ hr) (λx d=>adu A u x (λq h=>f q (m x d q h)) (λq h=>e q (m x d q h))) g b i l j termination_by p=>pM p decreasing_by simp_wf;have:=pI d;omega
end
def JZ(t:Sl b9)(v:Sl eE):Int:=bif aj (wj t.l) 0 then J0 t v else wj t.l
def c7(p:ae)(r:ah (Nat×Int)):Int×Int:=match r with|none=>Gw p|some (j,e)=>(.ofNat j,e)
def ug(t:Sl b9)(v:Sl eE)(p:ae):Int×Int:=bif aj (JZ t v) 0 then(bif aj (kK p).2.2 0 then(bif aj (kK p).1 (.ofNat v.l.length)then c7 p (qh t v (nodes p) 0)else(0,15))else(0,(kK p).2.2))else(0,JZ t v)
theorem aoC(h:aj (kK p).2.2 0=V):p.ji=0/\(kK p).1=(zH (nodes p)).1:=by grind[kK,tI]
theorem aoD{s:Sl eE}(d:lX p)(h:aj (kK p).2.2 0=V)(a:aj (kK p).1 (.ofNat s.l.length)=V):∀q∈nodes p,ml q.op=V->∃k v,q.var=du k/\s.l[k]?=J v:=by intro q e f;obtain⟨b,g⟩:=aoC h;obtain⟨i,c⟩:=aol b d.a;obtain⟨k,j,_,m⟩:=c.v q e f;have o:=tJ a;have:Av (nodes p)=s.l.length:=ai;obtain⟨v,B⟩:=R2 (l:=s.l) (n:=k) ab;grind
structure Om(vs:Sl eE):Prop where
 a:∀v,v∈vs.l->v.name.length<1200000
 b:vs.l.length<1200000
def GQ(s:List eE)(i:Int):Bool:=s.any λv=>aj v.ty i
def xY(u:cG)(i:Nat):List lr:=(u.zipIdx i).map λx=>(iD x.1,.bool V,x.2)
theorem aqO{u:cG}{z:Int}:xY (u++[z]) 0=xY u 0++[(iD z,.bool V,u.length)]:=by grind[xY]
theorem Ug{z:Int}:∀{u:cG}{i j:Nat},lJ u z=C->findD PP 3 (iD z) (xY u i) j=J Z|[],_,_,_=>rfl|m::u,i,j,h=>by have:lJ (m::u) z=(aj m z||lJ u z):=rfl;rw[this,J8]at h;show(gw PP 50 3 (iD z) (iD m)).bind (λb=>bif b then J (J (j,(iD m,.bool V,i)))else findD PP 3 (iD z) (xY u (i+1)) (j+1))=_;rw[zO,cU,TV z m,h.1];exact Ug h.2
theorem Uh{z:Int}:∀{u:cG}{i a:Nat},lJ u z=V->∃k m c,findD PP 3 (iD z) (xY u i) a=J (J (a+k,(iD m,.bool V,c)))/\(xY u i)[k]?=J (iD m,.bool V,c)|[],_,_,h=>by simp[lJ]at h|m::u,i,a,h=>by have e:findD PP 3 (iD z) (xY (m::u) i) a=(gw PP 50 3 (iD z) (iD m)).bind (λb=>bif b then J (J (a,(iD m,.bool V,i)))else findD PP 3 (iD z) (xY u (i+1)) (a+1)):=rfl;rw[e,zO,cU,TV z m];cases d:aj m z with|true=>exact⟨0,m,i,rfl,rfl⟩|false=>
 have:lJ (m::u) z=(aj m z||lJ u z):=rfl;rw[this,d,xB]at h;obtain⟨k,f,c,e1,e2⟩:=Uh (i:=i+1) (a:=a+1) h;refine⟨k+1,f,c,?_,?_⟩;.rw[ch,e1];simp only[Nat.add_comm,Nat.add_left_comm]
 .exact e2
theorem take_set{a:Type}{l:List a}{k:Nat}{x:a}(h:l[k]?=J x):l.take k++x::l.drop (k+1)=l:=by grind[Ei,Hl]
theorem aOe{a b:Type}{x:List a}{y:List b}{i:Nat}{p:a×b}(h:(x.zip y)[i]?=J p):x[i]?=J p.1/\y[i]?=J p.2:=ai
theorem azB{n:Int}:ta PP 3 (iD n)=V:=by rfl
attribute[go_sem]azB
def Ot(u:cG)(z:Int):cG:=bif lJ u z then u else u++[z]
theorem alC(u:cG)(z v:Int):lJ (Ot u z) v=(lJ u v||aj z v):=by grind[Ot,lJ,tJ]
def FB(u:Int->Bool):List (b9×Int)->Nat->Int->Int|[],_,_=>0|x::l,i,z=>bif u (.ofNat i)then(bif aA x.2 0||!aA x.2 (.ofNat x.1.fields.l.length)then 16 else match x.1.fields.l[x.2.toNat]? with|some f=>bif aA z 0||aj f.kind z then FB u l (i+1) f.kind else 9|none=>0)else bif aj x.2 (-1)then FB u l (i+1) z else 16
def Mo(t:Sl b9)(q:cD):Int:=bif aj (.ofNat q.key.l.length) 0 then 0 else bif aj (.ofNat q.key.l.length) (.ofNat t.l.length)then FB (GQ q.vars.l) (t.l.zip q.key.l) 0 (-1)else 15
theorem arf(t:Sl b9)(q:cD)(D:t.l.length<1200000)(B:q.key.l.length<1200000)(E:q.vars.l.length<1200000):sK (ev PP cf (.call 161 [cm t,.agg q.cells] .no .empty)) (zS (Mo t q)):=by
 refine Hz func161 ?_;simp only[go_sem,f161,cD.cells,Mo];apply wm<;>intro h<;>simp only[h,go_sem];apply wm<;>intro r<;>simp only[r,go_sem];refine My q.vars.l ([]:cG) (λi u=>⟨161,78,[(26,iS i),(5,.dv (.map 0) .no),(24,.dv (kE q.vars) .no),(0,.dv (cm t) .no),(3,.lp 3 0),(25,iS q.vars.l.length)],[(3,⟨q.cells,[]⟩)],⟨1,[(0,.map (xY u 0) u.length)]⟩⟩) (λ_ _ _=>zS (FB (GQ q.vars.l) (t.l.zip q.key.l) 0 (-1))) (λ_ l u=>∀v,(lJ u v||GQ l v)=GQ q.vars.l v) ab rfl (λv=>rfl) rfl (λu I=>?_) (λi x l u o e w I g=>?_)
 . have b:t.l.length=q.key.l.length:=(ue r).symm;have y:∀v,lJ u v=GQ q.vars.l v:=λv=>by grind[GQ]
   simp only[go_sem,cD.cells];refine My (t.l.zip q.key.l) (-1:Int) (λi z=>⟨161,78,[(37,iS i),(8,zS z),(0,.dv (cm t) .no),(5,.dv (.map 0) .no),(35,.dv (bW q.key) .no),(36,iS q.key.l.length)],[],⟨1,[(0,.map (xY u 0) u.length)]⟩⟩) (λi l z=>zS (FB (GQ q.vars.l) l i z)) (λ_ _ _=>True) ai rfl trivial rfl (λz _=>?_) (λi x l z o e w _ g=>?_);.have s:(t.l.zip q.key.l).length=q.key.l.length:=aU;simp only[s,go_sem,FB]
   .obtain⟨n,p⟩:=aOe e;have N:(i<q.key.l.length)=True:=QL p;obtain⟨A,k⟩:=x;simp only at n p;simp only[FB,<-y];cases b:lJ u (.ofNat i)with|false=>have e1:=Ug (i:=0) (j:=0) b;have a:=g z trivial;simp only[go_sem]at a;simp only[go_sem,N,p,e1];apply wm<;>intro h<;>simp only[h,w,go_sem];omega|true=>obtain⟨F,m,c,e1,e2⟩:=Uh (i:=0) (a:=0) b;cases k with|negSucc m=>simp only[go_sem,N,n,p,e1,ahi]|ofNat m=>cases d:A.fields.l[m]? with|none=>have e3:=Uz d;simp only[go_sem,N,n,p,e1,e3]|some f=>
   have e3:=QL d;have a:=g f.kind trivial;simp only[go_sem]at a;simp only[go_sem,N,n,p,e1,e3,d,tn];repeat'(with_reducible apply wm<;>intro h<;>simp only[h,d,w,go_sem])
   all_goals omega
 .have a:=g (Ot u x.ty) (λv=>by rw[alC,Bool.or_assoc];exact I v);simp only[go_sem,cD.cells]at a;unfold Ot at a;cases b:lJ u x.ty with|true=>obtain⟨k,m,c,e1,e2⟩:=Uh (i:=0) (a:=0) b;have e3:=take_set e2;rw[kG]at e1;simp only[b,go_sem]at a;simp only[go_sem,cD.cells,o,e,w,e1,e3,a]|false=>have e1:=Ug (i:=0) (j:=0) b;simp only[b,go_sem,aqO,gR,dD,gL]at a;simp only[go_sem,cD.cells,o,e,w,e1,a]
def Fz(t:Sl b9)(q:cD):Int:=bif aj (JZ t q.vars) 0 then Mo t q else JZ t q.vars
theorem aHv:List.take 15 (p.cells++[x])=p.cells++[x]:=by simp[Hm,ae.dI]
theorem aHx:cj (p.cells++[x])=x.pure:=by simp[Cg,ae.pure,cj]
attribute[go_sem]aHv aHx
structure mA(q:cD):Prop where
 n:q.name.length<1200000
 v:Om q.vars
 k:q.key.l.length<1200000
 p:lX q.pat
 r:q.jL.l.length<1100000
 e:∀e∈q.jL.l,e.nn<1100000
def Co(t:Sl b9)(v:Sl eE):List Expr->Int|[]=>0|e::l=>bif aj (An t v e).2 0 then Co t v l else(An t v e).2
def Jy(t:Sl b9)(q:cD):Int:=bif aj (ug t q.vars q.pat).2 0 then(bif aj (.ofNat q.jL.l.length) 0 then 15 else bif aA 256 (.ofNat q.jL.l.length)then 5 else bif aj (Co t q.vars q.jL.l) 0 then(Gt q.pat q.jL.l).2 else Co t q.vars q.jL.l)else(ug t q.vars q.pat).2
def wH(t:Sl b9)(q:cD):Int:=bif aj (wj t.l) 0 then(bif aj (DD q.name) 0 then(bif aj (ug t q.vars q.pat).2 0 then(bif aj (Fz t q) 0 then Jy t q else Fz t q)else(ug t q.vars q.pat).2)else DD q.name)else wj t.l
def CK(n:Nat)(b:GH)(f:Nat)(c:ao)(r:Int×Int):Prop:=∀g,Lo n b g->∃a,ev PP cf (.call f c .no g)=J (.val (.tp [iO r.1,iO r.2]) a)/\Lo n g a
def zj(n:Nat)(b:GH)(f:Nat)(c:ao)(e:Int):Prop:=∀g,Lo n b g->∃a,ev PP cf (.call f c .no g)=J (.val (.dv (iD e) .no) a)/\Lo n g a
abbrev zr:=Nat×ao×(Int×Int)
def mz(H:GH->Prop):List zr->(GH->Prop)->Prop|[],E=>∀g,H g->E g|x::l,E=>∃a:GH->Prop,((∀g,H g->∃b,ev PP cf (.call x.1 x.2.1 .no g)=J (.val (.tp [iO x.2.2.1,iO x.2.2.2]) b)/\a b)/\(cf.iz x.1||cf.oo x.1)=C/\cf.fk x.1=0)/\(aj x.2.2.2 0=V->mz a l E)
theorem CK.to{n f:Nat}{b:GH}{c:ao}{r:Int×Int}(h:CK n b f c r):∀g,Lo n b g->∃a,ev PP cf (.call f c .no g)=J (.val (.tp [iO r.1,iO r.2]) a)/\Lo n b a:=λg d=>by obtain⟨a,e,k⟩:=h g d;exact⟨a,e,d.trans k⟩
def mz.step{n:Nat}{g:GH}{x:zr}{l:List zr}{E:GH->Prop}(h:CK n g x.1 x.2.1 x.2.2)(a:(cf.iz x.1||cf.oo x.1)=C)(b:cf.fk x.1=0)(c:aj x.2.2.2 0=V->mz (Lo n g) l E):mz (Lo n g) (x::l) E:=⟨Lo n g,⟨h.to,a,b⟩,c⟩
def qt:List zr->Int×Int|[]=>(0,0)|x::l=>bif aj x.2.2.2 0 then qt l else x.2.2
def DL(x:zr):DV:=.agg [.func x.1 [] x.2.1]
theorem Pb(l:List zr)(F:l.length<1000)(H E:GH->Prop)(h:mz H l E)(g:GH)(y:H g):∃d,ev PP cf (.call 91 [.ay (l.map DL) 208 1] .no g)=J (.val (.tp [iO (qt l).1,iO (qt l).2]) d)/\(aj (qt l).2 0=V->E d):=by
 suffices S:Sat (ev PP cf (.call 91 [.ay (l.map DL) 208 1] .no g)) λv d=>v=.tp [iO (qt l).1,iO (qt l).2]/\(aj (qt l).2 0=V->E d)by obtain⟨v,d,e,rfl,k⟩:=S;grind
 refine nw func91 ?_;simp only[go_sem,f91];refine Ap l g (λi _=>[(10,iS i)]) (λs=>s) (λ_ n s=>(∃H:GH->Prop,H s/\mz H n E)/\qt n=qt l) ab rfl rfl ⟨⟨H,y,h⟩,rfl⟩ (λs I=>?_) (λi x n s q t z I B=>?_);.obtain⟨⟨H,a,b⟩,c⟩:=I;rw[<-c];simp only[go_sem];exact⟨rfl,λ_=>b _ a⟩
 .obtain⟨⟨H,a,u,⟨w,j,m⟩,o⟩,c⟩:=I;obtain⟨d,e,k⟩:=w s a;obtain⟨f,D,r⟩:=x;obtain⟨j,p⟩:=J8.1 j;simp only[acj,ack]at j m e o;cases hr:aj r.2 0 with|true=>have A:=B d ⟨⟨u,k,o hr⟩,by grind[qt]⟩;simp only[go_sem]at A;simp only[go_sem,q,t,z,DL,j,p,m,e,hr];omega|false=>rw[<-c];simp only[go_sem,q,t,DL,j,p,m,e,hr,qt];simp_all
theorem KX(f:Nat)(c:ao)(g:GH):ev PP cf (.call 92 [.func f [] c] .no g)=J (.val (.dv (.agg [.func 148 [] [.ptr g.next 0]]) .no) (g.alloc (.box ⟨[.func f [] c],[]⟩))):=by refine aO func92 ?_;simp only[go_sem,f92]
theorem yG{n b f:Nat}{d:ao}{a:GH}{e:Int}(p:b<n)(q:a.get b=J (.box ⟨[.func f [] d],[]⟩))(c:(cf.iz f||cf.oo f)=C)(m:cf.fk f=0)(h:zj n a f d e):CK n a 148 [.ptr b 0] (0,e):=by intro g l;obtain⟨j,i,k⟩:=h g l;have u:=(l.2 b p).trans q;refine⟨j,?_,k⟩;refine aO func148 ?_;obtain⟨c,o⟩:=J8.1 c;simp only[go_sem,f148,u,c,o,m,i]
abbrev bD(d:DV):GO:=.box ⟨[d],[]⟩
abbrev bL(l:ao):GO:=.box ⟨l,[]⟩
section
variable{n:Nat}{g0:GH}{ts:Sl b9}{vs:Sl eE}{p:ae}{q:cD}{a b c:Nat}
theorem Iz(h:lY ts)(c:a<n)(b:g0.get a=J (bD (cm ts))):zj n g0 206 [.ptr a 0] (wj ts.l):=by intro g l;obtain⟨g1,e1⟩:=KY ts h.a h.b;have k:=(l.2 a c).trans b;refine⟨g,?_,a18⟩;simp only[go_sem]at e1;refine aO func206 ?_;simp only[go_sem,f206,k,e1]
theorem auS(h:lY ts)(c:a<n)(b:g0.get a=J (bD (cm ts))):zj n g0 93 [.ptr a 0] (wj ts.l):=by intro g l;obtain⟨g1,e1⟩:=KY ts h.a h.b;have k:=(l.2 a c).trans b;refine⟨g,?_,a18⟩;simp only[go_sem]at e1;refine aO func93 ?_;simp only[go_sem,f93,k,e1]
theorem Iy(v:Om vs)(e:a<n)(f:b<n)(c:g0.get a=J (bD (cm ts)))(d:g0.get b=J (bD (kE vs))):zj n g0 207 [.ptr a 0,.ptr b 0] (J0 ts vs):=by intro g h;obtain⟨g1,e1⟩:=aru ts vs v.a v.b;have k:=(h.2 a e).trans c;have j:=(h.2 b f).trans d;refine⟨g,?_,a18⟩;simp only[go_sem]at e1;refine aO func207 ?_;simp only[go_sem,f207,k,j,e1]
theorem auP(i:lX p)(e:a<n)(f:b<n)(c:g0.get a=J (bL p.cells))(d:g0.get b=J (bD (kE vs))):zj n g0 155 [.ptr a 0,.ptr b 0] (bif aj (kK p).2.2 0&&!aj (kK p).1 (.ofNat vs.l.length)then 15 else(kK p).2.2):=by intro g l;have e1:=adt p i;have k:=(l.2 a e).trans c;have j:=(l.2 b f).trans d;refine⟨g,?_,a18⟩;refine aO func155 ?_;simp only[go_sem,f155,k,e1];repeat'(with_reducible apply sp<;>intro h<;>simp only[h,j,go_sem])
theorem aGL(A:lY ts)(D:Om vs)(d:lX p)(t:∀q∈nodes p,ml q.op=V->∃k v,q.var=du k/\vs.l[k]?=J v)(z:n<=g0.next)(w:a<n)(x:b<n)(y:c<n)(m:g0.get a=J (bD (cm ts)))(o:g0.get b=J (bD (kE vs)))(s:g0.get c=J (bL p.cells)):CK n g0 156 [.ptr a 0,.ptr b 0,.ptr c 0] (match qh ts vs (nodes p) 0 with|none=>(0,0)|some (j,e)=>(.ofNat j,e)):=by
 intro g h;have u:=(h.2 a w).trans m;have i:=(h.2 b x).trans o;have B:=(h.2 c y).trans s;have I:=gj z h.1;have l:(c=g.next)=False:=cK ab;have e1:=adu A D.b p d.b t (g.alloc (mR ts vs 0)) g.next 0 (by have:=d.a;omega) (by simp[kr]);rcases f:qh ts vs _ 0 with _|r;.rw[f]at e1;simp only[mR,vj,go_sem]at e1;refine⟨(g.alloc (mR ts vs 0)).set _ (mR ts vs (0+p.nn)),?_,(a13 I).trans (a48 I)⟩;refine aO func156 ?_;simp only[go_sem,f156,u,i,B,l,e1,mR]
 obtain⟨j,e⟩:=r;rw[f]at e1;simp only[mR,vj,go_sem]at e1;refine⟨(g.alloc (mR ts vs 0)).set _ (mR ts vs (j+1)),?_,(a13 I).trans (a48 I)⟩;refine aO func156 ?_;simp only[go_sem,f156,u,i,B,l,e1,mR]
theorem aGM(b:lX p)(d:a<n)(c:g0.get a=J (bL p.cells)):CK n g0 158 [.ptr a 0] (Gw p):=by intro g l;obtain⟨_,g1,e1,rfl⟩:=are p (λh=>acq h b) b;have k:=(l.2 a d).trans c;refine⟨g,?_,a18⟩;refine aO func158 ?_;simp only[go_sem,f158,k,e1]
end
theorem ads(t:Sl b9)(v:Sl eE)(g:GH):ev PP cf (.call 154 [cm t,kE v] .no g)=J (.val (.dv (.ay [.agg [.func 148 [] [.ptr (g.next+1+1) 0]],.agg [.func 148 [] [.ptr (g.next+1+1+1) 0]]] 208 1) (.ex 208)) ((((g.alloc (bD (cm t))).alloc (bD (kE v))).alloc (bD (.func 206 [] [.ptr g.next 0]))).alloc (bD (.func 207 [] [.ptr g.next 0,.ptr (g.next+1) 0])))):=by refine aO func154 ?_;simp only[go_sem,f154,KX]
def ON(p:ae)(v:Sl eE):Int:=bif aj (kK p).2.2 0&&!aj (kK p).1 (.ofNat v.l.length)then 15 else(kK p).2.2
def c5(r:ah (Nat×Int)):Int×Int:=match r with|none=>(0,0)|some (j,e)=>(.ofNat j,e)
theorem aoB{v:Sl eE}(h:aj (ON p v) 0=V):aj (kK p).2.2 0=V/\aj (kK p).1 (.ofNat v.l.length)=V:=by
 unfold ON at h;rcases a:aj _ 0 with _|_;.grind
 cases b:aj _ _ with|true=>grind|false=>simp_all[aj]
theorem abu{e:Nat}{n:ao}(h:l.length+n.length<1000):fE e 1 8 (.ay l e 1) (.ex e) n=J (.ay (l++n) e 1,.ex e):=by grind[qO,bm]
def Rl(t:Sl b9)(v:Sl eE)(p:ae):List zr:=[(148,[.ptr 5 0],(0,wj t.l)),(148,[.ptr 6 0],(0,J0 t v)),(148,[.ptr 7 0],(0,ON p v)),(156,[.ptr 0 0,.ptr 1 0,.ptr 2 0],c5 (qh t v (nodes p) 0)),(158,[.ptr 2 0],Gw p)]
theorem ra:∀(l:List (ae×LR))(i j:Nat)(e:Int),qE l i=J (j,e)->aj e 0=C|[],_,_,_,h=>by simp[qE]at h|x::l,i,j,e,h=>by simp only[qE]at h;cases z:tv x.1.op&&!aj (C9 x.1 x.2) 0 with|false=>rw[z]at h;exact ra l _ _ _ h|true=>rw[z]at h;simp only[aR,xL,Oj]at h;simp only[gD,Ss]at z;rw[<-h.2];exact z.2
theorem atP(t:Sl b9)(v:Sl eE)(p:ae):qt (Rl t v p)=ug t v p:=by
 simp only[Rl,qt,ug,JZ,ON];rcases h:aj _ 0 with _|_;.grind
 simp only[aR];rcases a:aj _ 0 with _|_;.rfl
 rcases b:aj (kK p).2.2 0 with _|_;.grind
 rcases c:aj _ (.ofNat v.l.length)with _|_;.rfl
 rcases d:qh t v _ 0 with _|r;.simp only[c5,c7];rw[show aj 0 0=V from rfl,aR];grind[Gw,ra]
 grind[c5,c7,fy]
theorem Lg(t:Sl b9)(s:Sl eE)(p:ae)(b:lY t)(d:Om s)(a:lX p):∃g,CC 97 [cm t,kE s,.agg p.cells] (.val (.tp [iO (ug t s p).1,iO (ug t s p).2]) g):=by
 have e0:=ads t s ⟨3,[(0,bD (cm t)),(1,bD (kE s)),(2,bL p.cells)]⟩;simp only[go_sem]at e0;suffices S:Sat (ev PP cf (.call 97 [cm t,kE s,.agg p.cells] .no .empty)) λv _=>v=.tp [iO (ug t s p).1,iO (ug t s p).2]by obtain⟨v,g,e,rfl⟩:=S;grind
 have k:mz (Lo 8 ⟨8,[(0,bD (cm t)),(1,bD (kE s)),(2,bL p.cells),(3,bD (cm t)),(4,bD (kE s)),(5,bD (.func 206 [] [.ptr 3 0])),(6,bD (.func 207 [] [.ptr 3 0,.ptr 4 0])),(7,bD (.func 155 [] [.ptr 2 0,.ptr 1 0]))]⟩) (Rl t s p) (λ_=>True):=by refine mz.step (yG ab rfl (by rfl) (by rfl) (Iz b ab rfl)) (by rfl) (by rfl) λ_=>?_;refine mz.step (yG ab rfl (by rfl) (by rfl) (Iy d ab ab rfl rfl)) (by rfl) (by rfl) λ_=>?_;refine mz.step (yG ab rfl (by rfl) (by rfl) (auP a ab ab rfl rfl)) (by rfl) (by rfl) λh=>?_;have c:=aoB h;refine mz.step (aGL b d a (aoD a c.1 c.2) aU ab ab ab rfl rfl rfl) (by rfl) (by rfl) λ_=>?_;exact mz.step (aGM a ab rfl) (by rfl) (by rfl) λ_ _ _=>trivial
 obtain⟨g,e1,_⟩:=Pb _ (by show 5<1000;omega) _ _ k _ a18;rw[atP]at e1;simp only[Rl,gb,eM,DL,go_sem]at e1;refine nw func97 ?_;simp only[go_sem,f97,e0,KX,pH,nY,abu,dD,gL,e1]
section
variable{n:Nat}{g0:GH}{ts:Sl b9}{vs:Sl eE}{p:ae}{q:cD}{a b c:Nat}
theorem auQ(t:lY ts)(c:mA q)(f:a<n)(i:b<n)(d:g0.get a=J (bD (cm ts)))(e:g0.get b=J (bL q.cells)):zj n g0 160 [.ptr a 0,.ptr b 0] (Mo ts q):=by intro g h;obtain⟨g1,e1⟩:=arf ts q t.b c.k c.v.b;have k:=(h.2 a f).trans d;have j:=(h.2 b i).trans e;refine⟨g,?_,a18⟩;simp only[go_sem,cD.cells]at e1 j;refine aO func160 ?_;simp only[go_sem,f160,k,j,e1]
end
def Rm(t:Sl b9)(q:cD):List zr:=[(148,[.ptr 4 0],(0,wj t.l)),(148,[.ptr 5 0],(0,J0 t q.vars)),(148,[.ptr 6 0],(0,Mo t q))]
theorem atQ(t:Sl b9)(q:cD):(qt (Rm t q)).2=Fz t q:=by grind[Rm,qt,Fz,JZ,tI]
theorem asd(t:Sl b9)(q:cD)(a:lY t)(h:mA q):∃g,CC 99 [cm t,.agg q.cells] (.val (.dv (iD (Fz t q)) .no) g):=by
 have e0:=ads t q.vars ⟨2,[(0,bD (cm t)),(1,bL q.cells)]⟩;have k:mz (Lo 7 ⟨7,[(0,bD (cm t)),(1,bL q.cells),(2,bD (cm t)),(3,bD (kE q.vars)),(4,bD (.func 206 [] [.ptr 2 0])),(5,bD (.func 207 [] [.ptr 2 0,.ptr 3 0])),(6,bD (.func 160 [] [.ptr 0 0,.ptr 1 0]))]⟩) (Rm t q) (λ_=>True):=by refine mz.step (yG ab rfl (by rfl) (by rfl) (Iz a ab rfl)) (by rfl) (by rfl) λ_=>?_;refine mz.step (yG ab rfl (by rfl) (by rfl) (Iy h.v ab ab rfl rfl)) (by rfl) (by rfl) λ_=>?_;exact mz.step (yG ab rfl (by rfl) (by rfl) (auQ a h ab ab rfl rfl)) (by rfl) (by rfl) λ_ _ _=>trivial
 obtain⟨g,e1,_⟩:=Pb _ (by show 3<1000;omega) _ _ k _ a18;rw[atQ]at e1;simp only[Rm,gb,eM,DL,go_sem,cD.cells]at e1;simp only[go_sem,cD.cells]at e0;refine⟨g,?_⟩;refine aO func99 ?_;simp only[go_sem,f99,cD.cells,e0,KX,pH,nY,abu,dD,gL,e1]
section
variable{n:Nat}{g0:GH}{ts:Sl b9}{q:cD}{a b c:Nat}
theorem aGN(t:lY ts)(c:mA q)(f:a<n)(i:b<n)(d:g0.get a=J (bD (cm ts)))(e:g0.get b=J (bL q.cells)):CK n g0 162 [.ptr a 0,.ptr b 0] (ug ts q.vars q.pat):=by intro g h;obtain⟨g1,e1⟩:=Lg ts _ _ t c.v c.p;have k:=(h.2 a f).trans d;have j:=(h.2 b i).trans e;refine⟨g,?_,a18⟩;simp only[go_sem,cD.cells]at e1 j;refine aO func162 ?_;simp only[go_sem,f162,k,j,e1]
theorem aGP(t:lY ts)(c:mA q)(f:a<n)(i:b<n)(d:g0.get a=J (bD (cm ts)))(e:g0.get b=J (bL q.cells)):CK n g0 96 [.ptr a 0,.ptr b 0] (ug ts q.vars q.pat):=by intro g h;obtain⟨g1,e1⟩:=Lg ts _ _ t c.v c.p;have k:=(h.2 a f).trans d;have j:=(h.2 b i).trans e;refine⟨g,?_,a18⟩;simp only[go_sem,cD.cells]at e1 j;refine aO func96 ?_;simp only[go_sem,f96,k,j,e1]
def QG(q:cD):Int:=bif aj (.ofNat q.jL.l.length) 0 then 15 else bif aA 256 (.ofNat q.jL.l.length)then 5 else 0
theorem auR(c:b<n)(a:g0.get b=J (bL q.cells)):zj n g0 163 [.ptr b 0] (QG q):=by intro g l;have j:=(l.2 b c).trans a;refine⟨g,?_,a18⟩;simp only[go_sem,cD.cells]at j;refine aO func163 ?_;simp only[go_sem,f163,j,QG];repeat'(with_reducible apply sp<;>intro h<;>simp only[h,go_sem])
theorem arh(m:lY ts)(e:mA q)(g:GH)(c:g.get 0=J (bD (cm ts)))(a:g.get 1=J (bL q.cells))(k:g.get 2=J (bD .nl)):Sat (ev PP cf (.call 164 [.ptr 1 0,.ptr 0 0,.ptr 2 0] .no g)) λv j=>v=zS (Co ts q.vars q.jL.l)/\∃l,j=g.set 2 (.box (rO l)):=by
 have r:=e.r;simp only[go_sem,cD.cells]at a;refine nw func164 ?_;simp only[go_sem,f164,a];refine Ap q.jL.l ([]:cG) (λi _=>[(11,iS i)]) (λs=>g.set 2 (.box (rO s))) (λi l s=>Co ts q.vars q.jL.l=Co ts q.vars l/\s.length=i) ab rfl (Z8 k) ⟨rfl,rfl⟩ (λs I=>?_) (λi x l s d b w I o=>?_);.rw[I.1];simp only[go_sem,Co];grind
 .have p:=dw b;obtain hr:=adv ts q.vars x m e.v.b (e.e x p);simp only[go_sem]at hr;simp only[Co]at I;have u:(0=2)=False:=ai;cases h:aj (An ts q.vars x).2 0 with|false=>rw[h]at I;rw[I.1];simp only[go_sem,d,b,c,a,hr,h];grind|true=>rw[h]at I;have f:=o (s++[(An ts q.vars x).1]) ⟨I.1,aU⟩;cases s with|nil=>simp only[go_sem,rO,jO,eM]at f;simp only[go_sem,rO,d,b,w,c,a,hr,h];omega|cons y t=>have n:(t.length+1<1200000)=True:=il ai;simp only[go_sem,rO,lU,qJ]at f;simp only[go_sem,rO,d,b,w,c,a,hr,h,n,fO];omega
theorem aGO(h:mA q)(g:GH)(a:g.get 1=J (bL q.cells)):ev PP cf (.call 166 [.ptr 1 0] .no g)=J (.val (.tp [iO (Gt q.pat q.jL.l).1,iO (Gt q.pat q.jL.l).2]) g):=by have e1:=ari _ _ (λc=>acq c h.p) h.p h.r h.e;simp only[go_sem,cD.cells]at e1 a;refine aO func166 ?_;simp only[go_sem,f166,a,e1]
end
def Rn(t:Sl b9)(q:cD):List zr:=[(162,[.ptr 0 0,.ptr 1 0],ug t q.vars q.pat),(148,[.ptr 3 0],(0,QG q)),(148,[.ptr 4 0],(0,Co t q.vars q.jL.l)),(166,[.ptr 1 0],Gt q.pat q.jL.l)]
theorem atS(t:Sl b9)(q:cD):(qt (Rn t q)).2=Jy t q:=by grind[Rn,qt,Jy,QG,tI]
theorem ase(s:Sl b9)(q:cD)(d:lY s)(b:mA q):Sat (ev PP cf (.call 101 [cm s,.agg q.cells] .no .empty)) λv _=>∃x,v=.tp [x,iO (Jy s q)]/\x.1.pure=V:=by
 let E:GH->Prop:=λg=>g.get 1=J (bL q.cells)/\∃l,g.get 2=J (.box (rO l));have i:mz (Lo 5 ⟨5,[(0,bD (cm s)),(1,bL q.cells),(2,bD .nl),(3,bD (.func 163 [] [.ptr 1 0])),(4,bD (.func 164 [] [.ptr 1 0,.ptr 0 0,.ptr 2 0]))]⟩) (Rn s q) E:=by
   refine mz.step (aGN d b ab ab rfl rfl) (by rfl) (by rfl) λ_=>?_;refine mz.step (yG ab rfl (by rfl) (by rfl) (auR ab rfl)) (by rfl) (by rfl) λ_=>?_;refine⟨E,⟨λg a=>?_,by rfl,by rfl⟩,λ_=>?_⟩
   . have k0:=a.2 0 ab;have k1:g.get 1=J _:=a.2 1 ab;have k2:=a.2 2 ab;have k4:=a.2 4 ab;obtain⟨v,f,e,rfl,l,rfl⟩:=arh d b g k0 k1 k2;refine⟨g.set 2 (.box (rO l)),?_,?_,l,?_⟩;rotate_left;.grind[lI]
     .simp[lI]
     .refine aO func148 ?_;simp only[go_sem,f148,k4,e]
   .exact⟨E,⟨λg c=>⟨g,aGO b g c.1,c⟩,by rfl,by rfl⟩,λ_ _ h=>h⟩
 obtain⟨f,e1,k⟩:=Pb _ (by show 4<1000;omega) _ _ i _ a18;rw[atS]at e1 k;simp only[Rn,gb,eM,DL,go_sem,cD.cells]at e1;refine nw func101 ?_;simp only[go_sem,f101,cD.cells,KX,e1];apply hJ<;>intro h<;>simp only[h,go_sem]
 . obtain⟨_,l,a⟩:=k h;rw[tI h];rcases l with _|⟨y,t⟩;.simp only[rO]at a;simp only[go_sem,a];exact⟨_,rfl,rfl⟩
   have p:(DV.ay (iD y::t.map iD) 3 1).pure=V:=by simp[DV.pure,cj,y0]
   simp only[rO]at a;simp only[go_sem,a];grind
 .exact⟨_,rfl,rfl⟩
section
variable{n:Nat}{g0:GH}{ts:Sl b9}{q:cD}{a b c:Nat}
theorem auT(c:mA q)(a:b<n)(h:g0.get b=J (bL q.cells)):zj n g0 94 [.ptr b 0] (DD q.name):=by intro g l;have j:=(l.2 b a).trans h;have e1:ev PP cf _=J (vI (DD _)):=Lk _ c.n;refine⟨g,?_,a18⟩;simp only[go_sem,cD.cells]at j;refine aO func94 ?_;simp only[go_sem,f94,j,e1]
theorem auU(t:lY ts)(i:mA q)(e:a<n)(f:b<n)(c:g0.get a=J (bD (cm ts)))(d:g0.get b=J (bL q.cells)):zj n g0 98 [.ptr a 0,.ptr b 0] (Fz ts q):=by intro g h;obtain⟨g1,e1⟩:=asd ts q t i;have k:=(h.2 a e).trans c;have j:=(h.2 b f).trans d;refine⟨g,?_,a18⟩;simp only[go_sem,cD.cells]at e1 j;refine aO func98 ?_;simp only[go_sem,f98,k,j,e1]
theorem auV(t:lY ts)(k:mA q)(f:a<n)(i:b<n)(d:g0.get a=J (bD (cm ts)))(e:g0.get b=J (bL q.cells)):zj n g0 100 [.ptr a 0,.ptr b 0] (Jy ts q):=by intro g h;obtain⟨_,g1,e1,⟨x,o⟩,rfl,c⟩:=ase ts q t k;have u:=(h.2 a f).trans d;have j:=(h.2 b i).trans e;refine⟨g,?_,a18⟩;simp only[go_sem,cD.cells]at e1 j c;refine aO func100 ?_;simp only[go_sem,f100,u,j,e1,c]
end
def Rk(t:Sl b9)(q:cD):List zr:=[(148,[.ptr 2 0],(0,wj t.l)),(148,[.ptr 3 0],(0,DD q.name)),(96,[.ptr 0 0,.ptr 1 0],ug t q.vars q.pat),(148,[.ptr 4 0],(0,Fz t q)),(148,[.ptr 5 0],(0,Jy t q))]
theorem atO(t:Sl b9)(q:cD):(qt (Rk t q)).2=wH t q:=by grind[Rk,qt,wH,tI]
theorem Ly(t:Sl b9)(q:cD)(a:lY t)(h:mA q):∃g,CC 61 [cm t,.agg q.cells] (.val (.dv (iD (wH t q)) .no) g):=by
 have k:mz (Lo 6 ⟨6,[(0,bD (cm t)),(1,bL q.cells),(2,bD (.func 93 [] [.ptr 0 0])),(3,bD (.func 94 [] [.ptr 1 0])),(4,bD (.func 98 [] [.ptr 0 0,.ptr 1 0])),(5,bD (.func 100 [] [.ptr 0 0,.ptr 1 0]))]⟩) (Rk t q) (λ_=>True):=by refine mz.step (yG ab rfl (by rfl) (by rfl) (auS a ab rfl)) (by rfl) (by rfl) λ_=>?_;refine mz.step (yG ab rfl (by rfl) (by rfl) (auT h ab rfl)) (by rfl) (by rfl) λ_=>?_;refine mz.step (aGP a h ab ab rfl rfl) (by rfl) (by rfl) λ_=>?_;refine mz.step (yG ab rfl (by rfl) (by rfl) (auU a h ab ab rfl rfl)) (by rfl) (by rfl) λ_=>?_;exact mz.step (yG ab rfl (by rfl) (by rfl) (auV a h ab ab rfl rfl)) (by rfl) (by rfl) λ_ _ _=>trivial
 obtain⟨g,e1,_⟩:=Pb _ (by show 5<1000;omega) _ _ k _ a18;rw[atO]at e1;simp only[Rk,gb,eM,DL,go_sem,cD.cells]at e1;refine⟨g,?_⟩;refine aO func61 ?_;simp only[go_sem,f61,cD.cells,KX,dD,gL,e1]
def GN(n:Int):cG->cG->Int|_,[]=>0|b,s::l=>bif within s n then(bif lJ b s then 7 else GN n (b++[s]) l)else 2
theorem aKH{n:Nat}(a:n<=l.length)(h:n<1200000):oM PP 41 (.ay l 3 1) Z (J (.int .i64 (.ofNat n))) Z=J (.ay (l.take n) 3 1,.no):=by unfold oM;grind[Proofs.Tryz.underlying41,gJ,pJ,n7,nB,bm]
theorem ayV(l:cG):bW ⟨C,l⟩=.ay (l.map iD) 3 1:=by cases l<;>rfl
def D5(n:Int):List (Sl Int)->Int|[]=>0|l::t=>bif aj (GN n [] l.l) 0 then D5 n t else GN n [] l.l
theorem aso(l:Sl kF)(k:l.l.length<1100000):∃o,CC 400 [DA l] (.val (vR (l.l.map kF.scope) o) .empty):=by
 suffices S:Sat (ev PP cf (.call 400 [DA l] .no .empty)) λv g=>g=.empty/\∃o,v=vR (l.l.map kF.scope) o by obtain⟨v,g,e,rfl,o,rfl⟩:=S;grind
 refine nw func400 ?_;simp only[go_sem,f400];refine Ap l.l ([]:cG) (λi s=>[(8,iS i),(3,gh (s.map iD) 3 1)]) (λ_=>.empty) (λi d s=>s++d.map kF.scope=l.l.map kF.scope/\s.length=i) ab rfl rfl ⟨rfl,rfl⟩ (λs h=>?_) (λi x d s a b w h j=>?_);.rw[<-h.1,eM,jY];cases s with|nil=>simp only[go_sem];exact⟨trivial,.any,rfl⟩|cons y t=>simp only[go_sem];exact⟨trivial,.ex 3,rfl⟩
 .have c:=j (s++[x.scope]) ⟨ai,ai⟩;cases s with|nil=>simp only[go_sem,jO]at c;simp only[go_sem,a,b,w,kF.d];omega|cons y t=>have f:(t.length+1<1200000)=True:=il ai;simp only[go_sem,lU,qJ]at c;simp only[go_sem,a,b,w,kF.d,f,fO];omega
theorem asn(a:dN)(s:List (Sl Int))(q:s.length<1000)(k:∀l∈s,l.l.length<1100000):CC 399 [.agg a.cells,.ay (s.map bW) 41 1] (vI (D5 a.scopes s)):=by
 refine aO func399 ?_;simp only[go_sem,f399,dN.cells];refine gC s (λi=>[(11,iS i)]) (λ_ l=>vI (D5 a.scopes l)) ab rfl rfl ?_ (λi x o g d w f=>?_);.simp only[go_sem,D5]
 . have Q:=k x (dw d);simp only[go_sem]at f;simp only[D5];simp only[go_sem,g,d];rw[CS];refine gC x.l (λj=>[(17,iS j)]) (λj m=>vI (bif aj (GN a.scopes (x.l.take j) m) 0 then D5 a.scopes o else GN a.scopes (x.l.take j) m)) ab rfl rfl ?_ (λj y m c e v b=>?_);.simp only[go_sem,GN,w,f]
   . have I:j<x.l.length:=nr c;have e1:=EH y a.scopes;have e2:=T0 ⟨C,x.l.take j⟩ y ai;have e3:=aKH (l:=x.l.map iD) (n:=j) ai ab;have e4:bK x.nl (x.l.map iD) 3 1=.ay (x.l.map iD) 3 1:=by cases p:x.l with|nil=>simp_all|cons=>rfl
     rw[ayV]at e2;rw[<-List.map_take]at e3;rw[aai e]at b;simp only[go_sem,e4]at b;simp only[GN];simp only[go_sem,c,e,e1,e4];apply sp<;>intro h<;>simp only[h,e3,go_sem];simp only[e2,go_sem];apply sp<;>intro h<;>simp only[h,v,b,go_sem]
def Dd(s v:Int):cG->List Guard->Int|_,[]=>0|b,g::l=>bif within g.scope s&&(within g.ty 16&&within g.var v)then(bif lJ b g.scope then 7 else bif aj g.cond.nG 0 then Dd s v (b++[g.scope]) l else g.cond.nG)else 2
def Ln(a:dN)(l:List Guard):Int:=bif aA 64 (.ofNat l.length)then 5 else Dd a.scopes a.vars [] l
theorem asm(a c:Guard)(b:Nat)(g:GH)(h:g.get b=J (bL c.cells)):ev PP cf (.call 398 [a.d,.ptr b 0] .no g)=J (.val (.dv (.bool (aj a.scope c.scope)) .no) g):=by refine aO func398 ?_;simp only[go_sem,f398,Guard.d,Guard.cells,h]
theorem av5(l:List Guard)(s:Int):lJ (l.map Guard.scope) s=l.any λg=>aj g.scope s:=by grind[lJ]
theorem aKG{n:Nat}(a:n<=l.length)(h:n<1200000):oM PP 221 (.ay l 344 11) Z (J (.int .i64 (.ofNat n))) Z=J (.ay (l.take n) 344 11,.no):=by unfold oM;grind[Proofs.Tryz.underlying221,sT,pJ,n7,nB,bm]
theorem ar6(a:dN)(b:Sl Guard)(r:b.l.length<1100000)(p:∀g∈b.l,g.cond.nn<1100000):sK (ev PP cf (.call 340 [.agg a.cells,Dc b] .no .empty)) (zS (Ln a b.l)):=by
 suffices S:Sat (ev PP cf (.call 340 [.agg a.cells,Dc b] .no .empty)) λv _=>v=zS (Ln a b.l)by obtain⟨v,g,e,rfl⟩:=S;exact⟨g,e⟩
 refine nw func340 ?_;simp only[go_sem,f340,dN.cells,Ln];apply hJ<;>intro h<;>simp only[h,go_sem];refine Ap b.l GH.empty (λi _=>[(13,iS i)]) (λs=>s) (λi f _=>Dd a.scopes a.vars ((b.l.take i).map Guard.scope) f=Dd a.scopes a.vars [] b.l) ab rfl rfl rfl (λs I=>?_) (λi x f s j c w I o=>?_);.rw[<-I];simp only[go_sem,Dd]
 . have N:i<b.l.length:=nr j;have t:=p x (dw c);have e4:bK b.nl (b.l.map Guard.d) 344 11=.ay (b.l.map Guard.d) 344 11:=by cases Q:b.l with|nil=>rw[Q]at N;simp at N|cons=>rfl
   have e3:=aKG (l:=b.l.map Guard.d) (n:=i) (by rw[fO];omega) ab;rw[<-List.map_take]at e3;have e5:bK C ((b.l.take i).map Guard.d) 344 11=.ay ((b.l.take i).map Guard.d) 344 11:=by cases b.l.take i<;>rfl
   have e6:=HV (d:=Guard.d) (q:=λh=>aj h.scope x.scope) 398 [] [.ptr s.next 0] ((s.alloc (bL [iD 0,iD 0,iD 0,iD 0,.nl,iD 0,iD 0,iD 0,iD 0,iD 0,.str []])).set s.next (bL x.cells)) C (b.l.take i) (by rw[sL];omega) (λy _=>.inl ⟨aL,aL,asm y x s.next _ (by rw[lI,if_pos rfl])⟩) (.inl rfl) (λy=>⟨rfl,by simp[Guard.d,DV.flat,Guard.dI]⟩);rw[e5]at e6;have e1:=EH x.scope a.scopes;have e2:=EH x.ty 16;have e7:=EH x.var a.vars;have e8:=HU x.cond ab;rw[<-av5]at e6;rw[aai c,qJ]at o;simp only[Dd]at I;rw[<-I];simp only[Guard.cells,go_sem]at e6;have m:=o;simp only[go_sem,e4]at m;simp only[go_sem,j,c,e1,e4,Guard.d,Guard.cells];repeat'(with_reducible apply hJ<;>intro h<;>simp only[h,w,e2,e3,e7,e6,e8,go_sem])
   all_goals
   have k:Dd a.scopes a.vars (List.map Guard.scope (List.take i b.l)++[x.scope]) f=Dd a.scopes a.vars [] b.l:=by rw[<-I];simp only[*,xA,aR,ch]
   rw[k];exact m _ k
def RU(l:kF):Bool:=bif aA l.span 0 then V else aA 1099511627776 l.span
theorem asp(l:kF):CC 402 [l.d] (vB (RU l)):=by refine aO func402 ?_;simp only[go_sem,f402,kF.d,RU];apply sp<;>intro h<;>simp only[h,go_sem]
def Ez:List Expr->Int|[]=>0|e::l=>bif aj e.nG 0 then Ez l else e.nG
def VZ(a:dN)(x:Edge):Int:=bif aj (D5 a.scopes [x.opens,x.ma,x.inside,⟨V,x.ki.l.map kF.scope⟩]) 0 then(bif x.ki.l.any RU then 2 else 0)else D5 a.scopes [x.opens,x.ma,x.inside,⟨V,x.ki.l.map kF.scope⟩]
def ajk(a:dN)(x:Edge):Bool:=within x.src (.ofNat a.mP.l.length)&&((!aA x.dst (-1)&&aA x.dst (.ofNat a.mP.l.length))&&(within x.var a.vars&&within x.ty 16))
def OU(a:dN)(x:Edge)(b:Int):Int:=bif ajk a x then(bif aA x.src b then 14 else bif aj x.cond.nG 0 then(bif aA 64 (.ofNat x.jS.l.length)then 5 else bif aj (Ez x.jS.l) 0 then VZ a x else Ez x.jS.l)else x.cond.nG)else 2
structure xF(x:Edge):Prop where
 c:x.cond.nn<1100000
 k:x.jS.l.length<1100000
 e:∀e∈x.jS.l,e.nn<1100000
 o:x.opens.l.length<1100000
 p:x.ma.l.length<1100000
 i:x.inside.l.length<1100000
 l:x.ki.l.length<1100000
theorem ar7(a:dN)(x:Edge)(f:Int)(b:xF x):CC 341 [.agg a.cells,x.d,iD f] (vI (OU a x f)):=by
 have d1:=aLt;simp only[bp,opsOf,f341,go_sem]at d1;have e1:=EH x.src (.ofNat a.mP.l.length);have e2:=EH x.var a.vars;have e3:=EH x.ty 16;have e4:=HU x.cond (by have:=b.c;omega);obtain⟨o,e5⟩:=aso x.ki b.l;have e6:=asn a [x.opens,x.ma,x.inside,⟨V,x.ki.l.map kF.scope⟩] (by show 4<1000;decide) (by
 intro l c;simp only[CI,lV,or_false]at c;rcases c with rfl|rfl|rfl|rfl;.exact b.o
 .exact b.p
 .exact b.i
 .show(x.ki.l.map kF.scope).length<1100000;rw[fO];exact b.l);have e7:=HV (d:=kF.d) (q:=RU) 402 [] [] .empty x.ki.nl x.ki.l (by have:=b.l;omega) (λy _=>.inr ⟨aL,aL,by simp[cj,DV.pure,kF.d],asp y⟩) (.inr (.inl rfl)) (λy=>⟨rfl,rfl⟩);have k:=b.k;simp only[vR,go_sem]at e5;simp only[gb,eM,dN.cells,go_sem]at e6;refine aO func341 ?_;simp only[go_sem,f341,dN.cells,Edge.d,Edge.cells,OU,ajk,e1];repeat'(with_reducible apply sp<;>intro h<;>simp only[h,e2,e3,e4,go_sem])
 refine gC x.jS.l (λi=>[(65,iS i)]) (λ_ l=>vI (bif aj (Ez l) 0 then VZ a x else Ez l)) ab rfl rfl ?_ (λi y l j e w g=>?_);.simp only[go_sem,Ez,VZ,d1,e5,e6];apply sp<;>intro h<;>simp only[h,e7,go_sem];apply sp<;>intro h<;>simp only[h,go_sem]
 .have r:=HU y (by have:=b.e y (dw e);omega);simp only[go_sem,j,e,r,Ez]at g|-;apply sp<;>intro h<;>simp only[h,w,g,go_sem]
theorem aq9{b c d:DV}:List.take 13 (e.cells++[a,b,c,d,f])=e.cells++[a,b,c,d,f]:=by simp[Hm,Expr.dI]
theorem aqS:cj (e.cells++l)=cj l:=by simp[Cg,Expr.pure]
attribute[go_sem]aq9 aqS
def KP(a:dN):gk->Int->Int|[],_=>0|x::l,b=>bif aj (OU a x b) 0 then KP a l x.src else OU a x b
def NI(a:dN):List Stat->Int|[]=>KP a a.oV.l 0|s::l=>bif aj (Ln a s.guards.l) 0 then NI a l else Ln a s.guards.l
def dN.nG(a:dN):Int:=bif aA a.vars 0||(aA 16 a.vars||(aA a.scopes 0||aA 64 a.scopes))then 2 else bif aA (.ofNat a.mP.l.length) 1||(aA 256 (.ofNat a.mP.l.length)||aA 2048 (.ofNat a.oV.l.length))then 5 else NI a a.mP.l
structure rD(a:dN):Prop where
 s:a.mP.l.length<1100000
 e:a.oV.l.length<1100000
 g:∀s∈a.mP.l,s.guards.l.length<1100000/\∀g∈s.guards.l,g.cond.nn<1100000
 x:∀x∈a.oV.l,xF x
theorem arC(a:dN)(c:rD a):CC 294 [.agg a.cells] (vI a.nG):=by
 have m:=c.s;have k:=c.e;refine aO func294 ?_;simp only[go_sem,f294,dN.cells,dN.nG];repeat'(with_reducible apply sp<;>intro h<;>simp only[h,go_sem])
 refine gC a.mP.l (λi=>[(49,iS i)]) (λ_ l=>vI (NI a l)) ab rfl rfl ?_ (λi x l e b w d=>?_)
 . simp only[go_sem,NI];refine tb _ _ (λi s=>[(64,iS i),(6,zS s)]) (λ_ l s=>vI (KP a l s)) (λ_ _ _=>True) ab rfl trivial rfl (λs _=>?_) (λi x l s e b w _ d=>?_);.simp only[go_sem,KP]
   .have e1:=ar7 a x s (c.x x (dw b));have f:=d x.src trivial;simp only[Edge.d,Edge.cells,dN.cells,go_sem]at e1;simp only[go_sem]at f;simp only[KP];simp only[go_sem,e,b,e1,Edge.d,Edge.cells];apply sp<;>intro h<;>simp only[h,w,f,go_sem]
 .obtain⟨g,j⟩:=c.g x (dw b);obtain⟨g1,e1⟩:=ar6 a x.guards g j;simp only[dN.cells,go_sem]at e1;simp only[go_sem,e,b,e1,Stat.d,NI]at d|-;apply sp<;>intro h<;>simp only[h,w,d,go_sem]
def Mc(s:b9):Bool:=bif aA 20 (.ofNat s.fields.l.length)then V else aA 100 (.ofNat s.name.length)
def EJ(n:Nat):List b9->Bool|[]=>!aA 20 (.ofNat n)|s::l=>bif Mc s then C else EJ n l
theorem adw(t:Sl b9)(h:t.l.length<1100000):CC 88 [cm t] (vB (EJ t.l.length t.l)):=by
 refine aO func88 ?_;simp only[go_sem,f88];refine gC t.l (λi=>[(3,iS i)]) (λ_ l=>vB (EJ t.l.length l)) ab rfl rfl ?_ (λi x l c a w b=>?_);.simp only[go_sem,EJ]
 .simp only[go_sem,c,a,EJ,Mc,b9.d]at b|-;repeat'(with_reducible apply sp<;>intro h<;>simp only[h,a,w,b,b9.d,go_sem])
def EK:bt->Bool|[]=>V|p::l=>bif aA 20 (.ofNat (p.cond.mU 20))then C else EK l
theorem arp(p:ae)(n:p.nn<1100000)(e:∀q∈nodes p,q.cond.nn<1100000):CC 199 [.agg p.cells] (vB (bif aA 9 (.ofNat (p.mU 9))then C else EK (nodes p))):=by
 have e1:ev PP cf (.call 252 [.agg _,.int _ 9] _ _)=_:=T4 9 p ab;have e2:=T5 p ab;have c:=FW [p];simp only[eU,jY,ae.bP]at c;refine aO func199 ?_;simp only[go_sem,f199,e1];apply sp<;>intro h<;>simp only[h,go_sem,e2];refine gC _ (λi=>[(4,iS i)]) (λ_ l=>vB (EK l)) ab rfl rfl ?_ (λi x l b d w a=>?_);.simp only[go_sem,EK]
 .have e3:ev PP cf (.call 254 [.agg x.cond.cells,.int .i64 20] .no .empty)=_:=T6 20 x.cond ai;cases x;simp only[ae.cond]at e3;simp only[go_sem,b,d,e3,EK,ae.cells,ae.cond]at a|-;apply sp<;>intro h<;>simp only[h,w,a,go_sem]
def H6:bt->Bool|[]=>V|p::l=>bif p.cond.Ia then H6 l else C
theorem arY(p:ae)(n:p.nn<1100000)(e:∀q∈nodes p,q.cond.nn<1100000):CC 250 [.agg p.cells] (vB (bif(bif aA 150 (.ofNat (p.mU 150))then V else aA 60 (.ofNat p.dep))then C else H6 (nodes p))):=by
 have e1:ev PP cf (.call 252 [.agg _,.int .i64 150] _ _)=_:=T4 150 p ab;have e2:=T5 p ab;have e4:=K0 p ab;have c:=FW [p];simp only[eU,jY,ae.bP]at c;refine aO func250 ?_;simp only[go_sem,f250,e1];repeat'(with_reducible apply sp<;>intro h<;>simp only[h,go_sem,e2,e4])
 all_goals
 refine gC (nodes p) (λi=>[(4,iS i)]) (λ_ l=>vB (H6 l)) ab rfl rfl ?_ (λi x l b d w a=>?_);.simp only[go_sem,H6]
 .have e3:=KW x.cond ai;cases x;simp only[ae.cond]at e3;simp only[go_sem,b,d,e3,H6,ae.cells,ae.cond]at a|-;apply sp<;>intro h<;>simp only[h,w,a,go_sem]
def H4:List Guard->Bool|[]=>V|g::l=>bif g.cond.Ia then H4 l else C
theorem arq(s:Sl Guard)(d:s.l.length<1100000)(e:∀g∈s.l,g.cond.nn<1100000):CC 255 [Dc s] (vB (H4 s.l)):=by
 refine aO func255 ?_;simp only[go_sem,f255];refine gC _ (λi=>[(3,iS i)]) (λ_ l=>vB (H4 l)) ab rfl rfl ?_ (λi x l b c w a=>?_);.simp only[go_sem,H4]
 .have e3:=KW x.cond ai;simp only[go_sem,b,c,e3,H4,Guard.d,Guard.cells]at a|-;apply sp<;>intro h<;>simp only[h,w,a,go_sem]
def Bu:List Expr->Bool|[]=>V|e::l=>bif e.Ia then Bu l else C
theorem aro(q:cD)(n:q.pat.nn<1100000)(c:∀p∈nodes q.pat,p.cond.nn<1100000)(r:q.jL.l.length<1100000)(g:∀e∈q.jL.l,e.nn<1100000):∃b,CC 198 [.agg q.cells] (vB b):=by
 have e1:=arY q.pat n c;generalize(bif(bif aA 150 (.ofNat (q.pat.mU 150))then V else aA 60 (.ofNat q.pat.dep))then C else H6 (nodes q.pat))=b at e1;refine⟨bif(bif(bif(bif(bif aA 20 (.ofNat q.vars.l.length)then V else aA 30 (.ofNat q.key.l.length))then V else aA 20 (.ofNat q.jL.l.length))then V else aA 80 (.ofNat q.name.length))then V else !b)then C else Bu q.jL.l,?_⟩;refine aO func198 ?_;simp only[go_sem,f198,cD.cells];repeat'(with_reducible apply sp<;>intro h<;>simp only[h,go_sem,e1])
 all_goals
 refine gC q.jL.l (λi=>[(3,iS i)]) (λ_ l=>vB (Bu l)) ab rfl rfl ?_ (λi x l d f w a=>?_);.simp only[go_sem,Bu]
 .have e3:=KW x ai;simp only[go_sem,d,f,e3,Bu]at a|-;apply sp<;>intro h<;>simp only[h,w,a,go_sem]
mutual
def HY : ae -> Int
  | .mk op _ args _ _ _ _ _ => K5 args (bif aj op 0 then 1 else 0)
def K5 : bt -> Int -> Int
  | [], s => s
  | p :: l, s => K5 l (dQ .i64 (jX s (HY p)))
end
theorem TZ:∀p:ae,p.nn<1200000->CC 200 [.agg p.cells] (vI (HY p))|.mk j g args t v c n o,e=>by simp only[ae.nn]at e;have hr:∀x∈args,CC 200 [.agg x.cells] (vI (HY x)):=λx a=>TZ x (by have:=ae.sC args _ a;omega);clear TZ;refine aO func200 ?_;simp only[go_sem,f200,ae.cells,HY];apply sp<;>intro h<;>simp only[h,go_sem];all_goals
 refine tb args (_:Int) (λi s=>[(4,iS i),(3,zS s)]) (λ_ l s=>vI (K5 l s)) (λ_ _ _=>True) (by have:=a38 args;omega) rfl trivial rfl (λs _=>?_) (λi x l s d a w _ f=>?_);.simp only[go_sem,K5]
 .have e1:=hr x (dw a);have b:=f (dQ .i64 (jX s (HY x))) trivial;simp only[go_sem]at b;simp only[go_sem,d,a,w,e1,b,K5]termination_by p=>pM p decreasing_by simp_wf;have:=pI a;omega
def i6(s:Stat):Bool:=bif(bif(bif aA 12 (.ofNat s.guards.l.length)then !aA 64 (.ofNat s.guards.l.length)else C)then V else aA 70 (.ofNat s.guards.l.length))then V else !H4 s.guards.l
def i7(e:Edge):Bool:=bif(bif(bif(bif(bif !e.cond.Ia then V else aA 8 (.ofNat e.jS.l.length))then V else aA 12 (.ofNat e.opens.l.length))then V else aA 12 (.ofNat e.ma.l.length))then V else aA 12 (.ofNat e.inside.l.length))then V else aA 12 (.ofNat e.ki.l.length)
def C6(b:Bool):gk->Bool|[]=>b|e::l=>bif i7 e then C else bif Bu e.jS.l then C6 b l else C
def H7(b:Bool):List Stat->Bool|[]=>b|e::l=>bif i6 e then C else H7 b l
theorem aka{a}(l:List a)(k:Nat):∃m,(l.take k).length=m/\m<=k/\m<=l.length/\(decide (m<l.length)=C\/decide (m<l.length)=V/\aA (.ofNat m) (.ofNat k)=C)/\∀i x,i<m->(l.take k)[i]?=J x->l[i]?=J x/\(i<l.length)=True/\aA (.ofNat i) (.ofNat k)=V:=by refine⟨_,rfl,?_,?_,?_,λi x b h=>?_⟩<;>grind[fX]
theorem ev5(a:dN)(n:rD a):∃b,CC 201 [.agg a.cells] (vB b):=by
 have D:=n.s;have B:=n.e;refine⟨H7 (C6 (bif aA 20 (.ofNat a.mP.l.length)then C else !aA 40 (.ofNat a.oV.l.length)) (a.oV.l.take 60)) (a.mP.l.take 30),?_⟩;obtain⟨m,r,E,F,s,A⟩:=aka a.mP.l 30;obtain⟨k,k1,k2,k3,k4,k5⟩:=aka a.oV.l 60;have mk:∀m,aA (.ofNat m) (.ofNat 30)=aA (.ofNat m) 30:=λ_=>rfl;have u:∀m,aA (.ofNat m) (.ofNat 60)=aA (.ofNat m) 60:=λ_=>rfl;rw[mk]at s;rw[u]at k4;refine aO func201 ?_;simp only[go_sem,f201,dN.cells];refine gC (a.mP.l.take 30) (λi=>[(3,iS i)]) (λ_ l=>vB (H7 (C6 (bif aA 20 (.ofNat a.mP.l.length)then C else !aA 40 (.ofNat a.oV.l.length)) (a.oV.l.take 60)) l)) ab rfl rfl ?_ (λi x l c o w g=>?_)
 . rw[r];rcases s with e|⟨e,p⟩;case' inl=>simp only[go_sem,e,H7]
   case' inr=>simp only[go_sem,e,p,H7]
   all_goals
   refine gC (a.oV.l.take 60) (λi=>[(4,iS i)]) (λ_ l=>vB (C6 (bif aA 20 (.ofNat a.mP.l.length)then C else !aA 40 (.ofNat a.oV.l.length)) l)) ab rfl rfl ?_ (λi x l c o w g=>?_)
   . rw[k1];rcases k4 with e|⟨e,p⟩;case' inl=>simp only[go_sem,e,C6]
     case' inr=>simp only[go_sem,e,p,C6]
     all_goals apply sp<;>intro h<;>simp only[h,go_sem]
   . rw[k1]at c;obtain⟨f,c,d⟩:=k5 i x (nr c) o;have d:aA (.ofNat i) 60=V:=d;have ok:=n.x x (dw f);have e1:=KW x.cond (by have:=ok.c;omega);simp only[go_sem,c,f,d,e1,C6,i7,Edge.d,Edge.cells]at g|-;repeat'(with_reducible apply sp<;>intro h<;>simp only[h,go_sem])
     all_goals
     rw[CS];refine gC x.jS.l (λj=>[(6,iS j)]) (λ_ m=>vB (bif Bu m then C6 (bif aA 20 (.ofNat a.mP.l.length)then C else !aA 40 (.ofNat a.oV.l.length)) l else C)) (by have:=ok.k;omega) rfl rfl ?_ (λj y m t z v q=>?_);.simp only[go_sem,w,g,Bu]
     .have e2:=KW y (by have:=ok.e y (dw z);omega);simp only[go_sem]at q;simp only[go_sem,t,z,e2,Bu];apply sp<;>intro h<;>simp only[h,v,q,go_sem]
 .rw[r]at c;obtain⟨f,c,d⟩:=A i x (nr c) o;have d:aA (.ofNat i) 30=V:=d;have ok:=n.g x (dw f);have e1:=arq x.guards ok.1 ok.2;simp only[go_sem]at e1;simp only[go_sem,c,f,d,H7,i6,Stat.d]at g|-;repeat'(with_reducible apply sp<;>intro h<;>simp only[h,f,w,e1,g,Stat.d,go_sem])
theorem aHw:List.take 15 (p.cells++x::l)=p.cells++[x]:=by have:p.cells++x::l=(p.cells++[x])++l:=aP;grind[List.take_left',ae.dI]
theorem aGS:List.drop 15 (p.cells++x::l)=l:=by have:p.cells++x::l=(p.cells++[x])++l:=aP;grind[List.drop_left',ae.dI]
attribute[go_sem]aHw aGS
theorem jh(t:Sl b9)(q:cD)(a:dN)(g:t.l.length<1100000)(n:q.pat.nn<1100000)(c:∀p∈nodes q.pat,p.cond.nn<1100000)(r:q.jL.l.length<1100000)(j:∀e∈q.jL.l,e.nn<1100000)(i:rD a):∃b,CC 144 [.agg (eJ.cells ⟨t,q,a⟩)] (vB b):=by have e1:=adw t g;obtain⟨d,e2⟩:=aro q n c r j;have e3:=arp q.pat n c;have e4:=TZ q.pat ab;obtain⟨f,e5⟩:=ev5 a i;refine⟨bif EJ t.l.length t.l then bif d then bif(bif aA 9 (.ofNat (q.pat.mU 9))then C else EK (nodes q.pat))then bif !aA 4 (HY q.pat)then f else C else C else C else C,?_⟩;generalize EJ t.l.length t.l=k at*;generalize(bif aA 9 (.ofNat (q.pat.mU 9))then C else EK (nodes q.pat))=l at*;refine aO func144 ?_;simp only[go_sem,dN.cells,cD.cells]at e1 e2 e3 e4 e5;simp only[go_sem,f144,eJ.cells,cD.cells,dN.cells,e1];repeat'(with_reducible apply sp<;>intro h<;>simp only[h,e2,e3,e4,e5,go_sem])
def Edge.same(e d:Edge):Bool:=aj e.var d.var&&(aj e.ty d.ty&&(e.cond.same d.cond&&(ly Expr.same e.jS.l d.jS.l&&(ly aj e.opens.l d.opens.l&&(ly aj e.ma.l d.ma.l&&(ly aj e.inside.l d.inside.l&&ly Nt e.ki.l d.ki.l))))))
theorem aen:cf.fk 272=3/\cf.iz 272=V:=by constructor<;>kernel_rfl
theorem aer:cf.fk 331=3/\cf.iz 331=V:=by constructor<;>kernel_rfl
theorem aes:cf.fk 333=3/\cf.iz 333=V:=by constructor<;>kernel_rfl
theorem aet:cf.fk 335=3/\cf.iz 335=V:=by constructor<;>kernel_rfl
theorem adx(s t:Sl Expr)(l:s.l.length<1000000000)(a:∀e∈s.l,e.nn<1100000):CC 273 [uI s,uI t,.func 272 [] []] (vB (ly Expr.same s.l t.l)):=by have h:=KZ (α:=Expr) (d:=λe=>.agg e.cells) (c:=Expr.cells) (q:=Expr.same) 272 [] [] .empty s.nl t.nl s.l t.l l (λx y b=>.inr ⟨aen.1,aen.2,by simp only[jO,jY,cj,DV.pure,Expr.pure,go_sem],EG x y (by have:=a x b;omega)⟩) (.inr (.inr (.inr (.inl rfl)))) (λx=>⟨rfl,Expr.dI x⟩);rw[<-Expr.rR,<-Expr.rR]at h;exact h
def Edge.eqv(e d:Edge):Bool:=aj e.src d.src&&(aj e.dst d.dst&&e.same d)
theorem asi(e d:Edge)(a:xF e):CC 331 [e.d,d.d] (vB (e.eqv d)):=by have e1:=EG e.cond d.cond (by have:=a.c;omega);have e2:=HT e.opens d.opens (by have:=a.o;omega);have e3:=HT e.ma d.ma (by have:=a.p;omega);have e4:=HT e.inside d.inside (by have:=a.i;omega);have e5:=ady e.ki d.ki (by have:=a.l;omega);have e6:=adx e.jS d.jS (by have:=a.k;omega) a.e;simp only[go_sem]at e2 e3 e4 e5 e6;refine aO func331 ?_;simp only[f331,List.append];simp only[go_sem,Edge.d,Edge.cells,Edge.eqv,Edge.same];repeat'(with_reducible apply sp<;>intro h<;>simp only[h,e1,e2,e3,e4,e5,e6,go_sem])
def Guard.same(g h:Guard):Bool:=aj g.scope h.scope&&(aj g.ty h.ty&&(aj g.var h.var&&g.cond.same h.cond))
theorem asl(g k:Guard)(a:g.cond.nn<1100000):CC 335 [g.d,k.d] (vB (g.same k)):=by have e1:=EG g.cond k.cond ab;refine aO func335 ?_;simp only[go_sem,f335,Guard.d,Guard.cells,Guard.same];repeat'(with_reducible apply sp<;>intro h<;>simp only[h,e1,go_sem])
theorem asj(s t:Stat)(b:s.guards.l.length<1100000)(h:∀g∈s.guards.l,g.cond.nn<1100000):CC 333 [s.d,t.d] (vB (ly Guard.same s.guards.l t.guards.l)):=by have e1:=KZ (d:=Guard.d) (c:=Guard.cells) (q:=Guard.same) 335 [] [] .empty s.guards.nl t.guards.nl s.guards.l t.guards.l ab (λx y a=>.inr ⟨aet.1,aet.2,by simp only[jO,jY,cj,go_sem],asl x y (h x a)⟩) (.inr (.inr (.inl rfl))) (λx=>⟨rfl,Guard.dI x⟩);refine aO func333 ?_;simp only[go_sem,f333,Stat.d,e1]
def Stat.same(s t:Stat):Bool:=ly Guard.same s.guards.l t.guards.l
def dN.same(a b:dN):Bool:=aj a.vars b.vars&&(aj a.scopes b.scopes&&(ly Edge.eqv a.oV.l b.oV.l&&ly Stat.same a.mP.l b.mP.l))
theorem arS(a b:dN)(e:rD a):CC 280 [.agg a.cells,.agg b.cells] (vB (a.same b)):=by have i:=e.s;have g:=e.e;have e1:=KZ (d:=Edge.d) (c:=Edge.cells) (q:=Edge.eqv) 331 [] [] .empty a.oV.nl b.oV.nl a.oV.l b.oV.l ab (λx y f=>.inr ⟨aer.1,aer.2,by simp only[jO,jY,cj,go_sem],asi x y (e.x x f)⟩) (.inl rfl) (λx=>⟨rfl,Edge.dI x⟩);have e2:=KZ (d:=Stat.d) (c:=λs=>[Dc s.guards]) (q:=Stat.same) 333 [] [] .empty a.mP.nl b.mP.nl a.mP.l b.mP.l ab (λx y f=>.inr ⟨aes.1,aes.2,by simp only[jO,jY,cj,go_sem],asj x y (e.g x f).1 (e.g x f).2⟩) (.inr (.inl rfl)) (λx=>⟨rfl,rfl⟩);refine aO func280 ?_;simp only[go_sem,f280,dN.cells,dN.same];repeat'(with_reducible apply sp<;>intro h<;>simp only[h,e1,e2,go_sem])
mutual
def ae.same : ae -> ae -> Bool
  | .mk op _ args ty var scope s cond, .mk A _ x a w R T b => aj op A && (aj ty a && (aj var w && (aj scope R && (aj s T && (cond.same b && ae.AG args x)))))
def ae.AG : bt -> bt -> Bool
  | [], [] => V
  | x :: s, y :: a => x.same y && ae.AG s a
  | _, _ => C
end
theorem ae.JI:∀s a:bt,ae.AG s a=ly ae.same s a|[],[]=>rfl|x::s,y::a=>by simp only[ae.AG,ly,ae.JI s a];cases x.same y<;>rfl|[],_::_=>rfl|_::_,[]=>rfl
theorem aep:cf.fk 225=3/\cf.iz 225=V:=by constructor<;>kernel_rfl
mutual
def ae.cn : ae -> Nat
  | .mk _ _ args _ _ _ _ cond => 1 + cond.nn + ae.gv args
def ae.gv : bt -> Nat
  | [] => 0
  | p :: l => p.cn + ae.gv l
end
theorem ae.Tz:∀(l:bt)x,x∈l->x.cn<=ae.gv l
 |y::l,x,h=>by
  rcases CI.1 h with rfl|h;.simp only[ae.gv];omega
  .have:=ae.Tz l x h;simp only[ae.gv];omega
theorem ae.acO:∀l:bt,l.length<=ae.gv l|[]=>bT _|.mk _ _ _ _ _ _ _ _::l=>by have:=ae.acO l;simp only[ae.gv,ae.cn,dD];omega
theorem O7:∀p b:ae,p.cn<100000000->CC 225 [.agg p.cells,.agg b.cells] (vB (p.same b))|.mk j l args t v s n o,.mk A M P g w R i T,f=>by simp only[ae.cn]at f;have hr:∀x y,x∈args->CC 225 [.agg x.cells,.agg y.cells] (vB (x.same y)):=λx y a=>O7 x y (by have:=ae.Tz args _ a;omega);clear O7;have e1:=KZ (α:=ae) (d:=λe=>.agg e.cells) (c:=ae.cells) (q:=ae.same) 225 [] [] .empty l M args P (by have:=ae.acO args;omega) (λx y a=>.inr ⟨aep.1,aep.2,by simp only[jO,jY,cj,DV.pure,ae.pure,go_sem],hr x y a⟩) (.inr (.inr (.inr (.inr rfl)))) (λx=>⟨rfl,ae.dI x⟩);rw[<-a56,<-a56,<-ae.JI]at e1;have e2:=EG o T ab;refine aO func225 ?_;simp only[f225];simp only[go_sem,ae.cells,ae.same];repeat'(with_reducible apply sp<;>intro h<;>simp only[h,e1,e2,go_sem])termination_by p=>pM p decreasing_by simp_wf;have:=pI a;omega
section
variable{P:aH}{u:iM}{t:an}{D:ao}{os:List (Nat×aN)}{o:Nat×aN}{I:Nat}
theorem aBr(h:bN P t=J V):fI P u t ⟨D,o::os⟩ I=(aW P t).bind λn=>bif bz (I+n) D.length then J (.dv (.agg ((D.drop I).take n)) .no,⟨D,(o::os).map λx=>(x.1,oL x.2)⟩)else Z:=by grind[fI]
end
theorem aKv{e}:oL (.ex e)=.ty e:=rfl
theorem aKy{e}:oL (.ty e)=.ty e:=rfl
theorem aKx:oL .no=.no:=rfl
attribute[go_sem]aBr aKv aKy aKx
abbrev U8(p:ae):bh:=.val (.dv (.agg p.cells) .no) .empty
def nP(k:Int)(p q:ae):ae:=match p with|.mk _ _ _ ty var scope s cond=>.mk k V [q] ty var scope s cond
abbrev zE:Expr:=.mk 0 V [] 0 0 0 0 0 []
def qF(n:Bool)(k:Int):bt->ae|[p]=>p|l=>.mk k n l 0 0 0 0 zE
theorem O'(n:Bool)(k:Int)(l:bt)(h:l.length<1100000):CC 387 [iD k,bK n (ae.bn l) 62 14] (U8 (qF n k l)):=by refine aO func387 ?_;match l with
 |[p]=>have e1:aj (.ofNat 1) 1=V:=rfl;simp only[go_sem,f387,qF,ae.bn,e1]|[]=>have e1:aj 0 1=C:=rfl;simp only[go_sem,f387,qF,ae.bn,e1];rfl|p::q::l=>
 have a:aj (.ofNat (p::q::l).length) 1=C:=by rfl
 simp only[dD]at a;simp only[go_sem,f387,qF,a];rfl
structure Pr where
 cM:Edge
 done:Bool
 rest:ae
def Pr.cells(p:Pr):ao:=p.cM.cells++([.bool p.done]++p.rest.cells)
theorem ara{b c d:DV}:List.take 13 (e.cells++a::b::c::d::f::l)=e.cells++[a,b,c,d,f]:=by have:e.cells++a::b::c::d::f::l=(e.cells++[a,b,c,d,f])++l:=aP;grind[List.take_left',Expr.dI]
theorem aqy{b c d:DV}:List.drop 13 (e.cells++a::b::c::d::f::l)=l:=by have:e.cells++a::b::c::d::f::l=(e.cells++[a,b,c,d,f])++l:=aP;grind[List.drop_left',Expr.dI]
attribute[go_sem]ara aqy
def oc(r:Pr)(n:Bool)(l:bt):Pr:=match l with|[]=>r|l=>⟨r.cM,C,bif r.done then qF n 1 l else qF n 1 (r.rest::l)⟩
theorem amb{new:ao}(h:l.length+new.length<1000):fE 62 14 152 (.ay l 62 14) (.ex 62) new=J (.ay (l++new) 62 14,.ex 62):=by grind[qO,bm]
def Pr.d(r:Pr):DV:=.agg r.cells
def DS(p:ae)(r:Pr):List Pr:=bif r.done then[r,⟨r.cM,C,.mk 4 V [p] 0 0 0 0 zE⟩]else[⟨r.cM,C,.mk 8 V [r.rest,p] 0 0 0 0 zE⟩]
theorem aKV{n:Nat}(a:n<=l.length)(h:n<1200000):oM PP 60 (.ay l 62 14) (J (.int .i64 (.ofNat n))) Z Z=J (.ay (l.drop n) 62 14,.no):=by simp_all[oM,xn,n7,nB]
