/- Proved: what functions of the program answer, within the sizes that each theorem names. -/
import Derived.Test.YtlpehfnaibndgaaGreatDoorAf
open Option renaming some->J,none->Z
open Bool renaming true->V,false->C
open Go renaming TypeId->an,Program->aH
open Int renaming ofNat->dk,add->kh
open Nat renaming ble->bt
open SizeOf renaming sizeOf->pB
noncomputable section
set_option linter.all false
namespace Go.VM
open Go Go.AM Proofs.Tryz
variable{a f x:DV}{e:Expr}{p:ae}{l:ao}
attribute[local congr]bB bC
set_option maxRecDepth 100000
set_option maxHeartbeats 1000000
def Sc(p:ae):Prop:=(uv (nodes p)).Pairwise (.<.)
theorem ahv:∀(l:bq)(x:ae),x∈l->(nodes x).Sublist (eS l)
 |[],_,h=>by simp at h|y::l,x,h=>by
  rw[eS];rcases Cp.1 h with rfl|h;.exact List.sublist_append_left _ _
  .exact(ahv l x h).trans (List.sublist_append_right _ _)
theorem Sc.arg{o n a t v s p c}(h:Sc (.mk o n a t v s p c)){x:ae}(b:x∈a):Sc x:=by refine h.sublist ?_;rw[nodes];exact(((ahv _ x b).trans aT).filter _).map _
def Jn(p:qA):List Expr->Nat->Int×Int|[],_=>(0,0)|e::l,i=>bif aj e.nC 0 then(bif aj (e.Bm p) 0 then Jn p l (i+1)else(.ofNat i,e.Bm p))else(.ofNat i,e.nC)
def Ge(p:ae)(l:List Expr):Int×Int:=bif aj p.jx 0 then(bif aA 256 (.ofNat l.length)then(0,5)else Jn ⟨⟨V,oL p⟩,⟨V,p.nM⟩,-1⟩ l 0)else(0,p.jx)
theorem aqA(p:ae)(r:Sl Expr)(k:p.jx=0->zp p)(q:lV p)(m:r.l.length<1100000)(n:∀e∈r.l,e.nn<1100000):CC 151 [.agg p.cells,uB r] (vT [iO (Ge p r.l).1,iO (Ge p r.l).2]):=by
 have f:=OM p q;have d1:=aJ2;simp only[bH,opsOf,f151,go_sem]at d1;refine aO func151 ?_;simp only[go_sem,f151,f,Ge];apply sp<;>intro h<;>simp only[h,go_sem];apply sp<;>intro g<;>simp only[g,go_sem];have w:=k (tE h);obtain⟨_,g1,b,rfl⟩:=TI p w.toCs;obtain⟨o,a⟩:=ON p w.toCs;have k1:(oL p).length<1200000:=by grind[Ol,oL]
 have k2:p.nM.length<1200000:=by grind[ahY]
 simp only[vM]at b a;rw[show wD (uv (nodes p))=oL p from rfl]at b;simp only[go_sem,b,a,d1];refine jn r.l (λi=>[(26,iS i)]) (λi l=>vT [iO (Jn ⟨⟨V,oL p⟩,⟨V,p.nM⟩,-1⟩ l i).1,iO (Jn ⟨⟨V,oL p⟩,⟨V,p.nM⟩,-1⟩ l i).2]) ab rfl rfl ?_ (λi x l j c w d=>?_);.simp only[go_sem,Jn]
 .have N:=du c;have e1:=HE x ai;have e2:=TH ⟨⟨V,oL p⟩,⟨V,p.nM⟩,-1⟩ k1 k2 x (n x N);simp only[qA.d,go_sem]at e2;simp only[go_sem,j,c,e1,Jn]at d|-;repeat'(with_reducible apply sp<;>intro h<;>simp only[h,w,e2,d,go_sem])
def Dp(s:aC):Int:=bif BR s then bif L9 s then 8 else 0 else 8
def NJ(n:Nat):List aC->List eA->Int|_,[]=>0|b,v::l=>bif aj (Dp v.name) 0 then bif b.any (λm=>decide (v.name=m))then 7 else bif !aA v.ty 0&&aA v.ty (.ofNat n)then NJ n (b++[v.name]) l else 6 else Dp v.name
def JM(t:Sl b9)(v:Sl eA):Int:=bif aA 16 (.ofNat v.l.length)then 5 else NJ t.l.length [] v.l
theorem aqK(t:Sl b9)(a:Sl eA)(o:∀v,v∈a.l->v.name.length<1200000)(r:a.l.length<1200000):sC (ev PP cf (.call 200 [cB t,kB a] .no .empty)) (zS (JM t a)):=by
 refine Hf func200 ?_;simp only[go_sem,f200,JM];apply wa<;>intro h<;>simp only[h,go_sem];refine Mk a.l ([]:List aC) (λi b=>⟨200,43,[(15,iS i),(0,.dv (cB t) .no),(5,.dv (.map 0) .no),(13,.dv (kB a) .no),(14,iS a.l.length)],[],⟨1,[(0,.map (qa b) b.length)]⟩⟩) (λ_ l b=>zS (NJ t.l.length b l)) (λ_ _ _=>True) ab rfl trivial rfl (λs _=>?_) (λi x l b p n w _ d=>?_);.simp only[go_sem,NJ]
 .have d:=d (b++[x.name]) trivial;have q:=o x (du n);have hr:=adw x.name q;simp only[OI,ib,dH,gX,go_sem]at d;rw[show(bif BR x.name then bif L9 x.name then 8 else 0 else 8:Int)=Dp x.name from rfl]at hr;simp only[go_sem,p,n,hr,NJ];apply wa<;>intro h<;>simp only[h,go_sem];cases g:b.any λm=>decide (x.name=m)with|true=>obtain⟨k,c,m,e⟩:=KV b 0 0 g;simp only[go_sem,qa,e]|false=>have e:=KU b 0 0 g;simp only[qa]at d;cases f:aA x.ty 0 with|true=>simp only[go_sem,qa,e,f]|false=>cases j:aA x.ty (.ofNat t.l.length)with|true=>simp only[go_sem,qa,e,f,j,w];omega|false=>simp only[go_sem,qa,e,f,j]
def Ao(l:bq):Nat:=(l.filter λq=>mi q.op).length
structure aaJ(l:bq)(a:Nat):Prop where
 v:∀q∈l,mi q.op=V->∃k:Nat,q.var=.ofNat k/\a<=k/\k<a+Ao l
 s:((l.filter λq=>mi q.op).map ae.var).Pairwise (.<.)
theorem aMG(n:Nat)(h:n<100000000):NQ (.ofNat n)=.ofNat (n+1):=vi ab
theorem S2:∀(l:bq)(a:Nat)(b:Int),a+l.length<100000000->(l.foldl vq (.ofNat a,b,V)).2.2=V->(l.foldl vq (.ofNat a,b,V)).1=.ofNat (a+Ao l)/\aaJ l a|[],a,b,_,_=>⟨rfl,⟨λq h=>by simp at h,List.Pairwise.nil⟩⟩|q::l,a,b,p,h=>by rw[AX]at h|-;simp only[dH]at p;cases v:mi q.op with
 |false=>
 have e:∃f d,vq (.ofNat a,b,V) q=(.ofNat a,f,d):=by unfold vq;rw[v];cases Az q.op<;>simp
 obtain⟨f,d,e⟩:=e;rw[e]at h|-;cases d with|false=>rw[S3]at h;simp at h|true=>
  have i:=S2 l a f ab h;have e2:Ao (q::l)=Ao l:=by simp[Ao,v]
  rw[e2];refine⟨i.1,⟨λx c j=>?_,by simp only[D4,v,Bool.false_eq_true,if_false];exact i.2.s⟩⟩;rw[e2];rcases Cp.1 c with rfl|c;.rw[v]at j;simp at j
  .exact i.2.v x c j|true=>
 have e:∃f d,vq (.ofNat a,b,V) q=(NQ (.ofNat a),f,d)/\(d=V->q.var=.ofNat a):=by
  unfold vq;rw[v];cases Az q.op;.exact⟨b,_,rfl,λh=>by simp only[zd]at h;exact tF h⟩
  .refine⟨_,_,rfl,λh=>?_⟩;simp only[aR,zd,gu]at h;exact tF h.1
 obtain⟨f,d,e,e3⟩:=e;rw[e]at h|-;cases d with|false=>rw[S3]at h;simp at h|true=>
  rw[aMG a ab]at h|-;have i:=S2 l (a+1) f ab h;have e2:Ao (q::l)=Ao l+1:=by simp[Ao,v]
  have m:=e3 rfl;rw[e2];refine⟨by rw[i.1];congr 1;omega,⟨λx c j=>?_,?_⟩⟩
  . rw[e2];rcases Cp.1 c with rfl|c;.exact⟨a,m,ab,ab⟩
    .obtain⟨k,g,n,o⟩:=i.2.v x c j;exact⟨k,g,ab,ab⟩
  .simp only[D4,v,if_true,fO];refine be.2 ⟨λz r=>?_,i.2.s⟩;obtain⟨x,c,rfl⟩:=au.1 r;have c:=bl.1 c;obtain⟨k,g,n,o⟩:=i.2.v x c.1 c.2;rw[m,g];simp only[JZ];omega
theorem anW(h:p.jx=0)(n:p.nn<1100000):(zD (nodes p)).1=.ofNat (Ao (nodes p))/\aaJ (nodes p) 0:=by
 have w:=Ou h;have c:(zD (nodes p)).2.2=V:=by unfold ae.jx at h;rw[show aj _ 0=V by rw[w];rfl,aR]at h;grind
 have:=S2 _ 0 0 (by grind[QO]) c;rw[kE]at this;exact this
theorem VV{o n a t v s p c}(h:(ae.mk o n a t v s p c).iT=0)(l:a.length<=64):(0<=v/\v<16)/\ur o a.length=V/\(mi o=V->0<=t/\t<16):=by simp only[ae.iT,FT]at h;cases b:(aA o 0||!aA o 11)with|true=>grind|false=>
 rw[b,bX,abh _ _ l]at h;rcases d:ur o _ with _|_;.grind
 rcases e:(tU (mi o) t 15&&(tU (mi o) v 15&&(tU (Az o) s 63&&tU (Gl o) p 1099511627776)))with _|_;.grind
 cases f:(CI o&&!aj c.nC 0)with|true=>simp_all[aj]|false=>grind[yS,tU,gL,tE]
theorem ab1(h:p.jx=0)(d:lV p):zp p:=by
 have w:=RV (Ou h);have g:=Ov w.1;have f:=KW g.1;have m:∀q∈nodes p,q.args.length<=64:=λq a=>by have:=ae.VW p q a;obtain⟨op,nl,args,ty,var,scope,s,cond⟩:=q;grind[ae.mH,ae.nn,ae.args]
 refine⟨⟨d.a,λq a=>?_,λq a=>?_⟩,d.b,λq a t e=>?_⟩;.grind[ahq]
 .have c:=f q a;have b:=m q a;obtain⟨op,nl,args,ty,var,scope,s,cond⟩:=q;exact(VV c b).1
 . have c:=f q a;have b:=m q a;obtain⟨op,nl,args,ty,var,scope,s,cond⟩:=q;have i:=(VV c b).2.1;simp only[ae.op]at t e;simp only[ae.args]at b|-;have:args.length=1:=by grind[tb,ur,tF]
   match args,this with|[x],_=>grind
theorem aCg{s:St}{d:ah Tmp}{i f:Nat}{o:aM}:VS s d (.dv (.ptr i f) o)=aG s d (.dv (.ptr i f) .no):=(rfl)
attribute[go_sem]aCg
def ae.ty:ae->Int|.mk _ _ _ ty _ _ _ _=>ty
def NG(s:List eA)(a:Int):Int:=match s[a.toNat]? with|some v=>v.ty|none=>0
def DN(t:Sl b9)(v:Sl eA)(q:ae):Int:=bif tb q.op then(bif !aj q.op 7&&!aj q.ty (NG v.l q.var)then 9 else Ti t v q.cond)else 0
def pW(t:Sl b9)(v:Sl eA):bq->Nat->ah (Nat×Int)|[],_=>Z|q::l,i=>bif aj (DN t v q) 0 then pW t v l (i+1)else J (i,DN t v q)
theorem ajL(t:Sl b9)(v:Sl eA):∀(a b:bq)(i:Nat),pW t v (a++b) i=match pW t v a i with|none=>pW t v b (i+a.length)|some r=>J r
 |[],_,_=>rfl|x::a,b,i=>by simp only[lS,pW];cases aj (DN t v x) 0 with|false=>rfl|true=>rw[aR,aR,ajL t v a b (i+1),dH,AY,Nat.add_comm 1]
theorem aab(t:Sl b9)(v:Sl eA):∀(l:bq)(i j:Nat)(e:Int),pW t v l i=J (j,e)->aj e 0=C|[],_,_,_,h=>by simp[pW]at h|q::l,i,j,e,h=>by simp only[pW]at h;cases z:aj (DN t v q) 0 with|true=>rw[z]at h;exact aab t v l _ _ _ h|false=>rw[z]at h;simp only[bX,wx,J7]at h;rw[<-h.2];exact z
def mN(t:Sl b9)(v:Sl eA)(i:Nat):GO:=.box ⟨[cB t,kB v,iD (.ofNat i)],[]⟩
def ve(r:ah (Nat×Int))(g:GH)(b:Nat)(t:Sl b9)(v:Sl eA)(i:Nat):bh:=match r with|none=>.val (.tp [iO 0,iO 0]) (g.set b (mN t v i))|some (j,e)=>.val (.tp [iO (.ofNat j),iO e]) (g.set b (mN t v (j+1)))
theorem aJZ:dz cf (bH f141 7)=V:=by rfl
theorem aJ0:dz cf (bH f141 9)=V:=by rfl
section
variable{ts:Sl b9}{vs:Sl eA}
theorem aKX(K:lX ts)(S:vs.l.length<1200000)(o n a y d s p c)(O:(ae.mk o n a y d s p c).nn<1100000)(L:c.nn<1100000)(G:mi o=V->∃k v,d=dk k/\vs.l[k]?=J v)(W:∀x,x∈a->∀(g:GH)(b e:Nat),e+x.nn<1100000->g.get b=J (mN ts vs e)->ev PP cf (.call 141 [.ptr b 0,.agg x.cells] .no g)=J (ve (pW ts vs (nodes x) e) g b ts vs (e+x.nn)))(g:GH)(b e:Nat)(N:e+(ae.mk o n a y d s p c).nn<1100000)(m:g.get b=J (mN ts vs e)):ev PP cf (.call 141 [.ptr b 0,.agg (ae.mk o n a y d s p c).cells] .no g)=J (ve (pW ts vs (nodes (.mk o n a y d s p c)) e) g b ts vs (e+(ae.mk o n a y d s p c).nn)):=by
 have e1:=aqL ts vs c K S L;have d1:=aJZ;have d2:=aJ0;simp only[bH,opsOf,f141,go_sem]at d1 d2;simp only[go_sem]at e1;have w:=vi (i:=e) ab;refine aO func141 ?_;rw[nodes,pW];simp only[mN]at m;have T:tb o=C\/(aj o 7=V/\aj o 0=C/\aj o 5=C/\tb o=V)\/(aj o 7=C/\aj o 0=V/\mi o=V/\tb o=V)\/(aj o 7=C/\aj o 0=C/\aj o 5=V/\mi o=V/\tb o=V):=by grind[tb,mi,oY,iZ]
 have R:(ae.mk o n a y d s p c).nn=ae.bN a+1:=by rfl
 rw[R]at O N|-;rcases T with t|⟨u,f,A,t⟩|⟨u,f,D,t⟩|⟨u,f,A,D,t⟩;case' inl=>
  have f:aj o 0=C/\aj o 5=C/\aj o 7=C:=by grind[tb]
  simp only[go_sem,f141,ae.cells,m,w,f.1,f.2.1,f.2.2,DN,ae.op,t]
 case' inr.inl=>simp only[go_sem,f141,ae.cells,m,w,f,A,u,d2,e1,DN,ae.op,ae.cond,t];apply sp<;>intro h<;>simp only[h,go_sem,ve,mN]
 case' inr.inr.inl=>
  obtain⟨k,v,E,q⟩:=G D;have z:NG vs.l (.ofNat k)=v.ty:=by grind[NG]
  simp only[go_sem,f141,ae.cells,m,w,u,q,d1,DN,ae.op,ae.ty,ae.var,ae.cond,t,E,z,f];repeat'(with_reducible apply sp<;>intro h<;>simp only[h,go_sem,m,d2,e1,ve,mN])
 case' inr.inr.inr=>
  obtain⟨k,v,E,q⟩:=G D;have z:NG vs.l (.ofNat k)=v.ty:=by grind[NG]
  simp only[go_sem,f141,ae.cells,m,w,u,q,d1,DN,ae.op,ae.ty,ae.var,ae.cond,t,E,z,f,A];repeat'(with_reducible apply sp<;>intro h<;>simp only[h,go_sem,m,d2,e1,ve,mN])
 all_goals
  refine Qu a (e+1) (λk j=>⟨141,76,[(61,iS k),(0,.dv (.ptr b 0) .no),(59,.dv (bw n (ae.bn a) 75 14) .no),(60,.dv (.int .i64 (.ofNat a.length)) .no)],[],g.set b (mN ts vs j)⟩) (λ_ l j=>ve (pW ts vs (eS l) j) g b ts vs (e+(ae.bN a+1))) (λ_ l j=>j+ae.bN l=e+(ae.bN a+1)) (by grind[ae.mH]) rfl ab rfl (λj I=>?_) (λk x l j q F P I Q=>?_);.simp only[ae.bN,vk]at I;subst I;simp only[go_sem,eS,pW,ve,mN]
  .simp only[ae.bN]at I;have hr:=W x (du F) (g.set b (mN ts vs j)) b j ab (by simp[kU]);have H:=Q (j+x.nn) ab;simp only[eS];rw[ajL,QO];cases B:pW ts vs (nodes x) j with|some r=>obtain⟨X,U⟩:=r;have M:=aab ts vs _ _ _ _ B;rw[B]at hr;simp only[go_sem,mN,ve]at hr;simp only[go_sem,mN,q,F,hr,M,ve]|none=>rw[B]at hr;simp only[go_sem,mN,ve]at hr H;simp only[go_sem,mN,q,F,P,hr,H,ve]
theorem ac4(A:lX ts)(u:vs.l.length<1200000):∀p:ae,(∀q∈nodes p,q.cond.nn<1100000)->(∀q∈nodes p,mi q.op=V->∃k v,q.var=dk k/\vs.l[k]?=J v)->∀(g:GH)(b i:Nat),i+p.nn<1100000->g.get b=J (mN ts vs i)->ev PP cf (.call 141 [.ptr b 0,.agg p.cells] .no g)=J (ve (pW ts vs (nodes p) i) g b ts vs (i+p.nn))
 |.mk o n args t r s a c,f,e,g,b,i,l,j=>by
  have hr:ae.mk o n args t r s a c∈nodes (.mk o n args t r s a c):=by rw[nodes];exact gv ..
  have m:∀x∈args,∀q∈nodes x,q∈nodes (.mk o n args t r s a c):=λx d q h=>by rw[nodes];exact jR _ (ae.Mx args x d q h)
  exact aKX A u o n args t r s a c ab (f _ hr) (e _ hr) (λx d=>ac4 A u x (λq h=>f q (m x d q h)) (λq h=>e q (m x d q h))) g b i l j termination_by p=>pB p decreasing_by simp_wf;have:=pr d;omega
end
def JL(t:Sl b9)(v:Sl eA):Int:=bif aj (v8 t.l) 0 then JM t v else v8 t.l
def tcG(p:ae)(r:ah (Nat×Int)):Int×Int:=match r with|none=>Gh p|some (j,e)=>(.ofNat j,e)
def ub(t:Sl b9)(v:Sl eA)(p:ae):Int×Int:=bif aj (JL t v) 0 then(bif aj (kG p).2.2 0 then(bif aj (kG p).1 (.ofNat v.l.length)then tcG p (pW t v (nodes p) 0)else(0,15))else(0,(kG p).2.2))else(0,JL t v)
theorem aoc(h:aj (kG p).2.2 0=V):p.jx=0/\(kG p).1=(zD (nodes p)).1:=by grind[kG,tE]
theorem aod{s:Sl eA}(d:lV p)(h:aj (kG p).2.2 0=V)(a:aj (kG p).1 (.ofNat s.l.length)=V):∀q∈nodes p,mi q.op=V->∃k v,q.var=dk k/\s.l[k]?=J v:=by intro q e f;obtain⟨b,g⟩:=aoc h;obtain⟨i,c⟩:=anW b d.a;obtain⟨k,j,_,m⟩:=c.v q e f;have o:=tF a;have:Ao (nodes p)=s.l.length:=ai;obtain⟨v,B⟩:=abm (l:=s.l) (n:=k) ab;grind
structure N7(vs:Sl eA):Prop where
 a:∀v,v∈vs.l->v.name.length<1200000
 b:vs.l.length<1200000
def Gy(s:List eA)(i:Int):Bool:=s.any λv=>aj v.ty i
def xS(u:cF)(i:Nat):List lq:=(u.zipIdx i).map λx=>(iD x.1,.bool V,x.2)
theorem aqa{u:cF}{z:Int}:xS (u++[z]) 0=xS u 0++[(iD z,.bool V,u.length)]:=by grind[xS]
theorem TX{z:Int}:∀{u:cF}{i j:Nat},lG u z=C->findD PP 3 (iD z) (xS u i) j=J Z|[],_,_,_=>rfl|m::u,i,j,h=>by have:lG (m::u) z=(aj m z||lG u z):=rfl;rw[this,JV]at h;show(gF PP 50 3 (iD z) (iD m)).bind (λb=>bif b then J (J (j,(iD m,.bool V,i)))else findD PP 3 (iD z) (xS u (i+1)) (j+1))=_;rw[Bi,cR,TB z m,h.1];exact TX h.2
theorem TY{z:Int}:∀{u:cF}{i a:Nat},lG u z=V->∃k m c,findD PP 3 (iD z) (xS u i) a=J (J (a+k,(iD m,.bool V,c)))/\(xS u i)[k]?=J (iD m,.bool V,c)|[],_,_,h=>by simp[lG]at h|m::u,i,a,h=>by have e:findD PP 3 (iD z) (xS (m::u) i) a=(gF PP 50 3 (iD z) (iD m)).bind (λb=>bif b then J (J (a,(iD m,.bool V,i)))else findD PP 3 (iD z) (xS u (i+1)) (a+1)):=rfl;rw[e,Bi,cR,TB z m];cases d:aj m z with|true=>exact⟨0,m,i,rfl,rfl⟩|false=>
 have:lG (m::u) z=(aj m z||lG u z):=rfl;rw[this,d,y7]at h;obtain⟨k,f,c,e1,e2⟩:=TY (i:=i+1) (a:=a+1) h;refine⟨k+1,f,c,?_,?_⟩;.rw[bX,e1];simp only[Nat.add_comm,Nat.add_left_comm]
 .exact e2
theorem take_set{a:Type}{l:List a}{k:Nat}{x:a}(h:l[k]?=J x):l.take k++x::l.drop (k+1)=l:=by grind[D3,G3]
theorem aM3{a b:Type}{x:List a}{y:List b}{i:Nat}{p:a×b}(h:(x.zip y)[i]?=J p):x[i]?=J p.1/\y[i]?=J p.2:=ai
theorem ayU{n:Int}:sU PP 3 (iD n)=V:=by rfl
attribute[go_sem]ayU
def N'(u:cF)(z:Int):cF:=bif lG u z then u else u++[z]
theorem alc(u:cF)(z v:Int):lG (N' u z) v=(lG u v||aj z v):=by grind[N',lG,tF]
def Fj(u:Int->Bool):List (b9×Int)->Nat->Int->Int|[],_,_=>0|x::l,i,z=>bif u (.ofNat i)then(bif aA x.2 0||!aA x.2 (.ofNat x.1.fields.l.length)then 16 else match x.1.fields.l[x.2.toNat]? with|some f=>bif aA z 0||aj f.kind z then Fj u l (i+1) f.kind else 9|none=>0)else bif aj x.2 (-1)then Fj u l (i+1) z else 16
def Ma(t:Sl b9)(q:cA):Int:=bif aj (.ofNat q.key.l.length) 0 then 0 else bif aj (.ofNat q.key.l.length) (.ofNat t.l.length)then Fj (Gy q.vars.l) (t.l.zip q.key.l) 0 (-1)else 15
theorem aqy(t:Sl b9)(q:cA)(D:t.l.length<1200000)(B:q.key.l.length<1200000)(E:q.vars.l.length<1200000):sC (ev PP cf (.call 145 [cB t,.agg q.cells] .no .empty)) (zS (Ma t q)):=by
 refine Hf func145 ?_;simp only[go_sem,f145,cA.cells,Ma];apply wa<;>intro h<;>simp only[h,go_sem];apply wa<;>intro r<;>simp only[r,go_sem];refine Mk q.vars.l ([]:cF) (λi u=>⟨145,78,[(26,iS i),(5,.dv (.map 0) .no),(24,.dv (kB q.vars) .no),(0,.dv (cB t) .no),(3,.lp 3 0),(25,iS q.vars.l.length)],[(3,⟨q.cells,[]⟩)],⟨1,[(0,.map (xS u 0) u.length)]⟩⟩) (λ_ _ _=>zS (Fj (Gy q.vars.l) (t.l.zip q.key.l) 0 (-1))) (λ_ l u=>∀v,(lG u v||Gy l v)=Gy q.vars.l v) ab rfl (λv=>rfl) rfl (λu I=>?_) (λi x l u p e w I g=>?_)
 . have b:t.l.length=q.key.l.length:=(uU r).symm;have y:∀v,lG u v=Gy q.vars.l v:=λv=>by grind[Gy]
   simp only[go_sem,cA.cells];refine Mk (t.l.zip q.key.l) (-1:Int) (λi z=>⟨145,78,[(37,iS i),(8,zS z),(0,.dv (cB t) .no),(5,.dv (.map 0) .no),(35,.dv (cE q.key) .no),(36,iS q.key.l.length)],[],⟨1,[(0,.map (xS u 0) u.length)]⟩⟩) (λi l z=>zS (Fj (Gy q.vars.l) l i z)) (λ_ _ _=>True) ai rfl trivial rfl (λz _=>?_) (λi x l z p e w _ g=>?_);.have s:(t.l.zip q.key.l).length=q.key.l.length:=aT;simp only[s,go_sem,Fj]
   .obtain⟨n,o⟩:=aM3 e;have K:(i<q.key.l.length)=True:=Qv o;obtain⟨A,k⟩:=x;simp only at n o;simp only[Fj,<-y];cases b:lG u (.ofNat i)with|false=>have e1:=TX (i:=0) (j:=0) b;have a:=g z trivial;simp only[go_sem]at a;simp only[go_sem,K,o,e1];apply wa<;>intro h<;>simp only[h,w,go_sem];omega|true=>obtain⟨F,m,c,e1,e2⟩:=TY (i:=0) (a:=0) b;cases k with|negSucc m=>simp only[go_sem,K,n,o,e1,agR]|ofNat m=>cases d:A.fields.l[m]? with|none=>have e3:=Uf d;simp only[go_sem,K,n,o,e1,e3]|some f=>
   have e3:=Qv d;have a:=g f.kind trivial;simp only[go_sem]at a;simp only[go_sem,K,n,o,e1,e3,d,tn];repeat'(with_reducible apply wa<;>intro h<;>simp only[h,d,w,go_sem])
   all_goals omega
 .have a:=g (N' u x.ty) (λv=>by rw[alc,Bool.or_assoc];exact I v);simp only[go_sem,cA.cells]at a;unfold N' at a;cases b:lG u x.ty with|true=>obtain⟨k,m,c,e1,e2⟩:=TY (i:=0) (a:=0) b;have e3:=take_set e2;rw[kE]at e1;simp only[b,go_sem]at a;simp only[go_sem,cA.cells,p,e,w,e1,e3,a]|false=>have e1:=TX (i:=0) (j:=0) b;simp only[b,go_sem,aqa,ib,dH,gX]at a;simp only[go_sem,cA.cells,p,e,w,e1,a]
def Fh(t:Sl b9)(q:cA):Int:=bif aj (JL t q.vars) 0 then Ma t q else JL t q.vars
theorem aGy:List.take 15 (p.cells++[x])=p.cells++[x]:=by simp[G4,ae.dE]
theorem aGA:cg (p.cells++[x])=x.pure:=by simp[B0,ae.pure,cg]
attribute[go_sem]aGy aGA
structure mw(q:cA):Prop where
 n:q.name.length<1200000
 v:N7 q.vars
 k:q.key.l.length<1200000
 p:lV q.pat
 r:q.jG.l.length<1100000
 e:∀e∈q.jG.l,e.nn<1100000
def B7(t:Sl b9)(v:Sl eA):List Expr->Int|[]=>0|e::l=>bif aj (Ah t v e).2 0 then B7 t v l else(Ah t v e).2
def Jj(t:Sl b9)(q:cA):Int:=bif aj (ub t q.vars q.pat).2 0 then(bif aj (.ofNat q.jG.l.length) 0 then 15 else bif aA 256 (.ofNat q.jG.l.length)then 5 else bif aj (B7 t q.vars q.jG.l) 0 then(Ge q.pat q.jG.l).2 else B7 t q.vars q.jG.l)else(ub t q.vars q.pat).2
def wF(t:Sl b9)(q:cA):Int:=bif aj (v8 t.l) 0 then(bif aj (Dp q.name) 0 then(bif aj (ub t q.vars q.pat).2 0 then(bif aj (Fh t q) 0 then Jj t q else Fh t q)else(ub t q.vars q.pat).2)else Dp q.name)else v8 t.l
def Cr(n:Nat)(b:GH)(f:Nat)(c:ao)(r:Int×Int):Prop:=∀g,Lo n b g->∃a,ev PP cf (.call f c .no g)=J (.val (.tp [iO r.1,iO r.2]) a)/\Lo n g a
def zg(n:Nat)(b:GH)(f:Nat)(c:ao)(e:Int):Prop:=∀g,Lo n b g->∃a,ev PP cf (.call f c .no g)=J (.val (.dv (iD e) .no) a)/\Lo n g a
abbrev zq:=Nat×ao×(Int×Int)
def mr(H:GH->Prop):List zq->(GH->Prop)->Prop|[],E=>∀g,H g->E g|x::l,E=>∃a:GH->Prop,((∀g,H g->∃b,ev PP cf (.call x.1 x.2.1 .no g)=J (.val (.tp [iO x.2.2.1,iO x.2.2.2]) b)/\a b)/\(cf.iw x.1||cf.nZ x.1)=C/\cf.fk x.1=0)/\(aj x.2.2.2 0=V->mr a l E)
theorem Cr.to{n f:Nat}{b:GH}{c:ao}{r:Int×Int}(h:Cr n b f c r):∀g,Lo n b g->∃a,ev PP cf (.call f c .no g)=J (.val (.tp [iO r.1,iO r.2]) a)/\Lo n b a:=λg d=>by obtain⟨a,e,k⟩:=h g d;exact⟨a,e,d.trans k⟩
def mr.step{n:Nat}{g:GH}{x:zq}{l:List zq}{E:GH->Prop}(h:Cr n g x.1 x.2.1 x.2.2)(a:(cf.iw x.1||cf.nZ x.1)=C)(b:cf.fk x.1=0)(c:aj x.2.2.2 0=V->mr (Lo n g) l E):mr (Lo n g) (x::l) E:=⟨Lo n g,⟨h.to,a,b⟩,c⟩
def qc:List zq->Int×Int|[]=>(0,0)|x::l=>bif aj x.2.2.2 0 then qc l else x.2.2
def Dx(x:zq):DV:=.agg [.func x.1 [] x.2.1]
theorem OU(l:List zq)(F:l.length<1000)(H E:GH->Prop)(h:mr H l E)(g:GH)(y:H g):∃d,ev PP cf (.call 89 [.ay (l.map Dx) 209 1] .no g)=J (.val (.tp [iO (qc l).1,iO (qc l).2]) d)/\(aj (qc l).2 0=V->E d):=by
 suffices S:Sat (ev PP cf (.call 89 [.ay (l.map Dx) 209 1] .no g)) λv d=>v=.tp [iO (qc l).1,iO (qc l).2]/\(aj (qc l).2 0=V->E d)by obtain⟨v,d,e,rfl,k⟩:=S;grind
 refine np func89 ?_;simp only[go_sem,f89];refine Aj l g (λi _=>[(10,iS i)]) (λs=>s) (λ_ n s=>(∃H:GH->Prop,H s/\mr H n E)/\qc n=qc l) ab rfl rfl ⟨⟨H,y,h⟩,rfl⟩ (λs I=>?_) (λi x n s q t z I B=>?_);.obtain⟨⟨H,a,b⟩,c⟩:=I;rw[<-c];simp only[go_sem];exact⟨rfl,λ_=>b _ a⟩
 .obtain⟨⟨H,a,u,⟨w,j,m⟩,o⟩,c⟩:=I;obtain⟨d,e,k⟩:=w s a;obtain⟨f,D,r⟩:=x;obtain⟨j,p⟩:=JV.1 j;simp only[abU,abV]at j m e o;cases hr:aj r.2 0 with|true=>have A:=B d ⟨⟨u,k,o hr⟩,by grind[qc]⟩;simp only[go_sem]at A;simp only[go_sem,q,t,z,Dx,j,p,m,e,hr];omega|false=>rw[<-c];simp only[go_sem,q,t,Dx,j,p,m,e,hr,qc];simp_all
theorem KM(f:Nat)(c:ao)(g:GH):ev PP cf (.call 90 [.func f [] c] .no g)=J (.val (.dv (.agg [.func 132 [] [.ptr g.next 0]]) .no) (g.alloc (.box ⟨[.func f [] c],[]⟩))):=by refine aO func90 ?_;simp only[go_sem,f90]
theorem yy{n b f:Nat}{d:ao}{a:GH}{e:Int}(p:b<n)(q:a.get b=J (.box ⟨[.func f [] d],[]⟩))(c:(cf.iw f||cf.nZ f)=C)(m:cf.fk f=0)(h:zg n a f d e):Cr n a 132 [.ptr b 0] (0,e):=by intro g l;obtain⟨j,i,k⟩:=h g l;have u:=(l.2 b p).trans q;refine⟨j,?_,k⟩;refine aO func132 ?_;obtain⟨c,o⟩:=JV.1 c;simp only[go_sem,f132,u,c,o,m,i]
abbrev bD(d:DV):GO:=.box ⟨[d],[]⟩
abbrev bL(l:ao):GO:=.box ⟨l,[]⟩
section
variable{n:Nat}{g0:GH}{ts:Sl b9}{vs:Sl eA}{p:ae}{q:cA}{a b c:Nat}
theorem ael(h:lX ts)(c:a<n)(b:g0.get a=J (bD (cB ts))):zg n g0 198 [.ptr a 0] (v8 ts.l):=by intro g l;obtain⟨g1,e1⟩:=KN ts h.a h.b;have k:=(l.2 a c).trans b;refine⟨g,?_,Lo.refl⟩;simp only[go_sem]at e1;refine aO func198 ?_;simp only[go_sem,f198,k,e1]
theorem at5(h:lX ts)(c:a<n)(b:g0.get a=J (bD (cB ts))):zg n g0 91 [.ptr a 0] (v8 ts.l):=by intro g l;obtain⟨g1,e1⟩:=KN ts h.a h.b;have k:=(l.2 a c).trans b;refine⟨g,?_,Lo.refl⟩;simp only[go_sem]at e1;refine aO func91 ?_;simp only[go_sem,f91,k,e1]
theorem aem(v:N7 vs)(e:a<n)(f:b<n)(c:g0.get a=J (bD (cB ts)))(d:g0.get b=J (bD (kB vs))):zg n g0 199 [.ptr a 0,.ptr b 0] (JM ts vs):=by intro g h;obtain⟨g1,e1⟩:=aqK ts vs v.a v.b;have k:=(h.2 a e).trans c;have j:=(h.2 b f).trans d;refine⟨g,?_,Lo.refl⟩;simp only[go_sem]at e1;refine aO func199 ?_;simp only[go_sem,f199,k,j,e1]
theorem at2(i:lV p)(e:a<n)(f:b<n)(c:g0.get a=J (bL p.cells))(d:g0.get b=J (bD (kB vs))):zg n g0 139 [.ptr a 0,.ptr b 0] (bif aj (kG p).2.2 0&&!aj (kG p).1 (.ofNat vs.l.length)then 15 else(kG p).2.2):=by intro g l;have e1:=ac3 p i;have k:=(l.2 a e).trans c;have j:=(l.2 b f).trans d;refine⟨g,?_,Lo.refl⟩;refine aO func139 ?_;simp only[go_sem,f139,k,e1];repeat'(with_reducible apply sp<;>intro h<;>simp only[h,j,go_sem])
theorem aFO(A:lX ts)(D:N7 vs)(d:lV p)(u:∀q∈nodes p,mi q.op=V->∃k v,q.var=dk k/\vs.l[k]?=J v)(z:n<=g0.next)(w:a<n)(x:b<n)(y:c<n)(o:g0.get a=J (bD (cB ts)))(s:g0.get b=J (bD (kB vs)))(t:g0.get c=J (bL p.cells)):Cr n g0 140 [.ptr a 0,.ptr b 0,.ptr c 0] (match pW ts vs (nodes p) 0 with|none=>(0,0)|some (j,e)=>(.ofNat j,e)):=by
 intro g h;have l:=(h.2 a w).trans o;have i:=(h.2 b x).trans s;have B:=(h.2 c y).trans t;have I:=gw z h.1;have m:(c=g.next)=False:=cH ab;have e1:=ac4 A D.b p d.b u (g.alloc (mN ts vs 0)) g.next 0 (by have:=d.a;omega) (by simp[km]);rcases f:pW ts vs _ 0 with _|r;.rw[f]at e1;simp only[mN,ve,go_sem]at e1;refine⟨(g.alloc (mN ts vs 0)).set _ (mN ts vs (0+p.nn)),?_,(Lo.alloc I).trans (Lo.set I)⟩;refine aO func140 ?_;simp only[go_sem,f140,l,i,B,m,e1,mN]
 obtain⟨j,e⟩:=r;rw[f]at e1;simp only[mN,ve,go_sem]at e1;refine⟨(g.alloc (mN ts vs 0)).set _ (mN ts vs (j+1)),?_,(Lo.alloc I).trans (Lo.set I)⟩;refine aO func140 ?_;simp only[go_sem,f140,l,i,B,m,e1,mN]
theorem aFP(b:lV p)(d:a<n)(c:g0.get a=J (bL p.cells)):Cr n g0 142 [.ptr a 0] (Gh p):=by intro g l;obtain⟨_,g1,e1,rfl⟩:=aqx p (λh=>ab1 h b) b;have k:=(l.2 a d).trans c;refine⟨g,?_,Lo.refl⟩;refine aO func142 ?_;simp only[go_sem,f142,k,e1]
end
theorem ac2(t:Sl b9)(v:Sl eA)(g:GH):ev PP cf (.call 138 [cB t,kB v] .no g)=J (.val (.dv (.ay [.agg [.func 132 [] [.ptr (g.next+1+1) 0]],.agg [.func 132 [] [.ptr (g.next+1+1+1) 0]]] 209 1) (.ex 209)) ((((g.alloc (bD (cB t))).alloc (bD (kB v))).alloc (bD (.func 198 [] [.ptr g.next 0]))).alloc (bD (.func 199 [] [.ptr g.next 0,.ptr (g.next+1) 0])))):=by refine aO func138 ?_;simp only[go_sem,f138,KM]
def Oy(p:ae)(v:Sl eA):Int:=bif aj (kG p).2.2 0&&!aj (kG p).1 (.ofNat v.l.length)then 15 else(kG p).2.2
def tcP(r:ah (Nat×Int)):Int×Int:=match r with|none=>(0,0)|some (j,e)=>(.ofNat j,e)
theorem aob{v:Sl eA}(h:aj (Oy p v) 0=V):aj (kG p).2.2 0=V/\aj (kG p).1 (.ofNat v.l.length)=V:=by
 unfold Oy at h;rcases a:aj _ 0 with _|_;.grind
 cases b:aj _ _ with|true=>grind|false=>simp_all[aj]
theorem aa6{e:Nat}{n:ao}(h:l.length+n.length<1000):fu e 1 8 (.ay l e 1) (.ex e) n=J (.ay (l++n) e 1,.ex e):=by grind[p8,bm]
def Q6(t:Sl b9)(v:Sl eA)(p:ae):List zq:=[(132,[.ptr 5 0],(0,v8 t.l)),(132,[.ptr 6 0],(0,JM t v)),(132,[.ptr 7 0],(0,Oy p v)),(140,[.ptr 0 0,.ptr 1 0,.ptr 2 0],tcP (pW t v (nodes p) 0)),(142,[.ptr 2 0],Gh p)]
theorem ajf:∀(l:List (ae×LR))(i j:Nat)(e:Int),qq l i=J (j,e)->aj e 0=C|[],_,_,_,h=>by simp[qq]at h|x::l,i,j,e,h=>by simp only[qq]at h;cases z:tb x.1.op&&!aj (CS x.1 x.2) 0 with|false=>rw[z]at h;exact ajf l _ _ _ h|true=>rw[z]at h;simp only[aR,wx,J7]at h;simp only[gu,NW]at z;rw[<-h.2];exact z.2
theorem as5(t:Sl b9)(v:Sl eA)(p:ae):qc (Q6 t v p)=ub t v p:=by
 simp only[Q6,qc,ub,JL,Oy];rcases h:aj _ 0 with _|_;.grind
 simp only[aR];rcases a:aj _ 0 with _|_;.rfl
 rcases b:aj (kG p).2.2 0 with _|_;.grind
 rcases c:aj _ (.ofNat v.l.length)with _|_;.rfl
 rcases d:pW t v _ 0 with _|r;.simp only[tcP,tcG];rw[show aj 0 0=V from rfl,aR];grind[Gh,ajf]
 grind[tcP,tcG,aab]
theorem adx(t:Sl b9)(s:Sl eA)(p:ae)(b:lX t)(d:N7 s)(a:lV p):∃g,CC 95 [cB t,kB s,.agg p.cells] (.val (.tp [iO (ub t s p).1,iO (ub t s p).2]) g):=by
 have e0:=ac2 t s ⟨3,[(0,bD (cB t)),(1,bD (kB s)),(2,bL p.cells)]⟩;simp only[go_sem]at e0;suffices S:Sat (ev PP cf (.call 95 [cB t,kB s,.agg p.cells] .no .empty)) λv _=>v=.tp [iO (ub t s p).1,iO (ub t s p).2]by obtain⟨v,g,e,rfl⟩:=S;grind
 have k:mr (Lo 8 ⟨8,[(0,bD (cB t)),(1,bD (kB s)),(2,bL p.cells),(3,bD (cB t)),(4,bD (kB s)),(5,bD (.func 198 [] [.ptr 3 0])),(6,bD (.func 199 [] [.ptr 3 0,.ptr 4 0])),(7,bD (.func 139 [] [.ptr 2 0,.ptr 1 0]))]⟩) (Q6 t s p) (λ_=>True):=by refine mr.step (yy ab rfl (by rfl) (by rfl) (ael b ab rfl)) (by rfl) (by rfl) λ_=>?_;refine mr.step (yy ab rfl (by rfl) (by rfl) (aem d ab ab rfl rfl)) (by rfl) (by rfl) λ_=>?_;refine mr.step (yy ab rfl (by rfl) (by rfl) (at2 a ab ab rfl rfl)) (by rfl) (by rfl) λh=>?_;have c:=aob h;refine mr.step (aFO b d a (aod a c.1 c.2) aT ab ab ab rfl rfl rfl) (by rfl) (by rfl) λ_=>?_;exact mr.step (aFP a ab rfl) (by rfl) (by rfl) λ_ _ _=>trivial
 obtain⟨g,e1,_⟩:=OU _ (by show 5<1000;omega) _ _ k _ Lo.refl;rw[as5]at e1;simp only[Q6,fO,eG,Dx,go_sem]at e1;refine np func95 ?_;simp only[go_sem,f95,e0,KM,oJ,nU,aa6,dH,gX,e1]
section
variable{n:Nat}{g0:GH}{ts:Sl b9}{vs:Sl eA}{p:ae}{q:cA}{a b c:Nat}
theorem at3(t:lX ts)(c:mw q)(f:a<n)(i:b<n)(d:g0.get a=J (bD (cB ts)))(e:g0.get b=J (bL q.cells)):zg n g0 144 [.ptr a 0,.ptr b 0] (Ma ts q):=by intro g h;obtain⟨g1,e1⟩:=aqy ts q t.b c.k c.v.b;have k:=(h.2 a f).trans d;have j:=(h.2 b i).trans e;refine⟨g,?_,Lo.refl⟩;simp only[go_sem,cA.cells]at e1 j;refine aO func144 ?_;simp only[go_sem,f144,k,j,e1]
end
def Q7(t:Sl b9)(q:cA):List zq:=[(132,[.ptr 4 0],(0,v8 t.l)),(132,[.ptr 5 0],(0,JM t q.vars)),(132,[.ptr 6 0],(0,Ma t q))]
theorem as6(t:Sl b9)(q:cA):(qc (Q7 t q)).2=Fh t q:=by grind[Q7,qc,Fh,JL,tE]
theorem arp(t:Sl b9)(q:cA)(a:lX t)(h:mw q):∃g,CC 97 [cB t,.agg q.cells] (.val (.dv (iD (Fh t q)) .no) g):=by
 have e0:=ac2 t q.vars ⟨2,[(0,bD (cB t)),(1,bL q.cells)]⟩;have k:mr (Lo 7 ⟨7,[(0,bD (cB t)),(1,bL q.cells),(2,bD (cB t)),(3,bD (kB q.vars)),(4,bD (.func 198 [] [.ptr 2 0])),(5,bD (.func 199 [] [.ptr 2 0,.ptr 3 0])),(6,bD (.func 144 [] [.ptr 0 0,.ptr 1 0]))]⟩) (Q7 t q) (λ_=>True):=by refine mr.step (yy ab rfl (by rfl) (by rfl) (ael a ab rfl)) (by rfl) (by rfl) λ_=>?_;refine mr.step (yy ab rfl (by rfl) (by rfl) (aem h.v ab ab rfl rfl)) (by rfl) (by rfl) λ_=>?_;exact mr.step (yy ab rfl (by rfl) (by rfl) (at3 a h ab ab rfl rfl)) (by rfl) (by rfl) λ_ _ _=>trivial
 obtain⟨g,e1,_⟩:=OU _ (by show 3<1000;omega) _ _ k _ Lo.refl;rw[as6]at e1;simp only[Q7,fO,eG,Dx,go_sem,cA.cells]at e1;simp only[go_sem,cA.cells]at e0;refine⟨g,?_⟩;refine aO func97 ?_;simp only[go_sem,f97,cA.cells,e0,KM,oJ,nU,aa6,dH,gX,e1]
section
variable{n:Nat}{g0:GH}{ts:Sl b9}{q:cA}{a b c:Nat}
theorem aFQ(t:lX ts)(c:mw q)(f:a<n)(i:b<n)(d:g0.get a=J (bD (cB ts)))(e:g0.get b=J (bL q.cells)):Cr n g0 146 [.ptr a 0,.ptr b 0] (ub ts q.vars q.pat):=by intro g h;obtain⟨g1,e1⟩:=adx ts _ _ t c.v c.p;have k:=(h.2 a f).trans d;have j:=(h.2 b i).trans e;refine⟨g,?_,Lo.refl⟩;simp only[go_sem,cA.cells]at e1 j;refine aO func146 ?_;simp only[go_sem,f146,k,j,e1]
theorem aFS(t:lX ts)(c:mw q)(f:a<n)(i:b<n)(d:g0.get a=J (bD (cB ts)))(e:g0.get b=J (bL q.cells)):Cr n g0 94 [.ptr a 0,.ptr b 0] (ub ts q.vars q.pat):=by intro g h;obtain⟨g1,e1⟩:=adx ts _ _ t c.v c.p;have k:=(h.2 a f).trans d;have j:=(h.2 b i).trans e;refine⟨g,?_,Lo.refl⟩;simp only[go_sem,cA.cells]at e1 j;refine aO func94 ?_;simp only[go_sem,f94,k,j,e1]
def Qq(q:cA):Int:=bif aj (.ofNat q.jG.l.length) 0 then 15 else bif aA 256 (.ofNat q.jG.l.length)then 5 else 0
theorem at4(c:b<n)(a:g0.get b=J (bL q.cells)):zg n g0 147 [.ptr b 0] (Qq q):=by intro g l;have j:=(l.2 b c).trans a;refine⟨g,?_,Lo.refl⟩;simp only[go_sem,cA.cells]at j;refine aO func147 ?_;simp only[go_sem,f147,j,Qq];repeat'(with_reducible apply sp<;>intro h<;>simp only[h,go_sem])
theorem aqz(n:lX ts)(e:mw q)(g:GH)(c:g.get 0=J (bD (cB ts)))(a:g.get 1=J (bL q.cells))(k:g.get 2=J (bD .nl)):Sat (ev PP cf (.call 148 [.ptr 1 0,.ptr 0 0,.ptr 2 0] .no g)) λv j=>v=zS (B7 ts q.vars q.jG.l)/\∃l,j=g.set 2 (.box (rE l)):=by
 have r:=e.r;simp only[go_sem,cA.cells]at a;refine np func148 ?_;simp only[go_sem,f148,a];refine Aj q.jG.l ([]:cF) (λi _=>[(11,iS i)]) (λs=>g.set 2 (.box (rE s))) (λi l s=>B7 ts q.vars q.jG.l=B7 ts q.vars l/\s.length=i) ab rfl (ZE k) ⟨rfl,rfl⟩ (λs I=>?_) (λi x l s d b w I o=>?_);.rw[I.1];simp only[go_sem,B7];grind
 .have p:=du b;obtain hr:=ac5 ts q.vars x n e.v.b (e.e x p);simp only[go_sem]at hr;simp only[B7]at I;have u:(0=2)=False:=ai;cases h:aj (Ah ts q.vars x).2 0 with|false=>rw[h]at I;rw[I.1];simp only[go_sem,d,b,c,a,hr,h];grind|true=>rw[h]at I;have f:=o (s++[(Ah ts q.vars x).1]) ⟨I.1,aT⟩;cases s with|nil=>simp only[go_sem,rE,jJ,eG]at f;simp only[go_sem,rE,d,b,w,c,a,hr,h];omega|cons y t=>have m:(t.length+1<1200000)=True:=ir ai;simp only[go_sem,rE,lS,pZ]at f;simp only[go_sem,rE,d,b,w,c,a,hr,h,m,fZ];omega
theorem aFR(h:mw q)(g:GH)(a:g.get 1=J (bL q.cells)):ev PP cf (.call 150 [.ptr 1 0] .no g)=J (.val (.tp [iO (Ge q.pat q.jG.l).1,iO (Ge q.pat q.jG.l).2]) g):=by have e1:=aqA _ _ (λc=>ab1 c h.p) h.p h.r h.e;simp only[go_sem,cA.cells]at e1 a;refine aO func150 ?_;simp only[go_sem,f150,a,e1]
end
def Q8(t:Sl b9)(q:cA):List zq:=[(146,[.ptr 0 0,.ptr 1 0],ub t q.vars q.pat),(132,[.ptr 3 0],(0,Qq q)),(132,[.ptr 4 0],(0,B7 t q.vars q.jG.l)),(150,[.ptr 1 0],Ge q.pat q.jG.l)]
theorem as7(t:Sl b9)(q:cA):(qc (Q8 t q)).2=Jj t q:=by grind[Q8,qc,Jj,Qq,tE]
theorem arq(s:Sl b9)(q:cA)(d:lX s)(b:mw q):Sat (ev PP cf (.call 99 [cB s,.agg q.cells] .no .empty)) λv _=>∃x,v=.tp [x,iO (Jj s q)]/\x.1.pure=V:=by
 let E:GH->Prop:=λg=>g.get 1=J (bL q.cells)/\∃l,g.get 2=J (.box (rE l));have o:mr (Lo 5 ⟨5,[(0,bD (cB s)),(1,bL q.cells),(2,bD .nl),(3,bD (.func 147 [] [.ptr 1 0])),(4,bD (.func 148 [] [.ptr 1 0,.ptr 0 0,.ptr 2 0]))]⟩) (Q8 s q) E:=by
   refine mr.step (aFQ d b ab ab rfl rfl) (by rfl) (by rfl) λ_=>?_;refine mr.step (yy ab rfl (by rfl) (by rfl) (at4 ab rfl)) (by rfl) (by rfl) λ_=>?_;refine⟨E,⟨λg a=>?_,by rfl,by rfl⟩,λ_=>?_⟩
   . have k0:=a.2 0 ab;have k1:g.get 1=J _:=a.2 1 ab;have k2:=a.2 2 ab;have k4:=a.2 4 ab;obtain⟨v,f,e,rfl,l,rfl⟩:=aqz d b g k0 k1 k2;refine⟨g.set 2 (.box (rE l)),?_,?_,l,?_⟩;rotate_left;.grind[kU]
     .simp[kU]
     .refine aO func132 ?_;simp only[go_sem,f132,k4,e]
   .exact⟨E,⟨λg c=>⟨g,aFR b g c.1,c⟩,by rfl,by rfl⟩,λ_ _ h=>h⟩
 obtain⟨f,e1,k⟩:=OU _ (by show 4<1000;omega) _ _ o _ Lo.refl;rw[as7]at e1 k;simp only[Q8,fO,eG,Dx,go_sem,cA.cells]at e1;refine np func99 ?_;simp only[go_sem,f99,cA.cells,KM,e1];apply gV<;>intro h<;>simp only[h,go_sem]
 . obtain⟨_,l,a⟩:=k h;rw[tE h];rcases l with _|⟨y,t⟩;.simp only[rE]at a;simp only[go_sem,a];exact⟨_,rfl,rfl⟩
   have p:(DV.ay (iD y::t.map iD) 3 1).pure=V:=by simp[DV.pure,cg,aib]
   simp only[rE]at a;simp only[go_sem,a];grind
 .exact⟨_,rfl,rfl⟩
section
variable{n:Nat}{g0:GH}{ts:Sl b9}{q:cA}{a b c:Nat}
theorem at6(c:mw q)(a:b<n)(h:g0.get b=J (bL q.cells)):zg n g0 92 [.ptr b 0] (Dp q.name):=by intro g l;have j:=(l.2 b a).trans h;have e1:ev PP cf _=J (vI (Dp _)):=adw _ c.n;refine⟨g,?_,Lo.refl⟩;simp only[go_sem,cA.cells]at j;refine aO func92 ?_;simp only[go_sem,f92,j,e1]
theorem at7(t:lX ts)(i:mw q)(e:a<n)(f:b<n)(c:g0.get a=J (bD (cB ts)))(d:g0.get b=J (bL q.cells)):zg n g0 96 [.ptr a 0,.ptr b 0] (Fh ts q):=by intro g h;obtain⟨g1,e1⟩:=arp ts q t i;have k:=(h.2 a e).trans c;have j:=(h.2 b f).trans d;refine⟨g,?_,Lo.refl⟩;simp only[go_sem,cA.cells]at e1 j;refine aO func96 ?_;simp only[go_sem,f96,k,j,e1]
theorem aua(t:lX ts)(k:mw q)(f:a<n)(i:b<n)(d:g0.get a=J (bD (cB ts)))(e:g0.get b=J (bL q.cells)):zg n g0 98 [.ptr a 0,.ptr b 0] (Jj ts q):=by intro g h;obtain⟨_,g1,e1,⟨x,o⟩,rfl,c⟩:=arq ts q t k;have l:=(h.2 a f).trans d;have j:=(h.2 b i).trans e;refine⟨g,?_,Lo.refl⟩;simp only[go_sem,cA.cells]at e1 j c;refine aO func98 ?_;simp only[go_sem,f98,l,j,e1,c]
end
def Q5(t:Sl b9)(q:cA):List zq:=[(132,[.ptr 2 0],(0,v8 t.l)),(132,[.ptr 3 0],(0,Dp q.name)),(94,[.ptr 0 0,.ptr 1 0],ub t q.vars q.pat),(132,[.ptr 4 0],(0,Fh t q)),(132,[.ptr 5 0],(0,Jj t q))]
theorem as4(t:Sl b9)(q:cA):(qc (Q5 t q)).2=wF t q:=by grind[Q5,qc,wF,tE]
theorem ado(t:Sl b9)(q:cA)(a:lX t)(h:mw q):∃g,CC 64 [cB t,.agg q.cells] (.val (.dv (iD (wF t q)) .no) g):=by
 have k:mr (Lo 6 ⟨6,[(0,bD (cB t)),(1,bL q.cells),(2,bD (.func 91 [] [.ptr 0 0])),(3,bD (.func 92 [] [.ptr 1 0])),(4,bD (.func 96 [] [.ptr 0 0,.ptr 1 0])),(5,bD (.func 98 [] [.ptr 0 0,.ptr 1 0]))]⟩) (Q5 t q) (λ_=>True):=by refine mr.step (yy ab rfl (by rfl) (by rfl) (at5 a ab rfl)) (by rfl) (by rfl) λ_=>?_;refine mr.step (yy ab rfl (by rfl) (by rfl) (at6 h ab rfl)) (by rfl) (by rfl) λ_=>?_;refine mr.step (aFS a h ab ab rfl rfl) (by rfl) (by rfl) λ_=>?_;refine mr.step (yy ab rfl (by rfl) (by rfl) (at7 a h ab ab rfl rfl)) (by rfl) (by rfl) λ_=>?_;exact mr.step (yy ab rfl (by rfl) (by rfl) (aua a h ab ab rfl rfl)) (by rfl) (by rfl) λ_ _ _=>trivial
 obtain⟨g,e1,_⟩:=OU _ (by show 5<1000;omega) _ _ k _ Lo.refl;rw[as4]at e1;simp only[Q5,fO,eG,Dx,go_sem,cA.cells]at e1;refine⟨g,?_⟩;refine aO func64 ?_;simp only[go_sem,f64,cA.cells,KM,dH,gX,e1]
def Gx(n:Int):cF->cF->Int|_,[]=>0|b,s::l=>bif within s n then(bif lG b s then 7 else Gx n (b++[s]) l)else 2
theorem aJx{n:Nat}(a:n<=l.length)(h:n<1200000):oD PP 32 (.ay l 3 1) Z (J (.int .i64 (.ofNat n))) Z=J (.ay (l.take n) 3 1,.no):=by unfold oD;grind[Proofs.Tryz.underlying32,sz3,pw,nW,nw,bm]
theorem aya(l:cF):cE ⟨C,l⟩=.ay (l.map iD) 3 1:=by cases l<;>rfl
def DO(n:Int):List (Sl Int)->Int|[]=>0|l::t=>bif aj (Gx n [] l.l) 0 then DO n t else Gx n [] l.l
theorem arz(l:Sl kC)(k:l.l.length<1100000):∃o,CC 410 [Dl l] (.val (vM (l.l.map kC.scope) o) .empty):=by
 suffices S:Sat (ev PP cf (.call 410 [Dl l] .no .empty)) λv g=>g=.empty/\∃o,v=vM (l.l.map kC.scope) o by obtain⟨v,g,e,rfl,o,rfl⟩:=S;grind
 refine np func410 ?_;simp only[go_sem,f410];refine Aj l.l ([]:cF) (λi s=>[(8,iS i),(3,fP (s.map iD) 3 1)]) (λ_=>.empty) (λi d s=>s++d.map kC.scope=l.l.map kC.scope/\s.length=i) ab rfl rfl ⟨rfl,rfl⟩ (λs h=>?_) (λi x d s a b w h j=>?_);.rw[<-h.1,eG,kD];cases s with|nil=>simp only[go_sem];exact⟨trivial,.any,rfl⟩|cons y t=>simp only[go_sem];exact⟨trivial,.ex 3,rfl⟩
 .have c:=j (s++[x.scope]) ⟨ai,ai⟩;cases s with|nil=>simp only[go_sem,jJ]at c;simp only[go_sem,a,b,w,kC.d];omega|cons y t=>have f:(t.length+1<1200000)=True:=ir ai;simp only[go_sem,lS,pZ]at c;simp only[go_sem,a,b,w,kC.d,f,fZ];omega
theorem ary(a:dJ)(s:List (Sl Int))(q:s.length<1000)(k:∀l∈s,l.l.length<1100000):CC 409 [.agg a.cells,.ay (s.map cE) 32 1] (vI (DO a.scopes s)):=by
 refine aO func409 ?_;simp only[go_sem,f409,dJ.cells];refine jn s (λi=>[(11,iS i)]) (λ_ l=>vI (DO a.scopes l)) ab rfl rfl ?_ (λi x o g d w f=>?_);.simp only[go_sem,DO]
 . have P:=k x (du d);simp only[go_sem]at f;simp only[DO];simp only[go_sem,g,d];rw[CA];refine jn x.l (λj=>[(17,iS j)]) (λj m=>vI (bif aj (Gx a.scopes (x.l.take j) m) 0 then DO a.scopes o else Gx a.scopes (x.l.take j) m)) ab rfl rfl ?_ (λj y m c e v b=>?_);.simp only[go_sem,Gx,w,f]
   . have I:j<x.l.length:=mI c;have e1:=Et y a.scopes;have e2:=TG ⟨C,x.l.take j⟩ y ai;have e3:=aJx (l:=x.l.map iD) (n:=j) ai ab;have e4:bw x.nl (x.l.map iD) 3 1=.ay (x.l.map iD) 3 1:=by cases p:x.l with|nil=>simp_all|cons=>rfl
     rw[aya]at e2;rw[<-List.map_take]at e3;rw[ZP e]at b;simp only[go_sem,e4]at b;simp only[Gx];simp only[go_sem,c,e,e1,e4];apply sp<;>intro h<;>simp only[h,e3,go_sem];simp only[e2,go_sem];apply sp<;>intro h<;>simp only[h,v,b,go_sem]
def CX(s v:Int):cF->List Guard->Int|_,[]=>0|b,g::l=>bif within g.scope s&&(within g.ty 16&&within g.var v)then(bif lG b g.scope then 7 else bif aj g.cond.nC 0 then CX s v (b++[g.scope]) l else g.cond.nC)else 2
def Lb(a:dJ)(l:List Guard):Int:=bif aA 64 (.ofNat l.length)then 5 else CX a.scopes a.vars [] l
theorem arx(a c:Guard)(b:Nat)(g:GH)(h:g.get b=J (bL c.cells)):ev PP cf (.call 408 [a.d,.ptr b 0] .no g)=J (.val (.dv (.bool (aj a.scope c.scope)) .no) g):=by refine aO func408 ?_;simp only[go_sem,f408,Guard.d,Guard.cells,h]
theorem avm(l:List Guard)(s:Int):lG (l.map Guard.scope) s=l.any λg=>aj g.scope s:=by grind[lG]
theorem aJw{n:Nat}(a:n<=l.length)(h:n<1200000):oD PP 223 (.ay l 305 11) Z (J (.int .i64 (.ofNat n))) Z=J (.ay (l.take n) 305 11,.no):=by unfold oD;grind[Proofs.Tryz.underlying223,ajH,pw,nW,nw,bm]
theorem arj(a:dJ)(b:Sl Guard)(r:b.l.length<1100000)(p:∀g∈b.l,g.cond.nn<1100000):sC (ev PP cf (.call 362 [.agg a.cells,CW b] .no .empty)) (zS (Lb a b.l)):=by
 suffices S:Sat (ev PP cf (.call 362 [.agg a.cells,CW b] .no .empty)) λv _=>v=zS (Lb a b.l)by obtain⟨v,g,e,rfl⟩:=S;exact⟨g,e⟩
 refine np func362 ?_;simp only[go_sem,f362,dJ.cells,Lb];apply gV<;>intro h<;>simp only[h,go_sem];refine Aj b.l GH.empty (λi _=>[(13,iS i)]) (λs=>s) (λi f _=>CX a.scopes a.vars ((b.l.take i).map Guard.scope) f=CX a.scopes a.vars [] b.l) ab rfl rfl rfl (λs I=>?_) (λi x f s j c w I o=>?_);.rw[<-I];simp only[go_sem,CX]
 . have K:i<b.l.length:=mI j;have t:=p x (du c);have e4:bw b.nl (b.l.map Guard.d) 305 11=.ay (b.l.map Guard.d) 305 11:=by cases P:b.l with|nil=>rw[P]at K;simp at K|cons=>rfl
   have e3:=aJw (l:=b.l.map Guard.d) (n:=i) (by rw[fZ];omega) ab;rw[<-List.map_take]at e3;have e5:bw C ((b.l.take i).map Guard.d) 305 11=.ay ((b.l.take i).map Guard.d) 305 11:=by cases b.l.take i<;>rfl
   have e6:=Eu (d:=Guard.d) (q:=λh=>aj h.scope x.scope) 408 [] [.ptr s.next 0] ((s.alloc (bL [iD 0,iD 0,iD 0,iD 0,.nl,iD 0,iD 0,iD 0,iD 0,iD 0,.str []])).set s.next (bL x.cells)) C (b.l.take i) (by rw[uj];omega) (λy _=>.inl ⟨aL,aL,arx y x s.next _ (by rw[kU,if_pos rfl])⟩) (.inl rfl) (λy=>⟨rfl,by simp[Guard.d,DV.flat,Guard.dE]⟩);rw[e5]at e6;have e1:=Et x.scope a.scopes;have e2:=Et x.ty 16;have e7:=Et x.var a.vars;have e8:=HE x.cond ab;rw[<-avm]at e6;rw[ZP c,pZ]at o;simp only[CX]at I;rw[<-I];simp only[Guard.cells,go_sem]at e6;have m:=o;simp only[go_sem,e4]at m;simp only[go_sem,j,c,e1,e4,Guard.d,Guard.cells];repeat'(with_reducible apply gV<;>intro h<;>simp only[h,w,e2,e3,e7,e6,e8,go_sem])
   all_goals
   have k:CX a.scopes a.vars (List.map Guard.scope (List.take i b.l)++[x.scope]) f=CX a.scopes a.vars [] b.l:=by rw[<-I];simp only[*,wm,aR,bX]
   rw[k];exact m _ k
def RD(l:kC):Bool:=bif aA l.span 0 then V else aA 1099511627776 l.span
theorem arA(l:kC):CC 412 [l.d] (vB (RD l)):=by refine aO func412 ?_;simp only[go_sem,f412,kC.d,RD];apply sp<;>intro h<;>simp only[h,go_sem]
def Ei:List Expr->Int|[]=>0|e::l=>bif aj e.nC 0 then Ei l else e.nC
def VE(a:dJ)(x:Edge):Int:=bif aj (DO a.scopes [x.opens,x.ma,x.inside,⟨V,x.ka.l.map kC.scope⟩]) 0 then(bif x.ka.l.any RD then 2 else 0)else DO a.scopes [x.opens,x.ma,x.inside,⟨V,x.ka.l.map kC.scope⟩]
def aiT(a:dJ)(x:Edge):Bool:=within x.src (.ofNat a.mM.l.length)&&((!aA x.dst (-1)&&aA x.dst (.ofNat a.mM.l.length))&&(within x.var a.vars&&within x.ty 16))
def OE(a:dJ)(x:Edge)(b:Int):Int:=bif aiT a x then(bif aA x.src b then 14 else bif aj x.cond.nC 0 then(bif aA 64 (.ofNat x.jN.l.length)then 5 else bif aj (Ei x.jN.l) 0 then VE a x else Ei x.jN.l)else x.cond.nC)else 2
structure xA(x:Edge):Prop where
 c:x.cond.nn<1100000
 k:x.jN.l.length<1100000
 e:∀e∈x.jN.l,e.nn<1100000
 o:x.opens.l.length<1100000
 p:x.ma.l.length<1100000
 i:x.inside.l.length<1100000
 l:x.ka.l.length<1100000
theorem ark(a:dJ)(x:Edge)(f:Int)(b:xA x):CC 363 [.agg a.cells,x.d,iD f] (vI (OE a x f)):=by
 have d1:=aKi;simp only[bH,opsOf,f363,go_sem]at d1;have e1:=Et x.src (.ofNat a.mM.l.length);have e2:=Et x.var a.vars;have e3:=Et x.ty 16;have e4:=HE x.cond (by have:=b.c;omega);obtain⟨o,e5⟩:=arz x.ka b.l;have e6:=ary a [x.opens,x.ma,x.inside,⟨V,x.ka.l.map kC.scope⟩] (by show 4<1000;decide) (by
 intro l c;simp only[Cp,mO,or_false]at c;rcases c with rfl|rfl|rfl|rfl;.exact b.o
 .exact b.p
 .exact b.i
 .show(x.ka.l.map kC.scope).length<1100000;rw[fZ];exact b.l);have e7:=Eu (d:=kC.d) (q:=RD) 412 [] [] .empty x.ka.nl x.ka.l (by have:=b.l;omega) (λy _=>.inr ⟨aL,aL,by simp[cg,DV.pure,kC.d],arA y⟩) (.inr (.inl rfl)) (λy=>⟨rfl,rfl⟩);have k:=b.k;simp only[vM,go_sem]at e5;simp only[fO,eG,dJ.cells,go_sem]at e6;refine aO func363 ?_;simp only[go_sem,f363,dJ.cells,Edge.d,Edge.cells,OE,aiT,e1];repeat'(with_reducible apply sp<;>intro h<;>simp only[h,e2,e3,e4,go_sem])
 refine jn x.jN.l (λi=>[(65,iS i)]) (λ_ l=>vI (bif aj (Ei l) 0 then VE a x else Ei l)) ab rfl rfl ?_ (λi y l j e w g=>?_);.simp only[go_sem,Ei,VE,d1,e5,e6];apply sp<;>intro h<;>simp only[h,e7,go_sem];apply sp<;>intro h<;>simp only[h,go_sem]
 .have r:=HE y (by have:=b.e y (du e);omega);simp only[go_sem,j,e,r,Ei]at g|-;apply sp<;>intro h<;>simp only[h,w,g,go_sem]
theorem aqs{b c d:DV}:List.take 13 (e.cells++[a,b,c,d,f])=e.cells++[a,b,c,d,f]:=by simp[G4,Expr.dE]
theorem aqe:cg (e.cells++l)=cg l:=by simp[B0,Expr.pure]
attribute[go_sem]aqs aqe
def KD(a:dJ):gh->Int->Int|[],_=>0|x::l,b=>bif aj (OE a x b) 0 then KD a l x.src else OE a x b
def Ns(a:dJ):List Stat->Int|[]=>KD a a.oN.l 0|s::l=>bif aj (Lb a s.guards.l) 0 then Ns a l else Lb a s.guards.l
def dJ.nC(a:dJ):Int:=bif aA a.vars 0||(aA 16 a.vars||(aA a.scopes 0||aA 64 a.scopes))then 2 else bif aA (.ofNat a.mM.l.length) 1||(aA 256 (.ofNat a.mM.l.length)||aA 2048 (.ofNat a.oN.l.length))then 5 else Ns a a.mM.l
structure ri(a:dJ):Prop where
 s:a.mM.l.length<1100000
 e:a.oN.l.length<1100000
 g:∀s∈a.mM.l,s.guards.l.length<1100000/\∀g∈s.guards.l,g.cond.nn<1100000
 x:∀x∈a.oN.l,xA x
theorem aqR(a:dJ)(c:ri a):CC 313 [.agg a.cells] (vI a.nC):=by
 have m:=c.s;have k:=c.e;refine aO func313 ?_;simp only[go_sem,f313,dJ.cells,dJ.nC];repeat'(with_reducible apply sp<;>intro h<;>simp only[h,go_sem])
 refine jn a.mM.l (λi=>[(49,iS i)]) (λ_ l=>vI (Ns a l)) ab rfl rfl ?_ (λi x l e b w d=>?_)
 . simp only[go_sem,Ns];refine sV _ _ (λi s=>[(64,iS i),(6,zS s)]) (λ_ l s=>vI (KD a l s)) (λ_ _ _=>True) ab rfl trivial rfl (λs _=>?_) (λi x l s e b w _ d=>?_);.simp only[go_sem,KD]
   .have e1:=ark a x s (c.x x (du b));have f:=d x.src trivial;simp only[Edge.d,Edge.cells,dJ.cells,go_sem]at e1;simp only[go_sem]at f;simp only[KD];simp only[go_sem,e,b,e1,Edge.d,Edge.cells];apply sp<;>intro h<;>simp only[h,w,f,go_sem]
 .obtain⟨g,j⟩:=c.g x (du b);obtain⟨g1,e1⟩:=arj a x.guards g j;simp only[dJ.cells,go_sem]at e1;simp only[go_sem,e,b,e1,Stat.d,Ns]at d|-;apply sp<;>intro h<;>simp only[h,w,d,go_sem]
def adK(s:b9):Bool:=bif aA 20 (.ofNat s.fields.l.length)then V else aA 100 (.ofNat s.name.length)
def Ex(n:Nat):List b9->Bool|[]=>!aA 20 (.ofNat n)|s::l=>bif adK s then C else Ex n l
theorem ac6(t:Sl b9)(h:t.l.length<1100000):CC 44 [cB t] (vB (Ex t.l.length t.l)):=by
 refine aO func44 ?_;simp only[go_sem,f44];refine jn t.l (λi=>[(3,iS i)]) (λ_ l=>vB (Ex t.l.length l)) ab rfl rfl ?_ (λi x l c a w b=>?_);.simp only[go_sem,Ex]
 .simp only[go_sem,c,a,Ex,adK,b9.d]at b|-;repeat'(with_reducible apply sp<;>intro h<;>simp only[h,a,w,b,b9.d,go_sem])
def Ey:bq->Bool|[]=>V|p::l=>bif aA 20 (.ofNat (p.cond.mR 20))then C else Ey l
theorem aqG(p:ae)(n:p.nn<1100000)(e:∀q∈nodes p,q.cond.nn<1100000):CC 84 [.agg p.cells] (vB (bif aA 9 (.ofNat (p.mR 9))then C else Ey (nodes p))):=by
 have e1:ev PP cf (.call 126 [.agg _,.int _ 9] _ _)=_:=TK 9 p ab;have e2:=TL p ab;have c:=FI [p];simp only[eS,kD,ae.bN]at c;refine aO func84 ?_;simp only[go_sem,f84,e1];apply sp<;>intro h<;>simp only[h,go_sem,e2];refine jn _ (λi=>[(4,iS i)]) (λ_ l=>vB (Ey l)) ab rfl rfl ?_ (λi x l b d w a=>?_);.simp only[go_sem,Ey]
 .have e3:ev PP cf (.call 128 [.agg x.cond.cells,.int .i64 20] .no .empty)=_:=TM 20 x.cond ai;cases x;simp only[ae.cond]at e3;simp only[go_sem,b,d,e3,Ey,ae.cells,ae.cond]at a|-;apply sp<;>intro h<;>simp only[h,w,a,go_sem]
def HI:bq->Bool|[]=>V|p::l=>bif p.cond.HM then HI l else C
theorem ard(p:ae)(n:p.nn<1100000)(e:∀q∈nodes p,q.cond.nn<1100000):CC 124 [.agg p.cells] (vB (bif(bif aA 150 (.ofNat (p.mR 150))then V else aA 60 (.ofNat p.dep))then C else HI (nodes p))):=by
 have e1:ev PP cf (.call 126 [.agg _,.int .i64 150] _ _)=_:=TK 150 p ab;have e2:=TL p ab;have e4:=ady p ab;have c:=FI [p];simp only[eS,kD,ae.bN]at c;refine aO func124 ?_;simp only[go_sem,f124,e1];repeat'(with_reducible apply sp<;>intro h<;>simp only[h,go_sem,e2,e4])
 all_goals
 refine jn (nodes p) (λi=>[(4,iS i)]) (λ_ l=>vB (HI l)) ab rfl rfl ?_ (λi x l b d w a=>?_);.simp only[go_sem,HI]
 .have e3:=KL x.cond ai;cases x;simp only[ae.cond]at e3;simp only[go_sem,b,d,e3,HI,ae.cells,ae.cond]at a|-;apply sp<;>intro h<;>simp only[h,w,a,go_sem]
def HH:List Guard->Bool|[]=>V|g::l=>bif g.cond.HM then HH l else C
theorem aqH(s:Sl Guard)(d:s.l.length<1100000)(e:∀g∈s.l,g.cond.nn<1100000):CC 129 [CW s] (vB (HH s.l)):=by
 refine aO func129 ?_;simp only[go_sem,f129];refine jn _ (λi=>[(3,iS i)]) (λ_ l=>vB (HH l)) ab rfl rfl ?_ (λi x l b c w a=>?_);.simp only[go_sem,HH]
 .have e3:=KL x.cond ai;simp only[go_sem,b,c,e3,HH,Guard.d,Guard.cells]at a|-;apply sp<;>intro h<;>simp only[h,w,a,go_sem]
def Bj:List Expr->Bool|[]=>V|e::l=>bif e.HM then Bj l else C
theorem aqF(q:cA)(n:q.pat.nn<1100000)(c:∀p∈nodes q.pat,p.cond.nn<1100000)(r:q.jG.l.length<1100000)(g:∀e∈q.jG.l,e.nn<1100000):∃b,CC 83 [.agg q.cells] (vB b):=by
 have e1:=ard q.pat n c;generalize(bif(bif aA 150 (.ofNat (q.pat.mR 150))then V else aA 60 (.ofNat q.pat.dep))then C else HI (nodes q.pat))=b at e1;refine⟨bif(bif(bif(bif(bif aA 20 (.ofNat q.vars.l.length)then V else aA 30 (.ofNat q.key.l.length))then V else aA 20 (.ofNat q.jG.l.length))then V else aA 80 (.ofNat q.name.length))then V else !b)then C else Bj q.jG.l,?_⟩;refine aO func83 ?_;simp only[go_sem,f83,cA.cells];repeat'(with_reducible apply sp<;>intro h<;>simp only[h,go_sem,e1])
 all_goals
 refine jn q.jG.l (λi=>[(3,iS i)]) (λ_ l=>vB (Bj l)) ab rfl rfl ?_ (λi x l d f w a=>?_);.simp only[go_sem,Bj]
 .have e3:=KL x ai;simp only[go_sem,d,f,e3,Bj]at a|-;apply sp<;>intro h<;>simp only[h,w,a,go_sem]
mutual
def HF : ae -> Int
  | .mk op _ args _ _ _ _ _ => KR args (bif aj op 0 then 1 else 0)
def KR : bq -> Int -> Int
  | [], s => s
  | p :: l, s => KR l (dN .i64 (kh s (HF p)))
end
theorem TF:∀p:ae,p.nn<1200000->CC 85 [.agg p.cells] (vI (HF p))|.mk j g args t v c n o,e=>by simp only[ae.nn]at e;have hr:∀x∈args,CC 85 [.agg x.cells] (vI (HF x)):=λx a=>TF x (by have:=ae.rV args _ a;omega);clear TF;refine aO func85 ?_;simp only[go_sem,f85,ae.cells,HF];apply sp<;>intro h<;>simp only[h,go_sem];all_goals
 refine sV args (_:Int) (λi s=>[(4,iS i),(3,zS s)]) (λ_ l s=>vI (KR l s)) (λ_ _ _=>True) (by have:=ae.mH args;omega) rfl trivial rfl (λs _=>?_) (λi x l s d a w _ f=>?_);.simp only[go_sem,KR]
 .have e1:=hr x (du a);have b:=f (dN .i64 (kh s (HF x))) trivial;simp only[go_sem]at b;simp only[go_sem,d,a,w,e1,b,KR]termination_by p=>pB p decreasing_by simp_wf;have:=pr a;omega
def f5S(s:Stat):Bool:=bif(bif(bif aA 12 (.ofNat s.guards.l.length)then !aA 64 (.ofNat s.guards.l.length)else C)then V else aA 70 (.ofNat s.guards.l.length))then V else !HH s.guards.l
def f5E(e:Edge):Bool:=bif(bif(bif(bif(bif !e.cond.HM then V else aA 8 (.ofNat e.jN.l.length))then V else aA 12 (.ofNat e.opens.l.length))then V else aA 12 (.ofNat e.ma.l.length))then V else aA 12 (.ofNat e.inside.l.length))then V else aA 12 (.ofNat e.ka.l.length)
def CP(b:Bool):gh->Bool|[]=>b|e::l=>bif f5E e then C else bif Bj e.jN.l then CP b l else C
def HJ(b:Bool):List Stat->Bool|[]=>b|e::l=>bif f5S e then C else HJ b l
theorem ajJ{a}(l:List a)(k:Nat):∃m,(l.take k).length=m/\m<=k/\m<=l.length/\(decide (m<l.length)=C\/decide (m<l.length)=V/\aA (.ofNat m) (.ofNat k)=C)/\∀i x,i<m->(l.take k)[i]?=J x->l[i]?=J x/\(i<l.length)=True/\aA (.ofNat i) (.ofNat k)=V:=by refine⟨_,rfl,?_,?_,?_,λi x b h=>?_⟩<;>grind[gL]
theorem ev5(a:dJ)(n:ri a):∃b,CC 86 [.agg a.cells] (vB b):=by
 have D:=n.s;have B:=n.e;refine⟨HJ (CP (bif aA 20 (.ofNat a.mM.l.length)then C else !aA 40 (.ofNat a.oN.l.length)) (a.oN.l.take 60)) (a.mM.l.take 30),?_⟩;obtain⟨m,r,E,F,s,A⟩:=ajJ a.mM.l 30;obtain⟨k,k1,k2,k3,k4,k5⟩:=ajJ a.oN.l 60;have mk:∀m,aA (.ofNat m) (.ofNat 30)=aA (.ofNat m) 30:=λ_=>rfl;have u:∀m,aA (.ofNat m) (.ofNat 60)=aA (.ofNat m) 60:=λ_=>rfl;rw[mk]at s;rw[u]at k4;refine aO func86 ?_;simp only[go_sem,f86,dJ.cells];refine jn (a.mM.l.take 30) (λi=>[(3,iS i)]) (λ_ l=>vB (HJ (CP (bif aA 20 (.ofNat a.mM.l.length)then C else !aA 40 (.ofNat a.oN.l.length)) (a.oN.l.take 60)) l)) ab rfl rfl ?_ (λi x l c o w g=>?_)
 . rw[r];rcases s with e|⟨e,p⟩;case' inl=>simp only[go_sem,e,HJ]
   case' inr=>simp only[go_sem,e,p,HJ]
   all_goals
   refine jn (a.oN.l.take 60) (λi=>[(4,iS i)]) (λ_ l=>vB (CP (bif aA 20 (.ofNat a.mM.l.length)then C else !aA 40 (.ofNat a.oN.l.length)) l)) ab rfl rfl ?_ (λi x l c o w g=>?_)
   . rw[k1];rcases k4 with e|⟨e,p⟩;case' inl=>simp only[go_sem,e,CP]
     case' inr=>simp only[go_sem,e,p,CP]
     all_goals apply sp<;>intro h<;>simp only[h,go_sem]
   . rw[k1]at c;obtain⟨f,c,d⟩:=k5 i x (mI c) o;have d:aA (.ofNat i) 60=V:=d;have ok:=n.x x (du f);have e1:=KL x.cond (by have:=ok.c;omega);simp only[go_sem,c,f,d,e1,CP,f5E,Edge.d,Edge.cells]at g|-;repeat'(with_reducible apply sp<;>intro h<;>simp only[h,go_sem])
     all_goals
     rw[CA];refine jn x.jN.l (λj=>[(6,iS j)]) (λ_ m=>vB (bif Bj m then CP (bif aA 20 (.ofNat a.mM.l.length)then C else !aA 40 (.ofNat a.oN.l.length)) l else C)) (by have:=ok.k;omega) rfl rfl ?_ (λj y m t z v q=>?_);.simp only[go_sem,w,g,Bj]
     .have e2:=KL y (by have:=ok.e y (du z);omega);simp only[go_sem]at q;simp only[go_sem,t,z,e2,Bj];apply sp<;>intro h<;>simp only[h,v,q,go_sem]
 .rw[r]at c;obtain⟨f,c,d⟩:=A i x (mI c) o;have d:aA (.ofNat i) 30=V:=d;have ok:=n.g x (du f);have e1:=aqH x.guards ok.1 ok.2;simp only[go_sem]at e1;simp only[go_sem,c,f,d,HJ,f5S,Stat.d]at g|-;repeat'(with_reducible apply sp<;>intro h<;>simp only[h,f,w,e1,g,Stat.d,go_sem])
theorem aGz:List.take 15 (p.cells++x::l)=p.cells++[x]:=by have:p.cells++x::l=(p.cells++[x])++l:=aP;grind[List.take_left',ae.dE]
theorem aFV:List.drop 15 (p.cells++x::l)=l:=by have:p.cells++x::l=(p.cells++[x])++l:=aP;grind[List.drop_left',ae.dE]
attribute[go_sem]aGz aFV
theorem ev4(t:Sl b9)(q:cA)(a:dJ)(g:t.l.length<1100000)(n:q.pat.nn<1100000)(c:∀p∈nodes q.pat,p.cond.nn<1100000)(r:q.jG.l.length<1100000)(j:∀e∈q.jG.l,e.nn<1100000)(i:ri a):∃b,CC 60 [.agg (eJ.cells ⟨t,q,a⟩)] (vB b):=by have e1:=ac6 t g;obtain⟨d,e2⟩:=aqF q n c r j;have e3:=aqG q.pat n c;have e4:=TF q.pat ab;obtain⟨f,e5⟩:=ev5 a i;refine⟨bif Ex t.l.length t.l then bif d then bif(bif aA 9 (.ofNat (q.pat.mR 9))then C else Ey (nodes q.pat))then bif !aA 4 (HF q.pat)then f else C else C else C else C,?_⟩;generalize Ex t.l.length t.l=k at*;generalize(bif aA 9 (.ofNat (q.pat.mR 9))then C else Ey (nodes q.pat))=l at*;refine aO func60 ?_;simp only[go_sem,dJ.cells,cA.cells]at e1 e2 e3 e4 e5;simp only[go_sem,f60,eJ.cells,cA.cells,dJ.cells,e1];repeat'(with_reducible apply sp<;>intro h<;>simp only[h,e2,e3,e4,e5,go_sem])
def Edge.same(e d:Edge):Bool:=aj e.var d.var&&(aj e.ty d.ty&&(e.cond.same d.cond&&(lx Expr.same e.jN.l d.jN.l&&(lx aj e.opens.l d.opens.l&&(lx aj e.ma.l d.ma.l&&(lx aj e.inside.l d.inside.l&&lx Nd e.ka.l d.ka.l))))))
theorem adZ:cf.fk 255=3/\cf.iw 255=V:=by constructor<;>kernel_rfl
theorem ad3:cf.fk 353=3/\cf.iw 353=V:=by constructor<;>kernel_rfl
theorem ad4:cf.fk 355=3/\cf.iw 355=V:=by constructor<;>kernel_rfl
theorem ad5:cf.fk 357=3/\cf.iw 357=V:=by constructor<;>kernel_rfl
theorem ac7(s t:Sl Expr)(l:s.l.length<1000000000)(a:∀e∈s.l,e.nn<1100000):CC 256 [uB s,uB t,.func 255 [] []] (vB (lx Expr.same s.l t.l)):=by have h:=KO (α:=Expr) (d:=λe=>.agg e.cells) (c:=Expr.cells) (q:=Expr.same) 255 [] [] .empty s.nl t.nl s.l t.l l (λx y b=>.inr ⟨adZ.1,adZ.2,by simp only[jJ,kD,cg,DV.pure,Expr.pure,go_sem],Es x y (by have:=a x b;omega)⟩) (.inr (.inr (.inr (.inl rfl)))) (λx=>⟨rfl,Expr.dE x⟩);rw[<-Expr.rH,<-Expr.rH]at h;exact h
def Edge.eqv(e d:Edge):Bool:=aj e.src d.src&&(aj e.dst d.dst&&e.same d)
theorem aru(e d:Edge)(a:xA e):CC 353 [e.d,d.d] (vB (e.eqv d)):=by have e1:=Es e.cond d.cond (by have:=a.c;omega);have e2:=HD e.opens d.opens (by have:=a.o;omega);have e3:=HD e.ma d.ma (by have:=a.p;omega);have e4:=HD e.inside d.inside (by have:=a.i;omega);have e5:=ac8 e.ka d.ka (by have:=a.l;omega);have e6:=ac7 e.jN d.jN (by have:=a.k;omega) a.e;simp only[go_sem]at e2 e3 e4 e5 e6;refine aO func353 ?_;simp only[f353,List.append];simp only[go_sem,Edge.d,Edge.cells,Edge.eqv,Edge.same];repeat'(with_reducible apply sp<;>intro h<;>simp only[h,e1,e2,e3,e4,e5,e6,go_sem])
def Guard.same(g h:Guard):Bool:=aj g.scope h.scope&&(aj g.ty h.ty&&(aj g.var h.var&&g.cond.same h.cond))
theorem arw(g k:Guard)(a:g.cond.nn<1100000):CC 357 [g.d,k.d] (vB (g.same k)):=by have e1:=Es g.cond k.cond ab;refine aO func357 ?_;simp only[go_sem,f357,Guard.d,Guard.cells,Guard.same];repeat'(with_reducible apply sp<;>intro h<;>simp only[h,e1,go_sem])
theorem arv(s t:Stat)(b:s.guards.l.length<1100000)(h:∀g∈s.guards.l,g.cond.nn<1100000):CC 355 [s.d,t.d] (vB (lx Guard.same s.guards.l t.guards.l)):=by have e1:=KO (d:=Guard.d) (c:=Guard.cells) (q:=Guard.same) 357 [] [] .empty s.guards.nl t.guards.nl s.guards.l t.guards.l ab (λx y a=>.inr ⟨ad5.1,ad5.2,by simp only[jJ,kD,cg,go_sem],arw x y (h x a)⟩) (.inr (.inr (.inl rfl))) (λx=>⟨rfl,Guard.dE x⟩);refine aO func355 ?_;simp only[go_sem,f355,Stat.d,e1]
def Stat.same(s t:Stat):Bool:=lx Guard.same s.guards.l t.guards.l
def dJ.same(a b:dJ):Bool:=aj a.vars b.vars&&(aj a.scopes b.scopes&&(lx Edge.eqv a.oN.l b.oN.l&&lx Stat.same a.mM.l b.mM.l))
theorem aq7(a b:dJ)(e:ri a):CC 299 [.agg a.cells,.agg b.cells] (vB (a.same b)):=by have i:=e.s;have g:=e.e;have e1:=KO (d:=Edge.d) (c:=Edge.cells) (q:=Edge.eqv) 353 [] [] .empty a.oN.nl b.oN.nl a.oN.l b.oN.l ab (λx y f=>.inr ⟨ad3.1,ad3.2,by simp only[jJ,kD,cg,go_sem],aru x y (e.x x f)⟩) (.inl rfl) (λx=>⟨rfl,Edge.dE x⟩);have e2:=KO (d:=Stat.d) (c:=λs=>[CW s.guards]) (q:=Stat.same) 355 [] [] .empty a.mM.nl b.mM.nl a.mM.l b.mM.l ab (λx y f=>.inr ⟨ad4.1,ad4.2,by simp only[jJ,kD,cg,go_sem],arv x y (e.g x f).1 (e.g x f).2⟩) (.inr (.inl rfl)) (λx=>⟨rfl,rfl⟩);refine aO func299 ?_;simp only[go_sem,f299,dJ.cells,dJ.same];repeat'(with_reducible apply sp<;>intro h<;>simp only[h,e1,e2,go_sem])
mutual
def ae.same : ae -> ae -> Bool
  | .mk op _ args ty var scope s cond, .mk A _ x H r t R T => aj op A && (aj ty H && (aj var r && (aj scope t && (aj s R && (cond.same T && ae.Ax args x)))))
def ae.Ax : bq -> bq -> Bool
  | [], [] => V
  | x :: s, y :: a => x.same y && ae.Ax s a
  | _, _ => C
end
theorem ae.Jt:∀s a:bq,ae.Ax s a=lx ae.same s a|[],[]=>rfl|x::s,y::a=>by simp only[ae.Ax,lx,ae.Jt s a];cases x.same y<;>rfl|[],_::_=>rfl|_::_,[]=>rfl
theorem ad1:cf.fk 217=3/\cf.iw 217=V:=by constructor<;>kernel_rfl
mutual
def ae.cn : ae -> Nat
  | .mk _ _ args _ _ _ _ cond => 1 + cond.nn + ae.gi args
def ae.gi : bq -> Nat
  | [] => 0
  | p :: l => p.cn + ae.gi l
end
theorem ae.Te:∀(l:bq)x,x∈l->x.cn<=ae.gi l
 |y::l,x,h=>by
  rcases Cp.1 h with rfl|h;.simp only[ae.gi];omega
  .have:=ae.Te l x h;simp only[ae.gi];omega
theorem ae.acq:∀l:bq,l.length<=ae.gi l|[]=>bS _|.mk _ _ _ _ _ _ _ _::l=>by have:=ae.acq l;simp only[ae.gi,ae.cn,dH];omega
theorem OQ:∀p b:ae,p.cn<100000000->CC 217 [.agg p.cells,.agg b.cells] (vB (p.same b))|.mk i l args j v s n o,.mk A M g H r t R T,f=>by simp only[ae.cn]at f;have hr:∀x y,x∈args->CC 217 [.agg x.cells,.agg y.cells] (vB (x.same y)):=λx y a=>OQ x y (by have:=ae.Te args _ a;omega);clear OQ;have e1:=KO (α:=ae) (d:=λe=>.agg e.cells) (c:=ae.cells) (q:=ae.same) 217 [] [] .empty l M args g (by have:=ae.acq args;omega) (λx y a=>.inr ⟨ad1.1,ad1.2,by simp only[jJ,kD,cg,DV.pure,ae.pure,go_sem],hr x y a⟩) (.inr (.inr (.inr (.inr rfl)))) (λx=>⟨rfl,ae.dE x⟩);rw[<-ae.rH,<-ae.rH,<-ae.Jt]at e1;have e2:=Es o T ab;refine aO func217 ?_;simp only[f217];simp only[go_sem,ae.cells,ae.same];repeat'(with_reducible apply sp<;>intro h<;>simp only[h,e1,e2,go_sem])termination_by p=>pB p decreasing_by simp_wf;have:=pr a;omega
section
variable{P:aH}{u:iK}{t:an}{D:ao}{os:List (Nat×aM)}{o:Nat×aM}{I:Nat}
theorem aAD(h:AM.isAgg P t=J V):fF P u t ⟨D,o::os⟩ I=(aW P t).bind λn=>bif bt (I+n) D.length then J (.dv (.agg ((D.drop I).take n)) .no,⟨D,(o::os).map λx=>(x.1,oC x.2)⟩)else Z:=by grind[fF]
end
theorem aJl{e}:oC (.ex e)=.ty e:=rfl
theorem aJo{e}:oC (.ty e)=.ty e:=rfl
theorem aJn:oC .no=.no:=rfl
attribute[go_sem]aAD aJl aJo aJn
abbrev vPa(p:ae):bh:=.val (.dv (.agg p.cells) .no) .empty
def nK(k:Int)(p q:ae):ae:=match p with|.mk _ _ _ ty var scope s cond=>.mk k V [q] ty var scope s cond
abbrev zE:Expr:=.mk 0 V [] 0 0 0 0 0 []
def qt(n:Bool)(k:Int):bq->ae|[p]=>p|l=>.mk k n l 0 0 0 0 zE
theorem OT(n:Bool)(k:Int)(l:bq)(h:l.length<1100000):CC 348 [iD k,bw n (ae.bn l) 75 14] (vPa (qt n k l)):=by refine aO func348 ?_;match l with
 |[p]=>have e1:aj (.ofNat 1) 1=V:=rfl;simp only[go_sem,f348,qt,ae.bn,e1]|[]=>have e1:aj 0 1=C:=rfl;simp only[go_sem,f348,qt,ae.bn,e1];rfl|p::q::l=>
 have a:aj (.ofNat (p::q::l).length) 1=C:=by rfl
 simp only[dH]at a;simp only[go_sem,f348,qt,a];rfl
structure Pr where
 cJ:Edge
 done:Bool
 rest:ae
def Pr.cells(p:Pr):ao:=p.cJ.cells++([.bool p.done]++p.rest.cells)
theorem aqt{b c d:DV}:List.take 13 (e.cells++a::b::c::d::f::l)=e.cells++[a,b,c,d,f]:=by have:e.cells++a::b::c::d::f::l=(e.cells++[a,b,c,d,f])++l:=aP;grind[List.take_left',Expr.dE]
theorem apU{b c d:DV}:List.drop 13 (e.cells++a::b::c::d::f::l)=l:=by have:e.cells++a::b::c::d::f::l=(e.cells++[a,b,c,d,f])++l:=aP;grind[List.drop_left',Expr.dE]
attribute[go_sem]aqt apU
def nX(r:Pr)(n:Bool)(l:bq):Pr:=match l with|[]=>r|l=>⟨r.cJ,C,bif r.done then qt n 1 l else qt n 1 (r.rest::l)⟩
theorem alM{new:ao}(h:l.length+new.length<1000):fu 75 14 152 (.ay l 75 14) (.ex 75) new=J (.ay (l++new) 75 14,.ex 75):=by grind[p8,bm]
def Pr.d(r:Pr):DV:=.agg r.cells
def DD(p:ae)(r:Pr):List Pr:=bif r.done then[r,⟨r.cJ,C,.mk 4 V [p] 0 0 0 0 zE⟩]else[⟨r.cJ,C,.mk 8 V [r.rest,p] 0 0 0 0 zE⟩]
theorem aJL{n:Nat}(a:n<=l.length)(h:n<1200000):oD PP 73 (.ay l 75 14) (J (.int .i64 (.ofNat n))) Z Z=J (.ay (l.drop n) 75 14,.no):=by simp_all[oD,xl,nW,nw]
def L5(r:Pr)(a:bq)(k:Nat):bq:=a.take k++((bif r.done then[]else[r.rest])++a.drop (k+1))
def Qi(r:Pr)(a:bq)(k:Nat):Pr:=⟨r.cJ,C,qt C 3 (L5 r a k)⟩
end Go.VM
