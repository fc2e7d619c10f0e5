/- Proved: what functions of the program answer, within the sizes that each theorem names. -/
import Derived.Test.YtnjhghmdcoaceaaGreatDoorRows
import Derived.Test.YtnjhghmdcoaceaaGreatDoorAj
open Option renaming some->J,none->Z
open Bool renaming true->V,false->C
open Go renaming TypeId->an,Oper->aB,Value->aD,Program->aH,Operand->aK,World->aT,Code->bM,FuncId->bY,Frame->dm,lone->fh,IntKind->fT
open Go.Builtin renaming zeroCells->nX,firstCells->oQ,append_->tz,copy_->zg
open Go.Lib renaming compact->tB
open Go.Proofs.Tryz renaming prog->eD
open Int renaming ofNat->du,add->jX
open List renaming replicate->mr,range->qm,range'->vp
open Nat renaming beq->aw,ble->bz,blt->cw,mul->fA,add->iw
open UInt8 renaming toNat->ko
noncomputable section
set_option maxRecDepth 100000
set_option maxHeartbeats 4000000
set_option linter.all false
namespace Go.VM
open Go Go.AM
variable{n0:Int}{cs:List aD}{l:List bq}{w:Nat}{t:an}{ds:ao}{a:bq}{p:cC}{s:dR}
theorem aox(x:aC):x.cmp x=0:=by have:=Hf.neg x x;omega
theorem SW:∀{a b:List aC},qn a->qn b->(∀z,z∈a↔z∈b)->a=b
 |[],[],_,_,_=>rfl|[],y::_,_,_,h=>absurd ((h y).2 fU) lV|x::_,[],_,_,h=>absurd ((h x).1 fU) lV|x::a,y::b,n,o,h=>by
  obtain⟨d,i⟩:=be.1 n;obtain⟨f,j⟩:=be.1 o;have r:x=y:=by
   rcases CI.1 ((h x).1 fU)with e|k;.exact e
   . rcases CI.1 ((h y).2 fU)with e|m;.exact e.symm
     .have q:=f x k;have s:=d y m;have:=Hf.neg x y;omega
  subst r;have g:∀{l:List aC}{z:aC},(∀y∈l,x.cmp y<0)->z∈l->z≠x:=λp c e=>by subst e;have:=p _ c;rw[aox]at this;omega
  rw[SW i j λz=>⟨λc=>(CI.1 ((h z).1 (jy _ c))).resolve_left (g d c),λc=>(CI.1 ((h z).2 (jy _ c))).resolve_left (g f c)⟩]
theorem xd(o:bq)(w:Nat):(jJ o w).length=w:=by simp[jJ]
theorem Jo{x:bq}(h:x∈jJ (qa a l) w):∃i,i<w/\x=⟨a.marks,⟨V,(kp l l.length).filter λx:aC=>decide (x.key.rB (w:Int)=(i:Int))⟩⟩:=by obtain⟨i,b,rfl⟩:=au.1 h;rw[v6];exact⟨i,aU,rfl⟩
theorem Ga{i:Nat}(h:i<w):(jJ (qa a l) w)[i]?=J ⟨a.marks,⟨V,(kp l l.length).filter λx:aC=>decide (x.key.rB (w:Int)=(i:Int))⟩⟩:=by unfold jJ;rw[jZ,Kf h,gM];rw[v6];rfl
theorem aF3(a:bq)(w:Nat)(b:uw l)(f:a∈l)(n:(kp l l.length).length<=256):uw (jJ (qa a l) w):=by
 refine⟨λo h=>?_,λo h=>?_,λo h=>?_,λo h x c=>?_,λi o g x c=>?_⟩;.grind[Jo,SX,Hy]
 .grind[Jo]
 .obtain⟨i,_,rfl⟩:=Jo h;exact b.m a f
 .obtain⟨i,_,rfl⟩:=Jo h;obtain⟨o,d,e⟩:=Et.1 (bl.1 c).1;exact b.k o d x e
 grind[xd,Ga]
theorem abj(f:1<=w/\w<=8)(c:uw l)(p:uw (jJ (qa a l) w)):kp (jJ (qa a l) w) w=kp l l.length:=by
 have j:=xd (qa a l) w;have h:=Hy p;have b:=λz=>(Et:z∈kp (jJ (qa a l) w) (jJ (qa a l) w).length↔_);rw[j]at h b;refine SW h (Hy c) λz=>?_;rw[b];constructor;.grind[Jo]
 .intro d;obtain⟨o,e,k⟩:=Et.1 d;obtain⟨_,v,s⟩:=c.k o e z k;obtain⟨q,g⟩:=m6 _ w (UD _ v s).1 ab;have q3:(z.key.rB w).toNat<w:=ab;refine⟨_,dw (Ga q3),bl.2 ⟨d,?_⟩⟩;grind
theorem back(h:uw l){i:Nat}{o:bq}(b:l[i]?=J o):(kp l l.length).filter (λx:aC=>decide (x.key.rB (l.length:Int)=(i:Int)))=o.keys.l:=by
 refine SW (SX (Hy h)) (h.a o ai) λz=>?_;rw[bl,Et,jB];constructor;.rintro⟨⟨d,w,a⟩,f⟩;obtain⟨j,c⟩:=List.getElem?_of_mem w;have e:=h.w j d c z a;grind
 .exactλa=>⟨ai,h.w i o b z a⟩
open Proofs.Tryz
structure aa2(p:cC)(s:dR):Prop where
 hp:Bc p
 hf:p.ok
 hs:zu s
theorem F4(a:Bd p n0 s){o:bq}(d:o∈s.os.l):aa4 (vP p.types (v7 p) o.marks) o/\(∀k:Sl aC,k.l.length<=256->(∀x∈k.l,vP p.types (v7 p) o.marks x=0)->qn k.l->ji (vP p.types (v7 p) o.marks) o.marks k=0)/\o.marks.l=AA s:=by obtain⟨i,c⟩:=List.getElem?_of_mem d;have b:=a.p i o c;have h:=b.e;rw[a.n]at h;exact⟨(Tm h).1,(Tm h).2,b.k⟩
theorem aF2(h:Bc p)(g:zu s)(k:aj n0 0=V->∀q∈p.qs.l,pK (uh p q))(c:Bd p n0 s):uw s.os.l:=by
 have d:∀x∈v7 p,pK x/\mA x.query:=λx b=>by obtain⟨q,d,rfl⟩:=au.1 b;exact⟨k (by rw[c.n];rfl) q d,h.q q d⟩
 refine⟨λo a=>(F4 c a).1.a,λo a=>(F4 c a).1.k,λo a=>(g.o o a).1.m,λo a x b=>?_,λi o j x b=>(c.p i o j).w x b⟩;obtain⟨e,l,f⟩:=g.o o a;exact⟨(f x b).1,(VI _ _ _ x d (by unfold v7;rw[fO];exact h.l) e.m (e.e x b)).1 (by rw[(F4 c a).1.f x b];rfl),(f x b).2⟩
theorem ayW{a b:Sl Int}(h:a.l=b.l)(c:1<=a.l.length):bW a=bW b:=by
 obtain⟨n,l⟩:=a;obtain⟨m,k⟩:=b;cases h;rcases l with _|⟨x,l⟩;.grind
 rfl
theorem azE{t:Sl b9}{p:List eJ}{a b:Sl Int}(h:bW a=bW b)(x:aC):vP t p a x=vP t p b x:=by
 have:lN t p a=lN t p b:=by grind[lN]
 unfold vP;rw[this]
def pD(s:dR)(a:bq)(w:Nat):dR:=⟨s.num,s.rs,⟨C,jJ (qa a s.os.l) w⟩⟩
theorem aI6(g:a∈s.os.l)(j:1<=w/\w<=8)(c:zu s)(n:(kp s.os.l s.os.l.length).length<=256):zu (pD s a w):=by
 refine⟨c.r,by show(jJ _ _).length<_;grind[xd],λo h=>?_⟩;obtain⟨i,_,rfl⟩:=Jo h;obtain⟨d,e,_⟩:=c.o a g;have m:∀{f:aC->Bool}{x:aC},x∈(kp _ _).filter f->∃o∈s.os.l,x∈o.keys.l:=λb=>Et.1 (bl.1 b).1;refine⟨⟨d.m,ai,λx b=>?_⟩,⟨e.1,ai,λx b=>?_⟩,λx b=>?_⟩;.obtain⟨o,h,k⟩:=m b;exact(c.o o h).1.e x k
 .obtain⟨o,h,k⟩:=m b;exact(c.o o h).2.1.2.2 x k
 .obtain⟨o,h,k⟩:=m b;exact(c.o o h).2.2 x k
theorem aI5(k:a∈s.os.l)(q:1<=w/\w<=8)(O:uw s.os.l)(h:Bd p n0 s)(n:(kp s.os.l s.os.l.length).length<=256):Bd p n0 (pD s a w):=by
 refine⟨h.n,h.u,h.U,h.v,h.r,by show 1<=(jJ _ _).length/\(jJ _ _).length<=_;grind[xd],λj o b=>?_⟩;have I:j<w:=by rw[<-xd _ w];exact(am.1 b).1
 have b:(jJ _ w)[j]?=J o:=b;rw[Ga I]at b;cases b;obtain⟨e,f,c⟩:=F4 h k;refine⟨?_,c,λx d=>?_⟩;.rw[h.n];refine f _ ai (λx d=>?_) (SX (Hy O));obtain⟨o,m,l⟩:=Et.1 (bl.1 d).1;obtain⟨g,_,i⟩:=F4 h m;rw[azE (ayW (c.trans i.symm) e.m.1)];exact g.f x l
 .show x.key.rB (du (jJ _ _).length)=_;grind[xd]
attribute[local congr]bB bC
def K7(p:cC)(o:bq):Bool:=match ev PP cf (.call 33 [p.d,o.d] .no .empty)with|some (.val (.dv (.bool b) _) _)=>b|_=>C
theorem att(p:cC)(o:bq)(a:p.ok)(h:o.sz):CC 33 [p.d,o.d] (vB (K7 p o)):=by obtain⟨r,e,x,rfl⟩:=W2 p o a h;grind[K7]
theorem atr{o:bq}(h:K7 p o=V)(b:o.sz):o.keys.l.length<=5:=by
 rcases Nat.lt_or_ge 5 o.keys.l.length with a|a
 . have k5:aA 5 (.ofNat o.keys.l.length)=V:=by grind[fX]
   have e:CC 33 [p.d,o.d] (vB C):=by refine aO func33 ?_;simp only[go_sem,f33,cC.d,cC.cells,bq.d,bq.cells,cm,rj,bW,jr];repeat'(with_reducible apply sp<;>intro h<;>simp only[h,k5,go_sem])
   grind[K7]
 omega
theorem aqo:dj cf (bp f9 4)=V:=by rfl
def WC:bq:=⟨⟨V,[]⟩,⟨V,[]⟩⟩
theorem aF1:WC.sz:=⟨ft,ft,λk h=>by cases h⟩
theorem Vt(p:cC)(s:Sl bq)(n:p.ok)(u:s.l.length<1100000)(a:∀o∈s.l,o.sz):cV (λr=>∃b,r=vB b/\(b=V->∀o∈s.l,o.keys.l.length<=5)) (ev PP cf (.call 9 [p.d,mf s] .no .empty)):=by
 have e0:=λo a=>att p o n a;have e1:=e0 WC aF1;have hd:=aqo;simp only[bp,opsOf,f9,go_sem]at hd;simp only[cC.d,cC.cells,bq.d,bq.cells,cm,bW,jr]at e0;have e1:CC 33 [.agg [bK p.types.nl (p.types.l.map b9.d) 68 2,rj p.qs],.agg [.nl,.nl]] (vB (K7 p WC)):=e1;have no:∀{b:Bool}{P:Prop},b=C->b=V->P:=λh k=>ai;refine fM func9 ?_;simp only[go_sem,f9,cC.d,cC.cells,cm,mf];refine Ja s.l (λi=>[(5,iS i)]) (λi=>∀j o,j<i->s.l[j]?=J o->o.keys.l.length<=5) ab rfl (λ_ _ h=>absurd h (Hs _)) (λI=>?_) (λi x e d w I q=>?_);.simp only[go_sem];apply cX<;>intro h<;>simp only[h,e1,go_sem,bw];all_goals grind[List.getElem?_of_mem]
 . have m:=dw d;have e2:=e0 x (a x m);obtain⟨v,B,z⟩:=a x m;simp only[go_sem]at q;simp only[go_sem,e];apply cX<;>intro h;rotate_left
   . have g:aA 20 (.ofNat s.l.length)=V:=by grind[fX]
     simp only[h,g,go_sem,bw];grind
   simp only[h,d,hd,bq.d,bq.cells,bW,jr,e2,go_sem];apply cX<;>intro h;rotate_left;.simp only[h,go_sem,bw];simp_all
   have t:=atr h (a x m);simp only[h,go_sem];rw[CS];refine ub x.keys.l (λk=>[(6,iS k)]) ab rfl ?_ (λk y l f A c=>?_);.simp only[go_sem,e,d,w,bq.d,bq.cells,bW,jr];grind
   . have e3:=Wk y.e.held (z y (dw f)).2.1;simp only[de]at e3;simp only[go_sem]at c;simp only[go_sem,e,d,l,f,bq.d,bq.cells,aC.d,aC.cells,bW,jr,de,e3];apply cX<;>intro h;.simp only[h,go_sem,A,c]
     .simp only[h,go_sem,bw];simp_all
theorem aqi:dj cf (bp f86 6)=V:=by rfl
theorem aqg:dj cf (bp f57 6)=V:=by rfl
theorem apX:dj cf (bp f32 6)=V:=by rfl
theorem aqk:dj cf (bp f8 6)=V:=by rfl
theorem aH7(v:Sl Int)(c:v.l.length<1000000000):CC 86 [bW v,bW v] (vB V):=by
 have hd:=aqi;simp only[bp,opsOf,f86,go_sem]at hd;refine aO func86 ?_;simp only[go_sem,f86,bW,nJ];refine gC v.l (λi=>[(5,iS i)]) (λ_ _=>vB _) ab rfl rfl ?_ (λi x l a b w h=>?_);.simp only[go_sem]
 .simp only[go_sem]at h;simp only[go_sem,a,b,w,hd,nJ,h]
theorem aq3{a b c d:Int}:gw PP 50 104 (.agg [.int .i64 a,.int .i64 b]) (.agg [.int .i64 c,.int .i64 d])=J (bif aj a c then aj b d else C):=by rw[EE underlying104 aU];simp only[go_sem,zO,String.reduceBEq];grind
theorem amG{a b c d:Int}:gu PP .neq 104 (.agg [.int .i64 a,.int .i64 b]) (.agg [.int .i64 c,.int .i64 d])=J (.bool (!bif aj a c then aj b d else C)):=by simp[HE,aq3]
theorem aH6(t:kb)(a:t.bs.l.length<1000000000)(d:t.ps.l.length<1000000000):CC 57 [t.d,t.d] (vB V):=by
 have hd:=aqg;have e:=aH7 t.bs a;simp only[bp,opsOf,f57,go_sem]at hd;simp only[bW]at e;refine aO func57 ?_;simp only[go_sem,f57,kb.d,kb.cells,bW,nu,nJ,e];refine gC t.ps.l (λi=>[(5,iS i)]) (λ_ _=>vB _) ab rfl rfl ?_ (λi x l b c w h=>?_);.simp only[go_sem]
 .simp only[go_sem]at h;simp only[go_sem,b,c,w,hd,gS.d,gS.cells,amG,nJ,h]
theorem aH3(r:dA)(h:r.t.bs.l.length<1000000000)(a:r.t.ps.l.length<1000000000):CC 31 [r.d,r.d] (vB V):=by have e:=aH6 _ h a;simp only[kb.d,kb.cells,bW,nu]at e;refine aO func31 ?_;simp only[go_sem,f31,dA.d,dA.cells,bW,nu,nJ,e]
def same(a b:List bq):Prop:=a.length=b.length/\∀(i:Nat)(x y:bq),a[i]?=J x->b[i]?=J y->x.marks.l=y.marks.l/\x.keys.l=y.keys.l
theorem aH4(a b:Sl bq)(q:a.l.length<1000000000)(h:same a.l b.l)(z:∀o∈b.l,o.sz):CC 32 [mf a,mf b] (vB V):=by
 have hd:=apX;obtain⟨c,k⟩:=h;simp only[bp,opsOf,f32,go_sem]at hd;refine aO func32 ?_;simp only[go_sem,f32,mf,c,nJ];refine gC a.l (λi=>[(5,iS i)]) (λ_ _=>vB _) ab rfl rfl ?_ (λi x l p f w j=>?_);.simp only[go_sem,c]
 .obtain⟨y,g⟩:∃y,b.l[i]?=J y:=⟨_,dC ai⟩;obtain⟨⟨n,l1⟩,⟨m,l2⟩⟩:=x;obtain⟨k1,k2⟩:=k i _ y f g;have d:(i<b.l.length)=True:=il ai;obtain rfl:l1=_:=k1;obtain rfl:l2=_:=k2;have e:=WP y n m ai;simp only[bq.d,bq.cells,bW,jr]at e;simp only[go_sem,c]at j;simp only[go_sem,d,f,g,w,hd,c,bq.d,bq.cells,bW,jr,e,j]
theorem hU(s:dR)(a b:Sl bq)(j:s.rs.l.length<1100000/\∀r∈s.rs.l,r.t.bs.l.length<1100000/\r.t.ps.l.length<1100000)(g:a.l.length<1000000000)(h:same a.l b.l)(z:∀o∈b.l,o.sz):CC 8 [(dR.mk s.num s.rs a).d,(dR.mk s.num s.rs b).d] (vB V):=by
 have hd:=aqk;have e:=aH4 a b g h z;simp only[bp,opsOf,f8,go_sem]at hd;simp only[mf]at e;refine aO func8 ?_;simp only[go_sem,f8,dR.d,dR.cells,mO,mf,nJ];refine gC s.rs.l (λi=>[(5,iS i)]) (λ_ _=>vB _) ab rfl rfl ?_ (λi x l f c w d=>?_);.simp only[go_sem,e]
 .obtain⟨k,m⟩:=j.2 x (dw c);have e1:=aH3 x ab ab;simp only[dA.d,dA.cells,bW,nu]at e1;simp only[go_sem]at d;simp only[go_sem,f,c,w,hd,dA.d,dA.cells,bW,nu,e1,d]
theorem aH1(r:dA):cV BT (ev PP cf (.call 11 [r.d] .no .empty)):=by refine fM func11 ?_;simp only[go_sem,f11,dA.d,dA.cells,bW,nu];repeat'(with_reducible apply cX<;>intro h<;>simp only[h,go_sem,bw,tY])
def Ql(r:dA):Bool:=match ev PP cf (.call 11 [r.d] .no .empty)with|some (.val (.dv (.bool b) _) _)=>b|_=>C
theorem amB(r:dA):CC 11 [r.d] (vB (Ql r)):=by obtain⟨a,e,x,rfl⟩:=aH1 r;grind[Ql]
theorem Vu(p:cC)(s:dR)(d:p.ok)(a:zu s):cV (λr=>∃b,r=vB b/\(b=V->∀o∈s.os.l,o.keys.l.length<=5)) (ev PP cf (.call 4 [p.d,s.d] .no .empty)):=by
 obtain⟨r,e9,b,rfl,e⟩:=Vt p _ d a.l λo c=>(a.o o c).2.1;have C2:=HV 11 [] [] .empty s.rs.nl s.rs.l (by have:=a.r.1;omega) (λr hr=>.inr ⟨rfl,rfl,by simp[cj,dA.pure],amB r⟩) (.inr (.inr (.inr (.inl rfl)))) (λ_=>⟨rfl,rfl⟩);have R:(bK s.rs.nl (s.rs.l.map _) 46 6).pure=V:=oI WJ;simp only[cC.d,cC.cells,cm,mf]at e9;refine fM func4 ?_;simp only[go_sem,f4,cC.d,cC.cells,cm,dR.d,dR.cells,mO,mf,e9,C2,R];rcases b with _|_;.simp only[go_sem,bw];grind
 simp only[go_sem,C2,R];repeat'(with_reducible apply cX<;>intro h<;>simp only[h,C2,R,go_sem,bw])<;>grind
structure Su(p:cC)(n0:Int):Prop where
 h:Bc p
 k:aj n0 0=V->∀q∈p.qs.l,pK (uh p q)t:∃t,t.pure=V/\∃o g,CC 12 [p.d] (.val (.tp [(t,o),iO n0]) g)c:∀o,Oh o->∃g,CC 39 [p.d,o.d] (.val (.dv (iD (vY p n0 o)) .no) g)
theorem To(E:Su p n0)(d:zu s):cV (λr=>∃n g,r=.val (.dv (iD n) .no) g/\(n=0↔Bd p n0 s)) (ev PP cf (.call 5 [p.d,s.d] .no .empty)):=by
 refine Vi p s n0 d E.t E.c λo f z=>?_;have c:aj n0 0=V:=by cases j:aj n0 0<;>simp_all[aj,vY]
 have a:∀x∈v7 p,pK x/\mA x.query:=λx h=>by obtain⟨q,a,rfl⟩:=au.1 h;exact⟨E.k c q a,E.h.q q a⟩
 obtain⟨b,i,e⟩:=d.o o f;unfold vY at z;rw[c,aR]at z;exactλx h=>⟨(VI _ _ _ x a (by unfold v7;rw[fO];exact E.h.l) b.m (b.e x h)).1 (by rw[(Tm z).1.f x h];rfl),(e x h).2⟩
theorem RA(E:Su p n0)(b:zu s)(h:Bd p n0 s)(O:uw s.os.l)(d:s.os.l[0]?=J a)(f:1<=w/\w<=8)(n:(kp s.os.l s.os.l.length).length<=256):∃g,CC 7 [p.d,s.d,iD (.ofNat w)] (.val (.tp [((pD s a w).d,.no),iO 0]) g):=by obtain⟨r,e5,i,g8,rfl,c⟩:=To E b;rw[c.2 h]at e5;obtain⟨r,e,g,rfl⟩:=Va p s w a d f b h.r h.c.2 ⟨_,e5⟩ O;grind[fX,pD,dR.d,dR.cells,mf,OW]
theorem aI7{b:bq}{v:Nat}(e:1<=w/\w<=8)(O:uw s.os.l)(P:uw (jJ (qa a s.os.l) w))(h:(pD s a w).os.l[0]?=J b):pD (pD s a w) b v=pD s a v:=by have h:(jJ _ w)[0]?=J b:=h;rw[Ga ab]at h;cases h;have c:=xd (qa a s.os.l) w;have d:=abj e O P;show dR.mk _ _ ⟨_,jJ ⟨_,⟨_,kp (jJ _ w) (jJ _ w).length⟩⟩ v⟩=dR.mk _ _ _;rw[c,d];rfl
theorem aJD(l:List bq):same l l:=⟨rfl,λi x y h a=>ai⟩
theorem aJC(c:Bd p n0 s)(O:uw s.os.l)(d:a∈s.os.l):same (jJ (qa a s.os.l) s.os.l.length) s.os.l:=by refine⟨xd _ _,λi x y h b=>?_⟩;rw[Ga (am.1 b).1]at h;cases h;exact⟨(F4 c d).2.2.trans (F4 c ai).2.2.symm,back O b⟩
theorem Vq:aW PP 5=J 1:=by rfl
theorem ag5:bN PP 5=J C:=by rfl
def ayj{t:St}{d:ah Tmp}{x:aK}{i l e s o:Nat}:Ak PP t d x i (J (.array l e)) (.lp s o)=(aW PP e).bind λn=>bif cw i l then(look t.lb s).bind λ_=>aG t d (.lp s (o+i*n))else Z:=rfl
def U2:dQ .i64 (jX 0 0)=0:=rfl
theorem Vx(p:cC)(s:dR)(n m:Nat)(hn:n<256)(d:m<256)(h:aa2 p s):cV (λr=>∃g,r=.val (.dv (.bool V) .no) g) (ev PP cf (.call 3 [p.d,s.d,.agg [.int .u8 (.ofNat n),.int .u8 (.ofNat m)]] .no .empty)):=by
 obtain⟨n0,k1,UG,k5⟩:=W1 p h.hp;have E:Su p n0:=⟨h.hp,k1,UG,k5⟩;obtain⟨r,e4,b,rfl,hb⟩:=Vu p s h.hf h.hs;obtain⟨r,e5,n8,g8,rfl,Vb⟩:=To E h.hs;have e:∀n:Nat,gu PP .rem 5 (.int .u8 (.ofNat n)) (.int .u8 8)=J (.int .u8 (.ofNat (n%8))):=λn=>by rfl
 have z:∀n:Nat,dQ .i64 (.ofNat (n%8))=.ofNat (n%8):=λn=>AS ab;have F:∀n:Nat,dQ .i64 (jX (.ofNat (n%8)) 1)=.ofNat (n%8+1):=λn=>vn ab;have N:1<=n%8+1/\n%8+1<=8:=ab;have y:1<=m%8+1/\m%8+1<=8:=ab;have f:=e n;have i:=e m;have B:=z n;have D:=z m;have G:=F n;have H:=F m;clear e z F;generalize n%8+1=w at*;generalize m%8+1=v at*;rcases b with _|_;.simp only[cC.d,cC.cells,cm,dR.d,dR.cells,mO,mf]at e4;refine fM func3 ?_;simp only[go_sem,f3,cC.d,cC.cells,cm,dR.d,dR.cells,mO,mf,e4,bw];grind
 rcases Q:aj n8 0 with _|_;.simp only[cC.d,cC.cells,cm,dR.d,dR.cells,mO,mf]at e4 e5;refine fM func3 ?_;simp only[go_sem,f3,cC.d,cC.cells,cm,dR.d,dR.cells,mO,mf,e4,e5,Q,bw];grind
 obtain rfl:=tJ Q;have c:=Vb.1 rfl;have O:=aF2 h.hp h.hs k1 c;have hl:=c.c;obtain⟨a,j⟩:∃a,s.os.l[0]?=J a:=⟨_,dC ab⟩;have d:=dw j;have L:(kp s.os.l s.os.l.length).length<=256:=by
  have:=V8 ((s.os.l.take s.os.l.length).map λo=>o.keys.l) [] 5 λk hk=>by grind
  grind[kp]
 have A:∀u,1<=u/\u<=8->zu (pD s a u)/\Bd p n0 (pD s a u)/\uw (pD s a u).os.l/\(∃b,(pD s a u).os.l[0]?=J b/\∀t,pD (pD s a u) b t=pD s a t)/\(kp (pD s a u).os.l (pD s a u).os.l.length).length<=256:=λu x=>by have P:=aF3 a u O d L;refine⟨aI6 d x h.hs L,aI5 d x O c L,P,⟨_,Ga ab,λt=>aI7 x O P (Ga ab)⟩,?_⟩;have h1:=xd (qa a s.os.l) u;show(kp (jJ _ _) (jJ _ _).length).length<=_;grind[abj]
 obtain⟨I,K,R,⟨b1,S,T⟩,U⟩:=A w N;obtain⟨M,W,X,⟨b2,Y,B5⟩,B6⟩:=A v y;obtain⟨g1,e1⟩:=RA E h.hs c O j N L;obtain⟨g2,e2⟩:=RA E I K R S y U;obtain⟨g3,e3⟩:=RA E h.hs c O j y L;obtain⟨g4,e6⟩:=RA E M W X Y hl B6;rw[T]at e2;rw[B5]at e6;obtain⟨r,e7,n9,g9,rfl,l⟩:=To E I;obtain rfl:=l.2 K;have e8:=hU s (pD s a v).os (pD s a v).os h.hs.r (by show(jJ _ _).length<_;grind[xd]) (aJD _) λo q=>(M.o o q).2.1;have e9:=hU s (pD s a s.os.l.length).os s.os h.hs.r (by show(jJ _ _).length<_;grind[xd]) (aJC c O d) λo q=>(h.hs.o o q).2.1;have cW:(jJ (qa a s.os.l) w).length=w:=xd _ _;have L8:((jJ (qa a s.os.l) w).length=w)=True:=il cW;have hR:(bK s.rs.nl (s.rs.l.map dA.d) 46 6).pure=V:=oI WJ;have P:∀u,cj ((jJ (qa a s.os.l) u).map bq.d)=V:=λu=>WI;simp only[pD,cC.d,cC.cells,cm,dR.d,dR.cells,mO,mf,OW]at e1 e2 e3 e4 e5 e6 e7 e8 e9;refine fM func3 ?_;simp only[go_sem,f3,cC.d,cC.cells,cm,dR.d,dR.cells,mO,mf,e4,e5,f,i,B,D,G,H,e1,e2,e3,e6,e7,e8,e9,hR,P,L8,Vq,ag5,ayj,underlying30,U2,nJ,bw];grind
theorem R1:rD HC:=⟨ft,ft,λs h=>absurd h lV,λs h=>absurd h lV⟩
theorem aHh(h:Bc p)(t:p.types.l.length<1100000):p.ok:=by
 refine⟨t,by have:=h.l;omega,λq a=>?_,?_⟩;.have:=h.q q a;exact jh p.types q HC t this.p.a this.p.b this.r this.e R1
 .refine jh p.types Ng HC t ft (λq a=>?_) ft (λe b=>absurd b lV) R1;have:nodes Ng.pat=[Ng.pat]:=rfl;rw[this]at a;rw[CJ.1 a];decide
structure Lx where
 c:aJ
 e:an
 p:Pl
def lK(L:List Lx):aY:=λid=>L[id]?.map λx=>(x.c,x.e)
def lP(L:List Lx):bc:=λid=>L[id]?.map Lx.p
structure Hg(W:aT)(Y:bc)(x:Lx):Prop where
 n:x.c.length=x.p.len
 o:∃cs fz e1,W.heap[x.p.ba]?=J (.cells cs e1 fz)/\cs.size=x.p.oO/\x.p.base+x.p.len<=x.p.oO/\∀(i:Nat)(a:AV),x.c[i]?=J a->∃c,cs[x.p.base+i]?=J c/\VR Y a c
 s:∀a,a∈x.c->a.aV=V
def Good(W:aT)(L:List Lx):Prop:=0<L.length/\∀(i:Nat)x,L[i]?=J x->Hg W (lP L) x
def N0:cu:=λ_=>Z
theorem Mq(L M:List Lx):Ext (lP L) (lP (L++M)):=λid p h=>by unfold lP at h|-;cases a:L[id]? with|none=>rw[a]at h;simp at h|some x=>rw[a]at h;rw[nZ (am.1 a).1,a];exact h
theorem QC(L M:List Lx):bo (lK L) (lK (L++M)):=λid p h=>by unfold lK at h|-;cases a:L[id]? with|none=>rw[a]at h;simp at h|some x=>rw[a]at h;rw[nZ (am.1 a).1,a];exact h
theorem Hg.mono{W:aT}{b d:bc}{x:Lx}(h:Ext b d)(k:Hg W b x):Hg W d x:=by obtain⟨cs,f,e1,e,g,j,l⟩:=k.o;exact⟨k.n,⟨cs,f,e1,e,g,j,λi a m=>let⟨c,g1,g2⟩:=l i a m;⟨c,g1,g2.mono h⟩⟩,k.s⟩
def bR(W:aT)(s:ao)(c:List aD):Prop:=(∀d,d∈s->d.aV=V)/\∀L,Good W L->∃M v,Good W (L++M)/\bF (lK (L++M)) N0 s v/\aZ (lP (L++M)) v c
section
variable{W:aT}
theorem bR.nil:bR W [] []:=⟨aP,λL h=>⟨[],[],by simpa using h,a09,a04 _⟩⟩
theorem bR.append{e:ao}{b:List aD}(h:bR W ds cs)(k:bR W e b):bR W (ds++e) (cs++b):=by refine⟨λd hd=>(CH.1 hd).elim (h.1 d) (k.1 d),λL a=>?_⟩;obtain⟨M,v,g1,g2,g3⟩:=h.2 L a;obtain⟨N,b,k1,k2,k3⟩:=k.2 _ g1;refine⟨M++N,v++b,?_⟩;rw[<-uu];exact⟨k1,(g2.mono (QC _ _) (a00 _)).append k2,(g3.mono (Mq _ _)).append k3⟩
theorem bR.one{d:DV}{c:aD}(a:AV)(s:d.aV=V)(h:∀K,DR K N0 d a)(k:∀e,VR e a c):bR W [d] [c]:=⟨by simpa using s,λL b=>⟨[],[a],by simpa using b,a06 (h _) a09,a05 (k _) (a04 _)⟩⟩
def bR.int(k:fT)(n:Int):bR W [.int k n] [.int k n]:=bR.one (.int k n) rfl (λ_=>.int k n) λ_=>.int k n
def bR.str(s:ByteArray):bR W [.str (s.data.toList.map ko)] [.string s]:=bR.one (.str _) rfl (λ_=>.str _) λ_=>.str _ s rfl
def bR.nl:bR W [.nl] [.slice Z 0 0]:=bR.one .bH rfl (λ_=>.nl) λ_=>.bH
theorem bR.len(h:bR W ds cs){L:List Lx}(a:Good W L):ds.length=cs.length:=by obtain⟨M,v,_,g2,g3⟩:=h.2 L a;exact g2.1.trans g3.1
theorem bR.at{e:ao}(o n:Nat)(h:bR W ds ((cs.drop o).take n))(k:bR W e (cs.drop (o+n))):bR W (ds++e) (cs.drop o):=by have:=h.append k;rw[<-Eh,Hl]at this;exact this
def a03:=@bR.at
theorem bR.end(o:Nat)(h:cs.length=o):bR W [] (cs.drop o):=by rw[List.drop_of_length_le ab];exact bR.nil
def a15:=@bR.end
theorem bR.row{f:Nat->ao}{g:Nat->List aD}:∀n,(∀i,i<n->bR W (f i) (g i))->bR W ((qm n).flatMap f) ((qm n).flatMap g)|0,_=>bR.nil|n+1,h=>by rw[List.range_succ,List.flatMap_append,List.flatMap_append];refine(bR.row n λi a=>h i ab).append ?_;simpa using h n (Hr n)
theorem ZY{g:Type}{f:Nat->List g}{k:Nat}:∀(n:Nat),(∀i,i<n->(f i).length=k)->((qm n).flatMap f).length=n*k/\∀i j,i<n->j<k->((qm n).flatMap f)[i*k+j]?=(f i)[j]?
 |0,_=>⟨aP,λi j h=>ab⟩|n+1,h=>by
  obtain⟨a,b⟩:=ZY n λi c=>h i ab;rw[List.range_succ,List.flatMap_append,List.flatMap_singleton];refine⟨by rw[gR,a,h n (Hr n),Nat.succ_mul],λi j c d=>?_⟩;by_cases e:i<n;.rw[nZ,b i j e d];rw[a];calc i*k+j<i*k+k:=ab
   _=(i+1)*k:=(Nat.succ_mul i k).symm
   _<=n*k:=lW k e
  .obtain rfl:i=n:=ab;rw[ql ab,a];congr 1;omega
theorem Good.add{L:List Lx}{x:Lx}(h:Good W L)(k:Hg W (lP L) x):Good W (L++[x]):=by
 refine⟨aP,λi y a=>?_⟩;by_cases e:i<L.length;.rw[nZ e]at a;exact(h.2 i y a).mono (Mq _ _)
 . rw[ql ab]at a;have:i-L.length=0:=by
    rcases Nat.eq_zero_or_pos (i-L.length)with z|z;.exact z
    .rw[ce (by simp;omega)]at a;simp at a
   rw[this]at a;cases a;exact k.mono (Mq _ _)
theorem bR.RQ{e s l m:Nat}{a:Addr}{f:Nat->ao}{g:Nat->List aD}{u:ao}(p:Pl){w:Array aD}{F:Nat×Nat}{E:an}(y:0<s)(I:l<=m)(hp:W.heap[p.ba]?=J (.cells w E F))(ht:w.size=p.oO)(O:p.len=l*s)(hc:p.base+m*s<=p.oO)(Y:m≠0->a=⟨p.ba,p.base,Z⟩)(B:∀i,i<l->(g i).length=s/\∀j,j<s->w[p.base+(i*s+j)]?=(g i)[j]?)(z:∀i,i<l->bR W (f i) (g i))(A:u.length=l)(t:∀i x,u[i]?=J x->x.flat=f i):bR W [.ay u e s] [.slice (J a) l m]:=by
 refine⟨by simp[DV.aV],λL H=>?_⟩;obtain⟨M,v,g1,g2,g3⟩:=(bR.row l z).2 L H;have hd:∀i,i<l->(f i).length=s:=λi n=>((z i n).len H).trans (B i n).1;obtain⟨r1,r2⟩:=ZY l λi n=>(B i n).1;obtain⟨d1,d2⟩:=ZY l hd;have hle:l*s<=m*s:=lW _ I;have X:v.length=l*s:=by rw[<-g2.1,d1]
 have D:∀k,k<l*s->∃i j,i<l/\j<s/\k=i*s+j:=λk q=>⟨k/s,k%s,(Nat.div_lt_iff_lt_mul y).2 q,Nat.mod_lt _ y,by rw[Nat.mul_comm];exact(Nat.div_add_mod k s).symm⟩;have K:Hg W (lP (L++M)) ⟨v,e,p⟩:=by
   refine⟨by rw[O];exact X,⟨w,F,E,hp,ht,(by show p.base+p.len<=p.oO;rw[O];omega),λk b o=>?_⟩,λb o=>?_⟩
   . have q:k<l*s:=by rw[<-X];exact(am.1 o).1
     obtain⟨i,j,n,r,rfl⟩:=D k q;obtain⟨c,Q,R⟩:=g3.get o;exact⟨c,by rw[(B i n).2 j r,<-r2 i j n r];exact Q,R⟩
   .obtain⟨d,d3,d4⟩:=g2.mem o;exact d4.aV ((bR.row l z).1 d d3)
 have G:=g1.add K;rw[uu]at G;have hid:(L++(M++[(⟨v,e,p⟩:Lx)]))[(L++M).length]?=J ⟨v,e,p⟩:=by rw[<-uu,ql (bT _)];simp
 have T:lK (L++(M++[(⟨v,e,p⟩:Lx)])) (L++M).length=J (v,e):=by unfold lK;rw[hid];rfl
 have U:lP (L++(M++[(⟨v,e,p⟩:Lx)])) (L++M).length=J p:=by unfold lP;rw[hid];rfl
 have S:bo (lK (L++M)) (lK (L++(M++[(⟨v,e,p⟩:Lx)]))):=by rw[<-uu];exact QC _ _
 refine⟨M++[⟨v,e,p⟩],[.sl (L++M).length 0 u.length Z s],G,a06 (.ay u e s _ 0 Z v T y (by rw[A,X];omega) (λk q=>by simp at q) (λi x n=>?_) (λi x j d b n r o=>?_)) a09,a05 ?_ (a04 _)⟩
 . have N:i<l:=by rw[<-A];exact(am.1 n).1
   rw[t i x n];exact⟨hd i N,(z i N).1⟩
 . have N:i<l:=by rw[<-A];exact(am.1 n).1
   rw[t i x n]at r;have P:j<s:=by rw[<-hd i N];exact(am.1 r).1
   rw[kG]at o;exact(g2.2 _ d b (by rw[d2 i j N P];exact r) o).mono S (a00 _)
 .rw[A];exact .sl _ 0 l Z s p a m U I ab (λk q=>by simp at q) (λ_=>ab) (λh=>by rw[Y h,vq]) y ab
end
open Go.Proofs.YtnjhghmdcoaceaaGreatDoor.Rows (uptoBulk uptoBulkAll)
section
variable{H:Type}{enc:an×aD->H}{W:aT}
def Rd(e:an×aD->H)(W:aT)(n:Nat)(t:an){b:Type}(c:b->ao)(d:b->Nat):Prop:=∀cs x,DataW.trod e PP W 0 (λ_=>V) V n t cs=J x->∃a:b,d a<=uptoBulk x.1/\bR W (c a) cs
theorem aIh{n:Nat}(h:PP.underlying t=J (.int .i64)):Rd enc W n t (λz:Int=>[iD z]) λ_=>1:=λcs x a=>by obtain⟨z,rfl,rfl,_⟩:=DataW.trod_int h a;exact⟨z,by simp[uptoBulk],bR.int _ _⟩
theorem aIi{n:Nat}(h:PP.underlying t=J .string):Rd enc W n t (λs:aE=>[.str s]) λs=>s.length+1:=λcs x a=>by obtain⟨s,rfl,rfl,_⟩:=DataW.trod_string h a;exact⟨s.data.toList.map ko,by simp[uptoBulk],bR.str s⟩
theorem Ml{g:Type}{Q:Nat->g->Prop}:∀(n:Nat),(∀i,i<n->∃a,Q i a)->∃l:List g,l.length=n/\∀(i:Nat)a,l[i]?=J a->Q i a
 |0,_=>⟨[],rfl,λi a h=>by simp at h⟩|n+1,h=>by
  obtain⟨l,d,j⟩:=Ml n λi f=>h i ab;obtain⟨a,k⟩:=h n (Hr n);refine⟨l++[a],by simp[d],λi b c=>?_⟩;by_cases e:i<l.length;.rw[nZ e]at c;exact j i b c
  .have f:=(am.1 c).1;simp at f;obtain rfl:i=n:=ab;rw[ql ab,d,Nat.sub_self]at c;cases c;exact k
theorem TP{c:Type}{μ:c->Nat}:∀(l:List c)(s:List (DataW H)),l.length=s.length->(∀(i:Nat)a y,l[i]?=J a->s[i]?=J y->μ a<=uptoBulk y)->(l.map μ).sum<=uptoBulkAll s|[],_,_,_=>aP|a::l,[],h,_=>by simp at h|a::l,y::s,h,k=>by have f:=k 0 a y rfl rfl;have g:=TP l s (by simpa using h) λi b z d e=>k (i+1) b z (by simpa using d) (by simpa using e);simp only[gb,List.sum_cons,uptoBulkAll];omega
theorem Qd{b n:Nat}{a:Addr}{d:Type}{q:List aD->ah d}{y:d}(h:(W.cells? b a n).bind q=J y):∃cs,W.cells? b a n=J cs/\q cs=J y:=by cases c:W.cells? b a n with|none=>rw[c]at h;simp at h|some cs=>rw[c]at h;exact⟨cs,rfl,h⟩
theorem wB{a:Addr}(h:a.spot=Z)(n i:Nat):(a.add n).add i=⟨a.block,a.off+(n+i),Z⟩:=by obtain⟨b,o,s⟩:=a;simp only at h;subst h;unfold Addr.add;by_cases e:n=0<;>by_cases f:i=0<;>simp[e,f,A9]
theorem ach{a:Addr}{v:aD}(h:W.cell? a=J v):∃cs e1 f,W.heap[a.block]?=J (.cells cs e1 f)/\a.spot=Z/\cs[a.off]?=J v:=by
 unfold World.cell? at h;split at h;.rename_i c e1 f d;cases b:a.spot with|none=>rw[b]at h;exact⟨c,e1,f,d,rfl,by simpa using h⟩|some s=>rw[b]at h;simp at h
 .simp at h
theorem an1{c:Nat}(e:Nat)(h:0<c):c*e=(c-1)*e+e:=by cases c with|zero=>omega|succ k=>rw[Nat.succ_mul];rfl
theorem ZT{n:Nat}{e:an}{I:Type}{c:I->ao}{L:I->Nat}{esz:Nat}{d:I->DV}(hu:PP.underlying t=J (.slice e))(hc:PP.cellsOf e=esz)(he:0<esz)(hd:∀a,(d a).flat=c a)(h0:∃cs e1 B,W.heap[0]?=J (.cells cs e1 B))(h:Rd enc W n e c L):Rd enc W (n+1) t (λs:Sl I=>[bK s.nl (s.l.map d) e esz]) λs=>(s.l.map L).sum+1:=λcs x D=>by
 rcases DataW.trod_slice hu D with⟨rfl,rfl⟩|⟨a,len,r,q,rest,m,hm,rfl,rfl,_,P,_,iQ,h1,K,_⟩;.exact⟨⟨V,[]⟩,by simp[uptoBulk],bR.nl⟩
 . obtain rfl:n=m:=ab;obtain⟨hr,K⟩:=K rfl;rw[hc]at h1 K;have H:∀i,i<len->∃b:I,∃w y,W.cells? 0 (a.add (i*esz)) esz=J w/\q[i]?=J y/\L b<=uptoBulk y.1/\bR W (c b) w:=λi F=>by have U:i<q.length:=ab;have:=h1 i F;rw[dC U]at this;obtain⟨w,v,h4⟩:=Qd this;obtain⟨b,N,O⟩:=h _ _ h4;exact⟨b,w,_,v,dC U,N,O⟩
   have S:∀k,k<r->∃X,W.cells? 0 (a.add (k*esz)) esz=J X:=λk hk=>by
     by_cases e:k<len;.obtain⟨_,w,_,v,_⟩:=H k e;exact⟨w,v⟩
     .have:=K (k-len) ab;have kN:k-len<rest.length:=ab;rw[dC kN,show len+(k-len)=k by omega]at this;obtain⟨w,v,_⟩:=Qd this;exact⟨w,v⟩
   obtain⟨l,T,R⟩:=Ml len H;refine⟨⟨C,l⟩,?_,?_⟩
   . have:=TP (μ:=L) l (q.map (·.1)) (by simp[T,iQ]) λi b y A hy=>by obtain⟨_,z,_,E,N,_⟩:=R i b A;rw[jZ,E]at hy;cases hy;exact N
     simp only[uptoBulk];omega
   . have Fp:bK C (l.map d) e esz=.ay (l.map d) e esz:=by cases l<;>rfl
     show bR W [bK C (l.map d) e esz] _;rw[Fp];have Y:∀i,i<len->∃b,l[i]?=J b:=λi F=>⟨_,dC ab⟩;suffices hs:∃(p:Pl)(cs:Array aD)(B:Nat×Nat)(e1:an),W.heap[p.ba]?=J (.cells cs e1 B)/\cs.size=p.oO/\p.len=len*esz/\p.base+r*esz<=p.oO/\(r≠0->a=⟨p.ba,p.base,Z⟩)by
       obtain⟨p,cs,B,e1,p1,p2,p3,p4,p5⟩:=hs;refine bR.RQ (f:=λi=>((l[i]?).map c).getD []) (g:=λi=>(W.cells? 0 (a.add (i*esz)) esz).getD []) p he P p1 p2 p3 p4 p5 (λi F=>?_) (λi F=>?_) (by simp[T]) λi x D=>?_;.obtain⟨b,A⟩:=Y i F;obtain⟨w,y,v,_,_,_⟩:=R i b A;obtain⟨_,G,Dh⟩:=World.cells?_some v;rw[v];refine⟨G,λj hj=>?_⟩;have M:=p5 ab;have:=Dh j hj;rw[wB (by rw[M])]at this;unfold World.cell? at this;rw[show a.block=p.ba by rw[M],show a.off=p.base by rw[M]]at this;simp only[p1]at this;simpa using this
       .obtain⟨b,A⟩:=Y i F;obtain⟨w,y,v,_,_,O⟩:=R i b A;simp only[A,v,gM,Eo];exact O
       .rw[jZ]at D;cases A:l[i]? with|none=>rw[A]at D;simp at D|some b=>rw[A]at D;cases D;simp[hd]
     rcases Nat.eq_zero_or_pos r with E|E;.obtain⟨cs,e1,B,v⟩:=h0;have Q:len=0:=ab;subst Q;exact⟨⟨0,0,cs.size,0⟩,cs,B,e1,v,rfl,(Nat.zero_mul esz).symm,by rw[E,Nat.zero_mul];exact mw _,λh=>absurd E h⟩
     . obtain⟨c0,q0⟩:=S 0 E;obtain⟨_,l0,f0⟩:=World.cells?_some q0;have e0:=f0 0 he;rw[dC ab,Nat.zero_mul]at e0;rw[show(a.add 0).add 0=a by simp[Addr.add]]at e0;obtain⟨cs,e1,B,g1,g2,_⟩:=ach e0;obtain⟨X,qk⟩:=S (r-1) ab;obtain⟨_,lk,fk⟩:=World.cells?_some qk;have ek:=fk (esz-1) ab;rw[dC ab,wB g2]at ek;obtain⟨rQ,e1',Ux,k1,_,k3⟩:=ach ek;simp only at k1 k3;rw[g1]at k1;obtain⟨rfl,_,_⟩:=Obj.cells.inj (bE k1);have:=(ap.1 k3).1;have hm:=an1 esz E;refine⟨⟨a.block,a.off,cs.size,len*esz⟩,cs,B,e1,g1,rfl,rfl,?_,λ_=>?_⟩;.show a.off+r*esz<=cs.size;omega
       .obtain⟨b,o,s⟩:=a;simp only at g2;subst g2;rfl
end
end Go.VM
namespace Go.VM
open Go Go.AM
open Go.Proofs.YtnjhghmdcoaceaaGreatDoor.Rows (uptoBulk uptoBulkAll)
def lT(t:an):ah (List (an×Nat×Nat)):=match PP.underlying t with|some (.struct s)=>J (s.toList.map λf=>(f.type,f.offset,PP.cellsOf f.type))|_=>Z
section
variable{H:Type}{enc:an×aD->H}{W:aT}
def Fl(e:an×aD->H)(W:aT)(n:Nat):List (an×Nat×Nat)->List aD->Nat->Prop|[],_,_=>True|(t,o,k)::l,c,b=>∃y a,DataW.trod e PP W 0 (λ_=>V) V n t ((c.drop o).take k)=J y/\b=uptoBulk y.1+a/\Fl e W n l c a
theorem aew{n:Nat}{c:List aD}:∀(s:List Field)(a:List (DataW H×List MemPlace)),a.length=s.length->(∀(i:Nat)f,s[i]?=J f->DataW.trod enc PP W 0 (λ_=>V) V n f.type ((c.drop f.offset).take (PP.cellsOf f.type))=a[i]?)->Fl enc W n (s.map λf=>(f.type,f.offset,PP.cellsOf f.type)) c (uptoBulkAll (a.map (·.1)))|[],_,_,_=>trivial|f::s,[],h,_=>by simp at h|f::s,x::a,h,k=>⟨x,_,k 0 f rfl,rfl,aew s a (by simpa using h) λi g b=>k (i+1) g (by simpa using b)⟩
theorem pA{n:Nat}{t:an}{l:List (an×Nat×Nat)}{c:List aD}{x:DataW H×List MemPlace}(h:lT t=J l)(o:DataW.trod enc PP W 0 (λ_=>V) V n t c=J x):∃m b,n=m+1/\uptoBulk x.1=b+1/\c.length=PP.cellsOf t/\Fl enc W m l c b:=by
 unfold lT at h;split at h;.rename_i s k;cases h;obtain⟨p,m,a,rfl,d,e,g⟩:=DataW.trod_struct k o;exact⟨m,_,a,rfl,d,aew s.toList p (by simpa using e) λi f j=>g i f (by simpa using j)⟩
 .simp at h
theorem Nh{t:an}{a:Type}{c:a->ao}{b:a->Nat}:Rd enc W 0 t c b:=λs x h=>by simp[DataW.trod]at h
def va{t e:an}{b:Type}{c:b->ao}{f:b->Nat}{z:Nat}{d:b->DV}(u:PP.underlying t=J (.slice e))(k:PP.cellsOf e=z)(m:0<z)(l:∀a,(d a).flat=c a)(j:∃g e1 i,W.heap[0]?=J (.cells g e1 i))(h:∀n,Rd enc W n e c f):∀n,Rd enc W n t (λs:Sl b=>[bK s.nl (s.l.map d) e z]) λs=>(s.l.map f).sum+1|0=>Nh|n+1=>ZT u k m l j (h n)
theorem u3:PP.underlying 3=J (.int .i64):=aL
theorem u9:PP.underlying 9=J .string:=aL
theorem c3:PP.cellsOf 3=1:=aL
theorem aKo:lT 55=J [(3,0,1),(3,1,1),(9,2,1)]:=aL
theorem aKp:lT 59=J [(3,0,1),(57,1,1),(3,2,1),(3,3,1),(3,4,1),(55,5,3)]:=aL
theorem aKq:lT 62=J [(3,0,1),(60,1,1),(3,2,1),(3,3,1),(3,4,1),(3,5,1),(59,6,8)]:=aL
theorem aKt:lT 65=J [(9,0,1),(3,1,1)]:=aL
theorem aKs:lT 68=J [(9,0,1),(66,1,1)]:=aL
theorem aKn:lT 70=J [(9,0,1),(3,1,1)]:=aL
theorem aKr:lT 73=J [(9,0,1),(71,1,1),(41,2,1),(62,3,14),(57,17,1)]:=aL
theorem aon:PP.cellsOf 55=3:=aL
theorem acz:PP.cellsOf 59=8:=aL
theorem PL:PP.cellsOf 62=14:=aL
theorem PE:PP.cellsOf 65=2:=aL
theorem PH:PP.cellsOf 68=2:=aL
theorem acw:PP.cellsOf 70=2:=aL
theorem PI:PP.cellsOf 73=18:=aL
theorem Expr.Q0:∀l:List Expr,(l.map Expr.nn).sum=Expr.bP l|[]=>rfl|e::l=>by rw[Expr.bP,<-Expr.Q0 l];rfl
mutual
def ae.mu : ae -> Nat
  | .mk _ _ l _ _ _ _ c => ae.As l + c.nn + 1
def ae.As : bt -> Nat
  | [] => 0
  | e :: l => e.mu + ae.As l
end
theorem ae.ahw:∀l:bt,(l.map ae.mu).sum=ae.As l|[]=>rfl|e::l=>by rw[ae.As,<-ae.ahw l];rfl
variable(h0:∃cs e1 fz,W.heap[0]?=J (.cells cs e1 fz))
def iX(n:Nat):Rd enc W n 3 (λz:Int=>[iD z]) λ_=>1:=aIh u3
def Jt(n:Nat):Rd enc W n 9 (λs:aE=>[.str s]) λs=>s.length+1:=aIi u9
theorem aIc(n:Nat):Rd enc W n 55 (λv:Int×Int×aE=>[iD v.1,iD v.2.1,.str v.2.2]) λ_=>1:=λs x a=>by obtain⟨m,b,_,l,h,y,i,q0,_,o,j,q,_,r,k,e,_,_⟩:=pA aKo a;obtain⟨z,_,p⟩:=iX _ _ _ q0;obtain⟨f,_,c⟩:=iX _ _ _ q;obtain⟨g,_,d⟩:=Jt _ _ _ e;exact⟨(z,f,g),by dsimp only at*;omega,a03 0 1 p (a03 1 1 c (a03 2 1 d (a15 3 (h.trans aon))))⟩
include h0
theorem ZS:∀n,Rd enc W n 59 Expr.cells Expr.nn/\Rd enc W n 57 (λs:Sl Expr=>[uI s]) λs=>Expr.bP s.l+1
 |0=>⟨Nh,Nh⟩|n+1=>by
  obtain⟨i,g⟩:=ZS n;refine⟨λc x h=>?_,?_⟩;.obtain⟨m,b,L,K,l,N,D,q0,e0,O,E,u,e1,P,F,v,e2,Q,G,q3,e3,R,H,q4,e4,S,I,q5,e5,_⟩:=pA aKp h;obtain rfl:n=m:=ab;obtain⟨w,_,p⟩:=iX _ _ _ q0;obtain⟨f,M,j⟩:=g _ _ u;obtain⟨y,_,k⟩:=iX _ _ _ v;obtain⟨A,_,o⟩:=iX _ _ _ q3;obtain⟨B,_,q⟩:=iX _ _ _ q4;obtain⟨z,_,r⟩:=aIc _ _ _ q5;exact⟨.mk w f.nl f.l y A B z.1 z.2.1 z.2.2,by dsimp only at*;simp only[Expr.nn];omega,a03 0 1 p (a03 1 1 j (a03 2 1 k (a03 3 1 o (a03 4 1 q (a03 5 3 r (a15 8 (l.trans acz)))))))⟩
  .have:=ZT (t:=57) (esz:=8) (d:=λe:Expr=>.agg e.cells) aL acz ft (λ_=>rfl) h0 i;intro c x h;obtain⟨a,k1,k2⟩:=this c x h;dsimp only at k1 k2;rw[Expr.Q0]at k1;rw[<-Expr.rR]at k2;exact⟨a,k1,k2⟩
end
end Go.VM
namespace Go.VM
open Go Go.AM
open Go.Proofs.YtnjhghmdcoaceaaGreatDoor.Rows (uptoBulk uptoBulkAll)
def Guard.mu(g:Guard):Nat:=g.cond.nn+1
def Edge.mu(x:Edge):Nat:=x.cond.nn+x.opens.l.length+x.ma.l.length+Expr.bP x.jS.l+x.ki.l.length+x.inside.l.length+1
def Stat.mu(s:Stat):Nat:=(s.guards.l.map Guard.mu).sum+1
def dN.mu(a:dN):Nat:=(a.mP.l.map Stat.mu).sum+(a.oV.l.map Edge.mu).sum+1
def lu.mu(f:lu):Nat:=f.name.length+1
def b9.mu(s:b9):Nat:=s.name.length+(s.fields.l.map lu.mu).sum+1
def eE.mu(v:eE):Nat:=v.name.length+1
def cD.mu(q:cD):Nat:=q.name.length+(q.vars.l.map eE.mu).sum+q.key.l.length+q.pat.mu+Expr.bP q.jL.l+1
def eJ.mu(p:eJ):Nat:=(p.types.l.map b9.mu).sum+p.query.mu+p.xQ.mu+1
theorem NL{a:Type}:∀l:List a,(l.map λ_=>1).sum=l.length|[]=>rfl|_::l=>by rw[gb,List.sum_cons,NL l,dD,Nat.add_comm]
section
variable{H:Type}{enc:an×aD->H}{W:aT}(h0:∃cs e1 fz,W.heap[0]?=J (.cells cs e1 fz))
theorem aIg(n:Nat):Rd enc W n 65 (λv:lu=>[.str v.name,iD v.kind]) lu.mu:=λs x a=>by obtain⟨m,b,_,g,h,y,e,q0,_,i,f,q,_,_⟩:=pA aKt a;obtain⟨z,_,p⟩:=Jt _ _ _ q0;obtain⟨d,_,c⟩:=iX _ _ _ q;exact⟨⟨z,d⟩,by grind[lu.mu],a03 0 1 p (a03 1 1 c (a15 2 (h.trans PE)))⟩
theorem aH9(n:Nat):Rd enc W n 70 (λv:eE=>[.str v.name,iD v.ty]) eE.mu:=λs x a=>by obtain⟨m,b,_,g,h,y,e,q0,_,i,f,q,_,_⟩:=pA aKn a;obtain⟨z,_,p⟩:=Jt _ _ _ q0;obtain⟨d,_,c⟩:=iX _ _ _ q;exact⟨⟨z,d⟩,by grind[eE.mu],a03 0 1 p (a03 1 1 c (a15 2 (h.trans acw)))⟩
include h0
theorem ZR(n:Nat):Rd enc W n 41 (λs:Sl Int=>[bW s]) λs=>s.l.length+1:=λc x h=>by obtain⟨a,k1,k2⟩:=va (t:=41) (d:=iD) aU c3 ab (λ_=>rfl) h0 iX n c x h;dsimp only at k1 k2;rw[NL]at k1;exact⟨a,k1,k2⟩
theorem aIe(n:Nat):Rd enc W n 66 (λs:Sl lu=>[C7 s]) λs=>(s.l.map lu.mu).sum+1:=va aU PE ab (λ_=>rfl) h0 aIg n
theorem aIb(n:Nat):Rd enc W n 71 (λs:Sl eE=>[kE s]) λs=>(s.l.map eE.mu).sum+1:=va aU acw ab (λ_=>rfl) h0 aH9 n
theorem aIf(n:Nat):Rd enc W n 68 (λv:b9=>[.str v.name,C7 v.fields]) b9.mu:=λs x a=>by obtain⟨m,b,_,g,h,y,e,q0,_,k,f,q,_,_⟩:=pA aKs a;obtain⟨z,i,p⟩:=Jt _ _ _ q0;obtain⟨d,j,c⟩:=aIe h0 _ _ _ q;exact⟨⟨z,d⟩,by grind[b9.mu],a03 0 1 p (a03 1 1 c (a15 2 (h.trans PH)))⟩
theorem aIa(n:Nat):Rd enc W n 22 (λs:Sl b9=>[cm s]) λs=>(s.l.map b9.mu).sum+1:=va aU PH ab (λ_=>rfl) h0 (aIf h0) n
theorem hP:∀n,Rd enc W n 62 ae.cells ae.mu/\Rd enc W n 60 (λs:Sl ae=>[bK s.nl (ae.bn s.l) 62 14]) λs=>ae.As s.l+1
 |0=>⟨Nh,Nh⟩|n+1=>by
  obtain⟨i,f⟩:=hP n;refine⟨λc x h=>?_,?_⟩;.obtain⟨m,b,N,M,l,Q,E,q0,e0,R,F,r,e1,S,G,u,e2,T,H,q3,e3,U,I,q4,e4,X,K,q5,e5,Y,L,q6,e6,_⟩:=pA aKq h;obtain rfl:n=m:=ab;obtain⟨v,_,p⟩:=iX _ _ _ q0;obtain⟨z,O,g⟩:=f _ _ r;obtain⟨w,_,j⟩:=iX _ _ _ u;obtain⟨y,_,k⟩:=iX _ _ _ q3;obtain⟨A,_,o⟩:=iX _ _ _ q4;obtain⟨B,_,q⟩:=iX _ _ _ q5;obtain⟨D,P,p6⟩:=(ZS h0 _).1 _ _ q6;refine⟨.mk v z.nl z.l w y A B D,by dsimp only at*;simp only[ae.mu];omega,?_⟩;have:=a03 0 1 p (a03 1 1 g (a03 2 1 j (a03 3 1 k (a03 4 1 o (a03 5 1 q (a03 6 8 p6 (a15 14 (l.trans PL))))))));simpa[ae.cells]using this
  .have:=ZT (t:=60) (esz:=14) (d:=λe:ae=>.agg e.cells) aL PL ft (λ_=>rfl) h0 i;intro c x h;obtain⟨a,k1,k2⟩:=this c x h;dsimp only at k1 k2;rw[ae.ahw]at k1;rw[<-a56]at k2;exact⟨a,k1,k2⟩
theorem aId(n:Nat):Rd enc W n 73 cD.cells cD.mu:=λv x a=>by obtain⟨m,b,_,w,h,F,o,q0,_,G,r,q,_,H,s,g,_,I,t,q3,_,K,u,q4,_,_⟩:=pA aKr a;obtain⟨z,y,p⟩:=Jt _ _ _ q0;obtain⟨i,A,c⟩:=aIb h0 _ _ _ q;obtain⟨j,B,d⟩:=ZR h0 _ _ _ g;obtain⟨k,D,e⟩:=(hP h0 _).1 _ _ q3;obtain⟨l,E,f⟩:=(ZS h0 _).2 _ _ q4;refine⟨⟨z,i,j,k,l⟩,by grind[cD.mu],?_⟩;have:=a03 0 1 p (a03 1 1 c (a03 2 1 d (a03 3 14 e (a03 17 1 f (a15 18 (h.trans PI))))));grind[cD.cells]
end
end Go.VM
namespace Go.VM
open Go Go.AM
open Go.Proofs.YtnjhghmdcoaceaaGreatDoor.Rows (uptoBulk uptoBulkAll)
def cH.mu(v:cH):Nat:=v.s.length+1
def aM.mu(e:aM):Nat:=(e.kR.l.map cH.mu).sum+6
def bu.mu(c:bu):Nat:=c.bs.l.length+c.ss.l.length+1
def dP.mu(e:dP):Nat:=(e.wait.l.map aM.mu).sum+(e.runs.l.map bu.mu).sum+(e.held.l.map aM.mu).sum+1
def aC.mu(k:aC):Nat:=k.key.mu+k.e.mu+1
def bq.mu(o:bq):Nat:=o.marks.l.length+(o.keys.l.map aC.mu).sum+1
def cC.mu(p:cC):Nat:=(p.types.l.map b9.mu).sum+(p.qs.l.map cD.mu).sum+1
def aDN:lT 55=J [(3,0,1),(3,1,1),(9,2,1)]:=aL
def BX:PP.cellsOf 55=3:=aL
def aDJ:lT 194=J [(3,0,1),(3,1,1),(3,2,1)]:=aL
def aCO:PP.cellsOf 194=3:=aL
def aDK:lT 196=J [(3,0,1),(194,1,3)]:=aL
def B2:PP.cellsOf 196=4:=aL
def aDL:lT 199=J [(3,0,1),(3,1,1)]:=aL
def B1:PP.cellsOf 199=2:=aL
def aDQ:lT 86=J [(3,0,1),(3,1,1),(3,2,1),(3,3,1),(84,4,1)]:=aL
def BK:PP.cellsOf 86=5:=aL
def aDI:lT 186=J [(3,0,1),(173,1,1),(184,2,1)]:=aL
def B3:PP.cellsOf 186=3:=aL
def aDO:lT 112=J [(3,0,1),(109,1,1),(110,2,1),(109,3,1)]:=aL
def aCQ:PP.cellsOf 112=4:=aL
def aDP:lT 114=J [(3,0,1),(55,1,3),(112,4,4)]:=aL
def BN:PP.cellsOf 114=8:=aL
def aDM:lT 76=J [(41,0,1),(74,1,1)]:=aL
def BY:PP.cellsOf 76=2:=aL
def aCR:PP.cellsOf 73=18:=PI
def Dv:lT 25=J [(22,0,1),(23,1,1)]:=aL
def aCP:PP.cellsOf 25=2:=aL
section
variable{H:Type}{enc:an×aD->H}{W:aT}(h0:∃cs e1 fz,W.heap[0]?=J (.cells cs e1 fz))
theorem Ab(n:Nat):Rd enc W n 55 cH.cells cH.mu:=λs x a=>by obtain⟨m,b,_,l,h,y,i,q0,_,u,j,q,_,v,k,e,_,_⟩:=pA aDN a;obtain⟨z,o,p⟩:=iX _ _ _ q0;obtain⟨f,r,c⟩:=iX _ _ _ q;obtain⟨g,t,d⟩:=Jt _ _ _ e;refine⟨⟨z,f,g⟩,by grind[cH.mu],?_⟩;have:=(a03 0 1 p (a03 1 1 c (a03 2 1 d (a15 3 (h.trans BX)))));grind[cH.cells]
theorem aDv(n:Nat):Rd enc W n 194 (λv:Int×Int×Int=>[iD v.1,iD v.2.1,iD v.2.2]) (λ_=>1):=λs x a=>by obtain⟨m,b,_,l,h,y,i,q0,_,u,j,q,_,w,k,e,_,_⟩:=pA aDJ a;obtain⟨z,o,p⟩:=iX _ _ _ q0;obtain⟨f,r,c⟩:=iX _ _ _ q;obtain⟨g,t,d⟩:=iX _ _ _ e;refine⟨⟨z,f,g⟩,ai,?_⟩;have:=(a03 0 1 p (a03 1 1 c (a03 2 1 d (a15 3 (h.trans aCO)))));grind
theorem aDw(n:Nat):Rd enc W n 196 eC.cells (λ_=>1):=λs x a=>by obtain⟨m,b,_,g,h,y,e,q0,_,k,f,q,_,_⟩:=pA aDK a;obtain⟨d,i,p⟩:=iX _ _ _ q0;obtain⟨z,j,c⟩:=aDv _ _ _ q;refine⟨⟨d,z.1,z.2.1,z.2.2⟩,ai,?_⟩;have:=(a03 0 1 p (a03 1 3 c (a15 4 (h.trans B2))));grind[eC.cells]
theorem aDx(n:Nat):Rd enc W n 199 fG.cells (λ_=>1):=λs x a=>by obtain⟨m,b,_,g,h,y,e,q0,_,k,f,q,_,_⟩:=pA aDL a;obtain⟨z,i,p⟩:=iX _ _ _ q0;obtain⟨d,j,c⟩:=iX _ _ _ q;refine⟨⟨z,d⟩,ai,?_⟩;have:=(a03 0 1 p (a03 1 1 c (a15 2 (h.trans B1))));grind[fG.cells]
include h0
theorem aDG(n:Nat):Rd enc W n 84 (λs=>[vl s]) λs=>(s.l.map cH.mu).sum+1:=va (d:=cH.d) aL BX ab (λ_=>rfl) h0 (Ab) n
theorem aDs(n:Nat):Rd enc W n 173 (λs=>[hZ s]) λs=>s.l.length+1:=λc x h=>by obtain⟨a,k1,k2⟩:=va (d:=eC.d) aL B2 ab (λ_=>rfl) h0 (aDw) n c x h;dsimp only at k1 k2;rw[NL]at k1;exact⟨a,k1,k2⟩
theorem aDt(n:Nat):Rd enc W n 184 (λs=>[jM s]) λs=>s.l.length+1:=λc x h=>by obtain⟨a,k1,k2⟩:=va (d:=fG.d) aL B1 ab (λ_=>rfl) h0 (aDx) n c x h;dsimp only at k1 k2;rw[NL]at k1;exact⟨a,k1,k2⟩
theorem aDH(n:Nat):Rd enc W n 86 aM.cells aM.mu:=λv x a=>by obtain⟨m,b,_,w,h,F,o,q0,_,G,r,q,_,H,s,g,_,I,t,q3,_,K,u,q4,_,_⟩:=pA aDQ a;obtain⟨z,y,p⟩:=iX _ _ _ q0;obtain⟨i,A,c⟩:=iX _ _ _ q;obtain⟨j,B,d⟩:=iX _ _ _ g;obtain⟨k,D,e⟩:=iX _ _ _ q3;obtain⟨l,E,f⟩:=aDG h0 _ _ _ q4;refine⟨⟨z,i,j,k,l⟩,by grind[aM.mu],?_⟩;have:=(a03 0 1 p (a03 1 1 c (a03 2 1 d (a03 3 1 e (a03 4 1 f (a15 5 (h.trans BK)))))));grind[aM.cells]
theorem Aa(n:Nat):Rd enc W n 109 (λs=>[de s]) λs=>(s.l.map aM.mu).sum+1:=va (d:=aM.d) aL BK ab (λ_=>rfl) h0 (aDH h0) n
theorem aDu(n:Nat):Rd enc W n 186 bu.cells bu.mu:=λs x a=>by obtain⟨m,b,_,l,h,y,i,q0,_,u,j,q,_,v,k,e,_,_⟩:=pA aDI a;obtain⟨z,o,p⟩:=iX _ _ _ q0;obtain⟨f,r,c⟩:=aDs h0 _ _ _ q;obtain⟨g,t,d⟩:=aDt h0 _ _ _ e;refine⟨⟨z,f,g⟩,by grind[bu.mu],?_⟩;have:=(a03 0 1 p (a03 1 1 c (a03 2 1 d (a15 3 (h.trans B3)))));grind[bu.cells]
theorem aDC(n:Nat):Rd enc W n 110 (λs=>[mD s]) λs=>(s.l.map bu.mu).sum+1:=va (d:=bu.d) aL B3 ab (λ_=>rfl) h0 (aDu h0) n
theorem aDD(n:Nat):Rd enc W n 112 dP.cells dP.mu:=λs x a=>by obtain⟨m,b,_,t,h,A,k,q0,_,B,l,q,_,D,o,f,_,E,r,q3,_,_⟩:=pA aDO a;obtain⟨z,u,p⟩:=iX _ _ _ q0;obtain⟨g,v,c⟩:=Aa h0 _ _ _ q;obtain⟨i,w,d⟩:=aDC h0 _ _ _ f;obtain⟨j,y,e⟩:=Aa h0 _ _ _ q3;refine⟨⟨z,g,i,j⟩,by grind[dP.mu],?_⟩;have:=(a03 0 1 p (a03 1 1 c (a03 2 1 d (a03 3 1 e (a15 4 (h.trans aCQ))))));grind[dP.cells]
theorem aDE(n:Nat):Rd enc W n 114 aC.cells aC.mu:=λs x a=>by obtain⟨m,b,_,l,h,y,i,q0,_,u,j,q,_,v,k,e,_,_⟩:=pA aDP a;obtain⟨z,o,p⟩:=iX _ _ _ q0;obtain⟨f,r,c⟩:=Ab _ _ _ q;obtain⟨g,t,d⟩:=aDD h0 _ _ _ e;refine⟨⟨z,f,g⟩,by grind[aC.mu],?_⟩;have:=(a03 0 1 p (a03 1 3 c (a03 4 4 d (a15 8 (h.trans BN)))));grind[aC.cells,cH.cells,dP.cells]
theorem aDA(n:Nat):Rd enc W n 74 (λs=>[jr s]) λs=>(s.l.map aC.mu).sum+1:=va (d:=aC.d) aL BN ab (λ_=>rfl) h0 (aDE h0) n
theorem aDB(n:Nat):Rd enc W n 76 bq.cells bq.mu:=λs x a=>by obtain⟨m,b,_,g,h,y,e,q0,_,k,f,q,_,_⟩:=pA aDM a;obtain⟨z,i,p⟩:=ZR h0 _ _ _ q0;obtain⟨d,j,c⟩:=aDA h0 _ _ _ q;refine⟨⟨z,d⟩,by grind[bq.mu],?_⟩;have:=(a03 0 1 p (a03 1 1 c (a15 2 (h.trans BY))));grind[bq.cells]
def aDF(n:Nat):Rd enc W n 73 cD.cells cD.mu:=aId h0 n
theorem aDy(n:Nat):Rd enc W n 23 (λs=>[rj s]) λs=>(s.l.map cD.mu).sum+1:=va (d:=cD.dv) aL aCR ab (λ_=>rfl) h0 (aDF h0) n
theorem aDz(n:Nat):Rd enc W n 25 cC.cells cC.mu:=λs x a=>by obtain⟨m,b,_,g,h,y,e,q0,_,k,f,q,_,_⟩:=pA Dv a;obtain⟨z,i,p⟩:=aIa h0 _ _ _ q0;obtain⟨d,j,c⟩:=aDy h0 _ _ _ q;refine⟨⟨z,d⟩,by grind[cC.mu],?_⟩;have:=(a03 0 1 p (a03 1 1 c (a15 2 (h.trans aCP))));grind[cC.cells]
end
end Go.VM
namespace Go.VM
open Go Go.AM
def kb.mu(t:kb):Nat:=t.bs.l.length+t.ps.l.length+1
def dA.mu(r:dA):Nat:=r.t.mu+1
def dR.mu(s:dR):Nat:=(s.rs.l.map dA.mu).sum+(s.os.l.map bq.mu).sum+1
def aCH:lT 104=J [(3,0,1),(3,1,1)]:=aL
def ahl:PP.cellsOf 104=2:=aL
def aCF:lT 44=J [(3,0,1),(41,1,1),(42,2,1),(3,3,1)]:=aL
def aCe:PP.cellsOf 44=4:=aL
def aCG:lT 46=J [(3,0,1),(3,1,1),(44,2,4)]:=aL
def ahk:PP.cellsOf 46=6:=aL
def ahv:lT 29=J [(3,0,1),(26,1,1),(27,2,1)]:=aL
def aCf:PP.cellsOf 29=3:=aL
section
variable{H:Type}{enc:an×aD->H}{W:aT}(h0:∃cs e1 fz,W.heap[0]?=J (.cells cs e1 fz))
theorem aCB(n:Nat):Rd enc W n 104 gS.cells (λ_=>1):=λs x a=>by obtain⟨m,b,_,g,h,y,e,q0,_,k,f,q,_,_⟩:=pA aCH a;obtain⟨z,i,p⟩:=iX _ _ _ q0;obtain⟨d,j,c⟩:=iX _ _ _ q;refine⟨⟨z,d⟩,ai,?_⟩;have:=(a03 0 1 p (a03 1 1 c (a15 2 (h.trans ahl))));grind[gS.cells]
include h0
theorem aCy(n:Nat):Rd enc W n 42 (λs=>[nu s]) λs=>s.l.length+1:=λc x h=>by obtain⟨a,k1,k2⟩:=va (t:=42) (d:=gS.d) aL ahl ab (λ_=>rfl) h0 (aCB) n c x h;dsimp only at k1 k2;rw[NL]at k1;exact⟨a,k1,k2⟩
theorem aCz(n:Nat):Rd enc W n 44 kb.cells kb.mu:=λs x a=>by obtain⟨m,b,_,t,h,A,k,q0,_,B,l,q,_,D,o,f,_,E,r,q3,_,_⟩:=pA aCF a;obtain⟨z,u,p⟩:=iX _ _ _ q0;obtain⟨g,v,c⟩:=ZR h0 _ _ _ q;obtain⟨i,w,d⟩:=aCy h0 _ _ _ f;obtain⟨j,y,e⟩:=iX _ _ _ q3;refine⟨⟨z,g,i,j⟩,by grind[kb.mu],?_⟩;have:=(a03 0 1 p (a03 1 1 c (a03 2 1 d (a03 3 1 e (a15 4 (h.trans aCe))))));grind[kb.cells]
theorem aCA(n:Nat):Rd enc W n 46 dA.cells dA.mu:=λs x a=>by obtain⟨m,b,_,l,h,y,i,q0,_,u,j,q,_,v,k,e,_,_⟩:=pA aCG a;obtain⟨z,o,p⟩:=iX _ _ _ q0;obtain⟨f,r,c⟩:=iX _ _ _ q;obtain⟨g,t,d⟩:=aCz h0 _ _ _ e;refine⟨⟨z,f,g⟩,by grind[dA.mu],?_⟩;have:=(a03 0 1 p (a03 1 1 c (a03 2 4 d (a15 6 (h.trans ahk)))));grind[dA.cells,kb.cells]
theorem aCC(n:Nat):Rd enc W n 26 (λs=>[mO s]) λs=>(s.l.map dA.mu).sum+1:=va (d:=dA.d) aL ahk ab (λ_=>rfl) h0 (aCA h0) n
theorem aCD(n:Nat):Rd enc W n 27 (λs=>[mf s]) λs=>(s.l.map bq.mu).sum+1:=va (d:=bq.d) aL BY ab (λ_=>rfl) h0 (aDB h0) n
theorem aCE(n:Nat):Rd enc W n 29 dR.cells dR.mu:=λs x a=>by obtain⟨m,b,_,l,h,y,i,q0,_,u,j,q,_,v,k,e,_,_⟩:=pA ahv a;obtain⟨z,o,p⟩:=iX _ _ _ q0;obtain⟨f,r,c⟩:=aCC h0 _ _ _ q;obtain⟨g,t,d⟩:=aCD h0 _ _ _ e;refine⟨⟨z,f,g⟩,by grind[dR.mu],?_⟩;have:=(a03 0 1 p (a03 1 1 c (a03 2 1 d (a15 3 (h.trans aCf)))));grind[dR.cells]
end
end Go.VM
namespace Go.VM
open Go Go.AM
variable{t:an}
theorem yV{a:Type}{μ:a->Nat}{x:a}:∀{l:List a},x∈l->μ x<=(l.map μ).sum
 |[],h=>by simp at h|y::l,h=>by
  rw[gb,List.sum_cons];rcases CI.1 h with rfl|h;.omega
  .have:=yV (μ:=μ) h;omega
theorem xm{a:Type}{μ:a->Nat}(h:∀x,1<=μ x):∀l:List a,l.length<=(l.map μ).sum|[]=>bT _|y::l=>by have:=xm h l;have:=h y;rw[gb,List.sum_cons,dD];omega
theorem sC{e:Expr}{l:List Expr}(h:e∈l):e.nn<=Expr.bP l:=by rw[<-Expr.Q0];grind[yV]
theorem mK(l:List Expr):l.length<=Expr.bP l:=by rw[<-Expr.Q0];simp[xm,a58]
mutual
theorem ae.ahL : ∀ p : ae, p.nn <= p.mu
  | .mk _ _ l _ _ _ _ c => by have := ae.ahM l; simp only [ae.nn, ae.mu]; omega
theorem ae.ahM : ∀ l : bt, ae.bP l <= ae.As l
  | [] => bT _
  | p :: l => by have := ae.ahL p; have := ae.ahM l; simp only [ae.bP, ae.As]; omega
end
mutual
theorem ae.acT : ∀ (p q : ae), q ∈ nodes p -> q.cond.nn <= p.mu
  | .mk o n l t v s sp c, q, h => by
    simp only [nodes, CI] at h
    rcases h with rfl | h
    · simp only [ae.mu, ae.cond]; omega
    · have := ae.acU l q h; simp only [ae.mu]; omega
theorem ae.acU : ∀ (l : bt) (q : ae), q ∈ eU l -> q.cond.nn <= ae.As l
  | [], q, h => by simp [eU] at h
  | p :: l, q, h => by
    simp only [eU, CH] at h
    rcases h with h | h
    · have := ae.acT p q h; simp only [ae.As]; omega
    · have := ae.acU l q h; simp only [ae.As]; omega
end
theorem b9.sw(s:b9):s.mu=s.name.length+(s.fields.l.map lu.mu).sum+1:=rfl
theorem lu.sw(f:lu):f.mu=f.name.length+1:=rfl
theorem eE.sw(f:eE):f.mu=f.name.length+1:=rfl
theorem Stat.sw(s:Stat):s.mu=(s.guards.l.map Guard.mu).sum+1:=rfl
theorem Guard.sw(g:Guard):g.mu=g.cond.nn+1:=rfl
theorem Edge.sw(x:Edge):x.mu=x.cond.nn+x.opens.l.length+x.ma.l.length+Expr.bP x.jS.l+x.ki.l.length+x.inside.l.length+1:=rfl
theorem dN.sw(a:dN):a.mu=(a.mP.l.map Stat.mu).sum+(a.oV.l.map Edge.mu).sum+1:=rfl
theorem cD.sw(q:cD):q.mu=q.name.length+(q.vars.l.map eE.mu).sum+q.key.l.length+q.pat.mu+Expr.bP q.jL.l+1:=rfl
theorem eJ.sw(p:eJ):p.mu=(p.types.l.map b9.mu).sum+p.query.mu+p.xQ.mu+1:=rfl
theorem aMZ{t:Sl b9}(h:(t.l.map b9.mu).sum<=1048576):lY t:=by
 refine⟨λs a=>?_,?_⟩
 . have b:=yV (μ:=b9.mu) a;have c:s.name.length+(s.fields.l.map lu.mu).sum+1<=1048576:=by grind[b9.sw]
   have d:=xm (μ:=lu.mu) (λx=>by simp[lu.sw]) s.fields.l;refine⟨ab,λf e=>?_,ab⟩;grind[yV,lu.sw]
 grind[xm,b9.sw]
theorem aHP{q:cD}(h:q.mu<=1048576):mA q:=by
 rw[cD.sw]at h;have c:=xm (μ:=eE.mu) (λx=>by simp[eE.sw]) q.vars.l;have d:=ae.ahL q.pat;have f:=mK q.jL.l;refine⟨ab,⟨λv g=>?_,ab⟩,ab,⟨ab,λp b=>?_⟩,ab,λe a=>?_⟩;.grind[yV,eE.sw]
 .have:=ae.acT _ p b;omega
 .have:=sC a;omega
theorem aNv{l:List cH}{n:Nat}(h:(l.map cH.mu).sum<=n):l.length<=n:=by grind[xm,cH.mu]
theorem MH{v:Sl aM}{n:Nat}(h:(v.l.map aM.mu).sum<=n):v.l.length*6<=n/\∀e∈v.l,e.kR.l.length<=n:=by
 refine⟨?_,λe a=>?_⟩
 . have k:∀l:List _,l.length*6<=(l.map aM.mu).sum:=λl=>by induction l with|nil=>grind|cons x l i=>rw[gb,List.sum_cons,dD];have:x.mu=(x.kR.l.map _).sum+6:=rfl;omega
   grind
 .have b:=yV (μ:=aM.mu) a;have c:e.mu=(e.kR.l.map _).sum+6:=rfl;exact aNv ab
theorem aqF{e:dP}(h:e.mu<=1048576):e.cp:=by
 have l:e.mu=(e.wait.l.map _).sum+(e.runs.l.map _).sum+(e.held.l.map _).sum+1:=rfl;obtain⟨d,f⟩:=MH (v:=e.wait) (n:=1048576) ab;obtain⟨g,i⟩:=MH (v:=e.held) (n:=1048576) ab;have j:=xm (μ:=bu.mu) (λx=>by simp[bu.mu]) e.runs.l;have k:∀c∈e.runs.l,c.bs.l.length+c.ss.l.length<=1048576:=λc b=>by grind[yV,bu.mu]
 refine⟨⟨⟨⟨ab,λx a=>?_⟩,⟨ab,λx a=>?_⟩,ab,λc b=>⟨?_,?_⟩⟩,ab,λc b=>⟨?_,?_⟩⟩,ab,ab,ab,λx a=>?_,λx a=>?_⟩<;>grind
theorem amk{p:cC}{s:dR}(c:p.mu<=1048576)(j:s.mu<=1048576):aa2 p s:=by
 have a:p.mu=(p.types.l.map _).sum+(p.qs.l.map _).sum+1:=rfl;have l:s.mu=(s.rs.l.map _).sum+(s.os.l.map _).sum+1:=rfl;rw[a]at c;have d:=xm (μ:=cD.mu) (λx=>by simp[cD.sw]) p.qs.l;have e:=xm (μ:=b9.mu) (λx=>by simp[b9.sw]) p.types.l;have f:=xm (μ:=dA.mu) (λx=>by simp[dA.mu]) s.rs.l;have g:=xm (μ:=bq.mu) (λx=>by simp[bq.mu]) s.os.l;have P:Bc p:=⟨aMZ ab,λq i=>aHP (by grind[yV]),ab⟩;refine⟨P,aHh P ab,⟨ab,λr hr=>?_⟩,ab,λo b=>?_⟩;.have e1:=yV (μ:=dA.mu) hr;have e2:r.mu=r.t.bs.l.length+r.t.ps.l.length+1+1:=rfl;omega
 . have e0:=yV (μ:=bq.mu) b;have k0:o.mu=o.marks.l.length+(o.keys.l.map _).sum+1:=rfl;have k1:=xm (μ:=aC.mu) (λx=>by simp[aC.mu]) o.keys.l;have k:∀x∈o.keys.l,x.e.cp/\x.key.s.length<1050000:=λx h=>by have e1:=yV (μ:=aC.mu) h;have e2:x.mu=(x.key.s.length+1)+x.e.mu+1:=rfl;grind[aqF]
   exact⟨⟨ab,ab,λx h=>(k x h).1.1⟩,⟨ab,ab,λx h=>(k x h).1.1.1⟩,k⟩
mutual
def yg {H : Type} : DataW H -> List aD
  | .lit l => [l.value]
  | .agg p => Pq p
  | _ => []
def Pq {H : Type} : List (DataW H) -> List aD
  | [] => []
  | d :: l => yg d ++ Pq l
end
def ur(t:an):Prop:=∀{H:Type}(e:an×aD->H)(W:aT)(h:Bool)n c x,DataW.trod e PP W 0 (λ_=>V) h n t c=J x->c=yg x.1
section
variable{H:Type}{enc:an×aD->H}{W:aT}{held:Bool}
theorem Pp{k:fT}(h:PP.underlying t=J (.int k)):ur t:=λenc W held n c x a=>by obtain⟨z,rfl,rfl,_⟩:=DataW.trod_int h a;rfl
theorem aev(h:PP.underlying t=J .bool):ur t:=λenc W held n c x a=>by obtain⟨z,rfl,rfl⟩:=DataW.trod_bool h a;rfl
def NR:Nat->List (an×Nat×Nat)->Nat->Prop|o,[],n=>o=n|o,(_,p,k)::l,n=>p=o/\NR (o+k) l n
theorem Um{n:Nat}{cs:List aD}:∀(l:List (an×Nat×Nat))(s:List (DataW H×List MemPlace))(o:Nat),NR o l cs.length->s.length=l.length->(∀(i:Nat)y,l[i]?=J y->DataW.trod enc PP W 0 (λ_=>V) held n y.1 ((cs.drop y.2.1).take y.2.2)=s[i]?)->(∀y,y∈l->ur y.1)->cs.drop o=Pq (s.map (·.1))|[],[],o,h,_,_,_=>by have:o=cs.length:=h;rw[this,List.drop_length];rfl|[],x::s,o,_,h,_,_=>by simp at h|y::l,[],o,_,h,_,_=>by simp at h|(t,p,k)::l,x::s,o,h,d,b,c=>by obtain⟨rfl,h⟩:p=o/\NR (o+k) l cs.length:=h;have e1:=c _ fU enc W held n _ _ (b 0 _ rfl);have e2:=Um l s (p+k) h (by simpa using d) (λi y a=>b (i+1) y (by simpa using a)) λy a=>c y (jy _ a);rw[gb,Pq,<-e1,<-e2,<-Eh,Hl]
theorem aex{l:List (an×Nat×Nat)}(h:lT t=J l)(k:NR 0 l (PP.cellsOf t))(j:∀y,y∈l->ur y.1):ur t:=λenc W held n c x o=>by
 unfold lT at h;split at h;.rename_i s u;cases h;obtain⟨p,m,q,rfl,d,e,g⟩:=DataW.trod_struct u o;have:=Um (enc:=enc) (W:=W) (held:=held) (n:=m) (cs:=c) _ p 0 (by rw[d];exact k) (by simpa using e) (λi y a=>by rw[jZ]at a;cases b:s.toList[i]? with|none=>rw[b]at a;simp at a|some f=>rw[b]at a;cases a;dsimp only;exact g i f (by simpa using b)) j;rw[xH]at this;rw[yg];exact this
 .simp at h
theorem akh{e:an}{c:Nat}:∀(m s:Nat),NR (s*c) ((vp s m).map λi=>(e,i*c,c)) ((s+m)*c)|0,s=>rfl|m+1,s=>⟨rfl,by have:=akh (e:=e) (c:=c) m (s+1);rw[Nat.succ_mul,show s+1+m=s+(m+1)by omega]at this;exact this⟩
theorem Lf{e:an}{n:Nat}(u:PP.underlying t=J (.array n e))(o:PP.cellsOf t=n*PP.cellsOf e)(p:ur e):ur t:=λenc W held f s x q=>by
 obtain⟨r,m,v,rfl,g,k,l⟩:=DataW.trod_array u q;have d:=akh (e:=e) (c:=PP.cellsOf e) n 0;rw[Nat.zero_mul,kG,<-o,<-g]at d;have:=Um (enc:=enc) (W:=W) (held:=held) (n:=m) (cs:=s) _ r 0 d (by simpa using k) (λi y h=>by rw[jZ]at h;cases a:(vp 0 n)[i]? with|none=>rw[a]at h;simp at h|some j=>
 rw[a]at h;cases h;have b:i<n:=by have:=(am.1 a).1;simpa using this
 have:j=i:=by have:=a;rw[List.getElem?_range' b]at this;simpa using this.symm
 subst this;dsimp only;exact l j b) λy h=>by obtain⟨j,_,rfl⟩:=au.1 h;exact p
 rw[xH]at this;rw[yg];exact this
end
theorem E9{W:aT}:∀{l:List (String×DataW Unit)}{j:List MemPlace},DataW.LaidVars PP W l j->∀{n d},(n,d)∈l->∀{g t},PP.globalNamed n=J g->(PP.globals[g]?).map (·.type)=J t->ur t->∃s e z,W.heap[g]?=J (.cells s e z)/\s.toList=yg d
 |(m,f)::l,j,h,n,d,b,g,t,a,i,F=>by
  obtain⟨o,r,s,u,p,q,k1,k2,k3,k4,k5,_⟩:=h;rcases CI.1 b with e|b
  . obtain⟨rfl,rfl⟩:=jf e;obtain rfl:=bE (a.symm.trans k1);obtain rfl:=bE (i.symm.trans k2);unfold World.var? at k3;rw[a]at k3;have k3:(match W.heap[g]? with|some (.cells s _ _)=>J s|_=>Z)=J s:=k3;split at k3;.rename_i c e z k;cases k3;exact⟨_,e,z,k,F _ _ _ _ _ _ k4⟩
    .simp at k3
  .exact E9 k5 b a i F
def CR:AV->aD|.bool b=>.bool b|.int k n=>.int k n|_=>.nilIface
def Am:AV->Bool|.bool _|.int _ _=>V|_=>C
theorem amu{c:bc}{l:aJ}(h:l.all Am=V):aZ c l (l.map CR)/\∀a,a∈l->a.aV=V:=by
 have k:∀a,a∈l->Am a=V:=λa b=>A0.1 h a b;refine⟨⟨aP,λi a v x y=>?_⟩,λa b=>?_⟩;.rw[jZ,x]at y;cases y;have:=k a (dw x);cases a<;>first|exact .bool _|exact .int _ _|(simp[Am]at this)
 .have:=k a b;cases a<;>first|rfl|(simp[Am]at this)
theorem UE:PP.globals.size=6:=aL
theorem gn0:PP.globalNamed "tidegate/scope.table"=J 0:=aL
theorem gn1:PP.globalNamed "tidegate/pattern.shapes"=J 1:=aL
theorem gn3:PP.globalNamed "internal/strconv.uint64pow10"=J 3:=aL
theorem gn4:PP.globalNamed "math/bits.deBruijn32tab"=J 4:=aL
theorem gn5:PP.globalNamed "math/bits.deBruijn64tab"=J 5:=aL
theorem tys:(PP.globals.map (·.type))=#[315,340,3,700,706,707]:=aL
theorem gt{g:Nat}(h:(#[315,340,3,700,706,707]:Array an)[g]?=J t):(PP.globals[g]?).map (·.type)=J t:=by rw[<-tys,Array.getElem?_map]at h;exact h
theorem Sa:PP.underlying 4=J .bool:=aL
theorem auK:ur 315:=Lf (e:=314) (n:=8) aL aL (aex (t:=314) (l:=[(4,0,1),(4,1,1)]) aL (by rw[show PP.cellsOf 314=2 by kernel_rfl];exact⟨rfl,rfl,rfl⟩) (λy h=>by simp only[CI,lV,or_false]at h;rcases h with rfl|rfl<;>exact aev Sa))
theorem auL:ur 340:=Lf (e:=339) (n:=11) aL aL (aex (t:=339) (l:=[(3,0,1),(3,1,1),(4,2,1),(4,3,1),(4,4,1),(4,5,1)]) aL (by rw[show PP.cellsOf 339=6 by kernel_rfl];exact⟨rfl,rfl,rfl,rfl,rfl,rfl,rfl⟩) (λy h=>by simp only[CI,lV,or_false]at h;rcases h with rfl|rfl|rfl|rfl|rfl|rfl<;>first|exact aev Sa|exact Pp u3))
theorem auM:ur 700:=Lf (e:=229) (n:=20) aL aL (Pp (k:=.u64) aL)
theorem auN:ur 706:=Lf (e:=5) (n:=32) aL aL (Pp (k:=.u8) aL)
theorem auO:ur 707:=Lf (e:=5) (n:=64) aL aL (Pp (k:=.u8) aL)
open Go.Proofs.YtnjhghmdcoaceaaGreatDoor in theorem fv0:yg (Rows.laid_tidegate_scope_table (H:=Unit))=((gl[0]?).getD ([],0)).1.map CR/\((gl[0]?).getD ([],0)).1.all Am=V:=⟨aL,aL⟩
open Go.Proofs.YtnjhghmdcoaceaaGreatDoor in theorem fv1:yg (Rows.laid_tidegate_pattern_shapes (H:=Unit))=((gl[1]?).getD ([],0)).1.map CR/\((gl[1]?).getD ([],0)).1.all Am=V:=⟨aL,aL⟩
open Go.Proofs.YtnjhghmdcoaceaaGreatDoor in theorem fv3:yg (Rows.laid_internal_strconv_uint64pow10 (H:=Unit))=((gl[3]?).getD ([],0)).1.map CR/\((gl[3]?).getD ([],0)).1.all Am=V:=⟨aL,aL⟩
open Go.Proofs.YtnjhghmdcoaceaaGreatDoor in theorem fv4:yg (Rows.laid_math_bits_deBruijn32tab (H:=Unit))=((gl[4]?).getD ([],0)).1.map CR/\((gl[4]?).getD ([],0)).1.all Am=V:=⟨aL,aL⟩
open Go.Proofs.YtnjhghmdcoaceaaGreatDoor in theorem fv5:yg (Rows.laid_math_bits_deBruijn64tab (H:=Unit))=((gl[5]?).getD ([],0)).1.map CR/\((gl[5]?).getD ([],0)).1.all Am=V:=⟨aL,aL⟩
theorem Ig:gl.length=6:=aL
theorem aIX:(((begin PP (λ_ _=>0) default).world.heap[2]?).bind Obj.row?)=J (#[.int .i64 0],3):=aL
theorem ano:PP.buildable 3=V:=aL
theorem ct3:PP.cellTypes PP.depth 3=J [3]:=aL
theorem gl2:gl[2]?=J ([.top],3):=aL
theorem A3:(Go.Proofs.YtnjhghmdcoaceaaGreatDoor.Rows.rescaleComposesUptoRow.laid.filter λx=>x.2.handleName?.isSome)=[]:=aL
open Go.Proofs.YtnjhghmdcoaceaaGreatDoor in theorem glb{W:aT}(L:laidMetH PP Rows.rescaleComposesUptoRow.laid W)(S:W.ShapedOpen PP):∀(g:Nat)x,gl[g]?=J x->∃c e z,W.heap[g]?=J (.cells c e z)/\∀f,aZ f x.1 c.toList/\∀a,a∈x.1->a.aV=V:=by
 unfold laidMetH at L;rw[A3]at L;obtain⟨B,b,_⟩:=L;have y:∀{n d g t},(n,d)∈Rows.rescaleComposesUptoRow.laid->PP.globalNamed n=J g->(PP.globals[g]?).map (·.type)=J t->ur t->yg d=((gl[g]?).getD ([],0)).1.map CR/\((gl[g]?).getD ([],0)).1.all Am=V->∀x,gl[g]?=J x->∃c e z,W.heap[g]?=J (.cells c e z)/\∀f,aZ f x.1 c.toList/\∀a,a∈x.1->a.aV=V:=by
  intro n d g t r m o p i x h;obtain⟨c,e,z,k1,k2⟩:=E9 b r m o p;rw[h]at i;obtain⟨i,j⟩:=i;try dsimp only[Eo]at i j
  exact⟨c,e,z,k1,λf=>by rw[k2,i];exact amu j⟩
 intro g x h;have q:g<6:=by rw[<-Ig];exact(am.1 h).1
 match g,q,h with
 |0,_,h=>exact y (jy _ (jy _ (jy _ (jy _ fU)))) gn0 (gt rfl) auK fv0 x h|1,_,h=>exact y (jy _ (jy _ (jy _ fU))) gn1 (gt rfl) auL fv1 x h|2,_,h=>
  obtain⟨c,k1,k2,k3⟩:=S.1 2 _ _ (by rw[UE];decide) aIX;obtain⟨D,k4,_,k5⟩:=k3 ano;rw[ct3]at k4;cases k4;have s:c.size=1:=k2;obtain⟨v,b⟩:∃v,c[0]?=J v:=⟨c[0],mS ab⟩;obtain⟨u,k6,k7⟩:=k5 0 v b;obtain rfl:3=u:=bE k6;rw[gl2]at h;cases h;refine⟨c,3,(0,0),k1,λf=>?_⟩;have A:c.toList=[v]:=by obtain⟨l⟩:=c;match l,s,b with|[w],_,b=>simpa using b
  rw[A];unfold Cell.ok at k7;rw[u3]at k7;cases v with|int k n=>exact⟨a05 (by obtain rfl:=k7.1;exact .top n) (a04 f),by simp[AV.aV]⟩|_=>exact absurd k7 aP
 |3,_,h=>exact y (jy _ (jy _ fU)) gn3 (gt rfl) auM fv3 x h|4,_,h=>exact y fU gn4 (gt rfl) auN fv4 x h|5,_,h=>exact y (jy _ fU) gn5 (gt rfl) auO fv5 x h
theorem ahp:∀(l:List (aJ×an))(H:Heap),(∀id,H.next<=id->H.get id=Z)->(fV (λH x=>H.cT x.1 .ro x.2) l H).next=H.next+l.length/\(fV (λH x=>H.cT x.1 .ro x.2) l H).dz=H.dz/\∀id,(fV (λH x=>H.cT x.1 .ro x.2) l H).get id=if id<H.next then H.get id else(l[id-H.next]?).map λx=>.cells x.1 id .ro x.2:=by intro l;induction l with
 |nil=>
 intro H n;refine⟨rfl,rfl,λid=>?_⟩;show H.get id=_;split;.rfl
 .rename_i h;rw[n id ab];rfl|cons x l i=>
 intro H n;have u:∀id,(H.cT x.1 .ro x.2).next<=id->(H.cT x.1 .ro x.2).get id=Z:=λid hid=>by have hid:H.next+1<=id:=hid;unfold Heap.cT;rw[nL _ _ ab];exact n id ab
 obtain⟨c,d,e⟩:=i _ u;have e1:(H.cT x.1 .ro x.2).next=H.next+1:=rfl;refine⟨?_,d,λid=>?_⟩;.show(fV _ l (H.cT x.1 .ro x.2)).next=_;rw[c,e1,dD];omega
 . show(fV _ l (H.cT x.1 .ro x.2)).get id=_;rw[e,e1];by_cases a:id<H.next;.rw[if_pos ab,if_pos a];unfold Heap.cT;exact nL _ _ ab
   . rw[if_neg a];by_cases b:id=H.next;.subst b;rw[if_pos ab,Nat.sub_self];unfold Heap.cT;rw[mF];rfl
     .rw[if_neg ab,show id-H.next=(id-(H.next+1))+1 by omega,Ke]
def lH(L:List Lx):List (aJ×an):=L.map λx=>(x.c,x.e)
section
variable{W:aT}{L:List Lx}
theorem Mp(L:List Lx)(i:Nat):(jV (lH L)).get i=(L[i]?).map λx=>.cells x.c i .ro x.e:=by
 have h:∀i,oW.next<=i->oW.get i=Z:=λi _=>by unfold Heap.get oW;rfl
 obtain⟨_,_,a⟩:=ahp (lH L) oW h;have:=a i;rw[if_neg (by unfold oW;exact Hs _),show oW.next=0 from rfl,Nat.sub_zero]at this;unfold jV;rw[this,lH,jZ,Option.map_map];rfl
theorem aAB(L:List Lx)(r:Nat):(jV (lH L)).br r=(0,r):=by
 have h:∀id,oW.next<=id->oW.get id=Z:=λid _=>by unfold Heap.get oW;rfl
 obtain⟨_,a,_⟩:=ahp (lH L) oW h;unfold Heap.br jV;rw[a];rfl
theorem Fc{i:Nat}{l r f e}(h:(jV (lH L)).get i=J (.cells l r f e)):∃x,L[i]?=J x/\l=x.c/\r=i/\f=.ro/\e=x.e:=by rw[Mp]at h;cases a:L[i]? with|none=>rw[a]at h;simp at h|some x=>rw[a]at h;obtain⟨rfl,rfl,rfl,rfl⟩:=cq.cells.inj (bE h);exact⟨x,rfl,rfl,rfl,rfl,rfl⟩
theorem QD{i:Nat}{p:Pl}(h:lP L i=J p):∃x,L[i]?=J x/\x.p=p:=by unfold lP at h;cases a:L[i]? with|none=>rw[a]at h;simp at h|some x=>rw[a]at h;exact⟨x,rfl,bE h⟩
theorem QB{i:Nat}{p:Pl}(h:lP L i=J p):fQ (jV (lH L)) i:=by obtain⟨x,a,_⟩:=QD h;exact⟨x.c,i,x.e,by rw[Mp,a];rfl⟩
theorem Good.AK(h:Good W L):bS gK (lP L) (jV (lH L)) W:=by
 refine⟨⟨λid p a=>?_,λid p l r n e a k=>?_,λi j p q a g _ hr=>absurd (QB a) hr,λi j p q a g _ hr=>?_⟩,λid p o a _ _ d=>?_⟩;.obtain⟨x,b,rfl⟩:=QD a;obtain⟨c,z,e1,k1,_⟩:=(h.2 id x b).o;exact⟨(ap.1 k1).1,by rw[Mp,b];rfl⟩
 .obtain⟨x,b,rfl⟩:=QD a;obtain⟨y,m,rfl,_⟩:=Fc k;obtain rfl:=bE (b.symm.trans m);exact(h.2 id x b).n
 . rcases hr with hr|hr;.exact absurd (QB a) hr
   .exact absurd (QB g) hr
 .obtain⟨x,b,rfl⟩:=QD a;rw[Mp,b]at d;cases d;obtain⟨c,z,e1,k1,k2,k3,k4⟩:=(h.2 id x b).o;exact⟨c,z,e1,k1,k2,k3,k4,(h.2 id x b).s,λf=>absurd rfl f,λf=>by cases f⟩
theorem HR.start(L:List Lx):HR (lK L) N0 (λ_=>Z) (jV (lH L)) [] .empty:=by
 refine⟨oG _,λid cells e h=>?_,λp q r b c h=>(by cases h),λp r id x h=>(by cases h),λp r b h=>(by cases h),λs b h=>(by cases h),λid o h=>(by cases h),λid _=>rfl,λid l r f e h=>?_⟩;.unfold lK at h;cases a:L[id]? with|none=>rw[a]at h;simp at h|some x=>rw[a]at h;obtain⟨rfl,rfl⟩:=jf (bE h);exact⟨id,.ro,by rw[Mp,a];rfl,by rw[aAB];exact mw _⟩
 .obtain⟨x,a,rfl,rfl,rfl,rfl⟩:=Fc h;exact⟨_,_,h⟩
end
section
variable{K K':aY}{Y:cu}{B:aI}{H H':Heap}{lb:ew}{g:GH}
theorem HR.gone(a:HR K Y B H lb g){p:Pk}{r:Nat}(u:B p=J (r,V))(O:p.slot)(k:bU (λx=>x=r) H H')(z:bg H')(E:pN H'):HR K Y (B.set p Z) H' lb g:=by
 have back:∀q f b,B.set p Z q=J _->q≠p/\B q=J _/\f≠r:=λq f b h=>by
  by_cases x:q=p;.grind[aI.nV]
  .rw[a16 _ _ x]at h;exact⟨x,h,λy=>x (a.inj _ _ _ _ _ (y▸h) u)⟩
 have I:∀q,¬q.slot->B.set p Z q=B q:=λq D=>a16 _ _ λe=>D (e▸O);refine⟨z,λid cells e h=>?_,λq G f b c l d=>a.inj _ _ _ _ _ (back _ _ _ l).2.1 (back _ _ _ d).2.1,λq f id x l d=>?_,λq f b h=>gE (a.cF _ _ _ (back _ _ _ h).2.1) k.next,λs b w=>?_,λj o A=>?_,a.mZ,E⟩;.obtain⟨root,v,g1,g2⟩:=a.dy id _ e h;have t:=a.clean _ _ _ _ u h;have hid:=a.inv.get _ _ g1;rw[lS g1]at t;exact⟨_,v,by rw[k.get id hid (by grind[lS])];omega,by rw[k.dz _ (by have:=(a.inv.root _ _ _ _ _ g1).1;omega) t];omega⟩
 .obtain⟨_,_,g1,_⟩:=a.dy id _ _ d;rw[k.root id (a.inv.get _ _ g1)];exact a.clean _ _ _ _ (back _ _ _ l).2.1 d
 .obtain⟨i,l,d⟩:=a.box s b w;have n:=I (.lb s) (by simp[Pk.slot]);refine⟨i,ai,d.keep a.inv k (a01 _) (a00 _) (back (.lb s) i V ai).2.2 λm f c x=>?_⟩;grind[Pk.slot]
 .obtain⟨i,l,d,n⟩:=a.jm j o A;have F:=I (.g j) (by simp[Pk.slot]);refine⟨i,l,ai,n.keep a.inv k (a01 _) (a00 _) (back (.g j) i V ai).2.2 λm f c x=>?_⟩;grind[Pk.slot]
theorem consume(o:HR K Y B H [] g){r:Nat}(w:B (.sl 0)=J (r,V))(k:bU (λf=>f=r) H H')(D:bg H')(O:pN H')(N:H'.bA=H.bA)(R:∀f,f∈H'.bX->f∈H.bX\/(f=r/\r<H.bA))(T:∀f,f∈H'.cL->f∈H.cL\/(f=r/\r<H.bA)){n u s:Nat}{m:aJ}{G:fS}{e:an}{l:ao}{c:ah Nat}(z:H'.get n=J (.cells m r G e))(P:(H'.br r).1<=n)(Q:gQ K Y l s u m)(M:∀k,c=J k->l.length<=k):∃K' t,Nx K Y B H K' Y t H'/\HR K' Y t H' [] g/\j9 K' Y t H' (.dv (.ay l e s) .no) (.sl n u l.length c s):=by
 have U:dO B r:=⟨_,_,w⟩;have ir:=lS z;have F:K n=Z:=by
   rcases E:K n with _|f;.rfl
   obtain⟨_,_,g1,_⟩:=o.dy n _ _ E;have:=o.clean _ _ _ _ w E;rw[<-k.root n (o.inv.get _ _ g1)]at this;omega
 have I:=o.gone w trivial k D O;have S:∀q,B.set (.sl 0) Z q≠J (r,V):=λq h=>by
   by_cases f:q=.sl 0;.grind[aI.nV]
   .rw[a16 _ _ f]at h;exact f (o.inj _ _ _ _ _ h w)
 have L:=I.VA z P F S;have X:=aY.Bg (x:=(m,e)) F;refine⟨_,_,⟨X,λj f v=>?_,a00 _,k.xx o.inv λW _ e=>e▸U,λp W b h=>?_,N,λf A=>(R f A).imp_right λ⟨a,b⟩=>⟨a▸b,a▸U⟩,λf A=>(T f A).imp_right λ⟨a,b⟩=>⟨a▸b,a▸U⟩⟩,L,?_⟩
 . unfold aY.add at v;by_cases y:j=n;.subst y;exact⟨D.get _ _ z,aU⟩
   .rw[if_neg y]at v;obtain⟨_,_,g1,_⟩:=o.dy j _ _ v;exact⟨gE (o.inv.get _ _ g1) k.next,.inl v⟩
 . by_cases f:p=.sl 0;.grind[aI.nV]
   .rw[a16 _ _ f]at h;exact .inl ⟨p,b,h⟩
 .exact .ay l e _ n _ c m (by simp[aY.add]) Q.1 Q.2.1 M Q.2.2.1 λi f j d a x1 x2 x3=>(Q.2.2.2 i f j d a x1 x2 x3).mono X (a00 _)
end
open Proofs.Tryz
section
variable{P:aH}{ak:ct}{rec:AM.Rec}{ops:Array aB}{fr:cJ}{H:Heap}{o:aB}{l:List aB}{α:Type}
theorem ake(t:Tr α)(n:Nat)(x:α)(m:Nat):(t.ins n x).get m=bif aw n m then J x else t.get m:=by grind[bQ,Tr.lG,Tr.jC]
theorem ajy:AE P ak rec ops [] fr H=J (.next fr H):=(rfl)
theorem ajw:AE P ak rec ops (o::l) fr H=(Bs P ak rec ops fr H o).bind λ|.next fr H=>AE P ak rec ops l fr H:=(rfl)
theorem zi(n:Nat):aA (.ofNat n) 0=C:=(rfl)
theorem tR(n:Nat):Int.sub (.ofNat n) 0=.ofNat n:=(rfl)
theorem gq:dQ .i64 (Int.sub 0 0)=0:=(rfl)
theorem A5(a b:Nat):fA a b=a*b:=(rfl)
theorem ahz(a b:Nat):iw a b=a+b:=(rfl)
theorem Du(a b:Nat):Nat.sub a b=a-b:=(rfl)
theorem ll(a:Nat):(#[a]:Array Nat)[0]?=J a:=(rfl)
theorem kP(a b:Nat):(#[a,b]:Array Nat)[0]?=J a:=(rfl)
theorem ky(a b:Nat):(#[a,b]:Array Nat)[1]?=J b:=(rfl)
theorem wI{m:Nat}(h:m<=bm):dQ .i64 (.ofNat m)=.ofNat m:=by unfold dQ;simp only[eP,show m<9223372036854775808 from Og h ft,dX,aR]
theorem IW{t a b:Nat}(h:dT PP t=J (a,b)):∃i,PP.info? t=J i/\i.size=a/\i.bytes=b:=by simp_all[dT]
def Jl(a:AV):ah AV:=match a with|.top=>Z|v=>J v
theorem aiw{m:Tr AV}{t:Nat}:AM.bJ P m (.tmp t)=Jl ((m.get t).getD fD):=(rfl)
theorem aiv{t:Tr AV}{v:aD}:AM.bJ P t (.const v)=xb v:=(rfl)
theorem ais{k:fT}{n:Int}:Jl (.int k n)=J (.int k n):=(rfl)
theorem air{b:Bool}:Jl (.bool b)=J (.bool b):=(rfl)
theorem ait:Jl .bH=J .bH:=(rfl)
theorem aiu{a b d e:Nat}{c:ah Nat}:Jl (.sl a b d c e)=J (.sl a b d c e):=(rfl)
def Hb(P:aH)(k:ct)(f:bY)(z:aJ)(H:Heap)(a:AV)(b:Heap):Prop:=k f z H=Z/\∃fr,wJ P f z=J fr/\∃n,∀m,n<=m->AM.run P k m fr H=J (.ret a b)
def Hb.ev{f:bY}{z:aJ}{a:AV}{b:Heap}(h:Hb P ak f z H a b):Ev P ak f z H a b:=let⟨c,fr,d,n,e⟩:=h;.inr ⟨c,fr,d,n,e n (bT n)⟩
theorem dV.ev{f:bY}{z:aJ}{a:AV}{b:Heap}{fr:cJ}(h:wJ P f z=J fr)(p:ak f z H=Z)(r:dV P ak fr H (λo=>o=.ret a b)):Hb P ak f z H a b:=by obtain⟨n,o,c,rfl⟩:=r;exact⟨p,fr,h,n,λm d=>JG d fr H _ c⟩
def dV.fin{G:Out->Prop}{x:Out}(h:body P ak (λ_ _=>Z) fr H=J x)(g:G x):dV P ak fr H G:=⟨1,x,h,g⟩
end
attribute[local go_sem]body vw wE xR xS xT Ex cJ.vi cJ.RG cJ.RF Eb CB GV GX Cx GY G1 Ed Ec GW G5 GZ G2 G3 G4 N7 D9 G0 Cz D' CA Ea Cy ajw ajy KM wv fF dY aiw aiv ais air ait aiu DY xb DF fc ake yK uU iC xU IY nO ia gM cU zi cB tR qb sliceB ff mT gq A5 ahz Du Nat.zero_mul Nat.sub_zero vq kG ll kP ky dZ nE Jx
attribute[local congr]bB bC
def Ka(f e s b:Nat):Prop:=∀(a:ct)(H:Heap)(n:Nat)(z:aJ),mq PP e=J z->z.length=s->n*b<=bm->n<=bm->a f [.bH,ia n] H=Z->Hb PP a f [.bH,ia n] H (bif aw n 0 then .bH else .sl H.next 0 0 Z s) (bif aw n 0 then H else H.cT (jW n z) .op e)
theorem avk:Ka 373 3 1 8:=by
 intro a H n z e l b h p;refine dV.ev (fr:={fn:=373,n:=27,tmps:=(Tr.nil.ins 0 .bH).ins 1 (ia n),todo:=[.code ((f373.body).getD .skip)],defers:=[],mode:=.run,roundOf:=Z}) (by rfl) p ?_;obtain⟨i,d,s,c⟩:=IW i4;have d1:decide (n*8<=bm)=V:=mE b;have d2:decide (n<=bm)=V:=mE h;have w:=wI h;show dV PP a {fn:=373,n:=27,tmps:=_,todo:=[.code (Code.seq _ _)],defers:=[],mode:=.run,roundOf:=Z} H _;cases n<;>iterate 17(refine a26 0 (λ_ _=>by simp only[go_sem,w,d,s,c,e,l,d1,d2];rfl) ?_)
 all_goals exact dV.fin (by rfl) rfl
theorem avl:Ka 389 59 8 88:=by
 intro a H n z e l b h p;refine dV.ev (fr:={fn:=389,n:=27,tmps:=(Tr.nil.ins 0 .bH).ins 1 (ia n),todo:=[.code ((f389.body).getD .skip)],defers:=[],mode:=.run,roundOf:=Z}) (by rfl) p ?_;obtain⟨i,d,s,c⟩:=IW agk;have d1:decide (n*88<=bm)=V:=mE b;have d2:decide (n<=bm)=V:=mE h;have w:=wI h;show dV PP a {fn:=389,n:=27,tmps:=_,todo:=[.code (Code.seq _ _)],defers:=[],mode:=.run,roundOf:=Z} H _;cases n<;>iterate 17(refine a26 0 (λ_ _=>by simp only[go_sem,w,d,s,c,e,l,d1,d2];rfl) ?_)
 all_goals exact dV.fin (by rfl) rfl
theorem avm:Ka 436 385 2 16:=by
 intro a H n z e l b h p;refine dV.ev (fr:={fn:=436,n:=27,tmps:=(Tr.nil.ins 0 .bH).ins 1 (ia n),todo:=[.code ((f436.body).getD .skip)],defers:=[],mode:=.run,roundOf:=Z}) (by rfl) p ?_;obtain⟨i,d,s,c⟩:=IW agi;have d1:decide (n*16<=bm)=V:=mE b;have d2:decide (n<=bm)=V:=mE h;have w:=wI h;show dV PP a {fn:=436,n:=27,tmps:=_,todo:=[.code (Code.seq _ _)],defers:=[],mode:=.run,roundOf:=Z} H _;cases n<;>iterate 17(refine a26 0 (λ_ _=>by simp only[go_sem,w,d,s,c,e,l,d1,d2];rfl) ?_)
 all_goals exact dV.fin (by rfl) rfl
theorem ayi:dT PP 86=J (5,56):=aL
theorem aMk:aW PP 86=J 5:=aL
theorem avj:Ka 230 86 5 56:=by
 intro a H n z e l b h p;refine dV.ev (fr:={fn:=230,n:=27,tmps:=(Tr.nil.ins 0 .bH).ins 1 (ia n),todo:=[.code ((f230.body).getD .skip)],defers:=[],mode:=.run,roundOf:=Z}) (by rfl) p ?_;obtain⟨i,d,s,c⟩:=IW ayi;have d1:decide (n*56<=bm)=V:=mE b;have d2:decide (n<=bm)=V:=mE h;have w:=wI h;show dV PP a {fn:=230,n:=27,tmps:=_,todo:=[.code (Code.seq _ _)],defers:=[],mode:=.run,roundOf:=Z} H _;cases n<;>iterate 17(refine a26 0 (λ_ _=>by simp only[go_sem,Proofs.Tryz.underlying109,aMk,w,d,s,c,e,l,d1,d2];rfl) ?_)
 all_goals exact dV.fin (by rfl) rfl
end Go.VM
namespace Go.Proofs
open Go.Shelf
def Tryz.aAQ:Go.Shelf.Ren:=⟨λ|219=>313|217=>369|225=>370|224=>371|267=>372|266=>427|314=>428|n=>n,λ|9=>9|3=>3|4=>4|5=>5|46=>157|146=>227|51=>180|n=>n,λ|1=>2|n=>n⟩
def Tryz.aAP:Go.Proofs.Lays.n219 eD Tryz.aAQ:={
 mixed:=by rfl
 f217:=Tryz.func369.trans (gT J (by rfl))
 f219:=Tryz.func313.trans (gT J (by rfl))
 f224:=Tryz.func371.trans (gT J (by rfl))
 f225:=Tryz.func370.trans (gT J (by rfl))
 f266:=Tryz.func427.trans (gT J (by rfl))
 f267:=Tryz.func372.trans (gT J (by rfl))
 f314:=Tryz.func428.trans (gT J (by rfl))
 t3:=Tryz.underlying3
 a3:=Tryz.isAgg3
 z3:=Tryz.sizeOf3
 v3:=Tryz.zeroValue3
 t4:=Tryz.underlying4
 a4:=Tryz.isAgg4
 z4:=Tryz.sizeOf4
 v4:=Tryz.zeroValue4
 t5:=Tryz.underlying5
 a5:=Tryz.isAgg5
 z5:=Tryz.sizeOf5
 v5:=Tryz.zeroValue5
 t9:=Tryz.underlying9
 a9:=Tryz.isAgg9
 z9:=Tryz.sizeOf9
 v9:=Tryz.zeroValue9
 t46:=Tryz.underlying157
 a46:=Tryz.isAgg157
 z46:=Tryz.sizeOf157
 v46:=Tryz.zeroValue157
 t51:=Tryz.underlying180
 a51:=Tryz.isAgg180
 z51:=Tryz.sizeOf180
 v51:=Tryz.zeroValue180
 t146:=Tryz.underlying227
 a146:=Tryz.isAgg227
 z146:=Tryz.sizeOf227
 v146:=Tryz.zeroValue227
 g1:=by kernel_rfl}
def Tryz.aAN:Go.Shelf.Ren:=⟨λ|106=>143|213=>197|265=>249|n=>n,λ|9=>9|3=>3|n=>n,λ|n=>n⟩
def Tryz.aAM:Go.Proofs.Lays.n106 eD Tryz.aAN:={
 mixed:=by rfl
 f106:=Tryz.func143.trans (gT J (by rfl))
 f213:=Tryz.func197.trans (gT J (by rfl))
 f265:=Tryz.func249.trans (gT J (by rfl))
 t3:=Tryz.underlying3
 a3:=Tryz.isAgg3
 z3:=Tryz.sizeOf3
 v3:=Tryz.zeroValue3
 t9:=Tryz.underlying9
 a9:=Tryz.isAgg9
 z9:=Tryz.sizeOf9
 v9:=Tryz.zeroValue9}
end Go.Proofs
namespace Go.AM
open Go
variable{t:Tr (List eI)}
noncomputable abbrev PP:aH:=Proofs.Tryz.prog
theorem MZ:PP.follows .mixedOrders=V:=by rfl
theorem wP:PP.globals.size=6:=by rfl
theorem aHg:(PP.funcs.toList.all λfn=>fn.body.isNone||!(fn.name== "runtime.NumGoroutine"))=V:=aL
theorem Ge:rH PP:=by intro f fn a h e;have:=A0.1 aHg fn ai;simp_all
def mh:ct:=Rf 143 (M0 313 2 (λ_ _ _=>Z))
theorem uZ:jQ PP (λ_ _ _=>Z):=λ_ _ _ _ _ h=>ai
theorem ayy:jQ PP (M0 313 2 (λ_ _ _=>Z)):=aHk uZ (by rw[wP];decide) (λargs w=>Proofs.Tryz.call313 args w) (λs sub m w a h=>Proofs.Any.stringslite_Index Proofs.Tryz.aAP s sub m w a h)
def wG:jQ PP mh:=aHj ayy (λargs w=>Proofs.Tryz.call143 args w) (λa b w=>Proofs.Any.strings_Compare Proofs.Tryz.aAM a b w)
def mC(t:Tr (List eI)):Prop:=∀f l E,t.get f=J l->E∈l->G9 PP f E
def nD(t:Tr (List eI))(f:Nat)(E:eI):Tr (List eI):=t.ins f (E::(t.get f).getD [])
def R6:Tr (List eI):=.nil
theorem WF:mC R6:=λf l E h _=>by
 have:R6.get f=Z:=by rfl
 grind
theorem aMp(h:mC t):jQ PP (mQ 6 3000 t mh):=by have:=aNW (fuel:=3000) Ge wG h;simp_all
theorem aMq(h:mC t)(n:Nat):nC PP (AM.run PP (mQ 6 3000 t mh) n):=by grind[T8,aMp,Ge,MZ]
theorem qf(h:mC t){f:Nat}{E:eI}{n:Nat}{W:aE}(k:entry PP (AM.run PP (mQ 6 3000 t mh) n) f E W=V)(i:bg E.H):mC (nD t f E):=by
 have e:=aqQ (aMq h n) i k;intro g l D a m;unfold nD at a;by_cases b:g=f
 . subst b;rw[a17]at a;cases a;rcases CI.1 m with rfl|m;.omega
   . rcases q:t.get g with _|l2;.grind
     rw[q]at m;exact h g l2 D q m
 .rw[a11 _ _ ab]at a;exact h g l D a m
end Go.AM
namespace Go.AM
open Go
def ao1{I B:bc}{H:Heap}{w W:aT}{c:aJ}{f:fS}{e:an}(P:bg H)(Q:bS gK I H w)(h:gd I H w B (H.cT c f e) W)(ou:f≠.ex){p:Pl}(hp:B H.next=J p):gd I H w (fu B H.next {p with len:=0}) (H.cT [] f e) W:=by
 obtain⟨M,A,m⟩:=h;have F:(H.cT c f e).get H.next=J (.cells c H.next f e):=mF ..;have E:(H.cT [] f e).get H.next=J (.cells [] H.next f e):=mF ..;have R:∀i,i≠H.next->(H.cT [] f e).get i=(H.cT c f e).get i:=λi v=>(nL H _ v).trans (nL H _ v).symm;have hr:∀i,rootOf (H.cT [] f e) i=rootOf (H.cT c f e) i:=λi=>by grind[rootOf]
 have eK:∀i,fQ (H.cT [] f e) i->fQ (H.cT c f e) i:=λi=>by
   rintro⟨l,r,t,h⟩;by_cases x:i=H.next;.subst x;rw[E]at h;obtain⟨_,rfl,rfl,rfl⟩:=cq.cells.inj (bE h);exact⟨_,_,_,F⟩
   .exact⟨l,r,t,aU⟩
 have X:∀i,jg (H.cT [] f e) i↔jg (H.cT c f e) i:=λi=>by
   by_cases x:i=H.next
   . subst x;refine⟨λk l r f e h=>?_,λk l r f e h=>?_⟩;.rw[F]at h;obtain⟨_,rfl,_,_⟩:=cq.cells.inj (bE h);exact k _ _ _ _ E
     .rw[E]at h;obtain⟨_,rfl,_,_⟩:=cq.cells.inj (bE h);exact k _ _ _ _ F
   .unfold jg;rw[R i x];rfl
 have bZ:∀i q,B i=J q->i<H.next+1:=λi q h=>A.stat.lt M h;have Ff:∀i q,B i=J q->i≠H.next->rootOf (H.cT c f e) i<H.next:=λi q h x=>by have v:i<H.next:=ai;have:rootOf (H.cT c f e) i=rootOf H i:=m.root i v;simp_all[rq]
 have up:∀i q,fu B H.next {p with len:=0} i=J q->∃u,B i=J u/\u.ba=q.ba/\u.base=q.base/\(i≠H.next->u=q):=λi q h=>by grind[jN,lq]
 have hinv:bg (H.cT [] f e):=wC P _ (λl r f e g=>aU);refine⟨hinv,⟨⟨λi q h=>?_,λi q l r D t h G=>?_,λi j q s a b d n=>?_,λi j q s a b d n k=>?_⟩,λi q o h _ N G=>?_⟩,?_⟩;.obtain⟨u,a,b,_⟩:=up i q h;obtain⟨k1,k2⟩:=A.stat.cF i u a;grind
 . by_cases x:i=H.next;.grind[jN]
   .rw[lq _ _ x]at h;exact A.stat.len i q l r D t h aU
 . obtain⟨u,K,b1,_⟩:=up i q a;obtain⟨U,L,b2,_⟩:=up j s b;rw[hr,hr];refine A.stat.inj i j u U K L ab λy=>n ?_;obtain⟨l,r,t,h⟩:=y;by_cases x:i=H.next;.subst x;rw[F]at h;obtain⟨_,rfl,rfl,rfl⟩:=cq.cells.inj (bE h);exact⟨_,_,_,E⟩
   .exact⟨l,r,t,aU⟩
 . obtain⟨u,K,b1,c1,d1⟩:=up i q a;obtain⟨U,L,b2,c2,d2⟩:=up j s b;have x:i≠H.next:=ai;obtain rfl:=d1 x;by_cases y:j=H.next
   . subst y;exfalso;have:rootOf (H.cT c f e) i=rootOf (H.cT c f e) H.next:=by
      rcases n with n|n;.exact A.stat.inj _ _ _ _ K L ab λy=>n (by obtain⟨l,r,t,h⟩:=y;exact⟨l,r,t,aU⟩)
      .exact(A.stat.inj _ _ _ _ L K ab λy=>n (by obtain⟨l,r,t,h⟩:=y;rw[F]at h;obtain⟨_,rfl,rfl,rfl⟩:=cq.cells.inj (bE h);exact⟨_,_,_,E⟩)).symm
     grind[qC]
   . obtain rfl:=d2 y;refine A.stat.mono i j _ _ K L d (n.imp (λn z=>n ?_) (λn z=>n ?_)) k;.obtain⟨l,r,t,h⟩:=z;exact⟨l,r,t,aU⟩
     .obtain⟨l,r,t,h⟩:=z;exact⟨l,r,t,aU⟩
 . by_cases x:i=H.next;.subst x;rw[jN]at h;cases h;rw[E]at G;cases G;obtain⟨cs,fz,e1,k1,k2,k3,k4,k5,k6,k7⟩:=A.obj H.next p _ hp trivial ((X _).1 N) F;exact⟨cs,fz,e1,k1,k2,ai,λi a h=>aU,λa h=>aU,k6,λh=>absurd h ou⟩
   . rw[lq _ _ x]at h;rw[R i x]at G;have jD:i<H.next:=ai;have Y:H.get i=J o:=by rw[<-nL H (.cells c H.next f e) x];exact G
     cases T:I i with|none=>have:=(m.new i q h T).1;omega|some q0=>have k1:=Q.obj i q0 o T trivial (λl r D t hh=>N l r D t aU) Y;have k2:=A.obj i q o h trivial ((X i).1 N) G;refine(my.cut (n:=H.next) (λj q h=>Q.stat.lt P h) k1 k2).mono (λj r hj=>?_) rfl;grind[oU,lq]
 . have O:∀i q,I i=J q->i≠H.next:=λi q h=>by have:=Q.stat.lt P h;omega
   have back:∀i q,fu B H.next {p with len:=0} i=J q->I i=Z->H.next<=i:=λi q h v=>by obtain⟨u,a,_⟩:=up i q h;exact(m.new i u a v).1
   exact{
     ext:=λi q h=>by rw[lq _ _ (O i q h)];exact m.ext i q h
     size:=m.size
     os:=m.os
     tape:=m.tape
     output:=m.output
     next:=m.next
     bA:=m.bA
     bX:=m.bX
     cL:=m.cL
     root:=λi h=>(hr i).trans (m.root i h)
     view:=λi o M h4 h5 h6=>by obtain⟨a,b,d⟩:=m.view i o M h4 h5 h6;grind
     nF:=m.nF
     new:=λi q h v=>by obtain⟨u,a,b,_⟩:=up i q h;obtain⟨k1,k2⟩:=m.new i u a v;refine⟨k1,?_⟩;rw[<-b,hr];exact k2
     ro:=λi h k=>by obtain⟨l,r,t,g⟩:=m.ro i h k;exact⟨l,r,t,ai⟩
     keep:=λi o h k=>by obtain⟨o',a,b⟩:=m.keep i o h k;grind
     cover:=λi h k=>by
      by_cases x:i=H.next;.grind[jN]
      .have:i<H.next+1:=k;omega
     mJ:=λi q h v S=>by obtain⟨u,a,_⟩:=up i q h;rw[hr]at S;rw[hr];exact m.mJ i u a v S
     vm:=m.vm
     vC:=m.vC}
open Go.VM Proofs.Tryz
theorem anQ{f:bY}{z:aJ}{r:cJ}(h:wJ PP f z=J r)(a:Array aD)(w:aT):(callFunc f a).run PP w=.ok (.enter f a) w:=by obtain⟨fn,d,h⟩:=aF h;obtain⟨b,c,h⟩:=aF h;grind[Kz,Ge]
def asy{k:ct}(p:jQ PP k){f:bY}{z:aJ}{a:AV}{H g:Heap}(h:Hb PP k f z H a g){b:bc}{w:aT}{v:Array aD}(c:dm)(s:List dm)(m:bg H)(o:bS gK b H w)(l:iZ PP b)(q:aZ b z v.toList):∃e d u,gd b H w e g d/\VR e a u/\(callFunc f v).run PP w=.ok (.enter f v) w/\Steps PP (fh (Frame.enter PP f v .normal) (c::s) w) (fh (c.finish u) s d):=by obtain⟨_,fr,i,n,j⟩:=h;obtain⟨e1,_⟩:=KS i q;obtain⟨e,d,u,r,t,q3⟩:=kJ.back (T8 p Ge MZ n fr H _ (j n (bT _)) b w _ (c::s) m o l e1);grind[anQ]
def Gf(f e s b:Nat)(k:ct):ct:=λa args H=>bif aw a f then(match args with|[.bH,.int .i64 (.ofNat n)]=>bif bz (n*b) bm&&bz n bm then(bif aw n 0 then J (J (.bH,H))else J (J (.sl H.next 0 0 Z s,H.cT [] .op e)))else J Z|_=>J Z)else k a args H
def Rg{f e s b:Nat}{z:aJ}{k:ct}(L:jQ PP k)(G:Ka f e s b)(M:mq PP e=J z)(I:z.length=s):jQ PP (Gf f e s b k):=by
 intro g args H v t h O w x c d i a l m;unfold Gf at h;rw[bQ]at h;by_cases j:g=f
 . subst j;simp only[dX,aR]at h;split at h
   . rename_i n;rcases q:(bz (n*b) bm&&bz n bm)with _|_;.grind
     rw[q]at h;simp only[gD,dp,jB]at q;obtain⟨T,N,u,o,r,q3,q4⟩:=asy uZ (G (λ_ _ _=>Z) H n z M I q.1 q.2 rfl) c d i a l m;cases K:aw n 0 with|true=>grind|false=>rw[K]at h o r;obtain⟨rfl,rfl⟩:=jf (bE (bE h));cases r with|sl _ _ _ _ _ p P y A B D Q R E F S=>refine⟨_,N,_,ao1 i a o aP A,.sl _ 0 0 _ s _ _ _ (jN ..) B D aU aU E F aP,aU⟩
   grind
 .simp only[j,lC,ch]at h;exact L g args H v t h O w x c d i a l m
end Go.AM
namespace Go.Proofs
open Go.Shelf
def Tryz.aAO:Go.Shelf.Ren:=⟨λ|189=>265|125=>321|257=>320|128=>383|129=>384|294=>374|295=>375|296=>376|297=>377|298=>378|299=>379|216=>380|300=>381|301=>382|328=>429|329=>430|330=>431|331=>432|332=>433|215=>140|343=>488|n=>n,λ|28=>41|3=>3|46=>157|0=>0|51=>180|53=>229|4=>4|183=>495|182=>494|131=>241|5=>5|9=>9|218=>547|222=>551|228=>605|229=>341|n=>n,λ|n=>n⟩
def Tryz.agQ:Go.Proofs.Lays.n189 eD Tryz.aAO:={
 mixed:=by rfl
 f125:=Tryz.func321.trans (gT J (by rfl))
 f128:=Tryz.func383.trans (gT J (by rfl))
 f129:=Tryz.func384.trans (gT J (by rfl))
 f189:=Tryz.func265.trans (gT J (by rfl))
 f215:=Tryz.func140.trans (gT J (by rfl))
 f216:=Tryz.func380.trans (gT J (by rfl))
 f257:=Tryz.func320.trans (gT J (by rfl))
 f294:=Tryz.func374.trans (gT J (by rfl))
 f295:=Tryz.func375.trans (gT J (by rfl))
 f296:=Tryz.func376.trans (gT J (by rfl))
 f297:=Tryz.func377.trans (gT J (by rfl))
 f298:=Tryz.func378.trans (gT J (by rfl))
 f299:=Tryz.func379.trans (gT J (by rfl))
 f300:=Tryz.func381.trans (gT J (by rfl))
 f301:=Tryz.func382.trans (gT J (by rfl))
 f328:=Tryz.func429.trans (gT J (by rfl))
 f329:=Tryz.func430.trans (gT J (by rfl))
 f330:=Tryz.func431.trans (gT J (by rfl))
 f331:=Tryz.func432.trans (gT J (by rfl))
 f332:=Tryz.func433.trans (gT J (by rfl))
 f343:=Tryz.func488.trans (gT J (by rfl))
 t0:=Tryz.underlying0
 a0:=Tryz.isAgg0
 z0:=Tryz.sizeOf0
 v0:=Tryz.zeroValue0
 t3:=Tryz.underlying3
 a3:=Tryz.isAgg3
 z3:=Tryz.sizeOf3
 v3:=Tryz.zeroValue3
 t4:=Tryz.underlying4
 a4:=Tryz.isAgg4
 z4:=Tryz.sizeOf4
 v4:=Tryz.zeroValue4
 t5:=Tryz.underlying5
 a5:=Tryz.isAgg5
 z5:=Tryz.sizeOf5
 v5:=Tryz.zeroValue5
 t9:=Tryz.underlying9
 a9:=Tryz.isAgg9
 z9:=Tryz.sizeOf9
 v9:=Tryz.zeroValue9
 t28:=Tryz.underlying41
 a28:=Tryz.isAgg41
 z28:=Tryz.sizeOf41
 v28:=Tryz.zeroValue41
 t46:=Tryz.underlying157
 a46:=Tryz.isAgg157
 z46:=Tryz.sizeOf157
 v46:=Tryz.zeroValue157
 t51:=Tryz.underlying180
 a51:=Tryz.isAgg180
 z51:=Tryz.sizeOf180
 v51:=Tryz.zeroValue180
 t53:=Tryz.underlying229
 a53:=Tryz.isAgg229
 z53:=Tryz.sizeOf229
 v53:=Tryz.zeroValue229
 t131:=Tryz.underlying241
 a131:=Tryz.isAgg241
 z131:=Tryz.sizeOf241
 v131:=Tryz.zeroValue241
 t182:=Tryz.underlying494
 a182:=Tryz.isAgg494
 z182:=Tryz.sizeOf494
 v182:=Tryz.zeroValue494
 t183:=Tryz.underlying495
 a183:=Tryz.isAgg495
 z183:=Tryz.sizeOf495
 v183:=Tryz.zeroValue495
 t218:=Tryz.underlying547
 a218:=Tryz.isAgg547
 z218:=Tryz.sizeOf547
 v218:=Tryz.zeroValue547
 t222:=Tryz.underlying551
 a222:=Tryz.isAgg551
 z222:=Tryz.sizeOf551
 v222:=Tryz.zeroValue551
 t228:=Tryz.underlying605
 a228:=Tryz.isAgg605
 z228:=Tryz.sizeOf605
 v228:=Tryz.zeroValue605
 t229:=Tryz.underlying341
 a229:=Tryz.isAgg341
 z229:=Tryz.sizeOf341
 v229:=Tryz.zeroValue341}
def Tryz.aAR:Go.Shelf.Ren:=⟨λ|20=>266|n=>n,λ|22=>41|3=>3|4=>4|0=>0|n=>n,λ|n=>n⟩
def Tryz.agR:Go.Proofs.Lays2.n20 eD Tryz.aAR:={
 mixed:=by rfl
 f20:=Tryz.func266.trans (gT J (by rfl))
 t0:=Tryz.underlying0
 a0:=Tryz.isAgg0
 z0:=Tryz.sizeOf0
 v0:=Tryz.zeroValue0
 t3:=Tryz.underlying3
 a3:=Tryz.isAgg3
 z3:=Tryz.sizeOf3
 v3:=Tryz.zeroValue3
 t4:=Tryz.underlying4
 a4:=Tryz.isAgg4
 z4:=Tryz.sizeOf4
 v4:=Tryz.zeroValue4
 t22:=Tryz.underlying41
 a22:=Tryz.isAgg41
 z22:=Tryz.sizeOf41
 v22:=Tryz.zeroValue41
 i3:=by kernel_rfl}
end Go.Proofs
namespace Go.AM
open Go Go.VM Proofs.Tryz Go.Sort
def gd.grown{n q:bc}{H l:Heap}{w f j:aT}(h:gd n H w q l f)(P:f.heap.size<=j.heap.size)(m:∀b,b<f.heap.size->j.heap[b]?=f.heap[b]?)(s:j.os=f.os)(u:j.tape=f.tape)(t:j.output=f.output):gd n H w q l j:=by
 obtain⟨r,g,c⟩:=h;refine⟨r,⟨⟨λi p k=>?_,g.stat.len,g.stat.inj,g.stat.mono⟩,λi p o a b d e=>(g.obj i p o a b d e).mono (a41 _) (m _ (g.stat.cF i p a).1)⟩,{c with size:=gj c.size P,os:=s.trans c.os,tape:=u.trans c.tape,output:=t.trans c.output,nF:=λb k=>?_}⟩;.obtain⟨a,b⟩:=g.stat.cF i p k;grind
 .rw[m b (gE k c.size)];exact c.nF b k
theorem aHA(y:cG)(o:Nat)(c:Array aD)(h:o+y.length<=c.size):putCells (Value.int .i64) o y.toArray c=over c o (y.map (Value.int .i64)):=by apply Ob;grind[u6,putCells]
def ajr{f:bc}{H u:Heap}{w:aT}(R:bg H)(s:bS gK f H w){d o n:Nat}{p:Pl}(k:f d=J p){z ys:cG}(hl:H.load d o n=J (z.map (AV.int .i64)))(hy:ys.length=z.length)(A:H.store d o (ys.map (AV.int .i64))=J u):p.ba<w.heap.size/\z.length=n/\Holds (Value.int .i64) w p.ba (p.base+o) z.toArray/\∀q t,gd f H w f u (grow (putRow (Value.int .i64) (Sort.ahead w q) p.ba (p.base+o) ys.toArray) t):=by
 have W:=(s.stat.cF d p k).1;have F:=A;unfold Heap.store at A;split at A
 . rename_i l r G e O;rcases D:(bz (H.br r).1 d&&(aw (H.br r).2 d&&(bz (iw o (fg (ys.map (AV.int .i64)))) (fg l)&&G.wr)))with _|_;.grind
   simp only[gD,dp,bQ,jB,dZ,fO]at D;obtain⟨K,h2,h3,h4⟩:=D;obtain⟨T,E⟩:=CT s k trivial O K;obtain⟨B,fz,e1,g1,g2,g3,g4,g5,g6,g7⟩:=T;obtain⟨rfl,rfl⟩:=g6 (by grind[fS.wr]);have Q:(l.drop o).take n=z.map (AV.int .i64)/\o+n<=l.length:=by grind[Heap.load,Heap.cellsOf,dp,dZ,qg,qQ]
   have m:z.length=n:=by have:=gT List.length Q.1;grind
   have Dh:∀j,j<z.length->B[p.base+o+j]?=J (.int .i64 z.toArray[j]!):=by
     intro j S;have L:l[o+j]?=J (.int .i64 z[j]):=by have h6:((l.drop o).take n)[j]?=(z.map (AV.int .i64))[j]?:=ai;grind
     obtain⟨c,h7,M⟩:=g4 _ _ L;cases M;grind
   refine⟨W,m,λj S=>?_,λq t=>?_⟩;.grind[World.cell?,World.frozen?]
   . have X:aZ f (ys.map (AV.int .i64)) (ys.map (Value.int .i64)):=by
      refine⟨aP,λi a v g h=>?_⟩;rw[jZ]at g h;rcases I:ys[i]? with _|y;.grind
      rw[I]at g h;cases g;cases h;exact .int .i64 y
     obtain⟨Y,k1,k2⟩:=NJ (P:=PP) R s k trivial F X (λx U=>by obtain⟨y,_,rfl⟩:=au.1 U;rfl);have zX:p.base+o+(ys.map (Value.int .i64)).length<=B.size:=ai;rw[Nq g1 zX (λv h=>by obtain⟨y,_,rfl⟩:=au.1 h;rfl)]at k1;obtain⟨_,rfl⟩:()=()/\World.eW w p.ba _=Y:=by simpa using k1
     refine gd.grown ⟨k2.1,k2.2.1,k2.2.2⟩ (by simp[Cs]) (λb N=>?_) rfl rfl rfl;rw[Cs]at N;show((w.heap.modify p.ba (onCells (putCells (Value.int .i64) (p.base+o) ys.toArray)))++t)[b]?=_;grind[AJ,onCells,aHA,Cr]
 grind
end Go.AM
namespace Go.Proofs
open Go Go.AM Go.RowKit Go.Lib Go.Shelf
variable{cs ds:Array aD}{vb vc vo:Nat}{fz:Nat×Nat}{w:aT}{e:an}
theorem RC{t:an}{b o l f c a s d m:Nat}{g:an}(h:w.heap[b]?=J (.cells cs e (0,0)))(i:w.heap[c]?=J (.cells ds g fz))(q:min s l=m)(n:o+m*14<=cs.size)(j:a+m*14<=ds.size)(k:∀v,v∈(ds.extract a (a+m*14)).toList->wi v=V):(zg #[60,60] t #[.slice (J ⟨b,o,Z⟩) l f,.slice (J ⟨c,a,Z⟩) s d]).run eD w=.ok (goInt m) (World.eW w b (.cells (over cs o (ds.extract a (a+m*14)).toList) e (0,0))):=by have f1:(oQ 14 m (.slice (J _) s d)).run eD w=.ok _ w:=JF i j;have g1:=Nq (P:=eD) h (I:=o) ai k;have p:(Builtin.lenOf (.slice (J ⟨c,a,Z⟩) s d)).run eD w=.ok s w:=rfl;simp_all[zg]
theorem aJo{P:aH}{t R l b o i m g j:Nat}{p:an}(h:P.underlying t=J (.slice l)){s:Nat}(z:aW P l=J s)(d:w.heap[b]?=J (.cells cs e (0,0)))(q:w.heap[vb]?=J (.cells ds p fz))(x:vb≠b)(y:ds.size≠0):(Extern.SlicesOverlaps.overlaps #[t,t] #[R] #[.slice (J ⟨vb,vo,Z⟩) g j,.slice (J ⟨b,o,Z⟩) i m]).run P w=.ok (.bool C) w:=by
 have f:∀w,(Go.sizeOf l).run P w=.ok s w:=λw=>mi z w;have h:∀w,(underlying t).run P w=.ok (.slice l) w:=λw=>dG h w;have u:(vb !=b)=V:=ai;have a:(vb==b)=C:=ai;have k1:=Z9 d;have k2:=Z9 q;have k3:∀k,w.frozen? ⟨b,k,Z⟩=C:=λk=>IA d k;change Sem.run P (underlying t>>=_) w=_;by_cases c:g=0\/i=0\/s=0;.simp[h,f,c]
 . rcases I:ds.size with _|n;.omega
   rw[I]at k2;cases r:w.frozen? ⟨vb,vo,Z⟩<;>cases v:w.frozen? ⟨vb,n+1,Z⟩<;>simp[h,f,c,u,a,frozen,noView,viewAt,mayBeOne,stringish,shape,Sem.run,k1,k2,k3,r,v]
theorem aJn{b o i d l a:Nat}{f:an}(h:w.heap[b]?=J (.cells cs e (0,0)))(g:w.heap[vb]?=J (.cells ds f fz))(c:vb≠b)(n:ds.size≠0):(callFunc 434 #[.slice (J ⟨vb,vo,Z⟩) l a,.slice (J ⟨b,o,Z⟩) i d]).run eD w=.ok (.value (.bool C)) w:=by rw[run_callFunc_extern Tryz.func434 (by rfl) (by rfl) aL (e:=Extern.SlicesOverlaps.overlaps _ #[4]) aL,aJo Tryz.underlying60 VM.xn h g c n];rfl
set_option maxHeartbeats 4000000 in set_option maxRecDepth 100000 in theorem ayS{b o n c:Nat}{q:an}(i:w.heap[b]?=J (.cells cs e (0,0)))(j:w.heap[vb]?=J (.cells ds q fz))(I:vb≠b)(L:0<n)(H:n<1000000000)(K:n+1<=c)(M:o+(n+1)*14<=cs.size)(B:vo+14<=ds.size)(s:∀v,v∈(cs.extract o (o+n*14)).toList->wi v=V)(t:∀v,v∈(ds.extract vo (vo+1*14)).toList->wi v=V):Calls eD 386 #[.slice (J ⟨b,o,Z⟩) n c,.int .i64 0,.slice (J ⟨vb,vo,Z⟩) 1 vc] w λx G=>x=.returned (.slice (J ⟨b,o,Z⟩) (n+1) c)/\G=World.eW w.drew b (.cells (over (over cs (o+14) (cs.extract o (o+n*14)).toList) o (ds.extract vo (vo+1*14)).toList) e (0,0)):=by
 have y:ds.size≠0:=ab;have F:¬((0:Int)=(n:Int)):=ab;have k:∀lb p,(callFunc 434 #[.slice (J ⟨vb,vo,Z⟩) 1 vc,.slice (J ⟨b,o+14,Z⟩) lb p]).run eD w=.ok (.value (.bool C)) w:=λlb p=>aJn i j I y;have U:w.drew.heap[b]?=J (.cells cs e (0,0)):=i;have a:∀ty d u,(zg #[60,60] ty #[.slice (J ⟨b,o+14,Z⟩) n d,.slice (J ⟨b,o,Z⟩) (n+1) u]).run eD w.drew=.ok (goInt n) (World.eW w.drew b (.cells (over cs (o+14) (cs.extract o (o+n*14)).toList) e (0,0))):=λty d u=>RC U U ab ab ab s;have T:¬(c=1):=ab;have l:Tryz.prog.follows .mixedOrders=V:=MZ;have N:IntKind.i64.wrap 1=1:=by rfl
 have S:(1:Int)<=(n:Int)+1:=ab;have z:¬(c=0):=ab;have A:(0:Int)<=(n:Int)+1:=ab;have E:IntKind.i64.wrap 0=0:=by rfl
 obtain⟨W,D⟩:∃W,W=World.eW w.drew b (.cells (over cs (o+14) (cs.extract o (o+n*14)).toList) e (0,0)):=⟨_,rfl⟩;have h:W.heap[b]?=J (.cells (over cs (o+14) (cs.extract o (o+n*14)).toList) e (0,0)):=by grind[AJ]
 have f:W.heap[vb]?=J (.cells ds q fz):=by rw[D,Cr _ _ I];exact j
 have P:(over cs (o+14) (cs.extract o (o+n*14)).toList).size=cs.size:=Ay _ _ _ ai;have g:∀ty d,(zg #[60,60] ty #[.slice (J ⟨b,o,Z⟩) (n+1) d,.slice (J ⟨vb,vo,Z⟩) 1 vc]).run eD W=.ok (goInt 1) (World.eW W b (.cells (over (over cs (o+14) (cs.extract o (o+n*14)).toList) o (ds.extract vo (vo+1*14)).toList) e (0,0))):=λty d=>RC (m:=1) h f (by rfl) ab ab t;have r:World.eW W b (.cells (over (over cs (o+14) (cs.extract o (o+n*14)).toList) o (ds.extract vo (vo+1*14)).toList) e (0,0))=World.eW w.drew b (.cells (over (over cs (o+14) (cs.extract o (o+n*14)).toList) o (ds.extract vo (vo+1*14)).toList) e (0,0)):=by grind[Z6]
 rw[<-D]at a;rw[<-r];clear r h f P i j U s t D;go_enter Tryz.func386,Tryz.ntmps386;go_wp2_with(simp only[k]);go_region_law_o(refine step_copy_runI rfl _ _ 73 60 rfl _ _ (by simp[Act.eval,Act.put]) (by simp[Act.eval,Act.put]) (a _ _ _) ?_);go_wp2_with(at_builtin;refine wpList_copy_runI _ rfl _ _ 73 60 rfl _ _ rfl rfl (g _ _) ?_);go_ret;simp_all
set_option maxHeartbeats 4000000 in set_option maxRecDepth 100000 in theorem agt{b:aT}{a:Addr}{c:Nat}{r:aD}(j:∀ty,(tz #[60,60] ty #[.slice (J a) 0 c,.slice (J ⟨vb,vo,Z⟩) 1 vc]).run eD w=.ok r b):Calls eD 386 #[.slice (J a) 0 c,.int .i64 0,.slice (J ⟨vb,vo,Z⟩) 1 vc] w λx d=>x=.returned r/\d=b:=by go_enter Tryz.func386,Tryz.ntmps386;go_wp2_with(at_builtin;refine Lib.wpList_append_run _ rfl _ _ _ _ rfl _ _ rfl rfl _ _ (j _) ?_);all_goals(go_ret;simp_all)
set_option maxHeartbeats 4000000 in set_option maxRecDepth 100000 in theorem ayR{b o n c G:Nat}{row:Array aD}{F:an}{P:Nat×Nat}(q:w.heap[b]?=J (.cells cs e P))(s:w.heap[vb]?=J (.cells ds F fz))(hn:0<n)(hb:n<1000000000)(hc:c<n+1)(T:n<=c)(X:o+n*14<=cs.size)(t:vo+14<=ds.size)(z:∀v,v∈(cs.extract o (o+n*14)).toList->wi v=V)(A:∀v,v∈(ds.extract vo (vo+1*14)).toList->wi v=V)(Y:(n+1)*14<=row.size)(hG:n+1<=G)(r:∀ty,(tz #[60,3] ty #[.slice (J ⟨b,o,Z⟩) 0 c,.int .i64 ((n:Int)+1)]).run eD w=.ok (.slice (J ⟨w.heap.size,0,Z⟩) (n+1) G) (World.push w.drew (.cells row 62))):Calls eD 386 #[.slice (J ⟨b,o,Z⟩) n c,.int .i64 0,.slice (J ⟨vb,vo,Z⟩) 1 vc] w λx w'=>x=.returned (.slice (J ⟨w.heap.size,0,Z⟩) (n+1) G)/\w'=World.eW (World.push w.drew (.cells row 62)).drew w.heap.size (.cells (over (over row 0 (ds.extract vo (vo+1*14)).toList) 14 (cs.extract o (o+n*14)).toList) 62 (0,0)):=by
 have hz2:¬((0:Int)=(n:Int)):=ab;have hz3:(c:Int)<(n:Int)+1:=ab;have R:¬(c=0):=ab;have u:Tryz.prog.follows .mixedOrders=V:=MZ;have hw0:IntKind.i64.wrap 0=0:=by rfl
 have vN:IntKind.i64.wrap 1=1:=by rfl
 have US:(1:Int)<=(n:Int)+1:=ab;have O:(0:Int)<=(n:Int)+1:=ab;have Q:(0:Int)<=(n:Int):=ab;have K:¬(G=0):=ab;have M:¬(G=1):=ab;have hsw:IntKind.i64.wrap ((n:Int)+1-0)=(n:Int)+1:=by grind[IntKind.wrap_i64]
 have E:IntKind.i64.wrap ((n:Int)+1)=(n:Int)+1:=ai;have j:=(ap.1 q).1;have l:=(ap.1 s).1;obtain⟨N,hN⟩:∃N,N=w.heap.size:=⟨_,rfl⟩;obtain⟨W,D⟩:∃W,W=World.push w.drew (.cells row 62):=⟨_,rfl⟩;have y:W.heap[N]?=J (.cells row 62 (0,0)):=by rw[D,hN];exact xf w.drew _
 have h:∀k,k<N->W.heap[k]?=w.heap[k]?:=λk S=>by rw[D];exact Gg w.drew _ (hN▸S)
 have i:N<W.heap.size:=(ap.1 y).1;have jF:(ds.extract vo (vo+1*14)).toList.length=14:=ai;have d:∀ty g,(zg #[60,60] ty #[.slice (J ⟨N,0,Z⟩) (n+1) g,.slice (J ⟨vb,vo,Z⟩) 1 vc]).run eD W=.ok (goInt 1) (World.eW W N (.cells (over row 0 (ds.extract vo (vo+1*14)).toList) 62 (0,0))):=λty g=>RC (m:=1) y ((h vb (hN▸l)).trans s) (by rfl) ab ab A;obtain⟨a,L⟩:∃a,a=World.eW W N (.cells (over row 0 (ds.extract vo (vo+1*14)).toList) 62 (0,0)):=⟨_,rfl⟩;have f:a.drew.heap[N]?=J (.cells (over row 0 (ds.extract vo (vo+1*14)).toList) 62 (0,0)):=by rw[L];exact AJ _ _ i
 have I:a.drew.heap[b]?=J (.cells cs e P):=by rw[L];exact(Cr _ _ ab).trans ((h b (hN▸j)).trans q)
 have H:(over row 0 (ds.extract vo (vo+1*14)).toList).size=row.size:=Ay _ _ _ ab;have p:∀ty g B,(zg #[60,60] ty #[.slice (J ⟨N,14,Z⟩) n g,.slice (J ⟨b,o,Z⟩) n B]).run eD a.drew=.ok (goInt n) (World.eW a.drew N (.cells (over (over row 0 (ds.extract vo (vo+1*14)).toList) 14 (cs.extract o (o+n*14)).toList) 62 (0,0))):=λty g B=>RC (m:=n) f I ab ab ab z;have U:World.eW a.drew N (.cells (over (over row 0 (ds.extract vo (vo+1*14)).toList) 14 (cs.extract o (o+n*14)).toList) 62 (0,0))=World.eW W.drew N (.cells (over (over row 0 (ds.extract vo (vo+1*14)).toList) 14 (cs.extract o (o+n*14)).toList) 62 (0,0)):=by rw[L];exact Z6 W.drew N _ _
 rw[<-D,<-hN]at r|-;rw[<-L]at d;rw[<-U];clear U f I H L D hN y h i jF q s z A Y j l X t;go_enter Tryz.func386,Tryz.ntmps386;go_wp2_with(first|(at_builtin;refine Lib.wpList_append_run _ rfl _ _ _ _ rfl _ _ rfl rfl _ _ (r _) ?_)|(at_builtin;refine wpList_copy_runI _ rfl _ _ 73 60 rfl _ _ rfl rfl (d _ _) ?_));go_region_law_o(refine step_copy_runI rfl _ _ 73 60 rfl _ _ (by simp[Act.eval,Act.put]) (by simp[Act.eval,Act.put]) (p _ _ _) ?_);go_wp2;go_ret;simp_all
end Go.Proofs
namespace Go.AM
open Go Go.VM Proofs Proofs.Tryz
def CV{f:bY}{v:Array aD}{w:aT}{R:Ending->aT->Prop}(h:Calls PP f v w R)(c:dm)(s:List dm):∃e a,R e a/\∀u,e=.returned u->Steps PP (fh (Frame.enter PP f v .normal) (c::s) w) (fh (c.finish u) s a):=by obtain⟨e,a,fr,b,L,y,m⟩:=h _;refine⟨e,a,b,λu d=>?_⟩;subst d;exact Steps.trans L (Steps.head (step_leave_returned m) (Steps.refl _ _))
def KA{f:bY}{n:Func}{b:bM}(c:PP.funcs[f]?=J n)(h:n.body=J b)(a:Array aD)(w:aT):(callFunc f a).run PP w=.ok (.enter f a) w:=by grind[Kz,Ge]
def CW(n m k:Nat):ah Nat->Bool|some c=>aw c n|none=>bz m k
def Md(i o n:Nat)(c:ah Nat)(w j:Nat)(H:Heap):ah (AV×Heap):=match H.get i with|some (.cells l r f e)=>(H.load w j 14).bind λx=>(H.load i o (n*14)).bind λa=>bif(f.wr&&(bz (H.br r).1 i&&(aw (H.br r).2 i&&aw e 62)))&&(!(aw (rootOf H w) r)&&(cw n 1000000000&&CW n (fg l) (o+n*14) c))then J (.sl H.next 0 (n+1) Z 14,H.gV r (H.br r).1 V (x++a) 62)else Z|_=>Z
def Rh(a:ct):ct:=λf args H=>bif aw f 386 then(match args with|[.sl id o n c 14,.int .i64 (.ofNat 0),.sl w j 1 _ 14]=>J (Md id o n c w j H)|_=>J Z)else a f args H
def Hx{S:Nat->Prop}{g:bc}{H:Heap}{w:aT}(F:bS S g H w){d o n:Nat}{p:Pl}{l:aJ}(E:g d=J p)(z:S (rootOf H d))(h:H.load d o n=J l):∃c f e1,w.heap[p.ba]?=J (.cells c e1 f)/\c.size=p.oO/\p.base+o+n<=c.size/\aZ g l (c.extract (p.base+o) (p.base+o+n)).toList/\(∀x,x∈l->x.aV=V)/\∀v,v∈(c.extract (p.base+o) (p.base+o+n)).toList->wi v=V:=by
 unfold Heap.load at h;rcases q:H.cellsOf d with _|m;.grind
 simp only[q,cU,dp,dZ,qg,qQ]at h;by_cases a:o+n<=m.length;.have t:J ((m.drop o).take n)=J l:=ai;cases t;obtain⟨r,G,e,A,b⟩:=KD q;obtain⟨s,D⟩:=CT F E z A b;obtain⟨c,f,e1,j,u,k,y⟩:=s.slice D a;obtain⟨Q,_,_,k1,k2,_⟩:=s;rw[j]at k1;obtain⟨rfl,_⟩:=Obj.cells.inj (bE k1);refine⟨c,f,e1,j,k2,u,k,y,λv b=>?_⟩;obtain⟨i,B⟩:=a8.1 b;have N:i<((m.drop o).take n).length:=ai;exact(k.2 i _ _ (dC N) B).aV aU
 grind
def aNw{e:bc}{a b:aJ}{u d:List aD}(h:aZ e a u)(f:aZ e b d){r:Array aD}{s:Nat}(j:∀k,k<u.length->r[s+k]?=u[k]?)(l:∀k,k<d.length->r[s+u.length+k]?=d[k]?):∀(i:Nat)(x:AV),(a++b)[i]?=J x->∃c,r[s+i]?=J c/\VR e x c:=by intro i x g;obtain⟨v,m,hr⟩:=(h.append f).get g;grind
def lw:mq PP 62=J [.int .i64 0,.bH,.int .i64 0,.int .i64 0,.int .i64 0,.int .i64 0,.int .i64 0,.bH,.int .i64 0,.int .i64 0,.int .i64 0,.int .i64 0,.int .i64 0,.str []]:=by rfl
def aHl{ak:ct}(hp:jQ PP ak):jQ PP (Rh ak):=by
 intro f args H v H' h φ g av c K hi N hg hv;unfold Rh at h;rw[bQ]at h;by_cases hf:f=386
 . subst hf;simp only[dX,aR]at h;split at h
   . rename_i id d n c0 w7 j cv;have h:=bE h;unfold Md at h;split at h
     . rename_i l r fl e kY;obtain⟨cx,Lv,h⟩:=aF h;obtain⟨cl,kA,h⟩:=aF h;rcases UX:((fl.wr&&(bz (H.br r).1 id&&(aw (H.br r).2 id&&aw e 62)))&&(!(aw (rootOf H w7) r)&&(cw n 1000000000&&CW n (fg l) (d+n*14) c0)))with _|_;.grind
       rw[UX]at h;obtain⟨rfl,rfl⟩:=jf (bE h);simp only[gD,dp,bQ,eP,jB,Ss,C0]at UX;obtain⟨⟨hwr,BQ,E5,rfl⟩,Ff,m9,qU⟩:=UX;obtain⟨x1,t1,e1,lf,pf⟩:=hv.cons_inv;obtain⟨x2,t2,e2,pg,sZ⟩:=pf.cons_inv;obtain⟨x3,t3,e3,Qh,ht3⟩:=sZ.cons_inv;obtain rfl:=ht3.sB;subst e2;subst e3;cases pg;cases lf with|sl _ _ _ _ _ p F i k1 k2 k3 k4 k5 k6 k7 k8=>cases Qh with|sl _ _ _ _ _ q aIW E j1 j2 j3 j4 j5 j6 j7 j8=>
       have vD:av=#[.slice (J F) n i,.int .i64 0,.slice (J aIW) 1 E]:=ai;subst vD;obtain rfl:=j6 ab;have ou:fl≠.ro:=by grind[fS.wr]
       have vL:=(N.stat.cF id p k1).1;have eK:¬fQ H id:=by rintro⟨l',r',e',hh⟩;grind
       have ir:rootOf H id=r:=qC kY;have cI:q.ba≠p.ba:=λx=>Ff (by rw[<-ir];exact(N.stat.inj id w7 p q k1 j1 x.symm eK).symm);obtain⟨ic,uO⟩:=CT N k1 trivial kY BQ;obtain⟨A,fz,ee,X,a2,a3,a4,a5,a6,a7⟩:=ic;obtain⟨rfl,rfl⟩:=a6 ou;obtain⟨A',Ux,ee',b1,b2,b3,b4,b5,b6⟩:=Hx N k1 trivial kA;rw[X]at b1;obtain⟨rfl,_,_⟩:=Obj.cells.inj (bE b1);obtain⟨D,fd,ed,d1,d2,d3,d4,d5,d6⟩:=Hx N j1 trivial Lv;have eX:∀g,(callFunc 386 #[.slice (J F) n i,.int .i64 0,.slice (J ⟨q.ba,q.base+j,Z⟩) 1 E]).run PP g=.ok (.enter 386 _) g:=λg=>KA Tryz.func386 rfl _ g;have hul:(D.extract (q.base+j) (q.base+j+14)).toList.length=14:=ai;have qX:(A.extract (p.base+d) (p.base+d+n*14)).toList.length=n*14:=ai;generalize L6:(D.extract (q.base+j) (q.base+j+14)).toList=s at*;generalize uT:(A.extract (p.base+d) (p.base+d+n*14)).toList=B at*;have awe:(cx++cl).length=(n+1)*14:=by rw[gR,d4.1,b4.1,hul,qX];omega
       have fin:∀(m:aT)(z:Pl)(Q:Nat)(y:Array aD),g.heap.size<=m.heap.size->(m.os=g.os/\m.tape=g.tape/\m.output=g.output)->(∀b,b<g.heap.size->b≠p.ba->m.heap[b]?=g.heap[b]?)->((z.ba=p.ba/\p.base+p.len<=z.base+z.len)\/(g.heap.size<=z.ba/\z.ba<m.heap.size))->z.len=(n+1)*14->m.heap[z.ba]?=J (.cells y 62 (0,0))->y.size=z.oO->(∀k,k<14->y[z.base+k]?=s[k]?)->(∀k,k<n*14->y[z.base+14+k]?=B[k]?)->n+1<=Q->z.base+Q*14<=z.oO->Steps PP (fh (Frame.enter PP 386 #[.slice (J F) n i,.int .i64 0,.slice (J ⟨q.ba,q.base+j,Z⟩) 1 E] .normal) (c::K) g) (fh (c.finish (.slice (J ⟨z.ba,z.base,Z⟩) (n+1) Q)) K m)->∃ψ m u,gd φ H g ψ (H.gV r (H.br r).1 V (cx++cl) 62) m/\VR ψ (.sl H.next 0 (n+1) Z 14) u/\((callFunc 386 #[.slice (J F) n i,.int .i64 0,.slice (J ⟨q.ba,q.base+j,Z⟩) 1 E]).run PP g=.ok (.value u) m\/((callFunc 386 #[.slice (J F) n i,.int .i64 0,.slice (J ⟨q.ba,q.base+j,Z⟩) 1 E]).run PP g=.ok (.enter 386 #[.slice (J F) n i,.int .i64 0,.slice (J ⟨q.ba,q.base+j,Z⟩) 1 E]) g/\Steps PP (fh (Frame.enter PP 386 #[.slice (J F) n i,.int .i64 0,.slice (J ⟨q.ba,q.base+j,Z⟩) 1 E] .normal) (c::K) g) (fh (c.finish u) K m))):=by
         intro m z Q y f1 f2 f3 f4 f5 f6 f7 f8 f9 f10 f11 f12;have hm:(n+1)*14<=Q*14:=lW _ f10;have PZ:my φ m (.cells (cx++cl) r .op 62) z:=by
           refine⟨y,(0,0),_,f6,f7,ab,?_,λa ha=>?_,λ_=>⟨rfl,rfl⟩,λh=>ai⟩;.exact aNw d4 b4 (λk I=>f8 k ab) (λk I=>ai)
           grind
         have qu:=UC hi N k1 kY ou E5 (H.br r).1 rfl (cx++cl) V z ab f1 f2 f3 f4 (λh=>ai) PZ;refine⟨_,m,_,⟨qu.1,qu.2.1.SQ λ_=>trivial,qu.2.2⟩,.sl H.next 0 (n+1) Z 14 z ⟨z.ba,z.base,Z⟩ Q (jN ..) f10 ab (λk I=>ai) (λ_=>ab) (λ_=>rfl) ab ab,.inr ⟨eX g,f12⟩⟩
       obtain⟨ti,t1,t2,t3⟩:=IW Vz;obtain⟨L,z1,z2,_⟩:=gm (Y:=φ) lw t1;have z3:L.cells.size=14:=by have:=z2.1;rw[Array.length_toList]at this;exact this.symm
       have hX:(D.extract (q.base+j) (q.base+j+14)).size=14:=ai;have nd:∀m,m.heap=g.heap->(oQ 14 1 (.slice (J ⟨q.ba,q.base+j,Z⟩) 1 E)).run PP m=.ok (D.extract (q.base+j) (q.base+j+14)) m:=λm e=>JF (n:=1*14) (by rw[e];omega) d3;have S:PP.underlying 60=J (.slice 62):=underlying60;have hu3:PP.underlying 3=J (.int .i64):=underlying3;by_cases jT:n=0
       . subst jT;by_cases T:1<=i
         . obtain rfl:=k6 ab;have zX:p.base+d+s.length<=A.size:=ab;have cA:=Nq (P:=PP) X zX (λv hv=>d6 v hv);have jo:∀ty,(tz #[60,60] ty #[.slice (J ⟨p.ba,p.base+d,Z⟩) 0 i,.slice (J ⟨q.ba,q.base+j,Z⟩) 1 E]).run PP g=.ok (.slice (J ⟨p.ba,p.base+d,Z⟩) (0+1) i) (World.eW g p.ba (.cells (over A (p.base+d) s) 62 (0,0))):=λty=>ajz rfl S xn rfl S (λk h=>ai) rfl (nd g rfl) ab (by grind[wB]);obtain⟨e,m,⟨rfl,O⟩,M⟩:=CV (agt jo) c K;subst O;refine fin (World.eW g p.ba (.cells (over A (p.base+d) s) 62 (0,0))) ⟨p.ba,p.base+d,p.oO,14⟩ i (over A (p.base+d) s) (by simp[Cs]) ⟨rfl,rfl,rfl⟩ (λb _ h=>Cr g _ h) (.inl ⟨rfl,?_⟩) rfl (AJ g _ vL) ((Ay _ _ _ zX).trans a2) (λk I=>?_) (λk I=>ab) T k3 (M _ rfl)
           . show p.base+p.len<=p.base+d+14;rcases c0 with _|k;.grind[CW,dp,dZ]
             grind[CW,bQ]
           .show(over A (p.base+d) s)[p.base+d+k]?=_;rw[u6 _ _ _ zX,if_pos ab];congr 1;omega
         . obtain⟨t,g1,g2⟩:=run_append_grow (P:=PP) (w:=g) (ats:=#[60,60]) (ty:=60) (eV:=0) (je:=i) (n:=1) (base:=J F) (xv:=.slice (J ⟨q.ba,q.base+j,Z⟩) 1 E) (old:=#[]) rfl S t1 z1 rfl S (λk h=>ai) rfl (by rw[t2];exact nd g.drew rfl) ab (by simp[oQ,loadCells,loadCellsFrom]) (by rw[t3];decide) ft;obtain⟨e,m,⟨rfl,O⟩,M⟩:=CV (agt (λty=>(show _=_ from by rw[<-g2];rfl))) c K;subst O;have hR:(#[]++D.extract (q.base+j) (q.base+j+14)++nX L.cells (t-(0+1))).size=t*14:=by grind[eg]
           refine fin (World.push g.drew (.cells (#[]++D.extract (q.base+j) (q.base+j+14)++nX L.cells (t-(0+1))) 62)) ⟨g.heap.size,0,t*14,14⟩ t (#[]++D.extract (q.base+j) (q.base+j+14)++nX L.cells (t-(0+1))) (by simp[DN]) ⟨rfl,rfl,rfl⟩ (λb hb _=>Gg g.drew _ hb) (.inr ⟨bT _,by simp[DN]⟩) rfl (xf g.drew _) hR (λk I=>?_) (λk I=>ab) g1 aP (M _ rfl);grind
       . by_cases T:n+1<=i
         . obtain rfl:=k6 ab;have hm:(n+1)*14<=i*14:=lW _ T;have W:=ayS (vc:=E) (c:=i) (o:=p.base+d) (vo:=q.base+j) (n:=n) X d1 cI ab m9 T ab d3 ai ai;rw[Nat.one_mul,uT,L6]at W;obtain⟨e,m,⟨rfl,O⟩,M⟩:=CV W c K;subst O;have U:p.base+d+14+B.length<=A.size:=ab;have jF:=Ay A (p.base+d+14) B U;have R:p.base+d+s.length<=(over A (p.base+d+14) B).size:=ab;refine fin (World.eW g.drew p.ba (.cells (over (over A (p.base+d+14) B) (p.base+d) s) 62 (0,0))) ⟨p.ba,p.base+d,p.oO,(n+1)*14⟩ i (over (over A (p.base+d+14) B) (p.base+d) s) (by simp[Cs]) ⟨rfl,rfl,rfl⟩ (λb _ h=>Cr g.drew _ h) (.inl ⟨rfl,?_⟩) rfl (AJ g.drew _ vL) ((Ay _ _ _ R).trans (jF.trans a2)) (λk I=>?_) (λk I=>?_) T k3 (M _ rfl)
           . show p.base+p.len<=p.base+d+(n+1)*14;rcases c0 with _|k;.grind[CW,dp,dZ]
             grind[CW,bQ]
           .show(over (over A (p.base+d+14) B) (p.base+d) s)[p.base+d+k]?=_;rw[u6 _ _ _ R,if_pos ab];congr 1;omega
           .show(over (over A (p.base+d+14) B) (p.base+d) s)[p.base+d+14+k]?=_;rw[u6 _ _ _ R,if_neg ab,u6 _ _ _ U,if_pos ab];congr 1;omega
         . have tT:F=⟨p.ba,p.base+d,Z⟩:=k6 ab;obtain⟨t,g1,g2⟩:=sy (P:=PP) (w:=g) (ats:=#[60,3]) (ty:=60) (eV:=0) (je:=i) (n:=n+1) (base:=J F) (old:=#[]) rfl S t1 z1 rfl hu3 ab ab (by simp[oQ,loadCells,loadCellsFrom]) (by rw[t3];show _<=1099511627776;omega) (by show _<=1099511627776;omega);have hR:(#[]++nX L.cells (n+1)++nX L.cells (t-(0+(n+1)))).size=t*14:=by grind[eg]
           generalize#[]++nX L.cells (n+1)++nX L.cells (t-(0+(n+1)))=row at*;subst tT;have W:=ayR (vc:=E) (c:=i) (o:=p.base+d) (vo:=q.base+j) (n:=n) (G:=t) (row:=row) X d1 ab m9 ab k2 ab d3 ai ai ab ab (λty=>by have:=g2;rw[kG]at this;exact this);rw[Nat.one_mul,uT,L6]at W;obtain⟨e,m,⟨rfl,O⟩,M⟩:=CV W c K;subst O;have U:0+s.length<=row.size:=ab;have jF:=Ay row 0 s U;have R:14+B.length<=(over row 0 s).size:=ab;have hN:g.heap.size<(World.push g.drew (.cells row 62)).heap.size:=by simp[DN]
           refine fin (World.eW (World.push g.drew (.cells row 62)).drew g.heap.size (.cells (over (over row 0 s) 14 B) 62 (0,0))) ⟨g.heap.size,0,t*14,(n+1)*14⟩ t (over (over row 0 s) 14 B) (by rw[Cs];exact Nat.le_of_lt hN) ⟨rfl,rfl,rfl⟩ (λb hb _=>(Cr _ _ ab).trans (Gg g.drew _ hb)) (.inr ⟨bT _,by rw[Cs];exact hN⟩) rfl (AJ _ _ hN) ((Ay _ _ _ R).trans (jF.trans hR)) (λk I=>?_) (λk I=>?_) ab aP (M _ rfl);.show(over (over row 0 s) 14 B)[0+k]?=_;rw[u6 _ _ _ R,if_neg ab,u6 _ _ _ U,if_pos ab];grind
           grind[u6]
     grind
   grind
 .simp only[hf,lC,ch]at h;exact hp f args H v H' h φ g av c K hi N hg hv
open Go.Sort
def I0:aJ->ah cG|[]=>J []|.int .i64 z::l=>(I0 l).map λt=>z::t|_=>Z
theorem agv:∀{l:aJ}{zs:cG},I0 l=J zs->l=zs.map (AV.int .i64)
 |[],zs,h=>by cases h;rfl|a::l,zs,h=>by
  unfold I0 at h;split at h;.simp at*
  .rename_i z t e;obtain⟨rfl,rfl⟩:=List.cons.inj e;obtain⟨c,b,rfl⟩:=iK.1 h;rw[agv b];rfl
  .simp at h
def rowP(f:cG->cG)(H:Heap)(i o n:Nat):ah (cG×Heap):=bif cw 0 n&&cw n 1000000000 then(H.load i o n).bind λl=>(I0 l).bind λzs=>(H.store i o ((f zs).map (AV.int .i64))).map λa=>(zs,a)else Z
def GF(l:cG):cG:=l.mergeSort λx y=>decide (x<=y)
def CY(l:cG):cG:=tB l++mr (l.length-(tB l).length) 0
def Ri(a:ct):ct:=λf args H=>bif aw f 265 then(match args with|[.bH]=>J (J (.cO [],H))|[.sl id o n _ 1]=>J ((rowP GF H id o n).map λr=>(.cO [],r.2))|_=>J Z)else bif aw f 266 then(match args with|[.bH]=>J (J (.bH,H))|[.sl id o n c 1]=>J ((rowP CY H id o n).map λr=>(.sl id o (tB r.1).length c 1,r.2))|_=>J Z)else a f args H
def OI(l:cG):(tB l).length<=l.length:=by grind[tB,Lib.compactUpTo]
def ajq{f:cG->cG}{H a:Heap}{i o n:Nat}{s:cG}(h:rowP f H i o n=J (s,a)):0<n/\n<1000000000/\H.load i o n=J (s.map (AV.int .i64))/\H.store i o ((f s).map (AV.int .i64))=J a:=by
 unfold rowP at h;rcases c:(cw 0 n&&cw n 1000000000)with _|_;.grind
 rw[c]at h;simp only[gD,eP,jB]at c;obtain⟨l,b,h⟩:=aF h;obtain⟨z,d,h⟩:=aF h;grind[iK,agv]
def aHm{G:ct}(O:jQ PP G):jQ PP (Ri G):=by
 intro f args H v K h y w g c s m t M u;unfold Ri at h;rw[bQ,bQ]at h;by_cases j:f=265
 . subst j;simp only[dX,aR]at h;split at h;.obtain⟨rfl,rfl⟩:=jf (bE (bE h));obtain⟨x1,t1,e1,l,d⟩:=u.cons_inv;obtain rfl:=d.sB;cases l;have D:g=#[.slice Z 0 0]:=ai;subst D;obtain⟨e,x,⟨rfl,rfl⟩,k⟩:=CV (Any.slices_Sort_int_none Tryz.agQ Z 0 w) c s;exact⟨y,x,.tuple #[],a33 m t,.cO [] #[] rfl (λi a v h=>ai),.inr ⟨KA Tryz.func265 rfl _ _,k _ rfl⟩⟩
   .rename_i id o n I;obtain⟨r,hr,e⟩:=iK.1 (bE h);obtain⟨rfl,rfl⟩:=jf e;obtain⟨zs,L⟩:=r;obtain⟨P,Q,B,A⟩:=ajq hr;obtain⟨x1,t1,e1,l,d⟩:=u.cons_inv;obtain rfl:=d.sB;cases l with|sl _ _ _ _ _ p z b k1 k2 k3 k4 k5 k6 k7 k8=>have D:g=#[.slice (J z) n b]:=ai;subst D;obtain rfl:=k6 ab;obtain⟨r1,r2,E,F⟩:=ajr m t k1 B (List.length_mergeSort zs) A;subst r2;obtain⟨e,x,⟨rfl,q,R,rfl⟩,k⟩:=CV (Any.slices_Sort_int Tryz.agQ p.ba (p.base+o) b zs w E r1 ab) c s;exact⟨y,_,.tuple #[],F q R,.cO [] #[] rfl (λi a v h=>ai),.inr ⟨KA Tryz.func265 rfl _ _,k _ rfl⟩⟩
   grind
 . simp only[j,lC,ch]at h;by_cases j:f=266
   . subst j;simp only[dX,aR]at h;split at h;.obtain⟨rfl,rfl⟩:=jf (bE (bE h));obtain⟨x1,t1,e1,l,d⟩:=u.cons_inv;obtain rfl:=d.sB;cases l;have D:g=#[.slice Z 0 0]:=ai;subst D;obtain⟨e,x,⟨rfl,rfl⟩,k⟩:=CV (Any.slices_Compact_int_empty Tryz.agR Z 0 w) c s;exact⟨y,x,_,a33 m t,.bH,.inr ⟨KA Tryz.func266 rfl _ _,k _ rfl⟩⟩
     .rename_i id o n I;obtain⟨r,hr,e⟩:=iK.1 (bE h);obtain⟨rfl,rfl⟩:=jf e;obtain⟨zs,L⟩:=r;obtain⟨P,Q,B,A⟩:=ajq hr;obtain⟨x1,t1,e1,l,d⟩:=u.cons_inv;obtain rfl:=d.sB;cases l with|sl _ _ _ _ _ p z b k1 k2 k3 k4 k5 k6 k7 k8=>have D:g=#[.slice (J z) n b]:=ai;subst D;obtain rfl:=k6 ab;have N:=OI zs;obtain⟨r1,r2,E,F⟩:=ajr m t k1 B (ys:=CY zs) (by grind[CY]) A;subst r2;obtain⟨e,x,⟨rfl,q,rfl⟩,k⟩:=CV (Any.slices_Compact_int Tryz.agR p.ba (p.base+o) b zs w E ab k2) c s;refine⟨y,_,_,?_,.sl id o (tB zs).length I 1 p ⟨p.ba,p.base+o,Z⟩ b k1 ab k3 k4 k5 (λ_=>rfl) k7 ab,.inr ⟨KA Tryz.func266 rfl _ _,k _ rfl⟩⟩;have:=F q #[];rw[grow_empty]at this;exact this
     grind
   .simp only[j,lC,ch]at h;exact O f args H v K h y w g c s m t M u
end Go.AM
namespace Go.VM
open Go Go.AM Proofs.Tryz
variable{e I:Nat}{l:ao}
theorem aBd{a b n:Nat}{c:ah Nat}:nO (.sl a b n c e)=J n:=(rfl)
theorem VK:aA 1 (.ofNat 2)=V:=(rfl)
theorem VL:aA 2 (.ofNat 2)=C:=(rfl)
section
variable{P:aH}{ak:ct}{rec:AM.Rec}{ops:Array aB}{fr:cJ}{H:Heap}{o:aB}{l:List aB}{j:Nat}{log:List (Nat×jv)}
theorem aIQ:H.resume H.fresh=H:=(rfl)
theorem avn{j:Nat}{d:jv}{H:Heap}(h:H.cL=[]):rT ops o j d H=V:=by grind[rT]
theorem f_w:H.fresh.bX=[]:=(rfl)
theorem f_g:H.fresh.cL=[]:=(rfl)
theorem alv{a:Type}{f:a->Bool}:AM.lx f []=V:=(rfl)
theorem alu{b:Type}{f:b->Bool}{a:b}{l:List b}:AM.lx f (a::l)=bif f a then AM.lx f l else C:=(rfl)
theorem aNR{r:ah (List (AM.Touch×Nat))}:AM.within ⟨r,[]⟩=V:=by cases r<;>rfl
theorem aNS{w:aE}:AM.within ⟨Z,w⟩=V:=(rfl)
theorem al2{r a:ah (List (AM.Touch×Nat))}:apart ⟨r,[]⟩ ⟨a,[]⟩=V:=by rfl
end
theorem aAJ{a b n:Nat}{c:ah Nat}:re (.sl a b n c e)=J n:=(rfl)
attribute[local go_sem]body vw wE xR xS xT Ex cJ.vi cJ.RG cJ.RF Eb CB GV GX Cx GY G1 Ed Ec GW G5 GZ G2 G3 G4 N7 D9 G0 Cz D' CA Ea Cy aAJ aIQ f_w f_g alv alu aNR aNS al2 ajw ajy KM wv fF dY aiw aiv ais air ait aiu DY xb DF fc ake yK uU iC xU IY aBd ia gM cU zi cB tR lz jY jO VK VL gq A5 ahz Du Nat.zero_mul Nat.sub_zero vq kG ll kP ky dZ Jx
attribute[local congr]bB bC
theorem apb(k:ct)(H q e:Heap)(d o a i j:Nat)(c b g r:ah Nat)(x:AV)(y z:aJ)(p:mq PP 62=J z)(l:z.length=14)(v:k 388 [.sl d o a c 14,ia i,ia j] H=Z)(I:i<j)(K:Jl x=J x)(D:AM.qb PP H 60 (.sl d o a c 14) (J (.int .i64 (.ofNat i))) (J (.int .i64 (.ofNat j))) (J (.int .i64 (.ofNat a)))=J x)(E:∀H,AM.qb PP H 60 (.sl d o a c 14) Z (J (.int .i64 (.ofNat i))) Z=J (.sl d o i b 14))(F:∀H,AM.qb PP H 60 (.sl d o a c 14) (J (.int .i64 (.ofNat j))) Z Z=J (.sl d (o+j*14) (a-j) g 14))(G:AM.qb PP (H.resume q) 60 (.sl d o (i+(a-j)) b 14) (J (.int .i64 (.ofNat (i+(a-j))))) (J (.int .i64 (.ofNat a))) Z=J (.sl d (o+(i+(a-j))*14) (a-(i+(a-j))) r 14))(w:qT H.fresh 14 (a-j) (.sl d (o+j*14) (a-j) g 14)=J y)(u:nE H.fresh 62 14 152 (.sl d o i b 14) y (a-j)=J (.sl d o (i+(a-j)) b 14,q))(s:q.cL=[])(h:a-(i+(a-j))≠0)(t:(H.resume q).store d (o+(i+(a-j))*14) (jW (a-(i+(a-j))) z)=J e):Hb PP k 388 [.sl d o a c 14,ia i,ia j] H (.sl d o (i+(a-j)) b 14) e:=by
 refine dV.ev (fr:={fn:=388,n:=33,tmps:=((Tr.nil.ins 0 (.sl d o a c 14)).ins 1 (ia i)).ins 2 (ia j),todo:=[.code ((f388.body).getD .skip)],defers:=[],mode:=.run,roundOf:=Z}) (by unfold wJ;rw[func388];kernel_rfl) v ?_;obtain⟨f,A,B,q3⟩:=IW Vz;have t1:rA (bp f388 5) 2 6=V:=by rfl
 have t2:rA (bp f388 5) 5 6=V:=by rfl
 have t3:wa (bp f388 5)=V:=by rfl
 simp(config:={maxSteps:=1000000})only[bp,opsOf,f388,go_sem]at t1 t2 t3;have d6:aj (.ofNat i) (.ofNat j)=C:=by show aw i j=C;grind[kT]
 have d7:decide (a-(i+(a-j))=0)=C:=Bq h;show dV PP k {fn:=388,n:=33,tmps:=_,todo:=[.code (Code.seq _ _)],defers:=[],mode:=.run,roundOf:=Z} H _;iterate 12(refine a26 0 (λm h=>by simp only[go_sem,D,d6];rfl) ?_)
 refine a26 0 (λm h=>by
 simp only[go_sem,t3];iterate 8 rw[Gu];simp only[go_sem,p,l,A,B,q3,t1,t2,E,F,w,u,s,avn,oJ,Bool.or_true,eF,tj,xh]
 rfl) ?_;iterate 5(refine a26 0 (λm h=>by simp only[go_sem,p,l,G,d7,t];rfl) ?_)
 exact dV.fin (by rfl) rfl
section
variable{K K':aY}{Y:cu}{B:aI}{H H':Heap}{lb:ew}{g:GH}
theorem Tc{d:DV}{o:aN}{z:aJ}(h:pE K Y B H [d] o z):∃a,z=[a]/\cQ K Y B H (.sl 0) d a o:=by obtain⟨b,c⟩:=h;match z,b with|[a],_=>exact⟨a,rfl,c 0 d a rfl rfl⟩
theorem SS{d e:DV}{o:aN}{z:aJ}(h:pE K Y B H [d,e] o z):∃a b,z=[a,b]/\cQ K Y B H (.sl 0) d a o/\DR K Y e b:=by obtain⟨f,c⟩:=h;match z,f with|[a,b],_=>exact⟨a,b,rfl,c 0 d a rfl rfl,c 1 e b rfl rfl⟩
theorem SN{d e f:DV}{o:aN}{z:aJ}(h:pE K Y B H [d,e,f] o z):∃a b c,z=[a,b,c]/\cQ K Y B H (.sl 0) d a o/\DR K Y e b/\DR K Y f c:=by obtain⟨i,g⟩:=h;match z,i with|[a,b,c],_=>exact⟨a,b,c,rfl,g 0 d a rfl rfl,g 1 e b rfl rfl,g 2 f c rfl rfl⟩
theorem WB{s:Nat}{a:AV}{o:aN}(h:cQ K Y B H (.sl 0) (.ay l e s) a o)(x:vZ o=V):∃r id I c cells f,B (.sl 0)=J (r,V)/\a=.sl id I l.length c s/\H.get id=J (.cells cells r f e)/\f.wr=V/\(H.br r).1<=id/\(H.br r).2=id/\gQ K Y l s I cells/\G8 H id I l.length s r c cells:=by cases o with
 |ex g=>
 rcases h with⟨h,_⟩|⟨r,b,d⟩;.simp at h
 .obtain⟨i,q,id,I,c,cells,f,k1,k2,k3,k4,k5,k6,k7,k8⟩:=d.ex;obtain⟨rfl,rfl,rfl⟩:=DV.ay.inj k1;exact⟨r,id,I,c,cells,f,b,k2,k3,k4,k5,k6,k7,k8⟩|any=>obtain⟨h,_⟩:=h;simp at h|_=>simp[vZ]at x
theorem QZ{a:AV}{o:aN}{p:Pk}(h:cQ K Y B H p .nl a o):a=.bH:=by
 have k:DR K Y .nl a->a=.bH:=λh=>by cases h;rfl
 cases o with|no=>exact k h|any=>exact h.2|ty e=>exact k h.1|full e=>exact k h.1|ex e=>
 rcases h with h|⟨r,_,h⟩;.exact h.2
 .obtain⟨l,q,id,I,c,cells,f,k1,_⟩:=h.ex;simp at k1
theorem gQ.load{s:Nat}{c:aJ}(h:gQ K Y l s I c){i r:Nat}{f:fS}{e:an}(g:H.get i=J (.cells c r f e))(v:(H.br r).1<=i):H.load i I (l.length*s)=J ((c.drop I).take (l.length*s)):=by unfold Heap.load Heap.cellsOf;simp only[g,dp,v,dX,aR,cU,dZ,qg,qQ];rw[mE (show I.add (l.length*s)<=c.length from h.2.1)];rfl
theorem gQ.ints{c:aJ}(h:gQ K Y l 1 I c)(o:l.all uV=V):(c.drop I).take (l.length*1)=(l.map oP).map (AV.int .i64):=by
 have p:=h.2.1;apply Ej;intro i;by_cases b:i<l.length
 . rw[CG ab,xI,jZ,jZ,dC b];have x:uV l[i]=V:=A0.1 o _ (Hj b);have m:I+i<c.length:=ab;have f:(l[i]).flat[0]?=J l[i]:=by cases hd:l[i]<;>rw[hd]at x<;>first|rfl|simp[uV]at x
   obtain⟨a,e⟩:∃a,c[I+i]?=J a:=⟨_,dC m⟩;have hr:=h.2.2.2 i l[i] 0 l[i] a (dC b) f (by rw[Nat.mul_one,vq];exact e);rw[e];generalize l[i]=d at*;cases d with
   |int k n=>
   cases k<;>first|simp[uV]at x|skip
   cases hr;rfl|_=>simp[uV]at x
 . have g:((c.drop I).take (l.length*1))[i]?=Z:=by simp;omega
   have j:((l.map oP).map (AV.int .i64))[i]?=Z:=by simp;omega
   rw[g,j]
theorem aLW{z:cG}{i r:Nat}{c:aJ}{f:fS}{e:an}(g:H.get i=J (.cells c r f e))(w:f.wr=V)(h:(H.br r).1<=i)(a:(H.br r).2=i)(b:I+z.length<=c.length):H.store i I (z.map (AV.int .i64))=J (H.dM i r (.cells (fZ c I (z.map (AV.int .i64))) r f e)):=by unfold Heap.store;simp only[g,dp,bQ,h,a,w,dZ,fO,dX,xA,zf];rw[mE (show I.add z.length<=c.length from b)];rfl
theorem adj{zs ys:cG}{D:aJ}(c:I+(zs++ys).length<=D.length):gQ K Y (zs.map (DV.int .i64)) 1 I (fZ D I ((zs++ys).map (AV.int .i64))):=by
 have l:=yT D I ((zs++ys).map (AV.int .i64)) (by rw[fO];exact c);refine⟨ft,by rw[l,fO,Nat.mul_one];rw[gR]at c;omega,λi x h=>?_,λi x j d a h e b=>?_⟩;.obtain⟨y,_,rfl⟩:=au.1 (dw h);exact⟨rfl,λy k=>by obtain rfl:=CJ.1 k;rfl⟩
 . rw[jZ]at h;obtain⟨z,f,rfl⟩:=iK.1 h;have B:j=0:=by have:=(am.1 e).1;have:j<1:=this;omega
   subst B;cases e;have g:=(am.1 f).1;rw[yS _ _ _ (by rw[fO];exact c),if_pos (by rw[fO,gR];omega)]at b;rw[show I+i*1+0-I=i by omega,jZ,nZ g,f]at b;cases b;exact .int _ _
