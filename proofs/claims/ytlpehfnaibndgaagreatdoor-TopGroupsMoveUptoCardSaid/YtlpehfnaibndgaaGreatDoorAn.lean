/- Proved: the fixed example, and a call of TopGroupsMove in the model. -/
import Derived.Test.YtlpehfnaibndgaaGreatDoorAm
import Derived.Test.YtlpehfnaibndgaaGreatDoorAp
open Option renaming some->J,none->Z
open Bool renaming true->V,false->C
open Go renaming TypeId->an,Value->aD,Program->aH,World->aV
open Go.Proofs.Tryz renaming prog->eP
open List renaming range->rq
open Nat renaming beq->aw
noncomputable section
set_option linter.all false
namespace Go.AM
open Go
set_option maxRecDepth 1000000
def k19:entry PP (AM.run PP (lj 6 3000 Z0 kO) 1000000) 56 Tu g19=V:=aL
def k20:entry PP (AM.run PP (lj 6 3000 Z2 kO) 1000000) 56 Tv g20=V:=aL
def k21:entry PP (AM.run PP (lj 6 3000 Z3 kO) 1000000) 19 Hw g21=V:=aL
def k22:entry PP (AM.run PP (lj 6 3000 Z4 kO) 1000000) 4 Ep g22=V:=aL
def k8:entry PP (AM.run PP (lj 6 3000 Z' kO) 1000000) 117 e8 g8=V:=aL
def k9:entry PP (AM.run PP (lj 6 3000 tb9 kO) 1000000) 165 e9 g9=V:=aL
def Vo:entry PP (AM.run PP (lj 6 3000 ZR kO) 1000000) 117 Em g10=V:=aL
def k11:entry PP (AM.run PP (lj 6 3000 ZS kO) 1000000) 226 En g11=V:=aL
def k12:entry PP (AM.run PP (lj 6 3000 ZT kO) 1000000) 237 CL g12=V:=aL
def k0:entry PP (AM.run PP (lj 6 3000 RN kO) 1000000) 89 e0 g0=V:=aL
def k1:entry PP (AM.run PP (lj 6 3000 ZQ kO) 1000000) 89 e1 g1=V:=aL
def k2:entry PP (AM.run PP (lj 6 3000 Z1 kO) 1000000) 65 e2 g2=V:=aL
def k3:entry PP (AM.run PP (lj 6 3000 Z5 kO) 1000000) 403 e3 g3=V:=aL
def k4:entry PP (AM.run PP (lj 6 3000 Z6 kO) 1000000) 495 e4 g4=V:=aL
def k5:entry PP (AM.run PP (lj 6 3000 Z7 kO) 1000000) 277 e5 g5=V:=aL
theorem k6:entry PP (AM.run PP (lj 6 3000 Z8 kO) 1000000) 121 e6 g6=V:=aL
def k7:entry PP (AM.run PP (lj 6 3000 Z9 kO) 1000000) 403 e7 g7=V:=aL
def xa:kR ZQ:=nS ok0 k0 (by unfold e0;dsimp only;exact mE _)
def FL:kR Z1:=nS xa k1 (by unfold e1;dsimp only;exact mE _)
def Ds:kR Z5:=nS FL k2 (by unfold e2;dsimp only;exact mE _)
def Mz:kR Z6:=nS Ds k3 (by unfold e3;dsimp only;exact mE _)
def ok5:kR Z7:=nS Mz k4 (by unfold e4;dsimp only;exact mE _)
def ok6:kR Z8:=nS ok5 k5 (by unfold e5;dsimp only;exact mE _)
def ok7:kR Z9:=nS ok6 k6 (by unfold e6;dsimp only;exact mE _)
def ok8:kR Z':=nS ok7 k7 (by unfold e7;dsimp only;exact mE _)
def ok9:kR tb9:=nS ok8 k8 (by unfold e8;dsimp only;exact mE _)
def aEi:kR ZR:=nS ok9 k9 (by unfold e9;dsimp only;exact mE _)
def aEj:kR ZS:=nS aEi Vo (by unfold Em;dsimp only;exact mE _)
def aEk:kR ZT:=nS aEj k11 (by unfold En;dsimp only;exact mE _)
def aEl:kR ZU:=nS aEk k12 (by unfold CL;dsimp only;exact mE _)
def aEm:kR ZV:=nS aEl k13 (by unfold To;dsimp only;exact mE _)
def aEn:kR ZW:=nS aEm k14 (by unfold Tp;dsimp only;exact mE _)
def aEo:kR ZX:=nS aEn k15 (by unfold Tq;dsimp only;exact mE _)
def aEp:kR ZY:=nS aEo k16 (by unfold Bg;dsimp only;exact mE _)
def aEq:kR ZZ:=nS aEp k17 (by unfold Ts;dsimp only;exact mE _)
def aEr:kR Z0:=nS aEq k18 (by unfold Tt;dsimp only;exact mE _)
def aEs:kR Z2:=nS aEr k19 (by unfold Tu;dsimp only;exact mE _)
def aEt:kR Z3:=nS aEs k20 (by unfold Tv;dsimp only;exact mE _)
def aEu:kR Z4:=nS aEt k21 (by unfold Hw;dsimp only;exact mE _)
def aEv:kR ajK:=nS aEu k22 (by unfold Ep;dsimp only;exact mE _)
def al7:GU PP 4 Ep:=aEv 4 _ _ (by unfold ajK lY;exact Tr.lF _ _ _) gv
end Go.AM
namespace Go.VM
open Go Go.AM
open Go.Proofs.YtlpehfnaibndgaaGreatDoor (Rows.topGroupsMoveUptoRow)
open Go.Proofs.YtlpehfnaibndgaaGreatDoor.Rows (uptoBulk uptoBulkAll)
variable{g:Nat}
def Qx(g:Nat)(x:aI×an):Lx:=⟨x.1,x.2,⟨g,0,x.1.length,x.1.length⟩⟩
def L0:List Lx:=(rq 6).map λg=>Qx g ((gl[g]?).getD ([],0))
theorem aaH:L0.length=6:=by rfl
theorem Sg{x:aI×an}(h:gl[g]?=J x):L0[g]?=J (Qx g x):=by grind[HQ,L0]
theorem akr{y:Lx}(h:L0[g]?=J y):∃x,gl[g]?=J x/\y=Qx g x:=by
 have a:g<gl.length:=by grind[HQ,aaH]
 simp_all[Sg]
section
variable{W:aV}
theorem auz(L:laidMetH PP Rows.topGroupsMoveUptoRow.laid W)(S:W.ShapedOpen PP):Good W L0:=by
 refine⟨by simp[aaH],λi y n=>?_⟩;obtain⟨x,m,rfl⟩:=akr n;obtain⟨s,e,f,b,d⟩:=glb L S i x m;obtain⟨h,g⟩:=d _;have l:x.1.length=s.size:=by rw[h.1,Array.length_toList]
 refine⟨rfl,⟨s,f,e,b,l.symm,?_,λj a k=>?_⟩,g⟩;.show 0+x.1.length<=x.1.length;omega
 .obtain⟨c,k1,k2⟩:=h.get k;exact⟨c,by show s[0+j]?=J c;grind,k2⟩
theorem lK0(M:List Lx){x:aI×an}(h:gl[g]?=J x):lK (L0++M) g=J x:=by
 have:lK L0 g=J x:=by unfold lK;rw[Sg h];rfl
 exact Qm _ _ _ _ this
theorem ds0:A7 ((gl[0]?).getD ([],0)).1=J O':=by rfl
theorem KC:A7 ((gl[1]?).getD ([],0)).1=J Pb:=by rfl
theorem auk(M:List Lx):dw PP (lK (L0++M)) (λ_=>Z) cf.aq:=by
 refine⟨λg l h=>?_,λg x h=>lK0 M h⟩;have k:∀g,g<6->A7 ((gl[g]?).getD ([],0)).1=J l->g<PP.globals.size/\(∀y,y∈l->y.aU=V)/\∃cells e,lK (L0++M) g=J (cells,e)/\bK (lK (L0++M)) (λ_=>Z) l cells:=λg d a=>by have f:=dA (l:=gl) (i:=g) (by grind[HQ]);obtain⟨b,c⟩:=abp (K:=lK (L0++M)) (Y:=λ_=>Z) a;grind[Uj,lK0]
 have h:(bif aw g 0 then J _ else bif aw g 1 then J _ else Z)=J l:=h;grind[bR,ds0,KC]
theorem aul(M:List Lx):iX PP (lP (L0++M)):=λg h=>by
 rw[Uj]at h;obtain⟨x,a⟩:∃x,gl[g]?=J x:=⟨_,dA (by grind[HQ])⟩;have:lP L0 g=J (Qx g x).p:=by grind[lP,Sg]
 exact⟨_,Mc _ M _ _ this,rfl,rfl⟩
def NZ(W a:aV):Prop:=a.os=W.os/\a.output=W.output/\W.heap.size<=a.heap.size/\∀b:Nat,b<W.heap.size->a.heap[b]?=W.heap[b]?
theorem ayR{L:List Lx}{c:bc}{H:Heap}{a:aV}(k:Fr (lP L) (jo (lH L)) W c H a):NZ W a:=⟨k.os,k.output,k.size,λb h=>by rcases k.nB b h with e|⟨id,p,f,_,d,_⟩<;>grind[Ql]⟩
theorem anx(I:laidMetH PP Rows.topGroupsMoveUptoRow.laid W)(S:W.ShapedOpen PP)(p:dh)(o:gK)(n:Nat)(O:n<256)(Q:p.mu<=1048576)(P:o.mu<=1048576){c a:Array aD}(f:bP W p.cells c.toList)(j:bP W o.cells a.toList):Calls PP 3 #[.agg c,.agg a,.int .u8 (.ofNat n)] W λe s=>e=.returned (.bool V)/\NZ W s:=λH=>by
 obtain⟨M,x0,g1,g2,g3⟩:=f.2 L0 (auz I S);obtain⟨N,x1,k1,k2,k3⟩:=j.2 _ g1;rw[wv]at k1 k2 k3;have g2:bK (lK (L0++(M++N))) N0 p.cells x0:=by exact g2.mono (Qm _ _) (aX.refl _)
 have g3:ba (lP (L0++(M++N))) x0 c.toList:=by exact g3.mono (Mc _ _)
 generalize K:L0++(M++N)=L at*;have uG:dw PP (lK L) (λ_=>Z) cf.aq:=by grind[auk]
 have qe:iX PP (lP L):=by grind[aul]
 obtain⟨_,uF,g,rfl⟩:=tg3 p o n O (alV Q P);have k:=arG ax5 aGr hN;have l:DR (lK L) N0 (.agg p.cells) (.agg x0):=g2.agg f.1;have tJ:DR (lK L) N0 (.agg o.cells) (.agg x1):=k2.agg j.1;have q:bK (lK L) N0 [.agg p.cells,.agg o.cells,.int .u8 (.ofNat n)] [.agg x0,.agg x1,.int .u8 (.ofNat n)]:=bK.cons l (bK.cons tJ (bK.cons (.int _ _) bK.nil));obtain⟨r,H',K',ψ,ω',e1,e2,_,_,e5⟩:=k 3 _ _ _ _ _ uF _ N0 _ _ _ (HR.start L) uG ⟨q.1,λi d b U h=>by have:=q.2 i d b U h;split<;>exact this⟩;have hr:r=.bool V:=by cases e5;rfl
 subst hr;have yi:=e2 rfl;rcases e1 with e1|⟨_,fr,e3,m,e4⟩;.grind
 have qL:ba (lP L) [.agg x0,.agg x1,.int .u8 (.ofNat n)] (#[.agg c,.agg a,.int .u8 (.ofNat n)]:Array aD).toList:=ba.cons (.agg x0 c (by rw[g3.1,Array.length_toList]) (λy h=>by obtain⟨d,d1,d2⟩:=g2.mem h;exact d2.aU (f.1 d d1)) λi y v h T=>g3.2 i y v h ai) (ba.cons (.agg x1 a (by rw[k3.1,Array.length_toList]) (λy h=>by obtain⟨d,d1,d2⟩:=k2.mem h;exact d2.aU (j.1 d d1)) λi y v h T=>k3.2 i y v h ai) (ba.cons (.int _ _) (ba.nil _)));obtain⟨Y,q2,q3,_⟩:=KG e3 qL;have X:=TO (aGt al7) FX MN m fr _ _ e4 _ W _ H (mE _) k1.AB qe Y;obtain⟨χ,w',u,t,w,x,_⟩:=X;obtain⟨F,z,A,B,D,b5,fn,E,G⟩:=x q3;have R:u=.bool V:=by cases w;rfl
 subst R;exact⟨_,w',F,⟨rfl,ayR t.2.2⟩,z,A,B,D,ab,fn,E,G⟩
end
end Go.VM
namespace Go.Proofs.YtlpehfnaibndgaaGreatDoor.tm
open Go.ChangeShapes Go.WideShapes Go.ChangeAt Go.RowKit Go.VM
set_option maxRecDepth 100000
variable{W':aV}
theorem own:ownKnob Tryz.prog.godebug=Z:=by rfl
theorem params3:Tryz.f3.params=#[25,29,5]:=by rfl
theorem kids:Kids eP (.<Tryz.prog.types.size):=kids_rows l1 aL
theorem full:∀t e,t<Tryz.prog.types.size->Tryz.prog.underlying t=J (.slice e)->0<Tryz.prog.cellsOf e:=slices_full_of eP aL
theorem tsz:Tryz.prog.types.size>29:=aT
theorem Uc:Tryz.prog.funcs[3]?=J Tryz.f3:=by rfl
theorem aGi{H:Type}{n:an×aD->H}{P:aH}{f:Func}{s:ChangeSpec}{a c h i:Bool}{W:aV}{g:Array aD}{v:aD}{d k:List (DataW H)}{e q l:List MemPlace}(m:DataW.Whole n P f.params.toList s.vars a W g.toList d k e)(S:∀(b:Nat)(sp:Nat->Bool)(hd:Bool),DataW.TrodAll n P W' b sp hd f.resultTypes.toList (v.resultList f.resultTypes.size) (s.fn H (d++k)).results [])(A:∀sp:Nat->Bool,(∀p∈e,sp p.block=V)->DataW.TrodAll n P W' 0 sp V f.params.toList g.toList (s.fn H (d++k)).args q)(x:∀sp:Nat->Bool,(∀p∈e,sp p.block=V)->DataW.TrodVars n P W' sp s.vars (s.fn H (d++k)).vars l)(M:e=q++l)(y:W.keptBut W' (.∈e))(U:∀b o,b<W.heap.size->W'.frozen? ⟨b,o,Z⟩=W.frozen? ⟨b,o,Z⟩)(X:∀(j:Nat)(t:an)(r:aD),f.resultTypes[j]?=J t->(v.resultList f.resultTypes.size)[j]?=J r->Value.okWide P W' .any 0 t r):s.post n P f a c h i W g v W':=by
 have Y:=m.lt;refine⟨d,k,_,[],q,l,m,S _ _ _,aT,aT,World.keptBut_mono (λp w=>⟨w,?_⟩) y,λ_=>?_⟩;.grind
 . obtain⟨_,_,_,_,_,z,B⟩:=m;refine⟨X,_,_,_,⟨_,l,trodAll_append (A _ aT) (S _ _ _),x _ aT,rfl,?_,?_⟩,?_⟩;.intro b o w;have u:MemPlace.cell b o∈e:=ai;rw[U b _ (Y _ u)];exact z b _ u
   all_goals grind
theorem ajS{H:Type}{c:an×aD->H}{P:aH}{w i:aV}{b:Nat}{g:Nat->Bool}:∀{t:List an}{v:List aD}{d:List (DataW H)}{s:List MemPlace},DataW.TrodAll c P w b g V t v d s->(∀p∈s,w.sameAt i p)->DataW.TrodAll c P i b g V t v d s|[],[],[],_,h,_=>h|_::_,_::_,_::_,_,⟨p,q,⟨n,j⟩,k,e⟩,f=>⟨p,q,⟨n,DataW.trod_carry n _ _ _ j λx a=>f x (by rw[e];exact J3 _ a)⟩,ajS k (λx a=>f x (by rw[e];exact Sj _ a)),e⟩
theorem ayQ{W:aV}(k:NZ W W')(m:MemPlace->Prop):W.keptBut W' m:=by obtain⟨h,a,_,b⟩:=k;refine⟨h,a,λi c=>?_⟩;grind
theorem aIu{W:aV}(k:NZ W W'){p:MemPlace}(h:p.block<W.heap.size):W.sameAt W' p:=by
 rcases p with⟨b,o⟩|b;.show W'.cell? _=W.cell? _;unfold World.cell?;rw[k.2.2.2 b h]
 exact k.2.2.2 b h
theorem u5:Tryz.prog.underlying 5=J (.int .u8):=by rfl
theorem aL2{W:aV}{b:Nat}{z:Int}(h:Value.okWide eP W .any b 5 (.int .u8 z)):0<=z/\z<256:=by
 have a:IntKind.u8.min<=z/\z<=IntKind.u8.max:=h.2;have e1:IntKind.u8.min=0:=by rfl
 have e2:IntKind.u8.max=255:=by rfl
 omega
theorem aon(H:Type)(n:an×aD->H)(W:aV)(c:Nat)(a:Array aD)(i y:List (DataW H))(f:List MemPlace)(B:∀(j:Nat)t v,Tryz.f3.params[j]?=J t->a[j]?=J v->Value.okWide eP W .any c t v)(k:DataW.Whole n eP Tryz.f3.params.toList Rows.topGroupsMoveSpec.vars C W a.toList i y f)(m:Rows.uptoBulkAll (i++y)<=1048576)(O:laidMetH eP Rows.topGroupsMoveUptoRow.laid W)(S:W.ShapedOpen eP):Calls eP 3 a W λe W'=>∃v,e=.returned v/\Rows.topGroupsMoveSpec.post n eP Tryz.f3 C V C C W a v W':=by
 have l:=k;have Y:=k.lt;obtain⟨p,q,A,P,I,UH,qg⟩:=k;obtain⟨rfl,rfl⟩:=trodVars_none P;have N:DataW.TrodAll n eP W 0 (λ_=>V) V [25,29,5] a.toList i p:=by simp_all
 rw[kD]at I;subst I;obtain⟨v0,v1,F,d0,d1,d2,p0,p1,p2,rfl,rfl,_,L,M,h2⟩:=trodAll_three N;have d:∀{t v},(lO t).isSome=V->Value.okWide eP W .any c t v->∃g:Array _,v=.agg g:=λ{t v}r h=>by unfold lO at r;grind[Value.okWide]
 obtain⟨c0,rfl⟩:=d (by rfl) (B 0 25 v0 rfl rfl);obtain⟨c1,rfl⟩:=d (by rfl) (B 1 29 v1 rfl rfl);obtain⟨n0,t0⟩:=L;obtain⟨n1,t1⟩:=M;have E:∃g e1 K,W.heap[0]?=J (.cells g e1 K):=by obtain⟨x,D⟩:∃x,AM.gl[0]?=J x:=⟨_,dA (by simp[HQ])⟩;grind[glb]
 obtain⟨pl,T,l0⟩:=aCL E _ _ _ t0;obtain⟨G,U,l1⟩:=aBO E _ _ _ t1;obtain⟨s,r,rfl⟩:∃s:Nat,s<256/\F=.int .u8 (.ofNat s):=by have:=B 2 5 F rfl rfl;obtain⟨z,rfl⟩:=okWide_int u5 this;have hz:=aL2 this;exact⟨z.toNat,ab,ai⟩
 simp only[Rows.uptoBulkAll,kD]at m;dsimp only at T U;have w:=anx O S pl G s r ab ab l0 l1;refine w.mono λe W'⟨Q,o⟩=>?_;subst Q;have R:∀sp,(∀x∈f,sp x.block=V)->DataW.TrodAll _ _ W' 0 sp _ _ _ _ _:=λsp u=>ajS (DataW.TrodAll.respare kids full aT A u) λx D=>aIu o (Y x D);refine⟨_,rfl,aGi l (λ_ _ _=>?_) R (λ_ _=>rfl) aP (ayQ o _) (λb X m=>?_) (ok_one (by rfl) rfl (okWide_bool_mk RR _))⟩;.exact trodAll_cons_mk (shut_bool RR _) trodAll_mk0
 .unfold World.frozen?;rw[o.2.2.2 b m]
end Go.Proofs.YtlpehfnaibndgaaGreatDoor.tm
