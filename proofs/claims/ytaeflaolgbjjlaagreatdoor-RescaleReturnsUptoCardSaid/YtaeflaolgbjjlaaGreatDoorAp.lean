/- Proved: the fixed example of the chapter, and a call of RescaleReturns in the model: what they answer (a part of the proof of RescaleReturnsUptoCardSaid, whose theorem stands in the last text), at arguments of the given bulk. -/
import Derived.Test.YtaeflaolgbjjlaaGreatDoorCards
import Derived.Test.YtaeflaolgbjjlaaGreatDoorTie
import Derived.Test.YtaeflaolgbjjlaaGreatDoorAo
open Option renaming some->J,none->Z
open Bool renaming true->V,false->C
open Go renaming TypeId->an,Value->aC,Program->aG,World->aW
open Go.Proofs.Tryz renaming prog->eP
open Int renaming ofNat->di
open List renaming range->tO
open Nat renaming beq->aw
noncomputable section
set_option linter.all false
namespace Go.AM
open Go
set_option maxRecDepth 1000000
theorem k7:entry PP (AM.run PP (mw 6 3000 Zl lQ) 1000000) 240 e7 g7=V:=aN
theorem k8:entry PP (AM.run PP (mw 6 3000 Zm lQ) 1000000) 348 e8 g8=V:=aN
theorem k9:entry PP (AM.run PP (mw 6 3000 Zn lQ) 1000000) 201 e9 g9=V:=aN
theorem UE:entry PP (AM.run PP (mw 6 3000 Y7 lQ) 1000000) 64 wv g10=V:=aN
theorem k11:entry PP (AM.run PP (mw 6 3000 Y8 lQ) 1000000) 246 G4 g11=V:=aN
theorem k12:entry PP (AM.run PP (mw 6 3000 Y9 lQ) 1000000) 96 G5 g12=V:=aN
theorem k13:entry PP (AM.run PP (mw 6 3000 Y' lQ) 1000000) 60 G6 g13=V:=aN
theorem k14:entry PP (AM.run PP (mw 6 3000 Za lQ) 1000000) 19 G7 g14=V:=aN
theorem k15:entry PP (AM.run PP (mw 6 3000 Zb lQ) 1000000) 139 SK g15=V:=aN
theorem k16:entry PP (AM.run PP (mw 6 3000 Zc lQ) 1000000) 7 SL g16=V:=aN
theorem k17:entry PP (AM.run PP (mw 6 3000 Zd lQ) 1000000) 8 SM g17=V:=aN
theorem k18:entry PP (AM.run PP (mw 6 3000 Ze lQ) 1000000) 8 SN g18=V:=aN
theorem k19:entry PP (AM.run PP (mw 6 3000 Zf lQ) 1000000) 6 NZ g19=V:=aN
theorem wV:mb Y6:=pH ok0 k0 (by unfold e0;dsimp only;exact nW _)
theorem Fi:mb Zg:=pH wV k1 (by unfold e1;dsimp only;exact nW _)
theorem C9:mb Zh:=pH Fi k2 (by unfold e2;dsimp only;exact nW _)
theorem LY:mb Zi:=pH C9 k3 (by unfold e3;dsimp only;exact nW _)
theorem ok5:mb Zj:=pH LY k4 (by unfold e4;dsimp only;exact nW _)
theorem ok6:mb Zk:=pH ok5 k5 (by unfold e5;dsimp only;exact nW _)
theorem ok7:mb Zl:=pH ok6 k6 (by unfold e6;dsimp only;exact nW _)
theorem ok8:mb Zm:=pH ok7 k7 (by unfold e7;dsimp only;exact nW _)
theorem ok9:mb Zn:=pH ok8 k8 (by unfold e8;dsimp only;exact nW _)
theorem aC7:mb Y7:=pH ok9 k9 (by unfold e9;dsimp only;exact nW _)
theorem aC8:mb Y8:=pH aC7 UE (by unfold wv;dsimp only;exact nW _)
theorem aC9:mb Y9:=pH aC8 k11 (by unfold G4;dsimp only;exact nW _)
theorem aDa:mb Y':=pH aC9 k12 (by unfold G5;dsimp only;exact nW _)
theorem aDb:mb Za:=pH aDa k13 (by unfold G6;dsimp only;exact nW _)
theorem aDc:mb Zb:=pH aDb k14 (by unfold G7;dsimp only;exact nW _)
theorem aDd:mb Zc:=pH aDc k15 (by unfold SK;dsimp only;exact nW _)
theorem aDe:mb Zd:=pH aDd k16 (by unfold SL;dsimp only;exact nW _)
theorem aDf:mb Ze:=pH aDe k17 (by unfold SM;dsimp only;exact nW _)
theorem aDg:mb Zf:=pH aDf k18 (by unfold SN;dsimp only;exact nW _)
theorem aDh:mb aiQ:=pH aDg k19 (by unfold NZ;dsimp only;exact nW _)
theorem ak6:Gv PP 6 NZ:=aDh 6 _ _ (by unfold aiQ m9;exact Tr.lh _ _ _) gK
end Go.AM
namespace Go.VM
open Go Go.AM
open Go.Proofs.YtaeflaolgbjjlaaGreatDoor (Rows.rescaleReturnsUptoRow)
open Go.Proofs.YtaeflaolgbjjlaaGreatDoor.Rows (uptoBulk uptoBulkAll)
variable{g:Nat}
def PW(g:Nat)(x:aJ×an):Lx:=⟨x.1,x.2,⟨g,0,x.1.length,x.1.length⟩⟩
def L0:List Lx:=(tO 6).map λg=>PW g ((gl[g]?).getD ([],0))
theorem ZR:L0.length=6:=by unfold L0;rw[fZ,List.length_range]
theorem RA{x:aJ×an}(h:gl[g]?=J x):L0[g]?=J (PW g x):=by
 have a:g<6:=by rw[<-Hy];exact(List.getElem?_eq_some_iff.1 h).1
 unfold L0;rw[jo,DN a,Option.map_some,h];rfl
theorem ajt{y:Lx}(h:L0[g]?=J y):∃x,gl[g]?=J x/\y=PW g x:=by
 have b:g<gl.length:=by rw[Hy,<-ZR];exact(List.getElem?_eq_some_iff.1 h).1
 have a:=dD b;rw[RA a]at h;exact⟨_,a,(bt h).symm⟩
section
variable{W:aW}
theorem atq(L:laidMetH PP Rows.rescaleReturnsUptoRow.laid W)(S:W.ShapedOpen PP):Good W L0:=by
 refine⟨by rw[ZR];decide,λi y n=>?_⟩;obtain⟨x,m,rfl⟩:=ajt n;obtain⟨s,e,f,b,d⟩:=glb L S i x m;obtain⟨h,g⟩:=d (lP L0);have l:x.1.length=s.size:=by rw[h.1,Array.length_toList]
 refine⟨rfl,⟨s,f,e,b,l.symm,?_,λj a k=>?_⟩,g⟩;.show 0+x.1.length<=x.1.length;omega
 .obtain⟨c,k1,k2⟩:=h.get k;exact⟨c,by show s[0+j]?=J c;rw[iZ,<-Array.getElem?_toList];exact k1,k2⟩
theorem lK0(M:List Lx){x:aJ×an}(h:gl[g]?=J x):lK (L0++M) g=J x:=by
 have:lK L0 g=J x:=by unfold lK;rw[RA h];rfl
 exact PL _ _ _ _ this
theorem ds0:AW ((gl[0]?).getD ([],0)).1=J Ky:=aN
theorem J5:AW ((gl[1]?).getD ([],0)).1=J Kz:=aN
theorem atd(M:List Lx):du PP (lK (L0++M)) (λ_=>Z) cf.ao:=by
 refine⟨λg l h=>?_,λg x h=>lK0 M h⟩;have k:∀g,g<6->AW ((gl[g]?).getD ([],0)).1=J l->g<PP.globals.size/\(∀y,y∈l->y.aV=V)/\∃cells e,lK (L0++M) g=J (cells,e)/\bG (lK (L0++M)) (λ_=>Z) l cells:=λg d c=>by have f:=dD (l:=gl) (i:=g) (by rw[Hy];exact d);rw[f]at c;obtain⟨j,m⟩:=aax (K:=lK (L0++M)) (φ:=λ_=>Z) c;exact⟨by rw[TE];exact d,m,_,_,lK0 M f,j⟩
 have h:(bif aw g 0 then J Ky else bif aw g 1 then J Kz else Z)=J l:=h;rw[bE,bE]at h;by_cases a:g=0;.subst a;rw[lf rfl,aR]at h;cases h;exact k 0 eY ds0
 . rw[xK a,bS]at h;by_cases b:g=1;.subst b;rw[lf rfl,aR]at h;cases h;exact k 1 eY J5
   .rw[xK b,bS]at h;cases h
theorem ate(M:List Lx):iP PP (lP (L0++M)):=λg h=>by
 rw[TE]at h;obtain⟨x,a⟩:∃x,gl[g]?=J x:=⟨_,dD (by rw[Hy];exact h)⟩;have:lP L0 g=J (PW g x).p:=by unfold lP;rw[RA a];rfl
 exact⟨_,LC _ M _ _ this,rfl,rfl⟩
def Kept(W a:aW):Prop:=a.os=W.os/\a.output=W.output/\W.heap.size<=a.heap.size/\∀b:Nat,b<W.heap.size->a.heap[b]?=W.heap[b]?
theorem axG{L:List Lx}{f:bc}{H:Heap}{a:aW}(k:Fr (lP L) (jM (lH L)) W f H a):Kept W a:=⟨k.os,k.output,k.size,λb h=>by
 rcases k.nh b h with e|⟨id,p,d,_,c,_⟩;.exact e
 .exact absurd (PK d) c⟩
theorem ams(Q:laidMetH PP Rows.rescaleReturnsUptoRow.laid W)(S:W.ShapedOpen PP)(p:dA)(o:bK)(n:Nat)(R:n<256)(U:p.mu<=1048576)(T:o.mu<=1048576){c f:Array aC}(j:bZ W p.cells c.toList)(k:bZ W o.cells f.toList):Calls PP 3 #[.agg c,.agg f,.int .u8 (.ofNat n)] W λe w=>e=.returned (.bool V)/\Kept W w:=λP=>by
 obtain⟨M,x0,g1,g2,g3⟩:=j.2 L0 (atq Q S);obtain⟨N,x1,k1,k2,k3⟩:=k.2 _ g1;rw[tM]at k1 k2 k3;have g2:bG (lK (L0++(M++N))) N0 p.cells x0:=by rw[<-tM];exact g2.mono (PL _ _) (aU.refl _)
 have g3:ba (lP (L0++(M++N))) x0 c.toList:=by rw[<-tM];exact g3.mono (LC _ _)
 generalize a:L0++(M++N)=L at*;have uj:du PP (lK L) (λ_=>Z) cf.ao:=by rw[<-a];exact atd _
 have pR:iP PP (lP L):=by rw[<-a];exact ate _
 obtain⟨_,ui,g,rfl⟩:=nv3 p o n R (akT U T);have l:=aqx awY aFc hN;have q:DR (lK L) N0 (.agg p.cells) (.agg x0):=g2.agg j.1;have tb:DR (lK L) N0 (.agg o.cells) (.agg x1):=k2.agg k.1;have t:bG (lK L) N0 [.agg p.cells,.agg o.cells,.int .u8 (.ofNat n)] [.agg x0,.agg x1,.int .u8 (.ofNat n)]:=bG.cons q (bG.cons tb (bG.cons (.int _ _) bG.nil));obtain⟨r,H',K,ψ,ω',e1,e2,_,_,e5⟩:=l 3 _ _ _ _ _ ui (lK L) N0 (λ_=>Z) (jM (lH L)) [.agg x0,.agg x1,.int .u8 (.ofNat n)] (HR.start L) uj ⟨t.1,λi d b Y h=>by have:=t.2 i d b Y h;split<;>exact this⟩;have hr:r=.bool V:=by have e5:DR K ψ (.bool V) r:=e5;cases e5;rfl
 subst hr;have wJ:=e2 rfl;rcases e1 with e1|⟨_,fr,e3,m,e4⟩;.rw[wJ]at e1;cases e1
 have qx:ba (lP L) [.agg x0,.agg x1,.int .u8 (.ofNat n)] (#[.agg c,.agg f,.int .u8 (.ofNat n)]:Array aC).toList:=ba.cons (.agg x0 c (by rw[g3.1,Array.length_toList]) (λy h=>by obtain⟨d,d1,d2⟩:=g2.mem h;exact d2.aV (j.1 d d1)) λi y v h s=>g3.2 i y v h (by rw[Array.getElem?_toList];exact s)) (ba.cons (.agg x1 f (by rw[k3.1,Array.length_toList]) (λy h=>by obtain⟨d,d1,d2⟩:=k2.mem h;exact d2.aV (k.1 d d1)) λi y v h s=>k3.2 i y v h (by rw[Array.getElem?_toList];exact s)) (ba.cons (.int _ _) (ba.nil _)));obtain⟨q1,q2,q3,_⟩:=J9 e3 qx;have je:=S9 (aFe ak6) Fy Mf m fr _ _ e4 (lP L) W _ P (nW _) k1.Ar pR q1;obtain⟨χ,w',u,x,z,A,_⟩:=je;obtain⟨F,B,D,E,G,H,fn,I,O⟩:=A q3;have X:u=.bool V:=by cases z;rfl
 subst X;exact⟨.returned (.bool V),w',F,⟨rfl,axG x.2.2⟩,B,D,E,G,by rw[H],fn,I,O⟩
end
end Go.VM
namespace Go.Proofs.YtaeflaolgbjjlaaGreatDoor.rr
open Go.ChangeShapes Go.WideShapes Go.ChangeAt Go.RowKit Go.VM
set_option maxRecDepth 100000
theorem own:ownKnob Tryz.prog.godebug=Z:=aN
theorem params3:Tryz.f3.params=#[25,29,5]:=aN
theorem kids:Kids eP (.<Tryz.prog.types.size):=kids_rows aN aN
theorem full:∀t e,t<Tryz.prog.types.size->Tryz.prog.underlying t=J (.slice e)->0<Tryz.prog.cellsOf e:=slices_full_of eP aN
theorem tsz:Tryz.prog.types.size>29:=vu aN
theorem Ty:Tryz.prog.funcs[3]?=J Tryz.f3:=aN
theorem aE3{H:Type}{n:an×aC->H}{P:aG}{f:Func}{s:ChangeSpec}{a k h i:Bool}{W d:aW}{g:Array aC}{v:aC}{m q:List (DataW H)}{e pa pv:List MemPlace}(w:DataW.Whole n P f.params.toList s.vars a W g.toList m q e)(O:∀(b:Nat)(sp:Nat->Bool)(hd:Bool),DataW.TrodAll n P d b sp hd f.resultTypes.toList (v.resultList f.resultTypes.size) (s.fn H (m++q)).results [])(K:∀sp:Nat->Bool,(∀p∈e,sp p.block=V)->DataW.TrodAll n P d 0 sp V f.params.toList g.toList (s.fn H (m++q)).args pa)(T:∀sp:Nat->Bool,(∀p∈e,sp p.block=V)->DataW.TrodVars n P d sp s.vars (s.fn H (m++q)).vars pv)(u:e=pa++pv)(B:W.keptBut d (.∈e))(y:∀b o,b<W.heap.size->d.frozen? ⟨b,o,Z⟩=W.frozen? ⟨b,o,Z⟩)(z:∀(j:Nat)(t:an)(r:aC),f.resultTypes[j]?=J t->(v.resultList f.resultTypes.size)[j]?=J r->Value.okWide P d .any 0 t r):s.post n P f a k h i W g v d:=by
 have U:=w.lt;have l:∀p∈e,(λb=>decide (b<W.heap.size)) p.block=V:=λp c=>by simpa using U p c
 refine⟨m,q,e,[],pa,pv,w,O _ _ _,K _ l,T _ l,World.keptBut_mono (λp c=>⟨c,?_⟩) B,λ_=>?_⟩;.rw[u,AK]at c;exact Or.inr c
 . obtain⟨_,_,_,_,_,E,D⟩:=w;refine⟨z,_,_,([]++pa)++pv,⟨[]++pa,pv,trodAll_append (K _ (λ_ _=>rfl)) (O _ _ _),T _ (λ_ _=>rfl),rfl,?_,?_⟩,?_⟩
   . intro b o c;have x:MemPlace.cell b o∈e:=by rw[u];simpa using c
     rw[y b o (U _ x)];exact E b o x
   .intro A;have:=D A;rw[u]at this;simpa using this
   .intro p c _;rw[u];simpa using c
theorem aiY{H:Type}{c:an×aC->H}{P:aG}{w i:aW}{b:Nat}{g:Nat->Bool}:∀{t:List an}{v:List aC}{d:List (DataW H)}{s:List MemPlace},DataW.TrodAll c P w b g V t v d s->(∀p∈s,w.sameAt i p)->DataW.TrodAll c P i b g V t v d s|[],[],[],_,h,_=>h|_::_,_::_,_::_,_,⟨p,q,⟨n,j⟩,k,e⟩,f=>⟨p,q,⟨n,DataW.trod_carry n _ _ _ j λx a=>f x (by rw[e];exact Jz _ a)⟩,aiY k (λx a=>f x (by rw[e];exact RC _ a)),e⟩
theorem axF{W a:aW}(k:Kept W a)(m:MemPlace->Prop):W.keptBut a m:=by obtain⟨b,c,_,d⟩:=k;refine⟨b,c,λi f=>?_⟩;have e:=d i f;cases h:W.heap[i]? with|none=>rw[e,h]|some o=>rw[e,h];cases o<;>simp
theorem aHe{W a:aW}(k:Kept W a){p:MemPlace}(h:p.block<W.heap.size):W.sameAt a p:=by cases p with|cell b o=>show a.cell? _=W.cell? _;unfold World.cell?;rw[k.2.2.2 b h]|map b=>exact k.2.2.2 b h
theorem u5:Tryz.prog.underlying 5=J (.int .u8):=aN
theorem aKo{W:aW}{b:Nat}{z:Int}(h:Value.okWide eP W .any b 5 (.int .u8 z)):0<=z/\z<256:=by unfold Value.okWide at h;rw[u5]at h;have h:Cell.okWide eP W .any b 5 (.int .u8 z):=h;unfold Cell.okWide at h;rw[u5]at h;have h:Cell.ok eP W .any b 5 (.int .u8 z):=h;unfold Cell.ok at h;rw[u5]at h;have a:IntKind.u8.min<=z/\z<=IntKind.u8.max:=h.2;have e1:IntKind.u8.min=0:=eY;have e2:IntKind.u8.max=255:=eY;omega
theorem anh(H:Type)(n:an×aC->H)(W:aW)(d:Nat)(a:Array aC)(l I:List (DataW H))(f:List MemPlace)(X:∀(j:Nat)c v,Tryz.f3.params[j]?=J c->a[j]?=J v->Value.okWide eP W .any d c v)(o:DataW.Whole n eP Tryz.f3.params.toList Rows.rescaleReturnsSpec.vars C W a.toList l I f)(y:Rows.uptoBulkAll (l++I)<=1048576)(L:laidMetH eP Rows.rescaleReturnsUptoRow.laid W)(S:W.ShapedOpen eP):Calls eP 3 a W λe k=>∃v,e=.returned v/\Rows.rescaleReturnsSpec.post n eP Tryz.f3 C V C C W a v k:=by
 have r:=o;have U:=o.lt;obtain⟨p,q,A,hV,G,T0,pT⟩:=o;obtain⟨rfl,rfl⟩:=trodVars_none hV;have hA:DataW.TrodAll n eP W 0 (λ_=>V) V [25,29,5] a.toList l p:=by have:=A;rw[params3]at this;exact this
 rw[params3]at X;rw[jQ]at G;subst G;obtain⟨v0,v1,Q,d0,d1,d2,p0,p1,p2,rfl,rfl,_,h0,h1,h2⟩:=trodAll_three hA;have M:∀{c v},(nD c).isSome=V->Value.okWide eP W .any d c v->∃g:Array aC,v=.agg g:=λ{c v}i h=>by unfold nD at i;unfold Value.okWide at h;cases N:Tryz.prog.underlying c with|none=>rw[N]at i;cases i|some u=>rw[N]at i h;cases u with|struct fs=>obtain⟨g,rfl,_⟩:=h;exact⟨g,rfl⟩|_=>cases i
 obtain⟨T,rfl⟩:=M (by rw[agB];rfl) (X 0 25 v0 rfl rfl);obtain⟨Y,rfl⟩:=M (by rw[agC];rfl) (X 1 29 v1 rfl rfl);obtain⟨n0,t0⟩:=h0;obtain⟨n1,t1⟩:=h1;obtain⟨n2,t2⟩:=h2;have F:∃g e1 m,W.heap[0]?=J (.cells g e1 m):=by obtain⟨x,E⟩:∃x,AM.gl[0]?=J x:=⟨_,dD (by rw[Hy];decide)⟩;obtain⟨g,e,m,h,_⟩:=glb L S 0 x E;exact⟨g,e,m,h⟩
 obtain⟨pl,O,l0⟩:=aBn F _ _ _ t0;obtain⟨R,P,l1⟩:=aBp F _ _ _ t1;obtain⟨s,i,rfl⟩:∃s:Nat,s<256/\Q=.int .u8 (.ofNat s):=by have:=X 2 5 Q rfl rfl;obtain⟨z,rfl⟩:=okWide_int u5 this;have hz:=aKo this;exact⟨z.toNat,ab,by rw[show di z.toNat=z from Int.toNat_of_nonneg hz.1]⟩
 simp only[Rows.uptoBulkAll,jQ]at y;dsimp only at O P;have w:=ams L S pl R s i (fX O ab) (fX P ab) l0 l1;refine w.mono λe k⟨he,B⟩=>?_;subst he;have jK:∀sp:Nat->Bool,(∀x∈f,sp x.block=V)->DataW.TrodAll n eP k 0 sp V Tryz.f3.params.toList (#[.agg T,.agg Y,.int .u8 (.ofNat s)]:Array aC).toList [d0,d1,d2] f:=λsp D=>aiY (DataW.TrodAll.respare kids full (λc K=>by
 rw[params3]at K;have:c=25\/c=29\/c=5:=by simpa using K
 have:=tsz;rcases‹c=25\/c=29\/c=5›with rfl|rfl|rfl<;>(show(_:Nat)<Tryz.prog.types.size;omega)) A D) λx E=>aHe B (U x E);refine⟨_,rfl,aE3 (pa:=f) (pv:=[]) r (λ_ _ _=>?_) jK (λ_ _=>rfl) aO (axF B _) (λb off y=>?_) (ok_one (t:=4) aN rfl (okWide_bool_mk Rh _))⟩;.rw[show Tryz.f3.resultTypes=#[4]by kernel_rfl];exact trodAll_cons_mk (shut_bool Rh _) trodAll_mk0
 .unfold World.frozen?;rw[B.2.2.2 b y]
end Go.Proofs.YtaeflaolgbjjlaaGreatDoor.rr
