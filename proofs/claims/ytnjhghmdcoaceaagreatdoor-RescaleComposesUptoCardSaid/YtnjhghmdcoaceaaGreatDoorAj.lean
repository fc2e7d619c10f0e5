/- Proved: what functions of the program answer, within the sizes that each theorem names. -/
import Derived.Test.YtnjhghmdcoaceaaGreatDoorAi
open Option renaming some->J,none->Z
open Bool renaming true->V,false->C
open Go renaming TypeId->an,Program->aH,Code->bM,IntKind->fT,ResultVar->oS
open Int renaming ofNat->du,add->jX
open List renaming replicate->mr,range->qm
open Nat renaming beq->aw,ble->bz,blt->cw
open Option renaming bind->sM
noncomputable section
set_option maxRecDepth 100000
set_option maxHeartbeats 4000000
set_option linter.all false
namespace Go.VM
open Go Go.AM Proofs.Tryz
variable{α:Type}{g:GH}{a:Int}{ps:List (DV×DV)}{ow:List (Nat×aN)}{e j I:Nat}{x:aC}{P:aH}{t:an}{l:ao}{k:fT}
attribute[local congr]bB bC
theorem aEE(t s q c b a:Int):CC 361 [jK t s q,jK c b a] (vI (CX t s q c b a)):=by have h:=FY [iE t c,iE s b,iE q a] C ai;simp only[zM,gb,eM]at h;have hd:=apP;simp only[bp,opsOf,f361,go_sem]at hd;refine aO func361 ?_;simp only[go_sem,f361,hd,jK,Au,h,CX]
def eC.cmp(a b:eC):Int:=Ax [CX a.a a.b a.c b.a b.b b.c,iE a.v b.v]
theorem aED(a b:eC):CC 360 [a.d,b.d] (vI (a.cmp b)):=by have h:=FY [CX a.a a.b a.c b.a b.b b.c,iE a.v b.v] C ai;have c:=aEE a.a a.b a.c b.a b.b b.c;simp only[zM,gb,eM]at h;simp only[jK]at c;have hd:=apO;simp only[bp,opsOf,f360,go_sem]at hd;refine aO func360 ?_;simp only[go_sem,f360,hd,eC.d,eC.cells,Au,c,h,eC.cmp]
def fG.cmp(a b:fG):Int:=Ax [iE a.sc b.sc,iE a.tm b.tm]
theorem aEB(a b:fG):CC 355 [a.d,b.d] (vI (a.cmp b)):=by have h:=FY [iE a.sc b.sc,iE a.tm b.tm] C ai;simp only[zM,gb,eM]at h;have hd:=apN;simp only[bp,opsOf,f355,go_sem]at hd;refine aO func355 ?_;simp only[go_sem,f355,hd,fG.d,fG.cells,Au,h,fG.cmp]
theorem aEC(a b:Sl eC)(k:a.l.length<1000000000):cV BS (ev PP cf (.call 359 [hZ a,hZ b,.func 360 [] []] .no .empty)):=by
 refine fM func359 ?_;simp only[go_sem,f359,hZ];refine ub a.l (λi=>[(13,iS i)]) ab rfl ?_ (λi x d e w f=>?_)
 . simp only[go_sem];by_cases h:a.l.length<b.l.length;.simp only[h,go_sem];simp[qZ,cV]
   .simp only[h,go_sem];simp[qZ,cV]
 . simp only[go_sem]at f;by_cases h:i<b.l.length;.obtain⟨y,j⟩:∃y,b.l[i]?=J y:=⟨_,dC h⟩;have c:=aED x y;simp only[eC.d,eC.cells]at c;simp only[go_sem,d,e,j,h,eC.d,eC.cells,c];apply cX<;>intro g<;>simp only[g,go_sem,w,f,bw,qZ]
   .simp only[go_sem,d,e,h,eC.d,eC.cells,bw,qZ]
theorem aEA(a b:Sl fG)(k:a.l.length<1000000000):cV BS (ev PP cf (.call 354 [jM a,jM b,.func 355 [] []] .no .empty)):=by
 refine fM func354 ?_;simp only[go_sem,f354,jM];refine ub a.l (λi=>[(13,iS i)]) ab rfl ?_ (λi x d e w f=>?_)
 . simp only[go_sem];by_cases h:a.l.length<b.l.length;.simp only[h,go_sem];simp[qZ,cV]
   .simp only[h,go_sem];simp[qZ,cV]
 . simp only[go_sem]at f;by_cases h:i<b.l.length;.obtain⟨y,j⟩:∃y,b.l[i]?=J y:=⟨_,dC h⟩;have c:=aEB x y;simp only[fG.d,fG.cells]at c;simp only[go_sem,d,e,j,h,fG.d,fG.cells,c];apply cX<;>intro g<;>simp only[g,go_sem,w,f,bw,qZ]
   .simp only[go_sem,d,e,h,fG.d,fG.cells,bw,qZ]
theorem aEp(a b:Sl eC)(c:a.l.length<1000000000):cV BS (ev PP cf (.call 305 [.agg [hZ a],.agg [hZ b]] .no .empty)):=by obtain⟨r,h,n,rfl⟩:=aEC a b c;refine fM func305 ?_;simp only[go_sem,f305,h,bw,qZ]
theorem adl{a:Bool}{n:Nat}:(bK a l e n).flat=[bK a l e n]:=by
 unfold bK;split;.cases a<;>rfl
 rfl
def amy(s:Sl eC):(hZ s).flat=[hZ s]:=adl
theorem Dp(a b:bu)(c:a.bs.l.length<1000000000)(d:a.ss.l.length<1000000000):cV BS (ev PP cf (.call 303 [a.d,b.d] .no .empty)):=by obtain⟨r,e1,n,rfl⟩:=aEp _ b.bs c;obtain⟨r,e2,m,rfl⟩:=aEA _ b.ss d;have h:=FY [iE a.st b.st,n,m] C ai;simp only[zM,gb,eM]at h;have hd:=apJ;simp only[bp,opsOf,f303,go_sem]at hd;refine fM func303 ?_;simp only[go_sem,f303,hd,bu.d,bu.cells,amy,dD,gL,List.drop_succ_cons,xH,lU,jO,Au,e1,e2,h,bw,qZ]
def nW(l:ao):GH:=⟨2,[(0,.box ⟨l,[(6,.full 186)]⟩),(1,.box ⟨[.func 303 [] []],[]⟩)]⟩
theorem aEP(x y:bu)(n:Int)(a:CC 303 [y.d,x.d] (vI n)):ev PP cf (.call 457 [.cY 0 0 2 186 3,iD 0,iD 2,.func 303 [] []] .no (nW (x.cells++y.cells)))=J (.val (.tp []) (nW (bif aA n 0 then y.cells++x.cells else x.cells++y.cells))):=by
 have d4:dj cf (bp f457 4)=V:=ap2;have d6:=ap3;simp only[bp,opsOf,f457,go_sem]at d4 d6;simp only[bu.d,bu.cells]at a;refine aO func457 ?_;simp only[go_sem,f457,nW,bu.cells,lU,jO];refine im ?_;simp only[go_sem];refine GB rfl ?_;have c:dQ .i64 (jX 0 1)=1:=rfl;have b:dQ .i64 (jX 1 1)=2:=rfl;have w:dQ .i64 (Int.sub 1 1)=du 0:=rfl;have l1:aA 0 1=V:=rfl;simp only[go_sem,c];rw[CS];refine im ?_;simp only[go_sem,d4,l1,w,a];have q0:dg [(6,aN.full 186)] 0 3=[(6,.full 186)]:=rfl;have q3:dg [(6,aN.full 186)] 3 3=[(6,.full 186)]:=rfl;apply sp<;>intro h;.simp only[h,go_sem,d6,w,q0,q3];refine im ?_;simp only[go_sem,d4,b];refine im ?_;simp only[go_sem];rfl
 .simp only[h,go_sem,b];refine im ?_;simp only[go_sem];rfl
theorem aEM:CC 384 [.int .u64 2] (vI 2):=by refine aO func384 ?_;rfl
theorem aEI:CC 321 [.int .u64 2] (vI 2):=by refine aO func321 ?_;simp only[go_sem,f321,aEM]
theorem aEK(x y:bu)(n:Int)(h:CC 303 [y.d,x.d] (vI n)):ev PP cf (.call 412 [.cY 0 0 2 186 3,iD 0,iD 2,iD 2,.func 303 [] []] .no (nW (x.cells++y.cells)))=J (.val (.tp []) (nW (bif aA n 0 then y.cells++x.cells else x.cells++y.cells))):=by have e:=aEP x y n h;have s:dQ .i64 (Int.sub 2 0)=2:=rfl;refine aO func412 ?_;simp only[go_sem,f412];refine im ?_;simp only[go_sem,s];refine JN rfl ?_;simp only[go_sem,e]
theorem alG:bN PP 422=J C:=by rfl
attribute[go_sem]alG
theorem aEy(x y:bu)(n:Int)(h:CC 303 [y.d,x.d] (vI n)):ev PP cf (.call 351 [.cY 0 0 2 186 3,.func 303 [] []] .no (nW (x.cells++y.cells)))=J (.val (.tp []) (nW (bif aA n 0 then y.cells++x.cells else x.cells++y.cells))):=by have e:=aEK x y n h;have w:dQ .u64 (du 2)=2:=rfl;generalize nW _=g0 at*;have e:ev PP cf (.call _ [.cY 0 0 2 _ 3,.int _ 0,.int _ (.ofNat 2),.int _ 2,.func _ [] []] _ g0)=J _:=e;refine aO func351 ?_;simp only[go_sem,f351,w,aEI,e]
theorem aEz(x y:bu)(n:Int)(l:ao)(h:CC 303 [y.d,x.d] (vI n)):ev PP cf (.call 353 [y.d,x.d,.ptr 1 0] .no (nW l))=J (.val (.dv (.bool (aj n 0)) .no) (nW l)):=by simp only[bu.d,bu.cells]at h;refine aO func353 ?_;simp only[go_sem,f353,nW,bu.d,bu.cells,h]
theorem Do(x y:bu)(n:Int)(a:CC 303 [y.d,x.d] (vI n)):ev PP cf (.call 352 [.cY 0 0 2 186 3,.func 353 [] [.ptr 1 0]] .no (nW (x.cells++y.cells)))=bif aj n 0 then J (.val (.dv (.cY 0 0 1 186 3) .no) (nW (x.cells++[iD 0,.nl,.nl])))else J (.val (.dv (.cY 0 0 2 186 3) .no) (nW (x.cells++y.cells))):=by have e:=aEz x y n (x.cells++y.cells) a;have d6:=apM;simp only[bp,opsOf,f352,go_sem]at d6;have w:dQ .i64 (Int.sub 1 1)=du 0:=rfl;have c:dQ .i64 (jX 1 1)=2:=rfl;simp only[nW,bu.d,bu.cells,lU,jO]at e;cases h:aj n 0 with|true=>rw[h]at e;refine aO func352 ?_;simp only[go_sem,f352,nW,bu.cells,lU,jO];refine JN rfl ?_;simp only[go_sem];refine im ?_;simp only[go_sem];refine GB rfl ?_;simp only[go_sem,d6,w,e];have s:oM PP 110 (.cY 0 0 2 186 3) (J (.int .i64 1)) Z Z=J _:=rfl;have b:oM PP 110 (.cY 0 0 2 186 3) Z (J (.int .i64 1)) Z=J _:=rfl;simp only[s,go_sem];rw[CS];refine im ?_;simp only[go_sem];refine JN rfl ?_;simp only[go_sem,s,b,q3];rfl|false=>rw[h]at e;refine aO func352 ?_;simp only[go_sem,f352,nW,bu.cells,lU,jO];refine JN rfl ?_;simp only[go_sem];refine im ?_;simp only[go_sem];refine GB rfl ?_;simp only[go_sem,d6,w,e,c];refine im ?_;simp only[go_sem];rfl
def isP(x y:bu)(r:bh):Prop:=∃u v:bu,(u=x/\v=y\/u=y/\v=x)/\(r=.val (.dv (.cY 0 0 1 186 3) .no) (nW (u.cells++[iD 0,.nl,.nl]))\/r=.val (.dv (.cY 0 0 2 186 3) .no) (nW (u.cells++v.cells)))
def bu.sm(c:bu):Prop:=c.bs.l.length<1100000/\c.ss.l.length<1100000
theorem aEn(x y:bu)(d:x.sm)(e:y.sm):cV (isP x y) (ev PP cf (.call 302 [.cY 0 0 2 186 3,.func 303 [] []] .no ⟨1,[(0,.box ⟨x.cells++y.cells,[(6,.full 186)]⟩)]⟩)):=by obtain⟨j,p⟩:=d;obtain⟨D,o⟩:=e;obtain⟨r,a,n,rfl⟩:=Dp y x ab ab;obtain⟨r,c,m,rfl⟩:=Dp x y ab ab;have e1:=aEy x y n a;have e2:=Do x y n a;have e3:=Do y x m c;have w:(⟨1,[(0,.box ⟨x.cells++y.cells,[(6,.full 186)]⟩)]⟩:GH).alloc (.box ⟨[.func 303 [] []],[]⟩)=nW (x.cells++y.cells):=rfl;have f:∀l,(nW l).get 1=J (.box ⟨[.func 303 [] []],[]⟩):=λ_=>rfl;generalize i:(⟨1,[(0,.box ⟨x.cells++y.cells,[(6,.full 186)]⟩)]⟩:GH)=g at*;have b:g.next=1:=ai;refine fM func302 ?_;simp only[go_sem,f302,b,w,f,e1];cases aA n 0 with
 |true=>cases h:aj m 0 with|true=>rw[h]at e3;simp only[go_sem]at e3;simp only[go_sem,e3,bw];exact⟨y,x,.inr ⟨rfl,rfl⟩,.inl rfl⟩|false=>rw[h]at e3;simp only[go_sem]at e3;simp only[go_sem,e3,bw];exact⟨y,x,.inr ⟨rfl,rfl⟩,.inr rfl⟩
 |false=>cases h:aj n 0 with|true=>rw[h]at e2;simp only[go_sem]at e2;simp only[go_sem,e2,bw];exact⟨x,y,.inl ⟨rfl,rfl⟩,.inl rfl⟩|false=>rw[h]at e2;simp only[go_sem]at e2;simp only[go_sem,e2,bw];exact⟨x,y,.inl ⟨rfl,rfl⟩,.inr rfl⟩
theorem Jw{p q:bh->Prop}{c:bV}{f n:Nat}{d:Func}{i:bM}{e:List oS}{s:ao}{o:aN}(m:P.funcs[f]?=J d)(l:d.body=J i)(w:d.results=⟨e⟩)(x:d.ntmps=n)(v:c.iW f s=Z)(t:(yF (e.map we)&&bz s.length n&&c.AQ f)=V)(u:∀r,q r->cV p (AR P r))(h:cV q (exec P c (ev P c) Z i ⟨f,n,uB 0 o s,[],g⟩ (Cm P e))):cV p (ev P c (.call f s o g)):=by obtain⟨r,a,b⟩:=h;obtain⟨y,j,k⟩:=u r b;grind[asv]
def isQ(x y:bu)(r:bh):Prop:=∃u v:bu,(u=x/\v=y\/u=y/\v=x)/\∃L g,(L=[u]\/L=[u,v])/\r=.val (.tp [(.ay (L.map bu.d) 186 3,.no),iO 0]) g
theorem aEi(x y:bu)(h:x.sm)(b:y.sm):cV (isQ x y) (ev PP cf (.call 286 [.ay [x.d,y.d] 186 3] .no .empty)):=by
 obtain⟨r,e1,u,v,a,hr⟩:=aEn x y h b;have e0:=Tt (d:=bu.d) (.inl rfl) (λ_=>rfl) [x,y] .empty aP aP;have e0:ev PP cf (.call 80 [.ay [x.d,y.d] _ 3] _ _)=J (.val _ ⟨1,[(0,.box ⟨x.cells++y.cells,_⟩)]⟩):=e0;refine Jw (q:=λr=>∃c,(c=[u]/\r=.val (.tp [(.cY 0 0 1 186 3,.no),iO 0]) (nW (u.cells++[iD 0,.nl,.nl]))\/c=[u,v]/\r=.val (.tp [(.cY 0 0 2 186 3,.no),iO 0]) (nW (u.cells++v.cells)))) func286 rfl rfl rfl rfl rfl ?_ ?_
 . rintro r⟨c,⟨rfl,rfl⟩|⟨rfl,rfl⟩⟩;.exact⟨_,rfl,u,v,a,_,_,.inl rfl,rfl⟩
   .exact⟨_,rfl,u,v,a,_,_,.inr rfl,rfl⟩
 . generalize(⟨1,_⟩:GH)=g at*;simp only[bu.d,bu.cells]at e0;simp only[go_sem,f286,bu.d,bu.cells,e0];rcases hr with rfl|rfl;.simp only[go_sem,e1];refine D0 rfl ?_;simp only[go_sem,bw];exact⟨_,.inl ⟨rfl,rfl⟩⟩
   .simp only[go_sem,e1];refine D0 rfl ?_;simp only[go_sem,bw];exact⟨_,.inr ⟨rfl,rfl⟩⟩
def GE(r:bh):Prop:=∃b g,r=.val (.dv (.bool b) .no) g
def VG{b:Bool}:GE (.val (.dv (.bool b) .no) g)=True:=il ⟨b,g,rfl⟩
theorem aD5(a b:bu)(c:a.sm)(f:b.sm):cV GE (ev PP cf (.call 235 [a.d,b.d] .no .empty)):=by
 obtain⟨r,e1,u,v,i,L,g,e,rfl⟩:=aEi b a f c;have d:u.sm:=ai;obtain⟨r,e2,j,rfl⟩:=aEj u.bs a.bs (by have:=d.1;omega) (by have:=c.1;omega);obtain⟨r,e3,k,rfl⟩:=aEk u.ss a.ss (by have:=d.2;omega) (by have:=c.2;omega);have hd:=apu;simp only[bp,opsOf,f235,go_sem]at hd;simp only[bu.d,bu.cells]at e1;refine fM func235 ?_;rcases e with rfl|rfl;.simp only[gb,eM,bu.d,bu.cells]at e1;simp only[go_sem,f235,bu.d,bu.cells,e1,hd];have z:aj (.ofNat 1) 2=C:=rfl;refine D0 rfl ?_;repeat'(first|(simp only[z,go_sem,bw,VG];done)|(simp only[z,hd,go_sem,bw,VG];apply cX<;>intro h))
 .simp only[gb,eM,bu.d,bu.cells]at e1;simp only[go_sem,f235,bu.d,bu.cells,e1,hd];have z:aj (.ofNat 2) 2=V:=rfl;refine RS rfl ?_;simp only[z,go_sem];repeat'(with_reducible apply cX<;>intro h<;>simp only[h,e2,e3,go_sem,bw,VG])
def Nj{p:bh->Prop}{c:bV}{b:bM}{t:Tg b}{s:St}{d:ah Nat}{f:bh->ah bh}(h:cV p ((exec P c (ev P c) d b s (nj P c (.mk b t) d)).bind f)):cV p ((lg (ev P c) (.mk b t) s d).bind f):=let⟨r,a,b⟩:=h;⟨r,im a,b⟩
def dP.sm(e:dP):Prop:=e.sz/\e.held.l.length+e.wait.l.length<1100000/\∀c∈e.runs.l,c.sm
theorem aD1(p:eJ)(e:dP)(a:pK p)(q:mA p.query)(A:rD (mV p.query.pat).1)(o:e.sm):cV I3 (ev PP cf (.call 182 [.agg p.cells,e.d] .no .empty)):=by
 obtain⟨z,u,hr⟩:=o;obtain⟨g,e0⟩:=jd p.types p.query p.xQ a.t q A;have e0:CC 231 [.agg p.cells] (.val (.dv (iD (KF mV p.types p.query p.xQ)) .no) g):=e0;obtain⟨r,e1,H,g1,rfl,_⟩:=Wj e.held ab;obtain⟨r,e2,I,g2,rfl,_⟩:=Wj e.wait ab;obtain⟨r,e3,K,g3,rfl⟩:=aD3 p e a.t a.k z u;have e4:=λc b=>aD4 p e c a q A z (hr c b).1 (by have:=(hr c b).2;omega);have d24:=aps;simp only[bp,opsOf,f182,go_sem]at d24;have f:cj p.cells=V:=a30 p;have l:p.cells.length=23:=p.dI;generalize KF mV p.types p.query p.xQ=n at*;generalize b:p.cells=s at*;have t:s.take 23=s:=ai;simp only[de,mD,dP.d,dP.cells]at e1 e2 e3;refine fM func182 ?_;simp only[go_sem,f182,de,mD,dP.d,dP.cells,l,t,f,e0];repeat'(with_reducible apply cX<;>intro h<;>simp only[h,go_sem,bw,sh])
 have l0:aA 0 (.ofNat 2)=V:=rfl;have l1:aA 1 (.ofNat 2)=V:=rfl;have l2:aA 2 (.ofNat 2)=C:=rfl;have D:dQ .i64 (jX 0 1)=1:=rfl;have E:dQ .i64 (jX 1 1)=2:=rfl;refine Nj ?_;simp only[go_sem];refine RS l0 ?_;simp only[go_sem,e1];apply cX<;>intro h;rotate_left;.simp only[h,go_sem,bw,sh]
 simp only[h,go_sem,D];refine Nj ?_;simp only[go_sem];refine RS l1 ?_;simp only[go_sem,e2];apply cX<;>intro h;rotate_left;.simp only[h,go_sem,bw,sh]
 simp only[h,go_sem,E];refine Nj ?_;simp only[go_sem];refine D0 l2 ?_;simp only[go_sem,l,t,f,e3];repeat'(with_reducible apply cX<;>intro h<;>simp only[h,go_sem,bw,sh])
 refine ub e.runs.l (λi=>[(55,iS i)]) (by have:=z.2.2.1;omega) rfl ?_ (λi x j d w v=>?_);.simp only[go_sem,bw,sh]
 . have N:=nr j;have F:=z.2.2.1;obtain⟨r,e5,L,g5,rfl⟩:=e4 x (dw d);simp only[de,mD,dP.d,dP.cells,bu.d,bu.cells]at e5;simp only[go_sem]at v;simp only[go_sem,j,d,bu.d,bu.cells,l,t,f,e5];rcases i with _|i
   . have m:aA 0 (du 0)=C:=rfl;have M:aA 0 0=C:=rfl;apply cX<;>intro h;rotate_left;.simp only[h,go_sem,bw,sh]
     simp only[h,go_sem,d24];grind
   . have m:aA 0 (du (i+1))=V:=by rfl
     obtain⟨y,k⟩:∃y,e.runs.l[i]?=J y:=⟨_,dC ab⟩;have B:=sub_succ i ab;obtain⟨r,e6,G,g6,rfl⟩:=aD5 y x (hr y (dw k)) (hr x (dw d));simp only[bu.d,bu.cells]at e6;repeat'(with_reducible apply cX<;>intro h<;>simp only[h,d24,m,B,k,e6,w,bu.d,bu.cells,go_sem,bw,sh])
     omega
theorem aE3(p:eJ)(e:dP)(b:pK p)(q:mA p.query)(h:rD (mV p.query.pat).1)(a:e.sm):cV I3 (ev PP cf (.call 114 [.agg p.cells,e.d] .no .empty)):=by obtain⟨r,e1,n,g,rfl⟩:=aD1 p e b q h a;have d:=a30 p;have l:=p.dI;generalize f:p.cells=c at*;have t:c.take 23=c:=ai;simp only[dP.d,dP.cells]at e1;refine fM func114 ?_;simp only[go_sem,f114,dP.d,dP.cells,l,t,d,e1,bw,sh]
def Uc(v:Sl cH):Bool:=aA (.ofNat v.l.length) 40&&v.l.all λx=>!aA 128 (.ofNat x.s.length)
theorem aE2(v:Sl cH)(e:v.l.length<1000000000):CC 89 [vl v] (vB (Uc v)):=by
 refine aO func89 ?_;simp only[go_sem,f89,vl];refine gC v.l (λi=>[(3,iS i)]) (λ_ l=>vB (aA _ 40&&l.all _)) ab rfl rfl ?_ (λi x l c d w a=>?_);.simp only[go_sem,nY]
 . simp only[go_sem]at a;simp only[go_sem,c,pH];apply sp<;>intro h;.simp only[h,d,cH.d,cH.cells,go_sem];apply sp<;>intro h<;>simp only[h,w,go_sem,a]
   . have b:aA (.ofNat v.l.length) 40=C:=by grind[fX]
     simp only[b,go_sem]
theorem aEV(e:aM)(l:e.kR.l.length<1000000000):CC 59 [e.d] (vB (Uc e.kR)):=by have h:=aE2 _ l;refine aO func59 ?_;simp only[go_sem,f59,aM.d,aM.cells,h]
def atq(v:Sl aM):Bool:=!aA 20 (.ofNat v.l.length)&&v.l.all λe=>Uc e.kR
theorem Wk(v:Sl aM)(d:GL v):CC 34 [de v] (vB (atq v)):=by
 obtain⟨f,a⟩:=d;refine aO func34 ?_;simp only[go_sem,f34,de];refine gC v.l (λi=>[(3,iS i)]) (λ_ l=>vB (!aA 20 _&&l.all _)) ab rfl rfl ?_ (λi x l c e w b=>?_);.simp only[go_sem,nY]
 . have g:=aEV x ai;simp only[go_sem]at b;simp only[go_sem,c,pH];apply sp<;>intro h;.simp only[h,e,g,go_sem];apply sp<;>intro h<;>simp only[h,w,go_sem,b,xC,ze]
   . have a:aA 20 (.ofNat v.l.length)=V:=by grind[fX]
     simp only[a,go_sem]
def Ub(c:bu):Bool:=bif aA 12 (.ofNat c.bs.l.length)then C else !aA 12 (.ofNat c.ss.l.length)
def atu(v:Sl bu):Bool:=!aA 60 (.ofNat v.l.length)&&v.l.all Ub
theorem aEU(v:Sl bu)(e:v.l.length<1000000000):CC 145 [mD v] (vB (atu v)):=by
 refine aO func145 ?_;simp only[go_sem,f145,mD];refine gC v.l (λi=>[(3,iS i)]) (λ_ l=>vB (!aA 60 (.ofNat v.l.length)&&l.all Ub)) ab rfl rfl ?_ (λi x l a b w c=>?_);.simp only[go_sem,nY]
 . have N:i<v.l.length:=nr a;simp only[go_sem]at c;simp only[go_sem,a,pH];apply sp<;>intro h
   . simp only[h,b,bu.d,bu.cells,hZ,jM,Ub,go_sem];apply sp<;>intro h;.simp only[h,go_sem]
     .simp only[h,b,bu.d,bu.cells,hZ,jM,go_sem];apply sp<;>intro h<;>simp only[h,w,go_sem,c]
   . have d:aA 60 (.ofNat v.l.length)=V:=by grind[fX]
     simp only[d,go_sem]
theorem Qj{t n:Nat}(h:t=84\/t=109\/t=173\/t=184\/t=41\/t=42):gu PP .eql t (.ay l e n) .nl=J (.bool C)/\gu PP .eql t .nl .nl=J (.bool V):=by rcases h with rfl|rfl|rfl|rfl|rfl|rfl<;>exact⟨rfl,rfl⟩
theorem HM{d:α->DV}{f t c b:Nat}(j:(f,t,e,c,b)=(124,84,55,3,32)\/(f,t,e,c,b)=(139,109,86,5,56)\/(f,t,e,c,b)=(81,173,196,4,32)\/(f,t,e,c,b)=(82,184,199,2,16)\/(f,t,e,c,b)=(29,41,3,1,8)\/(f,t,e,c,b)=(30,42,104,2,16))(r:∀x,(d x).flat.length=c)(i:Bool)(g:List α)(h:g.length<1100000):∃o,(o=.ex e\/g=[]/\o=.any)/\CC f [bK i (g.map d) e c] (.val (.dv (bK i (g.map d) e c) o) .empty):=by have k:b<=64/\c≠0:=ai;have s:(0+(g.map d).length)*b<=1100000*64:=qL ai k.1;have p:fE e c b (.ay [] e c) (.ex e) (g.map d)=J (.ay ([]++g.map d) e c,.ex e):=qO k.2 (by grind[bm]) (by grind[bm]);have q:(g.map d).all (λy=>decide (y.flat.length=c))=V:=ai;have e1:∀g,gu PP .eql t (.ay g e c) .nl=J (.bool C):=λg=>(Qj ai).1;have e2:gu PP .eql t .nl .nl=J (.bool V):=(Qj (e:=0) (n:=0) (l:=[]) ai).2;rw[jO]at p;cases g with
 |nil=>cases i with
  |true=>
  refine⟨_,.inr ⟨rfl,rfl⟩,?_⟩;show ev PP cf (.call f [.nl] _ _)=J _;rcases j with h|h|h|h|h|h<;>cases h<;>first|refine aO func124 ?_|refine aO func139 ?_|refine aO func81 ?_|refine aO func82 ?_|refine aO func29 ?_|refine aO func30 ?_
  all_goals rfl|false=>
  refine⟨_,.inl rfl,?_⟩;show ev PP cf (.call f [.ay [] e c] _ _)=J _;rcases j with h|h|h|h|h|h<;>cases h<;>first|refine aO func124 ?_|refine aO func139 ?_|refine aO func81 ?_|refine aO func82 ?_|refine aO func29 ?_|refine aO func30 ?_
  all_goals rfl
 |cons a g=>
  refine⟨_,.inl rfl,?_⟩;have m:bK i ((a::g).map d) e c=.ay _ e c:=rfl;rw[m];generalize(a::g).map d=L at*;rcases j with h|h|h|h|h|h<;>cases h<;>first|refine aO func124 ?_|refine aO func139 ?_|refine aO func81 ?_|refine aO func82 ?_|refine aO func29 ?_|refine aO func30 ?_
  all_goals simp only[go_sem,f124,f139,f81,f82,f29,f30,e1,p,q]
theorem aEx(p:eJ)(v:Sl aM)(r:Sl bu)(j:∃b,CC 144 [.agg p.cells] (vB b))(m:GL v)(k:r.l.length<1000000000):cV BT (ev PP cf (.call 87 [.agg p.cells,de v,mD r] .no .empty)):=by
 obtain⟨b,g⟩:=j;have a:=Wk v m;have d:=aEU r k;simp only[de,mD]at a d;refine fM func87 ?_;generalize i:p.cells=c at*;have l:c.length=23:=by rw[<-i];exact p.dI
 have n:cj c=V:=by grind[eJ.pure]
 have t:c.take 23=c:=ai;have e:=HZ v;have f:=KE r;simp only[de,mD]at e f;simp only[go_sem,f87,g,de,mD,l,n,t];repeat'(with_reducible apply cX<;>intro h<;>simp only[h,a,d,e,f,go_sem,bw,tY])
theorem Dr(p:eJ)(e:dP)(q:∃b,CC 144 [.agg p.cells] (vB b))(t:p.types.l.length<1100000)(a:e.sz):cV BT (ev PP cf (.call 58 [.agg p.cells,e.d] .no .empty)):=by
 obtain⟨v,f,u,rfl⟩:=aEx p e.held e.runs q a.2.1 a.2.2.1;have g:=Wk e.wait a.1;have i:=adw p.types t;refine fM func58 ?_;have d:p.cells[0]?=J (cm p.types):=rfl;generalize n:p.cells=c at*;have o:c.length=23:=by rw[<-n];exact p.dI
 have s:cj c=V:=by grind[eJ.pure]
 have r:c.take 23=c:=ai;have j:=HZ e.held;have k:=HZ e.wait;have l:=KE e.runs;have m:=Z3 p.types;simp only[de,mD,cm]at f g i d j k l m;simp only[go_sem,f58,dP.d,dP.cells,f,de,mD,o,s,r,j,l];repeat'(with_reducible apply cX<;>intro h<;>simp only[h,g,i,d,k,m,go_sem,bw,tY])
structure cC where
 types:Sl b9
 qs:Sl cD
def cD.dv(q:cD):DV:=.agg q.cells
def rj(s:Sl cD):DV:=bK s.nl (s.l.map cD.dv) 73 18
def cC.cells(p:cC):ao:=[cm p.types,rj p.qs]
def cC.d(p:cC):DV:=.agg p.cells
theorem cD.aqu(q:cD):q.dv.aV=C:=rfl
theorem cD.aqt(q:cD):q.dv.flat=q.cells:=rfl
def cD.ac8(q:cD):q.dv.pure=V:=cD.pure q
theorem aHQ(s:Sl cD):(rj s).pure=V:=oI (ig cD.ac8 _)
attribute[go_sem]cD.aqu cD.aqt cD.dI aHQ
def HC:dN:=⟨0,0,⟨V,[]⟩,⟨V,[]⟩⟩
def aqK:dP:=⟨0,⟨V,[]⟩,⟨V,[]⟩,⟨V,[]⟩⟩
def Ng:cD:=⟨[],⟨V,[]⟩,⟨V,[]⟩,.mk 0 V [] 0 0 0 0 (.mk 0 V [] 0 0 0 0 0 []),⟨V,[]⟩⟩
def cC.ok(p:cC):Prop:=p.types.l.length<1100000/\p.qs.l.length<1000000000/\(∀q∈p.qs.l,∃b,CC 144 [.agg (eJ.cells ⟨p.types,q,HC⟩)] (vB b))/\∃b,CC 144 [.agg (eJ.cells ⟨p.types,Ng,HC⟩)] (vB b)
theorem aqL:aqK.sz:=⟨⟨ft,λe h=>by cases h⟩,⟨ft,λe h=>by cases h⟩,ft,λe h=>by cases h⟩
theorem W2(p:cC)(o:bq)(l:p.ok)(k:o.sz):cV BT (ev PP cf (.call 33 [p.d,o.d] .no .empty)):=by
 obtain⟨f,s,g,j⟩:=l;obtain⟨k1,k2,k3⟩:=k;have hd:=aqc;have m:=aqb;simp only[bp,opsOf,f33,go_sem]at hd m;refine fM func33 ?_;simp only[go_sem,f33,cC.d,cC.cells,bq.d,bq.cells,cm,rj,bW,jr];repeat'(with_reducible apply cX<;>intro h<;>simp only[h,go_sem,bw,tY])
 refine ub p.qs.l (λi=>[(5,iS i)]) ab rfl ?_ (λi x d b w c=>?_)
 . simp only[go_sem];refine ub o.keys.l (λi=>[(6,iS i)]) ab rfl ?_ (λi x d b w c=>?_);.simp only[go_sem,bw,tY]
   .obtain⟨r,a,e,rfl⟩:=Dr ⟨p.types,Ng,HC⟩ x.e j f (k3 x (dw b));simp only[go_sem]at c;have a:CC 58 [.agg [bK p.types.nl (p.types.l.map b9.d) 68 2,.str [],.nl,.nl,iD 0,.nl,iD 0,iD 0,iD 0,iD 0,iD 0,.nl,iD 0,iD 0,iD 0,iD 0,iD 0,.str [],.nl,iD 0,iD 0,.nl,.nl],.agg [iD x.e.mark,de x.e.wait,mD x.e.runs,de x.e.held]] (vB e):=a;simp only[go_sem,d,b,m,aC.d,aC.cells,a];repeat'(with_reducible apply cX<;>intro h<;>simp only[h,b,w,c,aC.d,aC.cells,go_sem,bw,tY])
 .obtain⟨r,a,e,rfl⟩:=Dr _ _ (g x (dw b)) f aqL;simp only[go_sem]at c;have a:ev PP cf (.call 58 [.agg (bK _ _ 68 2::(x.cells++[iD 0,iD 0,.nl,.nl])),.agg [iD 0,.nl,.nl,.nl]] _ _)=J _:=a;have n:=Z3 p.types;have q:=cD.pure x;simp only[go_sem,d,b,hd,cD.dv,Cg,n,q,a];apply cX<;>intro h<;>simp only[h,w,c,go_sem,bw,tY]
theorem aGF{l:List cD}:cj (l.map cD.dv)=V:=ig cD.ac8 _
attribute[go_sem]aGF
structure Bc(p:cC):Prop where
 t:lY p.types
 q:∀q∈p.qs.l,mA q
 l:p.qs.l.length<1100000
def GT(p:cC)(r:bh):Prop:=∃i n g,r=.val (.tp [iO i,iO n]) g/\(aj n 0=V->∀q∈p.qs.l,wH p.types q=0)
theorem aEO(p:cC)(d:Bc p):cV (GT p) (ev PP cf (.call 36 [p.d] .no .empty)):=by
 have r:∀{i n:Int}{g:GH},aj n 0=C->GT p (.val (.tp [iO i,iO n]) g):=λh=>⟨_,_,_,rfl,λk=>ai⟩;obtain⟨g0,e0⟩:=KY p.types d.t.a d.t.b;have z:=d.l;simp only[cm]at e0;refine fM func36 ?_;simp only[go_sem,f36,cC.d,cC.cells,cm,rj,e0];repeat'(with_reducible apply cX<;>intro h<;>simp only[h,go_sem,bw])
 .exact r rfl
 rotate_left;.grind
 refine oF p.qs.l ([]:List aE) (λi b=>⟨36,45,[(23,iS i),(5,.dv (.map 0) .no),(1,.lp 1 0),(21,.dv (rj p.qs) .no),(22,iS p.qs.l.length)],[(1,⟨[cm p.types,rj p.qs],[]⟩)],⟨1,[(0,.map (qp b) b.length)]⟩⟩) (λi _ _=>∀j q,j<i->p.qs.l[j]?=J q->wH p.types q=0) ab rfl (λj q h=>absurd h (Hs _)) (λb I=>?_) (λi x l b w v A I a=>?_);.simp only[go_sem,bw];exact⟨_,_,_,rfl,λ_ q u=>by obtain⟨j,t,e⟩:=List.mem_iff_getElem.1 u;exact I j q t ai⟩
 . obtain⟨g1,e1⟩:=Ly p.types x d.t (d.q x (dw v));have a:=a (b++[x.name]);have f:x.cells[0]?=J (.str x.name):=rfl;have y:x.cells.length=18:=x.dI;have B:cj x.cells=V:=cD.pure x;simp only[OZ,gR,dD,gL,cm,rj,go_sem]at a;simp only[cm]at e1;have E:x.dv=.agg x.cells:=rfl;generalize x.cells=s at*;have D:s.take 18=s:=ai;simp only[go_sem,w,v,E,y,B,D,cm,rj,e1];apply cX<;>intro h;rotate_left;.simp only[h,go_sem,bw];grind
   have F:wH p.types x=0:=by grind[jl]
   have step:∀j q,j<i+1->p.qs.l[j]?=J q->wH p.types q=0:=λj q t u=>by grind
   have a:=a step;cases o:b.any λm=>decide (x.name=m)with|true=>obtain⟨k,c,m,e⟩:=La b 0 0 o;simp only[h,go_sem,qp,f,e,bw];exact r rfl|false=>have e:=K9 b 0 0 o;simp only[qp]at a;simp only[h,go_sem,qp,f,e,A];omega
def eJ.dv(p:eJ):DV:=.agg p.cells
def uh(p:cC)(q:cD):eJ:=⟨p.types,q,(mV q.pat).1⟩
def xe(l:List eJ):DV:=bK V (l.map eJ.dv) 124 23
theorem aoj{t:Sl b9}{q:cD}(h:wH t q=0)(a:(mV q.pat).2=0):(mV q.pat).1.vars<=.ofNat q.vars.l.length:=by grind[mV,wH,ug,tJ]
theorem aHd{p:cC}(a:Bc p){q:cD}(b:q∈p.qs.l)(h:wH p.types q=0)(c:(mV q.pat).2=0):pK (uh p q):=⟨a.t,by have:=(a.q q b).k;show q.key.l.length<_;omega,NE _ (a.q q b).p,aoj h c⟩
def agz(p:cC)(r:bh):Prop:=(∃o n g,aj n 0=C/\r=.val (.tp [(.nl,o),iO n]) g)\/((∀q∈p.qs.l,pK (uh p q))/\∃o g,(o=.any\/o=.ex 124)/\r=.val (.tp [(xe (p.qs.l.map (uh p)),o),iO 0]) g)
theorem aEa(p:cC)(u:Bc p):cV (agz p) (ev PP cf (.call 12 [p.d] .no .empty)):=by
 have H:∀{o:aN}{n:Int}{g:GH},aj n 0=C->agz p (.val (.tp [(.nl,o),iO n]) g):=λh=>.inl ⟨_,_,_,h,rfl⟩;obtain⟨r,e0,R,S,g0,rfl,k0⟩:=aEO p u;have L:=u.l;simp only[cC.d,cC.cells,cm,rj]at e0;refine fM func12 ?_;simp only[go_sem,f12,cC.d,cC.cells,cm,rj,e0];apply cX<;>intro h;rotate_left;.simp only[h,go_sem,bw];grind
 have k0:=k0 h;simp only[h,go_sem];refine oF p.qs.l ([]:List eJ) (λi b=>⟨12,45,[(22,iS i),(1,.lp 1 0),(6,gh (b.map eJ.dv) 124 23),(20,.dv (rj p.qs) .no),(21,iS p.qs.l.length)],[(1,⟨[cm p.types,rj p.qs],[]⟩)],.empty⟩) (λi _ b=>b=(p.qs.l.take i).map (uh p)/\∀j q,j<i->p.qs.l[j]?=J q->pK (uh p q)) ab rfl ⟨rfl,λj q h=>absurd h (Hs _)⟩ (λb I=>?_) (λi x l b D y F I c=>?_)
 . obtain⟨rfl,I⟩:=I;have I:∀q∈p.qs.l,pK (uh p q):=λq k=>by obtain⟨j,E,e⟩:=List.mem_iff_getElem.1 k;exact I j q E ai
   rw[A8];rcases d:p.qs.l with _|⟨a,t⟩;.simp only[go_sem,zy,bw];exact .inr ⟨I,_,_,.inl rfl,by rw[d];rfl⟩
   simp only[gb,On,go_sem,bw];exact .inr ⟨I,_,_,.inr rfl,by rw[d];rfl⟩
 . obtain⟨P,I⟩:=I;have O:=nr D;have U:b.length=i:=ai;have w:=u.q x (dw y);obtain⟨_,g1,e1,rfl⟩:=Lu x.pat w.p;have c:=c (b++[uh p x]);rw[qJ,gb,eM,Oo]at c;have K:(mV x.pat).2=0->b++[uh p x]=(p.qs.l.take (i+1)).map (uh p)/\∀j q,j<i+1->p.qs.l[j]?=J q->pK (uh p q):=λQ=>by
    refine⟨by grind[Kh],λj q E k=>?_⟩;by_cases e:j=i;.subst e;rw[y]at k;cases k;grind[aHd]
    grind
   have v:(uh p x).dv=.agg (cm p.types::(x.cells++(mV x.pat).1.cells)):=rfl;rw[v]at c;have c3:x.cells.drop 3=x.pat.cells++[uI x.jL]:=rfl;have W:x.pat.cells.length=14:=ae.dI _;have pt:∀m,(x.pat.cells++m).take 14=x.pat.cells:=λm=>ai;have d:x.cells.length=18:=x.dI;have T:cj x.cells=V:=cD.pure x;simp only[cm,rj,go_sem]at c;have M:x.dv=.agg x.cells:=rfl;generalize x.cells=s at*;have G:s.take 18=s:=ai;simp only[go_sem,D,y,M,d,cm,rj,c3,pt,e1];apply cX<;>intro h;rotate_left;.simp only[h,go_sem,bw];grind
   have c:=c (K (tJ h));have t18:∀m:ao,(s++m).take 18=s:=λm=>ai;have f:∀m:ao,(s++m).drop 22=m.drop 4:=λm=>by simp_all[zp]
   have N:∀m:ao,(m.length=22)->(DV.agg (bK p.types.nl (p.types.l.map b9.d) 68 2::m)).flat.length=23:=λm h=>by show m.length+1=23;omega
   cases b with|nil=>simp only[eM,zy,jO]at c|-;simp only[h,go_sem,d,G,t18,f,F];omega|cons B bs=>have A:∀z:DV,fE 124 23 328 (.ay ((B::bs).map eJ.dv) 124 23) (.ex 124) [z]=J (.ay ((B::bs).map eJ.dv++[z]) 124 23,.ex 124):=λz=>qO ab (by grind[bm]) (by grind[bm]);simp only[gb,On]at c A|-;simp only[h,go_sem,d,G,t18,f,F,A];grind
theorem S2{b:Int}:gu P .mul t (.int k a) (.int k b)=J (.int k (dQ k (Int.mul a b))):=by show(if k=k then _ else Z)=_;rw[if_pos rfl];rfl
theorem amW{b:Int}(h:aj b 0=C):gu P .quo t (.int k a) (.int k b)=J (.int k (dQ k (a.tdiv b))):=by show(if k=k then sM (cond _ _ _) _ else Z)=_;rw[if_pos rfl,h];rfl
theorem amX{b:Int}(h:aj b 0=C):gu P .rem t (.int k a) (.int k b)=J (.int k (a.tmod b)):=by show(if k=k then sM (cond _ _ _) _ else Z)=_;rw[if_pos rfl,h];rfl
theorem amZ(a b:Int)(h:0<=b/\b<64):∃n,gu P .shr t (.int .i64 a) (.int .i64 b)=J (.int .i64 n):=by obtain⟨m,rfl⟩:∃m:Nat,b=m:=⟨b.toNat,ab⟩;exact⟨_,rfl⟩
theorem Qg(a b:Int):∃n,gu P .xor t (.int .u32 a) (.int .u32 b)=J (.int .u32 n):=by exact⟨_,rfl⟩
theorem Sf{x:Int}(h:0<=x/\x<9223372036854775808):dQ .i64 x=x:=by obtain⟨m,rfl⟩:∃m:Nat,x=du m:=⟨x.toNat,ai⟩;grind[AS]
theorem aEw(g w:Int)(a:0<=g/\g<16)(b:1<=w/\w<=8):CC 50 [iD g,iD w] (vI (g*w/16)):=by refine aO func50 ?_;have h:0<=g*w:=Int.mul_nonneg a.1 ab;have c:g*w<=16*8:=Int.mul_le_mul ab b.2 ab ab;have e1:dQ _ (Int.mul g w)=g*w:=Sf (x:=g*w) ⟨h,ab⟩;have e2:(g*w).tdiv 16=g*w/16:=Int.tdiv_eq_ediv_of_nonneg h;have e3:dQ _ _=g*w/16:=Sf ab;simp only[go_sem,f50,S2,amW _,e1,e2,e3]
theorem aDX(g w:Int)(a:0<=g/\g<16)(b:1<=w/\w<=8):CC 21 [iD g,iD w] (.val (.tp [iO (g*w/16),iO 0]) .empty):=by
 have h:=aEw g w a b;have e0:aA g 0=C:=by grind[fX]
 have e1:aA g 16=V:=by grind[fX]
 have e2:(bif aA w 1 then C else !aA 8 w)=V:=by grind[fX]
 have k:=aEs [V,V,V] ai;simp only[gb,eM,pH,nY,id,xA,aR]at k;refine aO func21 ?_;simp only[go_sem,f21,aEt,e0,e1,e2,ze,k,h]
theorem wrap_u32(x:Int):0<=dQ .u32 x/\dQ .u32 x<4294967296:=by grind[dQ,IntKind.wrap,IntKind.signed,IntKind.bits]
def aBm{s:aE}:w8 1 (.str s)=J (s.map λb=>.int .u8 (.ofNat b)):=rfl
theorem abv{l:cG}{new:ao}(h:l.length+new.length<1100000):fE 5 1 1 (.ay (l.map (DV.int .u8)) 5 1) (.ex 5) new=J (.ay (l.map (DV.int .u8)++new) 5 1,.ex 5):=by grind[qO,bm]
def yR(i:Nat):Int:=56-8*i
theorem aEr(v:cH)(p:sI v.k v.n v.s=0)(q:v.s.length<1050000):cV (λr=>∃h:Int,(0<=h/\h<4294967296)/\r=.val (.tp [iO h,iO 0]) .empty) (ev PP cf (.call 47 [v.d] .no .empty)):=by
 have h:=O8 v.k v.n v.s;rw[p]at h;refine fM func47 ?_;simp only[go_sem,f47,cH.d,cH.cells,h];apply cX<;>intro h
 . have e:=abv (l:=[dQ .u8 v.k]) (new:=v.s.map λb=>.int .u8 (.ofNat b)) ai;have k:((v.s.map λb=>DV.int .u8 (.ofNat b)).all λy=>decide (y.flat.length=1))=V:=by simp[DV.flat]
   simp only[gb,eM]at e;simp only[h,go_sem,aBm,e,k];obtain⟨L,m,a,o⟩:∃L:cG,DV.int .u8 (dQ .u8 v.k)::v.s.map (λb=>DV.int .u8 (.ofNat b))=L.map (DV.int .u8)/\L.length<1100000/\v.s.length+1=L.length:=⟨dQ .u8 v.k::v.s.map du,aU,ai,aP⟩;simp only[m,o];refine oF L (2166136261:Int) (λi s=>⟨47,52,[(40,iS i),(7,.dv (.int .u32 s) .no),(38,.dv (.ay (L.map (DV.int .u8)) 5 1) .no),(39,iS L.length)],[],.empty⟩) (λi _ s=>0<=s/\s<4294967296) ab rfl ab (λs I=>?_) (λi x l s d g f I c=>?_);.simp only[go_sem,Sf (x:=s) ab,bw];grind
   .simp only[go_sem]at c;obtain⟨n,a⟩:=Qg (P:=PP) (t:=180) s (dQ .u32 x);simp only[go_sem,d,g,S2,a,f];grind[wrap_u32]
 . simp only[h,go_sem];refine oF (mr 8 ()) [dQ .u8 v.k] (λi s=>⟨47,52,[(6,.dv (.int .i64 (yR i)) .no),(1,.lp 1 0),(5,.dv (.ay (s.map (DV.int .u8)) 5 1) (.ex 5))],[(1,⟨[iD v.k,iD v.n,.str v.s],[]⟩)],.empty⟩) (λi _ s=>s.length=i+1) ai rfl rfl (λs I=>?_) (λi x l s d g f I c=>?_)
   . have z:aA (yR 8) 0=V:=by rfl
     simp only[go_sem];apply cX<;>intro h;rotate_left;.grind
     simp only[h,go_sem];obtain⟨L,rfl,a⟩:∃L,L=s/\L.length<1100000:=⟨s,rfl,ai⟩;refine oF L (2166136261:Int) (λi s=>⟨47,52,[(40,iS i),(7,.dv (.int .u32 s) .no),(38,.dv (.ay (L.map (DV.int .u8)) 5 1) .no),(39,iS L.length)],[],.empty⟩) (λi _ s=>0<=s/\s<4294967296) ab rfl ab (λs I=>?_) (λi x l s d g f I c=>?_);.simp only[go_sem,Sf (x:=s) ab,bw];grind
     .simp only[go_sem]at c;obtain⟨n,a⟩:=Qg (P:=PP) (t:=180) s (dQ .u32 x);simp only[go_sem,d,g,S2,a,f];grind[wrap_u32]
   . have j:i<8:=nr d;have z:aA (yR i) 0=C:=by grind[fX,yR]
     have w:dQ .i64 (Int.sub (yR i) 8)=yR (i+1):=by
      have:Int.sub (yR i) 8=yR (i+1):=by grind[yR]
      rw[this];match i,j with|0,_|1,_|2,_|3,_|4,_|5,_|6,_|7,_=>rfl
     obtain⟨n,a⟩:=amZ (P:=PP) (t:=3) v.n (yR i) (by grind[yR]);have e:=abv (l:=s) (new:=[.int .u8 (dQ .u8 n)]) ai;have c:=c (s++[dQ .u8 n]) aU;simp only[go_sem,qJ]at c;simp only[go_sem];apply cX<;>intro h;.simp_all
     simp only[h,go_sem,a,e,w];omega
theorem aDU(v:cH)(a:sI v.k v.n v.s=0)(l:v.s.length<1050000):cV (λr=>∃g:Int,(0<=g/\g<16)/\r=.val (.tp [iO g,iO 0]) .empty) (ev PP cf (.call 20 [v.d] .no .empty)):=by obtain⟨r,e,h,b,rfl⟩:=aEr v a l;simp only[cH.d,cH.cells]at e;refine fM func20 ?_;simp only[go_sem,f20,cH.d,cH.cells,e,amX _,bw];grind
def cH.BA(v:cH):Int:=match ev PP cf (.call 20 [v.d] .no .empty)with|some (.val (.tp [(.int _ g,_),_]) _)=>g|_=>0
theorem UD(v:cH)(a:sI v.k v.n v.s=0)(h:v.s.length<1050000):(0<=v.BA/\v.BA<16)/\CC 20 [v.d] (.val (.tp [iO v.BA,iO 0]) .empty):=by obtain⟨r,e,g,b,rfl⟩:=aDU v a h;grind[cH.BA]
def cH.rB(v:cH)(w:Int):Int:=v.BA*w/16
theorem m6(v:cH)(w:Int)(h:0<=v.BA/\v.BA<16)(c:1<=w/\w<=8):0<=v.rB w/\v.rB w<w:=by have a:0<=v.BA*w:=Int.mul_nonneg h.1 ab;have b:v.BA*w<=15*w:=Int.mul_le_mul_of_nonneg_right ab ab;grind[cH.rB]
theorem Dj(v:cH)(w:Int)(a:sI v.k v.n v.s=0)(l:v.s.length<1050000)(b:1<=w/\w<=8):CC 42 [v.d,iD w] (vI (v.rB w)):=by obtain⟨h,e⟩:=UD v a l;have e2:=aDX _ w h b;simp only[cH.d,cH.cells]at e;refine aO func42 ?_;simp only[go_sem,f42,cH.d,cH.cells,e,e2,cH.rB]
def lN(t:Sl b9)(p:List eJ)(m:Sl Int)(k:Sl aC):GH:=⟨1,[(0,.box ⟨[cm t,xe p,bW m,jr k],[]⟩)]⟩
def aho(m:Sl Int):Int:=match m.l with|[]=>-1|a::l=>FL a l
theorem aEX(G:Sl b9)(l:List eJ)(b:Sl Int)(x:aC)(W:∀p∈l,pK p/\mA p.query)(P:l.length<1100000)(N:b.l.length<1100000)(g:x.e.sm):∃n,(aj n 0=V->sI x.key.k x.key.n x.key.s=0)/\∀s:Sl aC,ev PP cf (.call 111 [.ptr 0 0,x.d] .no (lN G l b s))=J (.val (.dv (iD n) .no) (lN G l b s)):=by have d1:=aqd;have d6:=aqf;have d10:=aqe;simp only[bp,opsOf,f111,go_sem]at d1 d6 d10;have e0:=O8 x.key.k x.key.n x.key.s;have e1:∀s:Sl aC,CC 73 [.agg [bW b,jr s]] (vI (aho b)):=λs=>aEZ ⟨b,s⟩ N;have e2:=aE4 x.e;simp only[bW,dP.d,dP.cells]at e1 e2;cases q:aA x.q 0 with|true=>refine⟨2,(λh=>by cases h),λs=>?_⟩;refine aO func111 ?_;simp only[go_sem,f111,lN,aC.d,aC.cells,d1,q]|false=>
 obtain⟨k,a⟩:∃k:Nat,x.q=du k:=by
   rcases O:x.q with k|k;.grind
   .rw[O]at q;cases q
 rcases d:l[k]? with _|p
 . have:aA (.ofNat k) (.ofNat l.length)=C:=by grind[fX]
   refine⟨2,(λh=>by cases h),λs=>?_⟩;refine aO func111 ?_;rw[a]at q;simp only[go_sem,f111,lN,aC.d,aC.cells,d1,a,q,xe,this]
 have A:aA (.ofNat k) (.ofNat l.length)=V:=by grind[fX]
 rw[a]at q;cases c:aj (sI x.key.k x.key.n x.key.s) 0 with|false=>refine⟨sI x.key.k x.key.n x.key.s,(λh=>ai),λs=>?_⟩;refine aO func111 ?_;simp only[go_sem,f111,lN,aC.d,aC.cells,d1,a,q,xe,A,e0,c]|true=>obtain⟨I,o⟩:=W p (dw d);obtain⟨r,e3,F,g3,rfl⟩:=aE3 p x.e I o (NE _ o.p) g;have c3:p.cells[3]?=J (bW p.query.key):=rfl;have E:p.cells[0]?=J (cm p.types):=rfl;have i:p.cells.length=23:=p.dI;have j:cj p.cells=V:=a30 p;have y:p.dv=.agg p.cells:=rfl;have u:p.cells.take 23=p.cells:=ai;simp only[dP.d,dP.cells]at e3;cases e:aj F 0 with|false=>refine⟨F,(λh=>ai),λs=>?_⟩;generalize p.cells=B at*;refine aO func111 ?_;simp only[go_sem,f111,lN,aC.d,aC.cells,d1,d6,a,q,xe,A,e0,c,d,y,i,u,j,e3,e]|true=>cases w:aj x.e.mark (aho b)with|false=>refine⟨22,(λh=>by cases h),λs=>?_⟩;generalize p.cells=B at*;have e1:=e1 s;refine aO func111 ?_;simp only[go_sem,f111,lN,aC.d,aC.cells,d1,d6,d10,a,q,xe,A,e0,c,d,y,i,u,j,e3,e,e1,w]|true=>cases hid:(bif aj (.ofNat x.e.held.l.length) 0 then aj (.ofNat x.e.wait.l.length) 0 else C)with|true=>refine⟨21,(λh=>by cases h),λs=>?_⟩;generalize p.cells=B at*;have e1:=e1 s;rw[hid]at e2;refine aO func111 ?_;simp only[go_sem,f111,lN,aC.d,aC.cells,d1,d6,d10,a,q,xe,A,e0,c,d,y,i,u,j,e3,e,e1,w,e2]|false=>
   obtain⟨f,t,D⟩:∃f t,x.e.held.l++x.e.wait.l=f::t:=by cases M:x.e.held.l++x.e.wait.l with|cons f t=>grind|nil=>obtain⟨K,L⟩:=List.append_eq_nil_iff.1 M;rw[K,L]at hid;cases hid
   have S:f.kR.l.length<1000000000:=by
    have:f∈x.e.held.l++x.e.wait.l:=ai;rcases CH.1 this with h|h;.exact g.1.2.1.2 f h
    .exact g.1.1.2 f h
   have e6:=aic x.e.held x.e.wait (by have:=g.2.1;omega);obtain⟨r,e7,v,z,m,rfl⟩:=Wm p.types p.query.key f I.t I.k S;rw[D,gb,On]at e6;rw[hid]at e2;simp only[de,cm,bW,aM.d,aM.cells,cH.d,cH.cells]at e6 e7;simp only[de]at e2 e3;refine⟨bif aj m 0 then bif z then bif DX v.k v.n v.s x.key.k x.key.n x.key.s then 0 else 16 else 16 else 16,(λ_=>tJ c),λs=>?_⟩;have H:(0<t.length+1)=True:=il (Nat.succ_pos _);simp only[cm,bW]at E c3;generalize p.cells=B at*;have e1:=e1 s;refine aO func111 ?_;simp only[go_sem,f111,lN,aC.d,aC.cells,d1,d6,d10,a,q,xe,A,e0,c,d,y,i,u,j,e3,e,e1,w,e2,de,e6,E,c3,e7,H];repeat'(with_reducible apply sp<;>intro h<;>simp only[h,go_sem,xC,ze])
open Classical in def vP(t:Sl b9)(p:List eJ)(m:Sl Int)(x:aC):Int:=if h:∃n,(aj n 0=V->sI x.key.k x.key.n x.key.s=0)/\∀k:Sl aC,ev PP cf (.call 111 [.ptr 0 0,x.d] .no (lN t p m k))=J (.val (.dv (iD n) .no) (lN t p m k))then h.choose else 0
theorem VI(t:Sl b9)(l:List eJ)(m:Sl Int)(x:aC)(c:∀p∈l,pK p/\mA p.query)(a:l.length<1100000)(b:m.l.length<1100000)(d:x.e.sm):(aj (vP t l m x) 0=V->sI x.key.k x.key.n x.key.s=0)/\∀k:Sl aC,ev PP cf (.call 111 [.ptr 0 0,x.d] .no (lN t l m k))=J (.val (.dv (iD (vP t l m x)) .no) (lN t l m k)):=by have h:=aEX t l m x c a b d;grind[vP]
def BV(f:aC->Int):ah aC->List aC->Int|_,[]=>0|p,x::l=>bif aj (f x) 0 then(bif(match p with|some y=>!aA (y.cmp x) 0|none=>C)then 14 else BV f (J x) l)else f x
def ji(f:aC->Int)(m:Sl Int)(k:Sl aC):Int:=bif(bif aA (.ofNat m.l.length) 1 then V else aA 8 (.ofNat m.l.length))then 5 else bif m.l.any Jc then 2 else bif aA 256 (.ofNat k.l.length)then 5 else BV f Z k.l
def Ro(l:List aC):Nat->ah aC|0=>Z|i+1=>l[i]?
theorem aEJ(t:Sl b9)(a:List eJ)(m:Sl Int)(k:Sl aC)(W:∀p∈a,pK p/\mA p.query)(e:a.length<1100000)(f:m.l.length<1100000)(u:k.l.length<1100000)(j:∀x∈k.l,x.e.sm):ev PP cf (.call 66 [.ptr 0 0] .no (lN t a m k))=J (.val (.dv (iD (ji (vP t a m) m k)) .no) (lN t a m k)):=by
 have d13:=apY;simp only[bp,opsOf,f66,go_sem]at d13;have e0:∀g,ev PP cf (.call 109 [bW m,.func 110 [] []] .no g)=J (.val (.dv (.bool (m.l.any Jc)) .no) g):=λg=>Jj (d:=iD) (q:=Jc) 110 [] [] g m.nl m.l ab (λx _=>.inr ⟨rfl,rfl,rfl,aEW x⟩) (.inl rfl) (λ_=>⟨rfl,rfl⟩);have e1:=λx O=>(VI t a m x W e f (j x O)).2 k;simp only[bW]at e0;simp only[lN,cm,bW,jr]at e1;refine aO func66 ?_;simp only[go_sem,f66,lN,ji,cm,bW,jr];repeat'(with_reducible apply sp<;>intro h<;>simp only[h,e0,go_sem,xC,ze])
 refine gC k.l (λi=>[(44,iS i)]) (λi l=>.val (.dv (iD (BV (vP t a m) (Ro k.l i) l)) .no) (lN t a m k)) ab rfl (by rfl) ?_ (λi x l b O w o=>?_);.simp only[go_sem,BV,lN,cm,bW,jr]
 . have N:=nr b;have e1:=e1 x (dw O);simp only[aC.d,aC.cells]at e1;simp only[go_sem,lN,cm,bW,jr,Ro,O]at o;simp only[go_sem,b,O,aC.d,aC.cells,e1,lN,cm,bW,jr,BV];apply sp<;>intro h;rotate_left;.simp only[h,go_sem]
   rcases i with _|i;.have z:aA 0 (du 0)=C:=rfl;have r:aA 0 0=C:=rfl;simp only[h,go_sem,d13,r,Ro];grind
   . have z:aA 0 (du (i+1))=V:=by rfl
     obtain⟨y,n⟩:∃y,k.l[i]?=J y:=⟨_,dC ab⟩;have s:=sub_succ i ab;have c:=aEY y x;simp only[aC.d,aC.cells]at c;simp only[h,go_sem,d13,z,s,n,c,aC.d,aC.cells,Ro];apply sp<;>intro g;.simp only[g,go_sem,xC,w];omega
     .simp only[g,go_sem,ze]
structure Oh(o:bq):Prop where
 m:o.marks.l.length<1100000
 k:o.keys.l.length<1100000
 e:∀x∈o.keys.l,x.e.sm
def v7(p:cC):List eJ:=p.qs.l.map (uh p)
def vY(p:cC)(n:Int)(o:bq):Int:=bif aj n 0 then ji (vP p.types (v7 p) o.marks) o.marks o.keys else n
theorem xP{l:List eJ}:(xe l).pure=V:=oI (ig (λx=>show x.dv.pure=V from a30 x) _)
theorem aHe{l:List eJ}:(xe l).flat=[xe l]:=adl
attribute[go_sem]xP aHe
theorem W1(p:cC)(d:Bc p):∃n,(aj n 0=V->∀q∈p.qs.l,pK (uh p q))/\(∃t,t.pure=V/\∃o g,CC 12 [p.d] (.val (.tp [(t,o),iO n]) g))/\∀o,Oh o->∃g,CC 39 [p.d,o.d] (.val (.dv (iD (vY p n o)) .no) g):=by
 obtain⟨r,e0,hr⟩:=aEa p d;rcases hr with⟨w,n,g,f,rfl⟩|⟨W,w,g,i,rfl⟩
 . refine⟨n,aU,⟨_,rfl,w,g,e0⟩,λo a=>?_⟩;simp only[cC.d,cC.cells,cm]at e0;have e1:CC 44 [p.d,o.d] (.val (.tp [(.eS,.no),iO n]) .empty):=by refine aO func44 ?_;simp only[go_sem,f44,cC.d,cC.cells,bq.d,bq.cells,e0,f]
   simp only[cC.d,cC.cells,bq.d,bq.cells,cm,bW]at e1;refine Hz func39 ?_;simp only[go_sem,f39,cC.d,cC.cells,bq.d,bq.cells,e1,vY,f,Oa]
 . refine⟨0,λ_=>W,⟨_,xP,w,g,e0⟩,λo a=>?_⟩;have b:∀x∈v7 p,pK x/\mA x.query:=λx j=>by obtain⟨q,b,rfl⟩:=au.1 j;exact⟨W q b,d.q q b⟩
   have e2:=aEJ p.types (v7 p) o.marks o.keys b (by show(p.qs.l.map _).length<_;rw[fO];exact d.l) a.m a.k a.e;simp only[cC.d,cC.cells,cm]at e0;simp only[lN,cm,bW]at e2;generalize e:ji (vP p.types (v7 p) o.marks) o.marks o.keys=c at*;have e0:CC 12 [.agg [bK p.types.nl (p.types.l.map b9.d) 68 2,rj p.qs]] (.val (.tp [(xe (v7 p),w),iO 0]) g):=e0;have e1:CC 44 [p.d,o.d] (.val (.tp [(bif aj c 0 then .ptr 0 0 else .eS,.no),iO c]) (lN p.types (v7 p) o.marks o.keys)):=by rcases i with rfl|rfl;all_goals
    refine aO func44 ?_;simp only[go_sem,f44,cC.d,cC.cells,bq.d,bq.cells,e0,lN,e2];apply sp<;>intro h;.have v:=tJ h;simp only[v,go_sem]
    .simp only[h,go_sem]
   simp only[cC.d,cC.cells,bq.d,bq.cells,cm,bW]at e1;have z:aj 0 0=V:=rfl;refine Hz func39 ?_;rcases k:aj c 0 with _|_;.simp only[go_sem,f39,cC.d,cC.cells,bq.d,bq.cells,e1,vY,z,e,Oa]
   simp only[go_sem,f39,cC.d,cC.cells,bq.d,bq.cells,e1,vY,z,e,Oa]
def cpE(v:Sl aM)(h:v.l.length<1100000):∃o,(o=.ex 86\/v.l=[]/\o=.any)/\CC 139 [de v] (.val (.dv (de v) o) .empty):=HM (.inr (.inl rfl)) (λ_=>rfl) v.nl v.l h
def cpV(v:Sl cH)(h:v.l.length<1100000):∃o,(o=.ex 55\/v.l=[]/\o=.any)/\CC 124 [vl v] (.val (.dv (vl v) o) .empty):=HM (.inl rfl) (λ_=>rfl) v.nl v.l h
def cpB(v:Sl eC)(h:v.l.length<1100000):∃o,(o=.ex 196\/v.l=[]/\o=.any)/\CC 81 [hZ v] (.val (.dv (hZ v) o) .empty):=HM (.inr (.inr (.inl rfl))) (λ_=>rfl) v.nl v.l h
def cpS(v:Sl fG)(h:v.l.length<1100000):∃o,(o=.ex 199\/v.l=[]/\o=.any)/\CC 82 [jM v] (.val (.dv (jM v) o) .empty):=HM (.inr (.inr (.inr (.inl rfl)))) (λ_=>rfl) v.nl v.l h
def TD(v:Sl Int)(h:v.l.length<1100000):∃o,(o=.ex 3\/v.l=[]/\o=.any)/\CC 29 [bW v] (.val (.dv (bW v) o) .empty):=HM (.inr (.inr (.inr (.inr (.inl rfl))))) (λ_=>rfl) v.nl v.l h
theorem aia(v:Sl aM)(g:v.l.length<1100000)(j:∀x∈v.l,x.kR.l.length<1100000):∃o,(o=.ex 86\/v.l=[]/\o=.any)/\CC 79 [de v] (.val (.dv (de v) o) .empty):=by
 obtain⟨o,h,e0⟩:=cpE v g;refine⟨o,h,?_⟩;rcases f:v.l with _|⟨a,t⟩;.simp only[de]at e0;refine aO func79 ?_;rcases h with rfl|⟨_,rfl⟩;all_goals
  simp only[go_sem,f79,de,e0];refine gC v.l (λi=>[(9,iS i)]) (λ_ _=>.val (.dv (bK v.nl (v.l.map aM.d) 86 5) _) .empty) ab rfl rfl ?_ (λi x l d b w c=>?_);.simp only[go_sem]
  grind
 have e:de v=.ay (v.l.map aM.d) 86 5:=by unfold de;rw[f];rfl
 obtain rfl:o=.ex 86:=ai;rw[e]at e0|-;refine aO func79 ?_;simp only[go_sem,f79,e0];refine gC v.l (λi=>[(9,iS i)]) (λ_ _=>.val (.dv (.ay (v.l.map aM.d) 86 5) (.ex 86)) .empty) ab rfl rfl ?_ (λi x l d b w c=>?_);.simp only[go_sem]
 .obtain⟨o,h,e1⟩:=cpV x.kR (j x (dw b));have s:(v.l.map aM.d).take i++x.d::(v.l.map aM.d).drop (i+1)=v.l.map aM.d:=JJ ai;simp only[aM.d,aM.cells]at s;simp only[go_sem]at c;rcases h with rfl|⟨_,rfl⟩<;>simp only[go_sem,d,b,aM.d,aM.cells,e1,s,w,c]
def dP.cp(e:dP):Prop:=e.sm/\e.wait.l.length<1100000/\e.held.l.length<1100000/\e.runs.l.length<1100000/\(∀x∈e.wait.l,x.kR.l.length<1100000)/\∀x∈e.held.l,x.kR.l.length<1100000
theorem HN{k n:Nat}{x:aN}{l:List (Nat×aN)}:dg ((k,x)::l) I n=bif decide (k<I)||decide (I+n<=k)then(k,x)::dg l I n else dg l I n:=by show List.filter _ _=_;rw[Ek];rw[eP,show bz _ k=decide (I+n<=k)from by rw[Bool.eq_iff_iff];simp];cases(decide (k<I)||decide (I+n<=k))<;>rfl
theorem aGo{v:DV}(h:v.aV=V):mM I v (.ex e)=[(I,.ex e)]:=by grind[mM]
attribute[go_sem]aGo
def pC(m e n i:Nat)(o:List (Nat×aN)):Prop:=(m*n,aN.full e)∈o/\∀j,m*i<=j->j<m*n->look o j=Z
theorem aBE{l:List (Nat×aN)}{n:Nat}(h:look l j=Z):look (dg l I n) j=Z:=by induction l with|nil=>rfl|cons x l i=>grind[HN,look]
section
variable{m e n i I:Nat}{x:aN}{ow:List (Nat×aN)}
theorem pC.up(h:pC m e n i ow):pC m e n (i+1) ow:=⟨h.1,λj b a=>h.2 j ai a⟩
theorem pC.cn(h:pC m e n i ow)(o:I<m*i):pC m e n i ((I,x)::ow):=⟨jy _ h.1,λj a b=>by rw[DB,if_neg ab];exact h.2 j a b⟩
theorem pC.dr(h:pC m e n i ow)(o:I<m*n):pC m e n i (dg ow I 1):=by refine⟨bl.2 ⟨h.1,?_⟩,λj a b=>aBE (h.2 j a b)⟩;grind[nB]
end
theorem Ld{n:Nat}{L:ao}{i:Nat}{c:DV}(d:∀x∈L,x.flat.length=n)(h:L[i]?=J c)(b:j<n):(iP L)[i*n+j]?=c.flat[j]?:=by induction L generalizing i with|nil=>grind|cons a l e=>show(a.flat++iP l)[i*n+j]?=_;cases i<;>grind
theorem E3{u:iM}{f n:Nat}{a:db}{l:ew}{d:ah Tmp}{i:Nat}{c:ao}{s:List (Nat×aN)}(h:bN P t=J C)(j:look s I=Z):sj P t u ⟨f,n,a,l,g⟩ d i I (.box ⟨c,s⟩)=(c[I]?).bind λv=>aG ⟨f,n,a,l,g.set i (.box ⟨c,s⟩)⟩ d (.dv v (JS u v)):=by cases s with|cons o s=>grind[EX]|nil=>
 have e:eB ⟨c,[]⟩ I=Cb (c[I]?) Z:=by unfold eB;rcases c[I]? with _|v;rfl;cases v<;>rfl
 have e2:sj P t u ⟨f,n,a,l,g⟩ d i I (.box ⟨c,[]⟩)=(fI P u t ⟨c,[]⟩ I).bind λr=>aG ⟨f,n,a,l,g.set i (.box r.2)⟩ d r.1:=by
  show(match u,eB _ _,bN P t with|.ref,.ex _,J C=>_|_,_,_=>_)=_;rw[e];rcases c[I]? with _|v;.cases u<;>rfl
  cases v<;>cases u<;>rfl
 have e3:fI P u t ⟨c,[]⟩ I=(c[I]?).bind λd=>J (pB u ⟨c,[]⟩ I d (eB ⟨c,[]⟩ I)):=by grind[fI]
 rw[e2,e3,e];rcases b:c[I]? with _|v;.rfl
 cases v<;>cases u<;>rfl
def EA(k:aC)(w:List (Nat×aN))(i:Nat)(o:List (Nat×aN)):St:=⟨54,63,[(36,iS i),(3,.dv (.ptr 0 4) .no),(2,.lp 2 0),(1,.dv (.ptr 0 0) .no),(35,iS k.e.runs.l.length)],[(2,⟨[iD 0,iD 0,iD 0,.str [],iD 0,.nl,.nl,.nl],[]⟩)],⟨2,[(0,.box ⟨[iD k.q,iD k.key.k,iD k.key.n,.str k.key.s,iD k.e.mark,de k.e.wait,.cY 1 0 k.e.runs.l.length 186 3,de k.e.held],w⟩),(1,.box ⟨iP (k.e.runs.l.map bu.d),o⟩)]⟩⟩
theorem FH{a:Type}{f:α->ah a}:cB f []=J []:=rfl
def MA{c:Type}{f:α->ah c}{a:α}{l:List α}:cB f (a::l)=(f a).bind λb=>(cB f l).bind λt=>J (b::t):=rfl
theorem NW{nl:Bool}{n:Nat}:xu PP g (bK nl l e n)=J (bK nl l e n):=by
 unfold bK;split;.cases nl<;>rfl
 rfl
theorem akq{b m l i:Nat}{L:ao}(s:g.get b=J (.box ⟨iP L,ow⟩))(r:bN PP e=J V)(u:1<=m)(t:L.length=l)(j:∀x∈L,x.flat.length=m/\.agg x.flat=x)(h:pC m e l i ow):xu PP g (.cY b 0 l e m)=J (.ay L e m):=by
 have o:bz (0+L.length*m) (iP L).length=V:=nB (by grind[Po,Nat.mul_comm]);have p:ow.any (λx=>isFull e x.2)=V:=List.any_eq_true.2 ⟨_,h.1,pJ e⟩;have q:yM ⟨iP L,ow⟩ 0 L.length m V=L:=by
  unfold yM;apply Ej;intro i;by_cases d:i<L.length;.obtain⟨c,a⟩:∃c,L[i]?=J c:=⟨_,dC d⟩;obtain⟨n,f⟩:=j c (dw a);rw[jZ,Kf d,a];show J (DV.agg _)=J c;rw[<-f];congr 2;apply Ej;grind[Ld]
  grind
 show(match g.get b,bN PP e with|some (.box b),J k=>_|_,_=>Z)=_;grind[nB]
theorem amQ:gu PP .eql 110 (.ay l 186 3) .nl=J (.bool C):=by rfl
theorem amU:gu PP .eql 110 .nl .nl=J (.bool V):=by rfl
theorem aE0(n:Bool)(g:GH):∃o,(o=.any\/o=.full 186)/\ev PP cf (.call 80 [bK n [] 186 3] .no g)=J (.val (.dv (bK n [] 186 3) o) g):=by cases n with|true=>refine⟨_,.inl rfl,?_⟩;show ev PP cf (.call 80 [.nl] _ g)=J (.val (.dv .nl _) g);refine aO func80 ?_;simp only[go_sem,f80,amU]|false=>refine⟨_,.inr rfl,?_⟩;show ev PP cf (.call 80 [.ay [] _ 3] _ g)=J (.val (.dv (.ay [] _ 3) _) g);have a:fE 186 3 56 (.ay [] 186 3) _ []=J (.ay [] _ 3,.full 186):=rfl;have r:ru [5,7] (J 7) (.ay [] 186 3) (.full 186) []=C:=rfl;refine aO func80 ?_;simp only[go_sem,f80,amQ,a,r,nY]
theorem aGp{v:DV}:mM I v (.full e)=[]:=by simp[mM]
attribute[go_sem]aGp
theorem Df(k:aC)(X:k.e.cp):∃g,CC 54 [k.d] (.val (.dv k.d .no) g):=by
 obtain⟨o,m,W,hr,E,B⟩:=X;obtain⟨ow,M,e1⟩:=aia k.e.wait m E;obtain⟨oh,P,e2⟩:=aia k.e.held W B;have d2:=ap0;have d7:=ap1;simp only[bp,opsOf,f54,go_sem]at d2 d7;suffices U:cV (λr=>∃g,r=.val (.dv k.d .no) g) (ev PP cf (.call 54 [k.d] .no .empty))by obtain⟨r,e,g,rfl⟩:=U;exact⟨g,e⟩
 cases A:k.e.runs.l with|nil=>
 obtain⟨orr,z,e3⟩:=aE0 k.e.runs.nl ⟨1,[(0,.box ⟨k.cells,[]⟩)]⟩;have f:mD k.e.runs=bK k.e.runs.nl [] 186 3:=by unfold mD;rw[A];rfl
 have es:=acn k.e.runs;have T:=acm k.e.runs;rw[<-f]at e3;generalize F:mD k.e.runs=R at*;simp only[aC.cells,F]at e3;refine Jw (q:=λr=>∃g,r=.val (.dv k.d .no) g) func54 rfl rfl rfl rfl rfl ?_ ?_
 . rintro r⟨g,rfl⟩;have u:=λ(g:GH)=>NW (g:=g) (nl:=k.e.wait.nl) (l:=k.e.wait.l.map aM.d) (e:=86) (n:=5);have v:=λ(g:GH)=>NW (g:=g) (nl:=k.e.held.nl) (l:=k.e.held.l.map aM.d) (e:=86) (n:=5);have O:∀g:GH,xu PP g R=J R:=λg=>by rw[f];exact NW
   have G:∀g k n,xu PP g (.int k n)=J (.int k n):=λ_ _ _=>rfl;have H:∀g s,xu PP g (.str s)=J (.str s):=λ_ _=>rfl;refine⟨.val (.dv k.d .no) ⟨g.next,[]⟩,?_,_,rfl⟩;simp only[aC.d,aC.cells,F];show Option.map _ (Option.map _ (cB _ _))=_;simp only[de,MA,FH,u,v,O,G,H,cU,gM]
 . have uO:ni R=J 0:=by rw[f];cases k.e.runs.nl<;>rfl
   rcases M with rfl|⟨_,rfl⟩<;>rcases P with rfl|⟨_,rfl⟩<;>rcases z with rfl|rfl;all_goals simp only[go_sem,f54,aC.d,aC.cells,F,d2,e1,e2,e3,T,HN,uO];refine Nj ?_;simp only[go_sem,bw];exact⟨_,rfl⟩|cons a t=>
 have f:mD k.e.runs=.ay (k.e.runs.l.map bu.d) 186 3:=by unfold mD;rw[A];rfl
 have D:∀x∈k.e.runs.l.map bu.d,x.flat.length=3/\DV.agg x.flat=x:=λx b=>by obtain⟨y,_,rfl⟩:=au.1 b;exact⟨rfl,rfl⟩
 have e3:=λg=>Tt (d:=bu.d) (.inl rfl) (λx=>rfl) k.e.runs.l g (by rw[A];simp) hr;refine Jw (q:=λr=>∃w ow,pC 3 186 k.e.runs.l.length k.e.runs.l.length ow/\r=.val (.dv (.agg [iD k.q,iD k.key.k,iD k.key.n,.str k.key.s,iD k.e.mark,de k.e.wait,.cY 1 0 k.e.runs.l.length 186 3,de k.e.held]) .no) (⟨2,[(0,.box ⟨[iD k.q,iD k.key.k,iD k.key.n,.str k.key.s,iD k.e.mark,de k.e.wait,.cY 1 0 k.e.runs.l.length 186 3,de k.e.held],w⟩),(1,.box ⟨iP (k.e.runs.l.map bu.d),ow⟩)]⟩)) func54 rfl rfl rfl rfl rfl ?_ ?_;.rintro r⟨w,ow,I,rfl⟩;have u:=λ(g:GH)=>NW (g:=g) (nl:=k.e.wait.nl) (l:=k.e.wait.l.map aM.d) (e:=86) (n:=5);have v:=λ(g:GH)=>NW (g:=g) (nl:=k.e.held.nl) (l:=k.e.held.l.map aM.d) (e:=86) (n:=5);have G:∀g k n,xu PP g (.int k n)=J (.int k n):=λ_ _ _=>rfl;have H:∀g s,xu PP g (.str s)=J (.str s):=λ_ _=>rfl;have u3:∀x n,xu PP ⟨n,[(0,x),(1,.box ⟨iP (k.e.runs.l.map bu.d),ow⟩)]⟩ (.cY 1 0 k.e.runs.l.length 186 3)=J (.ay (k.e.runs.l.map bu.d) 186 3):=λx n=>akq rfl (by rfl) ft (fO _) D I;refine⟨.val (.dv k.d .no) ⟨2,[]⟩,?_,_,rfl⟩;simp only[aC.d,aC.cells,f];show Option.map _ (Option.map _ (cB _ _))=_;simp only[de,MA,FH,u,v,G,H,u3,cU,gM]
 .rcases M with rfl|⟨_,rfl⟩<;>rcases P with rfl|⟨_,rfl⟩;all_goals
   simp only[go_sem,f54,aC.d,aC.cells,d2,e1,e2,f,e3,HN];first|refine oF k.e.runs.l _ (EA k [(7,.ex 86),(5,.ex 86)]) (λi _ ow=>pC 3 186 k.e.runs.l.length i ow) ab rfl ?_ (λow I=>?_) (λi x l ow c b m I p=>?_)|refine oF k.e.runs.l _ (EA k [(7,.ex 86)]) (λi _ ow=>pC 3 186 k.e.runs.l.length i ow) ab rfl ?_ (λow I=>?_) (λi x l ow c b m I p=>?_)|refine oF k.e.runs.l _ (EA k [(5,.ex 86)]) (λi _ ow=>pC 3 186 k.e.runs.l.length i ow) ab rfl ?_ (λow I=>?_) (λi x l ow c b m I p=>?_)|refine oF k.e.runs.l _ (EA k []) (λi _ ow=>pC 3 186 k.e.runs.l.length i ow) ab rfl ?_ (λow I=>?_) (λi x l ow c b m I p=>?_)
   .exact⟨fU,λj _ h=>by rw[DB,if_neg ab];rfl⟩
   .simp only[EA,go_sem,bw];exact⟨_,_,I,rfl⟩
   . obtain⟨ob,Y,e4⟩:=cpB x.bs (o.2.2 x (dw b)).1;obtain⟨os,vK,e5⟩:=cpS x.ss (o.2.2 x (dw b)).2;have n1:look ow (i*3+1)=Z:=I.2 _ ab (by have:=nr c;omega);have n2:look ow (i*3+2)=Z:=I.2 _ ab (by have:=nr c;omega);have N:(k.e.runs.l.map bu.d)[i]?=J x.d:=by rw[jZ,b];rfl
     have K:(iP (k.e.runs.l.map bu.d))[i*3+1]?=J (hZ x.bs):=Ld (λx b=>(D x b).1) N ft;have L:(iP (k.e.runs.l.map bu.d))[i*3+2]?=J (jM x.ss):=Ld (λx b=>(D x b).1) N ft;have kA:(iP (k.e.runs.l.map bu.d)).length=3*k.e.runs.l.length:=by rw[Po λx b=>(D x b).1,fO]
     have gN:=nr c;have s1:(iP (k.e.runs.l.map bu.d)).take (i*3+1)++hZ x.bs::(iP (k.e.runs.l.map bu.d)).drop (i*3+1+1)=iP (k.e.runs.l.map bu.d):=JJ K;have s2:(iP (k.e.runs.l.map bu.d)).take (i*3+2)++jM x.ss::(iP (k.e.runs.l.map bu.d)).drop (i*3+2+1)=iP (k.e.runs.l.map bu.d):=JJ L;have Q:(i*3+1+1<=(iP (k.e.runs.l.map bu.d)).length)=True:=il ab;have S:(i*3+2+1<=(iP (k.e.runs.l.map bu.d)).length)=True:=il ab;simp only[EA,go_sem]at p;rcases Y with rfl|⟨_,rfl⟩<;>rcases vK with rfl|⟨_,rfl⟩;all_goals simp only[EA,go_sem,c,d7,E3,n1,n2,K,L,e4,e5,s1,s2,Q,S,m];refine p _ ?_;repeat(first|exact I.up|refine pC.cn ?_ ab|refine pC.dr ?_ ab)
def iB(s:List (DV×DV)):ao:=s.flatMap λp=>[p.1,p.2]
theorem Nr{p:DV×DV}:iB (p::ps)=p.1::p.2::iB ps:=rfl
theorem Ns(p:List (DV×DV)):(iB p).length=2*p.length:=by induction p with|nil=>rfl|cons a l i=>grind[Nr]
theorem Z1{i:Nat}{p:DV×DV}(h:ps[i]?=J p):(iB ps)[i*2]?=J p.1/\(iB ps)[i*2+1]?=J p.2:=by induction ps generalizing i<;>grind[Nr]
theorem RE{i:Nat}{p:DV×DV}{v:DV}(h:ps[i]?=J p):iJ (iB ps) (i*2) v=iB (ps.set i (v,p.2))/\iJ (iB ps) (i*2+1) v=iB (ps.set i (p.1,v)):=by induction ps generalizing i with|nil=>grind|cons a l b=>
 rcases i with _|i;.cases h;exact⟨rfl,rfl⟩
 have:=b h;rw[show(i+1)*2=i*2+1+1 by omega,Nr,List.set_cons_succ,List.set_cons_succ,Nr,Nr,<-this.1,<-this.2];exact⟨rfl,rfl⟩
theorem aJs(s:List (DV×DV))(o:List (Nat×aN)):yM ⟨iB s,o⟩ 0 s.length 2 V=s.map λp=>.agg [p.1,p.2]:=by
 unfold yM;apply Ej;intro i;by_cases h:i<s.length;.obtain⟨p,a⟩:∃p,s[i]?=J p:=⟨_,dC h⟩;rw[jZ,Kf h,jZ,a];show J (DV.agg _)=J _;congr 2;apply Ej;intro j;match j with|0=>grind[Z1]|1=>simp_all[Z1]|j+2=>grind
 grind
theorem aJt(n:Nat):(mr n (DV.agg [.nl,.nl])).flatMap DV.flat=iB (mr n (.nl,.nl)):=by induction n with|zero=>rfl|succ n i=>rw[List.replicate_succ,List.replicate_succ,Hh,i];rfl
theorem aAY{f n:Nat}{s:db}{l:ew}{d:ah Tmp}{i:Nat}{c:ao}{o:List (Nat×aN)}(h:bN P t=J C)(a:c[I]?=J .nl):sj P t .take ⟨f,n,s,l,g⟩ d i I (.box ⟨c,o⟩)=aG ⟨f,n,s,l,g.set i (.box ⟨c,o⟩)⟩ d (.dv .nl .any):=by
 have e:eB ⟨c,o⟩ I=.any:=by grind[eB]
 rw[EV];unfold fI;rw[h];rw[a,e];rfl
theorem aBF{l:List (Nat×aN)}{n:Nat}(h:j<I\/I+n<=j):look (dg l I n) j=look l j:=by induction l<;>grind[dg,HN,DB]
theorem V4{l:List (Nat×aN)}{n:Nat}{x:aN}(h:(j,x)∈l)(a:I+n<=j):(j,x)∈dg l I n:=by refine bl.2 ⟨h,?_⟩;simp_all
def sQ(l:List aC):DV:=bK V (l.map aC.d) 114 8
def Np(M:DV)(n i:Nat)(s:List (DV×DV)×List (Nat×aN)):Prop:=s.1.length=n/\(2*n,aN.full 76)∈s.2/\∀j,j<n->s.1[j]?=J (if j<i then M else .nl,.nl)
def Gq(M:DV)(n:Nat)(p:Nat->List aC)(s:List (DV×DV)×List (Nat×aN)):Prop:=s.1.length=n/\(2*n,aN.full 76)∈s.2/\∀j,j<n->s.1[j]?=J (M,sQ (p j))/\(p j≠[]->look s.2 (j*2+1)=J (.ex 114))
def prt(o:bq)(w i j:Nat):List aC:=(o.keys.l.take i).filter λx=>decide (x.key.rB w=j)
def NG(o:bq)(w:Nat)(i:Nat)(s:List (DV×DV)×List (Nat×aN)):St:=⟨28,51,[(14,iS i),(2,.lp 2 0),(5,.dv (.cY 0 0 w 76 2) .no),(1,iS w),(13,iS w)],[(2,⟨[bW o.marks,jr o.keys],[]⟩)],⟨1,[(0,.box ⟨iB s.1,s.2⟩)]⟩⟩
def NF(o:bq)(w:Nat)(i:Nat)(s:List (DV×DV)×List (Nat×aN)):St:=⟨28,51,[(28,iS i),(5,.dv (.cY 0 0 w 76 2) .no),(1,iS w),(26,.dv (jr o.keys) .no),(27,iS o.keys.l.length)],[],⟨1,[(0,.box ⟨iB s.1,s.2⟩)]⟩⟩
theorem Np.st{M:DV}{n i:Nat}(h:Np M n i (ps,ow))(d:i<n)(l:List (Nat×aN)):Np M n (i+1) (ps.set i (M,.nl),l++dg ow (i*2) 1):=by obtain⟨b,a,c⟩:=h;refine⟨ai,Sz _ (V4 a ab),λj e=>?_⟩;grind
theorem aBD{k:Nat}(h:k≠j):look (dg ow (j*2+1) 1) (k*2+1)=look ow (k*2+1):=by grind[aBF]
theorem Gq.st{M:DV}{n:Nat}{p:Nat->List aC}{m:List (Nat×aN)}(h:Gq M n p (ps,ow))(i:j<n)(x:aC)(a:Nat->List aC)(c:∀k,a k=if k=j then p j++[x]else p k)(o:m=ow\/m=dg ow (j*2+1) 1):Gq M n a (ps.set j (M,.ay ((p j++[x]).map aC.d) 114 8),(j*2+1,.ex 114)::dg m (j*2+1) 1):=by
 obtain⟨b,f,g⟩:=h;have b:ps.length=n:=b;have d:(2*n,aN.full 76)∈m:=by grind[V4]
 refine⟨ai,jy _ (V4 d ab),λk l=>?_⟩;rw[c k,List.getElem?_set];by_cases e:j=k;.subst e;rw[if_pos rfl,if_pos ab,if_pos rfl];exact⟨by unfold sQ;rw[qJ];cases(p j).map _<;>rfl,λ_=>by simp[DB]⟩
 grind[DB,aBD]
theorem vF{o:bq}{w i k:Nat}(a:o.keys.l[i]?=J x)(h:x.key.rB w=du j):prt o w (i+1) k=if k=j then prt o w i j++[x]else prt o w i k:=by grind[prt,Kh]
theorem aD9(o:bq)(w:Nat)(T:1<=w/\w<=8)(R:o.marks.l.length<1100000)(hk:o.keys.l.length<1100000)(hx:∀x∈o.keys.l,x.e.cp/\sI x.key.k x.key.n x.key.s=0/\x.key.s.length<1050000):cV (λr=>∃g,r=.val (.dv (.ay ((qm w).map λj=>bq.d ⟨o.marks,⟨V,prt o w o.keys.l.length j⟩⟩) 76 2) .no) g) (ev PP cf (.call 28 [o.d,.int .i64 (.ofNat w)] .no .empty)):=by
 obtain⟨om,yu,e1⟩:=TD o.marks R;have d11:=apC;simp only[bp,opsOf,f28,go_sem]at d11;simp only[bW]at e1;refine Jw (q:=λr=>∃ps ow,Gq (bW o.marks) w (prt o w o.keys.l.length) (ps,ow)/\r=.val (.dv (.cY 0 0 w 76 2) .no) ⟨1,[(0,.box ⟨iB ps,ow⟩)]⟩) func28 rfl rfl rfl rfl rfl ?_ ?_
 . rintro r⟨ps,ow,⟨b,A,m⟩,rfl⟩;have b:ps.length=w:=b;have R:(ps.map λp=>DV.agg [p.1,p.2])=(qm w).map λj=>bq.d ⟨o.marks,⟨V,prt o w o.keys.l.length j⟩⟩:=by
     apply Ej;intro j;rw[jZ,jZ];by_cases n:j<w;.have:=(m j n).1;rw[show ps[j]?=_ from this,Kf n];rfl
     .rw[ce ab,ce (by simp;omega)];rfl
   have a1:bz (0+w*2) (iB ps).length=V:=nB (by rw[Ns];omega);have a2:ow.any (λx=>isFull 76 x.2)=V:=List.any_eq_true.2 ⟨_,A,rfl⟩;have U:=aJs ps ow;rw[b,R]at U;refine⟨.val (.dv (.ay ((qm w).map λj=>bq.d ⟨o.marks,⟨V,prt o w o.keys.l.length j⟩⟩) 76 2) .no) ⟨1,[]⟩,?_,_,rfl⟩;show(bif bz (0+w*2) (iB ps).length&&bz 1 2&&(V||aw 2 1)&&ow.any (λx=>isFull 76 x.2)then J (DV.ay (yM ⟨iB ps,ow⟩ 0 w 2 V) 76 2)else Z).map _=_;rw[a1,a2,U];rfl
 . have D:(w*48<=bm)=True:=il (by simp only[bm];omega);have H:(w<=bm)=True:=il (by simp only[bm];omega);simp only[go_sem,f28,bq.d,bq.cells,bW,jr,aJt,Ns,xJ,D,H];refine oF (mr w ()) (mr w (.nl,.nl),[(2*w,.full 76)]) (NG o w) (λi _ s=>Np (bW o.marks) w i s) (by rw[xJ];omega) rfl ⟨aP,aP,λj n=>by rw[if_neg (Hs _),List.getElem?_replicate,if_pos n]⟩ (λs I=>?_) (λi x l s K hx T I c=>?_)
   . obtain⟨ps,ow⟩:=s;simp only[NG,go_sem,xJ,jr];obtain⟨b,A,m⟩:=I;rw[xJ]at m;refine oF o.keys.l (ps,ow) (NF o w) (λi _ s=>Gq (bW o.marks) w (prt o w i) s) ab rfl ⟨b,A,λj n=>⟨by rw[m j n,if_pos n];rfl,λh=>absurd rfl h⟩⟩ (λs I=>?_) (λi x l s K O ld I c=>?_);.simp only[NF,go_sem,bw];exact⟨_,_,I,rfl⟩
     .obtain⟨ps,ow⟩:=s;obtain⟨b,A,m⟩:=I;have b:ps.length=w:=b;obtain⟨Q,Y,X⟩:=hx x (dw O);have e2:=Dj x.key w Y X ab;obtain⟨g3,e3⟩:=Df x Q;obtain⟨q1,q2⟩:=m6 x.key w (UD x.key Y X).1 ab;obtain⟨j,n⟩:∃j:Nat,x.key.rB w=du j:=⟨(x.key.rB w).toNat,(Int.toNat_of_nonneg q1).symm⟩;rw[n]at e2 q2;have G:j<w:=Int.ofNat_lt.1 q2;have F:(j<w)=True:=il G;obtain⟨u,S⟩:=m j G;have u:ps[j]?=J (bW o.marks,sQ (prt o w i j)):=u;have z:=(Z1 u).2;have kA:=Ns ps;have D:(j*2+1+1<=(iB ps).length)=True:=il ab;simp only[cH.d,cH.cells]at e2;simp only[aC.d,aC.cells]at e3;simp only[NF,go_sem,jr]at c;have e2:CC 42 [.agg [.int .i64 x.key.k,.int .i64 x.key.n,.str x.key.s],.int .i64 (.ofNat w)] (vI (.ofNat j)):=e2;cases P:prt o w i j with|nil=>rw[P]at z u;have z:(iB ps)[j*2+1]?=J .nl:=z;simp only[NF,go_sem,K,O,aC.d,aC.cells,jr,e2,d11,e3,F,aAY,z,D];have B:∀d,(iB ps).take (j*2+1)++d::(iB ps).drop (j*2+1+1)=iB (ps.set j (bW o.marks,d)):=λd=>(RE u).2;have hr:=Gq.st ⟨b,A,m⟩ G x (prt o w (i+1)) (λk=>vF O n) (.inl rfl);rw[P]at hr;have c:=c (_,_) hr;simp only[jO,gb,eM,aC.d,aC.cells]at c;simp only[B,ld];exact c|cons y t=>
     have S:=S (by rw[P];simp);have hr:=Gq.st ⟨b,A,m⟩ G x (prt o w (i+1)) (λk=>vF O n) (.inr rfl);have cW:(prt o w i j).length<=o.keys.l.length:=gj (List.length_filter_le _ _) (by rw[sL];omega);rw[P]at z u hr cW;have z:(iB ps)[j*2+1]?=J (.ay ((y::t).map aC.d) 114 8):=z;have W:fE 114 8 120 (.ay ((y::t).map aC.d) 114 8) (.ex 114) [x.d]=J (.ay ((y::t).map aC.d++[x.d]) 114 8,.ex 114):=qO ft (by rw[fO];simp[bm]at*;omega) (by rw[fO];simp[bm]at*;omega);have s0:∀d,(iB ps).take (j*2+1)++d::(iB ps).drop (j*2+1+1)=iB (ps.set j (bW o.marks,d)):=λd=>(RE u).2;have P1:(ps.set j (bW o.marks,DV.jk))[j]?=J (bW o.marks,.jk):=by rw[List.getElem?_set,if_pos rfl,if_pos ab]
     have B:∀d,(iB (ps.set j (bW o.marks,DV.jk))).take (j*2+1)++d::(iB (ps.set j (bW o.marks,DV.jk))).drop (j*2+1+1)=iB (ps.set j (bW o.marks,d)):=λd=>by have:=(RE (v:=d) P1).2;rw[List.set_set]at this;exact this
     have H:(j*2+1+1<=(iB (ps.set j (bW o.marks,DV.jk))).length)=True:=il (by rw[Ns,List.length_set];omega);have lb:fI PP .take 74 ⟨iB ps,ow⟩ (j*2+1)=J (.dv (.ay ((y::t).map aC.d) 114 8) (.ex 114),⟨iB (ps.set j (bW o.marks,DV.jk)),dg ow (j*2+1) 1⟩):=by
      have e:eB ⟨iB ps,ow⟩ (j*2+1)=.ex 114:=by unfold eB;rw[z];show(look ow _).getD .no=_;rw[show look ow (j*2+1)=_ from S];rfl
      unfold fI;rw[show bN PP 74=J C by rfl];show((iB ps)[j*2+1]?).map _=_;rw[z,e,<-s0 .jk];rfl
     have c:=c (_,_) hr;rw[qJ,gb (f:=aC.d) (a:=x),eM]at c;generalize(y::t).map aC.d=L at*;simp only[aC.d,aC.cells,bW]at c W B H lb;simp only[NF,go_sem,K,O,aC.d,aC.cells,jr,e2,d11,e3,F,lb,B,H,W,ld];exact c
   . obtain⟨ps,ow⟩:=s;obtain⟨b,A,m⟩:=I;have N:i<w:=by have:=nr K;rwa[xJ]at this
     have u:=m i N;rw[if_neg (Nat.lt_irrefl _)]at u;have E:(i<w)=True:=il N;simp only[NG,go_sem,bW,jr]at c;have kA:=Ns ps;have b:ps.length=w:=b;have D:(i*2+1<=(iB ps).length)=True:=il ab;have B:(iB ps).take (i*2)++bK o.marks.nl (o.marks.l.map iD) 3 1::(iB ps).drop (i*2+1)=iB (ps.set i (bK o.marks.nl (o.marks.l.map iD) 3 1,.nl)):=(RE u).1;have hr:=Np.st (M:=bW o.marks) ⟨b,A,m⟩ N;simp only[bW]at hr;rcases yu with rfl|⟨_,rfl⟩;.simp only[NG,go_sem,bW,jr,E,e1,vq,D,B,T];exact c (_,_) (hr [(i*2,.ex 3)])
     .simp only[NG,go_sem,bW,jr,E,e1,vq,D,B,T];exact c (_,_) (hr [])
structure CE{α:Type}(c:α->α->Int):Prop where
 neg:∀a b,c a b=-c b a
 tr:∀a b d,c a b<0->c b d<0->c a d<0
 KL:∀a b d,c a b=0->c a d=c b d
theorem OM(a b:Int):iE a b=if a<b then-1 else if b<a then 1 else 0:=by
 simp only[iE,fX];by_cases h:a<b;.simp[h]
 .by_cases k:b<a<;>simp[h,k]
theorem Tu(f:α->Int):CE λa b=>iE (f a) (f b):=⟨λa b=>by simp only[OM];grind,λa b d=>by simp only[OM];grind,λa b d=>by simp only[OM];grind⟩
theorem Bp{x y:Nat}{a b:aE}:cmpL (x::a) (y::b)=if x<y then-1 else if y<x then 1 else cmpL a b:=by
 show(bif cw x y then(-1:Int)else bif cw y x then 1 else cmpL a b)=_;rw[eP,eP];by_cases h:x<y;.simp[h]
 .by_cases k:y<x<;>simp[h,k]
def aou:cmpL [] []=0:=rfl
def Tw{y:Nat}{b:aE}:cmpL [] (y::b)=-1:=rfl
def KG{x:Nat}{a:aE}:cmpL (x::a) []=1:=rfl
theorem Tx:CE cmpL:=by
 refine⟨?_,?_,?_⟩;.intro a;induction a with|nil=>intro b;cases b<;>rfl|cons x a i=>intro b;cases b with|nil=>rfl|cons y b=>rw[Bp,Bp,i b];grind
 .intro a;induction a with
 |nil=>intro b d;cases d with|nil=>cases b<;>simp[aou,Tw,KG]|cons z d=>simp[Tw]
 |cons x a i=>intro b d;cases b with|nil=>simp[KG]|cons y b=>cases d with|nil=>simp[KG]|cons z d=>rw[Bp,Bp,Bp];have:=i b d;grind
 .intro a;induction a with|nil=>intro b d;cases b<;>simp[Tw]|cons x a i=>intro b d;cases b with|nil=>simp[KG]|cons y b=>cases d with|nil=>simp[KG]|cons z d=>rw[Bp,Bp,Bp];have:=i b d;grind
def aov(f:α->aE):CE λa b=>cmpL (f a) (f b):=⟨λa b=>Tx.neg _ _,λa b d=>Tx.tr _ _ _,λa b d=>Tx.KL _ _ _⟩
theorem VP{f g:α->α->Int}(c:CE f)(i:CE g):CE λa b=>bif aj (f a b) 0 then g a b else f a b:=by
 have e:(λa b=>bif aj (f a b) 0 then g a b else f a b)=λa b=>if f a b=0 then g a b else f a b:=by funext a b;rw[jl];by_cases h:f a b=0<;>simp[h]
 rw[e];refine⟨λa b=>?_,λa b d=>?_,λa b d=>?_⟩;.have x:=c.neg a b;have y:=i.neg a b;grind
 .have x:=c.neg a b;have y:=c.neg a d;have z:=c.tr a b d;have u:=c.KL a b d;have v:=c.KL b d a;have w:=i.tr a b d;have t:=c.neg b d;have s:=c.neg d a;grind
 .have u:=c.KL a b d;have w:=i.KL a b d;grind
def alq(f:α->cH):CE λa b=>(f a).cmp (f b):=VP (Tu λa=>(f a).k) (VP (Tu λa=>(f a).n) (aov λa=>(f a).s))
def Hf:CE aC.cmp:=VP (Tu λa:aC=>a.q) (alq λa:aC=>a.key)
def qn:List aC->Prop:=List.Pairwise λa b=>a.cmp b<0
def nk:Nat->List aC->List aC->List aC|0,a,b=>a++b|_+1,[],b=>b|_+1,a,[]=>a|n+1,x::a,y::b=>bif aA 0 (x.cmp y)then y::nk n (x::a) b else x::nk n a (y::b)
def MC{b:List aC}:∀{n:Nat},nk n [] b=b|0=>rfl|_+1=>rfl
theorem QS{a:List aC}:∀{n:Nat},nk n a []=a|0=>jY a|_+1=>by cases a<;>rfl
theorem Jd:∀(n:Nat)(a b:List aC)(z:aC),z∈nk n a b↔z∈a\/z∈b|0,a,b,z=>CH|_+1,[],b,z=>by rw[MC];simp|_+1,x::a,[],z=>by rw[QS];simp|n+1,x::a,y::b,z=>by show z∈(bif aA 0 (x.cmp y)then y::nk n (x::a) b else x::nk n a (y::b))↔_;cases aA 0 (x.cmp y)with|true=>rw[aR,CI,Jd n];grind|false=>rw[ch,CI,Jd n];grind
theorem V7:∀(n:Nat)(a b:List aC),(nk n a b).length=a.length+b.length|0,a,b=>gR|_+1,[],b=>by rw[MC];simp|_+1,x::a,[]=>by rw[QS];simp|n+1,x::a,y::b=>by show(bif aA 0 (x.cmp y)then y::nk n (x::a) b else x::nk n a (y::b)).length=_;cases aA 0 (x.cmp y)with|true=>rw[aR,dD,V7 n];simp only[dD];omega|false=>rw[ch,dD,V7 n];simp only[dD];omega
theorem V6:∀(n:Nat)(a b:List aC),a.length+b.length<=n->qn a->qn b->(∀x∈a,∀y∈b,x.cmp y≠0)->qn (nk n a b)|0,[],[],_,_,_,_=>List.Pairwise.nil|0,_::_,_,d,_,_,_=>absurd d aP|0,[],_::_,d,_,_,_=>absurd d aP|_+1,[],b,_,_,g,_=>by rw[MC];exact g|_+1,x::a,[],_,f,_,_=>by rw[QS];exact f|n+1,x::a,y::b,d,f,g,hd=>by simp only[dD]at d;obtain⟨k,m⟩:=be.1 f;obtain⟨l,o⟩:=be.1 g;have p:=hd x fU y fU;have P:=Hf.neg y x;show qn (bif aA 0 (x.cmp y)then y::nk n (x::a) b else x::nk n a (y::b));cases h:aA 0 (x.cmp y)with
 |true=>
 rw[fX]at h;have h:=ue h;rw[aR];refine be.2 ⟨λz c=>?_,V6 n (x::a) b (by simp only[dD];omega) f o λu i v j=>hd u i v (jy _ j)⟩;have e:y.cmp x<0:=ab;rcases(Jd n _ _ z).1 c with c|c
 . rcases CI.1 c with rfl|c;.exact e
   .exact Hf.tr _ _ _ e (k z c)
 .exact l z c|false=>
 rw[fX]at h;have h:=Wu h;rw[ch];refine be.2 ⟨λz c=>?_,V6 n a (y::b) (by simp only[dD];omega) m g λu i v j=>hd u (jy _ i) v j⟩;have r:x.cmp y<0:=ab;rcases(Jd n _ _ z).1 c with c|c;.exact k z c
 . rcases CI.1 c with rfl|c;.exact r
   .exact Hf.tr _ _ _ r (l z c)
def vX:List (List aC)->List aC->List aC|[],o=>o|k::l,o=>vX l (nk (o.length+k.length) o k)
theorem aht:∀(l:List (List aC))(o:List aC)(z:aC),z∈vX l o↔z∈o\/∃k∈l,z∈k|[],o,z=>by simp[vX]|k::l,o,z=>by rw[vX,aht l,Jd];grind
theorem ahs:∀(l:List (List aC))(o:List aC),qn o->(∀k∈l,qn k)->(∀k∈l,∀x∈o,∀y∈k,x.cmp y≠0)->l.Pairwise (λa b=>∀x∈a,∀y∈b,x.cmp y≠0)->qn (vX l o)
 |[],o,h,_,_,_=>h|k::l,o,h,e,hd,p=>by
  obtain⟨g,i⟩:=be.1 p;rw[vX];refine ahs l _ (V6 _ _ _ (bT _) h (e k fU) (hd k fU)) (λq d=>e q (jy _ d)) (λq d x c y f=>?_) i;rcases(Jd _ _ _ x).1 c with c|c;.exact hd q (jy _ d) x c y f
  .exact g q d x c y f
theorem ahu(k:List aC):∀(l:List (List aC))(o:List aC),vX (l++[k]) o=nk ((vX l o).length+k.length) (vX l o) k|[],_=>rfl|q::l,o=>ahu k l _
theorem V8:∀(l:List (List aC))(o:List aC)(n:Nat),(∀k∈l,k.length<=n)->(vX l o).length<=o.length+l.length*n|[],o,n,_=>by simp[vX]|k::l,o,n,h=>by have a:=V8 l (nk (o.length+k.length) o k) n λq b=>h q (jy _ b);have c:=h k fU;rw[V7]at a;rw[vX,dD,Nat.succ_mul];omega
theorem aot{b:Int}(h:iE a b=0):a=b:=by grind[OM]
theorem OT:∀{a b:aE},cmpL a b=0->a=b|[],[],_=>rfl|[],_::_,h=>by cases h|_::_,[],h=>by cases h|x::a,y::b,h=>by rw[Bp]at h;have:=@OT a b;grind
theorem aow{y:aC}(h:x.cmp y=0):x.key=y.key:=by obtain⟨q,⟨k,n,s⟩,e⟩:=x;obtain⟨d,⟨b,c,f⟩,a⟩:=y;grind[aC.cmp,cH.cmp,jl,aot,OT]
theorem Cc(a b:aC):CC 56 [a.d,b.d] (vI (a.cmp b)):=by
 have c:=aib a.key b.key;have h:=FY [iE a.q b.q,a.key.cmp b.key] C ai;simp only[zM,gb,eM]at h;have hd:=ap7;simp only[bp,opsOf,f56,go_sem]at hd;simp only[cH.d,cH.cells]at c;have e:Ax [iE a.q b.q,a.key.cmp b.key]=a.cmp b:=by grind[Ax,aC.cmp,tJ]
 rw[e]at h;refine aO func56 ?_;simp only[go_sem,f56,aC.d,aC.cells,hd,Au,c,h]
structure SD where
 out:List aC
 na:Bool
 a:List aC
 nb:Bool
 b:List aC
theorem aEQ(T U:Bool)(a j:List aC)(g:GH)(h:a.length+j.length<1100000):ev PP cf (.call 55 [bK T (a.map aC.d) 114 8,bK U (j.map aC.d) 114 8,.func 56 [] []] .no g)=J (.val (gh ((nk (a.length+j.length) a j).map aC.d) 114 8) g):=by
 have d3:=ap4;have d4:=ap5;have d5:=ap6;simp only[bp,opsOf,f55,go_sem]at d3 d4 d5;refine aO func55 ?_;simp only[go_sem,f55];have v:∀n:Nat,(0<n+1)=True:=λn=>il (Nat.succ_pos n);have q:∀n:Nat,aA 0 (.ofNat (n+1))=V:=λn=>by rw[fX,jB];exact Int.ofNat_lt.2 (Nat.succ_pos n)
 have cY:∀(x:DV)(l:ao),oM PP 74 (.ay (x::l) 114 8) (J (.int .i64 1)) Z Z=J (.ay l 114 8,.no):=λx l=>by unfold oM;simp only[Proofs.Tryz.underlying74,show aW PP 114=J 8 from by rfl,cU];have:bz 1 (x::l).length=V:=nB aP;show(Option.map (λG=>(DV.ay (List.drop G (List.take (x::l).length (x::l))) 114 8,aN.no)) (bif bz 1 (x::l).length then J 1 else Z))=_;rw[this,A8];rfl
 have H:∀(l w:List aC),l.length+w.length<1100000->fE 114 8 120 (.ay (l.map aC.d) 114 8) (.ex 114) (w.map aC.d)=J (.ay (l.map aC.d++w.map aC.d) 114 8,.ex 114):=λl w O=>qO ft (by simp[bm];omega) (by simp[bm];omega);have D:∀l:List aC,(l.map aC.d).all (λy=>decide (y.flat.length=8))=V:=λl=>by simp[aC.pQ,aC.pO]
 have K:fE 114 8 120 .nl .any []=J (.nl,.any):=rfl;have S:∀(y:aC)(l:List aC),l.length<1100000->fE 114 8 120 .nl .any ((y::l).map aC.d)=J (.ay ((y::l).map aC.d) 114 8,.ex 114):=λy l O=>by have q1:bz (((y::l).map aC.d).length*120) bm=V:=nB (by simp[bm];omega);have q2:bz ((y::l).map aC.d).length bm=V:=nB (by simp[bm];omega);show(bif bz (((y::l).map aC.d).length*120) bm&&bz ((y::l).map aC.d).length bm then _ else Z)=_;rw[q1,q2];rfl
 have x0:∀L:ao,L.length<1100000->fE 114 8 120 (.ay L 114 8) (.ex 114) []=J (.ay L 114 8,.ex 114):=λL O=>by have:=qO (e:=114) (n:=8) (b:=120) (l:=L) (new:=[]) ft (by simp[bm];omega) (by simp[bm];omega);rwa[jY]at this
 refine QK (mr (a.length+j.length) ()) (⟨[],T,a,U,j⟩:SD) (λi s=>⟨55,46,[(0,.dv (bK s.na (s.a.map aC.d) 114 8) .no),(7,gh (s.out.map aC.d) 114 8),(1,.dv (bK s.nb (s.b.map aC.d) 114 8) .no),(2,.dv (.func 56 [] []) .no)],[],g⟩) (λi _ s=>.val (gh ((s.out++nk (a.length+j.length-i) s.a s.b).map aC.d) 114 8) g) (λi _ s=>i+s.a.length+s.b.length=a.length+j.length/\s.out.length=i) (by rw[xJ];omega) rfl ⟨aP,rfl⟩ rfl (λs I=>?_) (λi x l s N hx hw I P=>?_);.obtain⟨out,B,d,Q,c⟩:=s;obtain⟨f,p⟩:=I;simp only[xJ]at f p;obtain rfl:d=[]:=bf.1 ab;obtain rfl:c=[]:=bf.1 ab;rw[xJ];have e2:∀n,nk n ([]:List aC) []=[]:=λn=>MC;cases out with|nil=>simp only[go_sem,eM,zy,e2,jY,gL,K]|cons z out=>have A:gh ((z::out).map aC.d) 114 8=.dv (.ay ((z::out).map aC.d) 114 8) (.ex 114):=rfl;have sa:=x0 ((z::out).map aC.d) (by rw[fO];omega);rw[e2,jY,A];generalize(z::out).map aC.d=L at*;simp only[go_sem,eM,gL,nY,sa]
 .obtain⟨out,B,d,Q,c⟩:=s;obtain⟨f,p⟩:=I;simp only at f p;rw[xJ]at N;have gN:=nr N;obtain⟨n,u⟩:∃n,a.length+j.length-i=n+1:=⟨a.length+j.length-i-1,ab⟩;have uP:a.length+j.length-(i+1)=n:=ab;cases d with
 |nil=>rw[u,MC];cases c with
  |nil=>cases out with|nil=>simp only[go_sem,eM,zy,jY,gL,K]|cons z out=>have A:gh ((z::out).map aC.d) 114 8=.dv (.ay ((z::out).map aC.d) 114 8) (.ex 114):=rfl;have sa:=x0 ((z::out).map aC.d) (by rw[fO];omega);rw[jY,A];generalize(z::out).map aC.d=L at*;simp only[go_sem,eM,gL,nY,sa]
  |cons y c=>cases out with|nil=>have A:gh (([]++y::c).map aC.d) 114 8=.dv (.ay ((y::c).map aC.d) 114 8) (.ex 114):=rfl;have o:=S y c (by simp at f;omega);have r:=D (y::c);rw[A];have E:bK Q ((y::c).map aC.d) 114 8=.ay ((y::c).map aC.d) 114 8:=rfl;rw[E];generalize(y::c).map aC.d=L at*;simp only[go_sem,eM,zy,gL,nY,K,o,r]|cons z out=>
  have A:gh ((z::out).map aC.d) 114 8=.dv (.ay ((z::out).map aC.d) 114 8) (.ex 114):=rfl;have F:gh (((z::out)++y::c).map aC.d) 114 8=.dv (.ay ((z::out).map aC.d++(y::c).map aC.d) 114 8) (.ex 114):=by rw[qJ];rfl
  have sa:=x0 ((z::out).map aC.d) (by rw[fO];omega);have o:=H (z::out) (y::c) (by simp at f p|-;omega);have r:=D (y::c);have E:bK Q ((y::c).map aC.d) 114 8=.ay ((y::c).map aC.d) 114 8:=rfl;rw[A,F,E];generalize(y::c).map aC.d=R at*;generalize(z::out).map aC.d=L at*;simp only[go_sem,eM,gL,nY,sa,o,r]
 |cons x d=>cases c with
  |nil=>rw[u,QS];have r:=D (x::d);have E:bK B ((x::d).map aC.d) 114 8=.ay ((x::d).map aC.d) 114 8:=rfl;have M:((x::d).map aC.d).length=d.length+1:=aP;cases out with|nil=>have A:gh (([]++x::d).map aC.d) 114 8=.dv (.ay ((x::d).map aC.d) 114 8) (.ex 114):=rfl;have o:=S x d (by simp at f;omega);have sa:=x0 ((x::d).map aC.d) (by simp at f|-;omega);rw[A,E];generalize(x::d).map aC.d=R at*;simp only[go_sem,eM,zy,M];refine GB (q _) ?_;simp only[go_sem,q,gL,nY,sa,o,r]|cons z out=>
  have A:gh ((z::out).map aC.d) 114 8=.dv (.ay ((z::out).map aC.d) 114 8) (.ex 114):=rfl;have F:gh (((z::out)++x::d).map aC.d) 114 8=.dv (.ay ((z::out).map aC.d++(x::d).map aC.d) 114 8) (.ex 114):=by rw[qJ];rfl
  have o:=H (z::out) (x::d) (by simp at f p|-;omega);have sa:=x0 ((z::out).map aC.d++(x::d).map aC.d) (by simp at f p|-;omega);rw[A,F,E];generalize(x::d).map aC.d=R at*;generalize(z::out).map aC.d=L at*;simp only[go_sem,eM,M];refine GB (q _) ?_;simp only[go_sem,q,gL,nY,sa,o,r]
  |cons y c=>have e1:=Cc x y;have e2:nk (n+1) (x::d) (y::c)=bif aA 0 (x.cmp y)then y::nk n (x::d) c else x::nk n d (y::c):=rfl;have sa:=H out [x] (by simp at f|-;omega);have o:=H out [y] (by simp at f|-;omega);simp only[aC.d,aC.cells]at e1;have X:i+1+d.length+(y::c).length=a.length+j.length/\(out++[x]).length=i+1:=⟨by simp only[dD]at f|-;omega,by rw[gR,p];rfl⟩;have Y:i+1+(x::d).length+c.length=a.length+j.length/\(out++[y]).length=i+1:=⟨by simp only[dD]at f|-;omega,by rw[gR,p];rfl⟩;have k:=P (SD.mk (out++[x]) C d Q (y::c)) X;have m:=P (SD.mk (out++[y]) B (x::d) C c) Y;simp only[uP,uu,lU,jO,gb,zM,OW,aC.d,aC.cells]at k m;rw[qJ,gb,eM,Oo]at k m;simp only[aC.d,aC.cells]at k m;cases out with
  |nil=>
  simp only[go_sem,eM,zy,gb,zM,dD,aC.d,aC.cells,u,e2,jO];refine GB (q _) ?_;simp only[go_sem,q,d3,e1];apply sp<;>intro h;.simp only[h,go_sem,d5,cY,v];exact m
  .simp only[h,go_sem,d4,cY,v];exact k|cons z out=>
  have A:gh ((z::out).map aC.d) 114 8=.dv (.ay ((z::out).map aC.d) 114 8) (.ex 114):=rfl;have sa:fE 114 8 120 (.ay ((z::out).map aC.d) 114 8) (.ex 114) [x.d]=J (.ay ((z::out).map aC.d++[x.d]) 114 8,.ex 114):=H (z::out) [x] (by simp only[dD,gL]at f p|-;omega);have o:fE 114 8 120 (.ay ((z::out).map aC.d) 114 8) (.ex 114) [y.d]=J (.ay ((z::out).map aC.d++[y.d]) 114 8,.ex 114):=H (z::out) [y] (by simp only[dD,gL]at f p|-;omega);have W:∀t,gh (((z::out)++t).map aC.d) 114 8=.dv (.ay ((z::out).map aC.d++t.map aC.d) 114 8) (.ex 114):=λt=>by rw[qJ];rfl
  simp only[A,W]at k m|-;generalize(z::out).map aC.d=L at*;simp only[aC.d,aC.cells]at sa o;simp only[go_sem,gb,zM,dD,aC.d,aC.cells,u,e2];refine GB (q _) ?_;simp only[go_sem,q,d3,e1];apply sp<;>intro h;.simp only[h,go_sem,d5,cY,v,o];exact m
  .simp only[h,go_sem,d4,cY,v,sa];exact k
def bq.dd(o:bq):o.d=.agg [bW o.marks,jr o.keys]:=rfl
def MR(l:List aC):List (Nat×aN):=match l with|[]=>[]|_=>[(1,.ex 114)]
def Qx(l:List bq)(M:DV)(i:Nat)(o:List aC):St:=⟨26,69,[(19,iS i),(4,.lp 4 0),(17,.dv (.ay (l.map bq.d) 76 2) .no),(2,.lp 2 0),(18,iS l.length)],[(4,⟨[M,sQ o],MR o⟩),(2,⟨[.nl,.nl],[]⟩)],.empty⟩
theorem SJ(b:List aC):gh (b.map aC.d) 114 8=.dv .nl .any/\sQ b=.nl/\MR b=[]\/∃L,gh (b.map aC.d) 114 8=.dv (.ay L 114 8) (.ex 114)/\sQ b=.ay L 114 8/\MR b=[(1,.ex 114)]/\cj L=V:=by
 rcases b with _|⟨a,b⟩;.exact .inl ⟨rfl,rfl,rfl⟩
 exact .inr ⟨_,rfl,rfl,rfl,WH (l:=a::b)⟩
def Mh(M:DV)(F:List aC)(i:Nat)(w:List (Nat×aN)):St:=⟨26,69,[(2,.lp 2 0),(10,iS (i+1)),(4,.lp 4 0)],[(2,⟨[.nl,.nl],[]⟩),(4,⟨[M,sQ F],w⟩)],.empty⟩
theorem aEg(a:bq)(l:List bq)(e:l[0]?=J a)(f:Nat->List aC)(hn:l.length<1000)(hm:a.marks.l.length<1100000)(X:f 0=[])(u:∀i op,l[i]?=J op->nk ((f i).length+op.keys.l.length) (f i) op.keys.l=f (i+1)/\(f i).length+op.keys.l.length<1100000)(hx:∀op∈l,∀x∈op.keys.l,x.e.cp)(ha:qn (f l.length))(hl:(f l.length).length<9000000):cV (λr=>∃g,r=.val (.tp [(bif aA 256 (.ofNat (f l.length).length)then .agg [.nl,.nl]else .agg [bW a.marks,sQ (f l.length)],.no),iO (bif aA 256 (.ofNat (f l.length).length)then 5 else 0)]) g) (ev PP cf (.call 26 [.ay (l.map bq.d) 76 2] .no .empty)):=by obtain⟨om,yu,e1⟩:=TD a.marks hm;have d16:=apH;simp only[bp,opsOf,f26,go_sem]at d16;simp only[bW]at e1;have hz:(0<l.length)=True:=il (am.1 e).1;refine fM func26 ?_;rcases yu with rfl|⟨_,rfl⟩;all_goals
 simp only[go_sem,f26,bq.d,bq.cells,bW,jr,e,e1];refine oF l () (λi _=>Qx l (bW a.marks) i (f i)) (λ_ _ _=>True) ab (by rw[X];rfl) trivial (λ_ _=>?_) (λi x l _ m O S _ b=>?_);.simp only[Qx,go_sem,bW];generalize f l.length=F at*;cases F with|nil=>simp only[show sQ []=.nl from rfl,show MR []=[]from rfl];refine Nj ?_;simp only[go_sem];refine D0 rfl ?_;simp only[go_sem];refine D0 rfl ?_;simp only[go_sem,bw];exact⟨_,rfl⟩|cons c s=>
   have k:sQ (c::s)=.ay ((c::s).map aC.d) 114 8:=rfl;have d:(c::s).length=s.length+1:=rfl;have hO:MR (c::s)=[(1,.ex 114)]:=rfl;generalize c::s=D at*;refine oF (mr s.length ()) [(1,.ex 114)] (Mh (bW a.marks) D) (λ_ _ w=>w=[(1,.ex 114)]\/w=[(1,.ty 114)]) (by rw[xJ];omega) (by rw[hO];rfl) (.inl rfl) (λw I=>?_) (λi x l w m O S I b=>?_);.rw[xJ];cases K:aA 256 (.ofNat D.length)with|false=>rcases I with rfl|rfl;all_goals simp only[Mh,go_sem,bW,k,<-d];refine D0 K ?_;simp only[go_sem,bw];exact⟨_,rfl⟩|true=>rcases I with rfl|rfl;all_goals simp only[Mh,go_sem,bW,k,<-d];refine RS K ?_;simp only[go_sem,bw];exact⟨_,rfl⟩
   . rw[xJ]at m;have gN:=nr m;obtain⟨p,Q⟩:∃p,D[i]?=J p:=⟨_,dC ab⟩;obtain⟨q,R⟩:∃q,D[i+1]?=J q:=⟨_,dC ab⟩;have e4:=Cc p q;have bZ:p.cmp q<0:=by obtain⟨_,e1⟩:=am.1 Q;obtain⟨_,e2⟩:=am.1 R;rw[<-e1,<-e2];exact List.pairwise_iff_getElem.1 ha i (i+1) _ _ (Hr i)
     have U:aj (p.cmp q) 0=C:=by rw[jl,C0];omega
     have rX:(i+1<D.length)=True:=il ab;have sb:=sub_succ i ab;have w2:dQ .i64 (jX (du (i+1)) 1)=du (i+1+1):=vn ab;simp only[aC.d,aC.cells]at e4;have b:=b [(1,.ty 114)] (.inr rfl);simp only[Mh,go_sem,bW,k]at b;rcases I with rfl|rfl;all_goals simp only[Mh,go_sem,bW,k,rX,Q,R,aC.d,aC.cells,d16,sb,e4,U,HN,w2];exact b
 . have b:=b () trivial;simp only[Qx,go_sem,bW]at b;simp only[Qx,go_sem,m,O,bW,jr,bq.d,bq.cells];rw[CS];obtain⟨A,W⟩:=u i x O;have e9:=aEQ V V (f i) x.keys.l .empty W;rw[A]at e9;have B:=hx x (dw O);refine Ja x.keys.l (λj=>[(26,iS j),(7,gh ((x.keys.l.take j).map aC.d) 114 8)]) (λ_=>True) ab rfl trivial (λ_=>?_) (λj y v n E _ h=>?_);.rw[A8];have hK:bK V (x.keys.l.map aC.d) 114 8=sQ x.keys.l:=rfl;have hF:bK V ((f i).map aC.d) 114 8=sQ (f i):=rfl;rw[hK,hF]at e9;rcases SJ (f i)with⟨_,o,G⟩|⟨L1,_,o,G,a3⟩<;>rcases SJ x.keys.l with⟨H,M,_⟩|⟨L2,H,M,_,b3⟩<;>rcases SJ (f (i+1))with⟨N,P,c3⟩|⟨L3,N,P,c3,_⟩;all_goals rw[o,M,N]at e9;rw[P,c3]at b;rw[o,G,H];simp only[go_sem,e9,S,HN];exact b
   .have h:=h trivial;have qx:=nr v;obtain⟨g4,e4⟩:=Df y (B y (dw n));rw[Kh,n,Option.toList_some,qJ,gb,eM,Oo]at h;simp only[go_sem]at h;simp only[aC.d,aC.cells]at e4;cases t:x.keys.l.take j with|nil=>rw[t]at h;simp only[go_sem,eM,zy,v,n,aC.d,aC.cells,e4,E];exact h|cons z zs=>
     have T:(z::zs).length<=x.keys.l.length:=by rw[<-t,sL];omega
     have sa:fE 114 8 120 (.ay ((z::zs).map aC.d) 114 8) (.ex 114) [y.d]=J (.ay ((z::zs).map aC.d++[y.d]) 114 8,.ex 114):=qO ft (by rw[fO];simp[bm]at*;omega) (by rw[fO];simp[bm]at*;omega);have Y:gh ((z::zs).map aC.d) 114 8=.dv (.ay ((z::zs).map aC.d) 114 8) (.ex 114):=rfl;rw[t]at h;rw[Y];generalize(z::zs).map aC.d=L at*;simp only[aC.d,aC.cells]at sa;simp only[go_sem,v,n,aC.d,aC.cells,e4,sa,E];exact h
theorem aD8(w:Int)(h:1<=w/\w<=8):CC 25 [iD w] (vI 0):=by
 have a:aA w 1=C:=by grind[fX]
 have b:aA 8 w=C:=by grind[fX]
 refine aO func25 ?_;simp only[go_sem,f25];rw[a,ch]<;>try show kn PP cf (ev PP cf) _=_<;>simp only[go_sem]
 refine JN b ?_;rfl
def WD(n:Bool)(l:List bq):DV:=bK n (l.map bq.d) 76 2
theorem aEb(n:Bool)(l:List bq):cV (λr=>∃b,r=vB b/\(b=V↔1<=l.length/\l.length<=8)) (ev PP cf (.call 14 [WD n l] .no .empty)):=by
 refine fM func14 ?_;simp only[go_sem,f14,WD];apply cX<;>intro h;.simp only[h,go_sem,bw];rw[fX,jB]at h;exact⟨_,rfl,⟨(λk=>by cases k),λk=>absurd h (Int.not_lt.2 (ci.2 k.1))⟩⟩
 .simp only[h,go_sem,bw];rw[fX,C0]at h;refine⟨_,rfl,?_⟩;rw[Ss,fX,C0];exact⟨λk=>⟨ci.1 (Int.not_lt.1 h),ci.1 (Int.not_lt.1 k)⟩,λk=>Int.not_lt.2 (ci.2 k.2)⟩
def jJ(o:bq)(w:Nat):List bq:=(qm w).map λj=>⟨o.marks,⟨V,prt o w o.keys.l.length j⟩⟩
theorem Fq{f:aC->Int}:∀(l:List aC)(p:aC),BV f (J p) l=0↔(∀x∈l,f x=0)/\qn (p::l)
 |[],p=>⟨λ_=>⟨λx h=>absurd h lV,List.pairwise_singleton _ _⟩,λ_=>rfl⟩|x::l,p=>by
  have i:=Fq (f:=f) l x;show(bif aj (f x) 0 then(bif !aA (p.cmp x) 0 then 14 else BV f (J x) l)else f x)=0↔_;rw[jl,fX];by_cases d:f x=0
  . by_cases e:p.cmp x<0
    . simp only[d,e,dX,aR,xC,ch];rw[i];refine⟨λ⟨a,b⟩=>⟨λy c=>?_,?_⟩,λ⟨a,b⟩=>⟨λy c=>a y (jy _ c),(be.1 b).2⟩⟩
      . rcases CI.1 c with rfl|c;.exact d
        .exact a y c
      . refine be.2 ⟨λy c=>?_,b⟩;rcases CI.1 c with rfl|c;.exact e
        .exact Hf.tr _ _ _ e ((be.1 b).1 y c)
    .simp only[d,e,dX,lC,aR,ze];refine⟨(λh=>by cases h),λ⟨_,b⟩=>absurd ((be.1 b).1 x fU) e⟩
  .simp only[d,lC,ch];exact⟨λh=>h.elim,λ⟨a,_⟩=>d (a x fU)⟩
theorem Fj{f:aC->Int}(l:List aC):BV f Z l=0↔(∀x∈l,f x=0)/\qn l:=by
 rcases l with _|⟨x,l⟩;.exact⟨λ_=>⟨λx h=>absurd h lV,List.Pairwise.nil⟩,λ_=>rfl⟩
 grind[Fq,BV,jl]
structure aa4(f:aC->Int)(o:bq):Prop where
 m:1<=o.marks.l.length/\o.marks.l.length<=8
 k:o.keys.l.length<=256
 f:∀x∈o.keys.l,f x=0
 a:qn o.keys.l
theorem Tm{f:aC->Int}{o:bq}(h:ji f o.marks o.keys=0):aa4 f o/\∀k:Sl aC,k.l.length<=256->(∀x∈k.l,f x=0)->qn k.l->ji f o.marks k=0:=by unfold ji at h;cases c:(bif aA (.ofNat o.marks.l.length) 1 then V else aA 8 (.ofNat o.marks.l.length))with|true=>grind|false=>cases d:o.marks.l.any Jc with|true=>grind|false=>cases e:aA 256 (.ofNat o.keys.l.length)with|true=>grind|false=>rw[c,d,e]at h;obtain⟨a,b⟩:=(Fj _).1 h;refine⟨⟨?_,?_,a,b⟩,λk k1 k2 k3=>?_⟩<;>grind[fX,ji,Fj]
theorem SX{q:aC->Bool}{l:List aC}(h:qn l):qn (l.filter q):=List.Pairwise.filter q h
theorem v6(o:bq)(w j:Nat):prt o w o.keys.l.length j=o.keys.l.filter λx:aC=>decide (x.key.rB (w:Int)=(j:Int)):=by simp[prt]
structure gS where
 a:Int
 b:Int
structure kb where
 n:Int
 bs:Sl Int
 ps:Sl gS
 m:Int
structure dA where
 src:Int
 ck:Int
 t:kb
structure dR where
 num:Int
 rs:Sl dA
 os:Sl bq
def gS.cells(p:gS):ao:=[iD p.a,iD p.b]
def gS.d(p:gS):DV:=.agg p.cells
def nu(s:Sl gS):DV:=bK s.nl (s.l.map gS.d) 104 2
def kb.cells(t:kb):ao:=[iD t.n,bW t.bs,nu t.ps,iD t.m]
def kb.d(t:kb):DV:=.agg t.cells
def dA.cells(r:dA):ao:=[iD r.src,iD r.ck,iD r.t.n,bW r.t.bs,nu r.t.ps,iD r.t.m]
def dA.d(r:dA):DV:=.agg r.cells
def mO(s:Sl dA):DV:=bK s.nl (s.l.map dA.d) 46 6
def mf(s:Sl bq):DV:=bK s.nl (s.l.map bq.d) 76 2
def dR.cells(s:dR):ao:=[iD s.num,mO s.rs,mf s.os]
def dR.d(s:dR):DV:=.agg s.cells
theorem wZ(s:Sl gS):(nu s).pure=V:=oI (ig (λ_=>rfl) _)
theorem dA.pure(e:dA):e.d.pure=V:=by simp[dA.d,dA.cells,DV.pure,cj,wZ,Me]
theorem gS.qD(x:gS):x.d.aV=C:=rfl
theorem gS.pQ(x:gS):x.d.flat=x.cells:=rfl
theorem gS.pO(x:gS):x.cells.length=2:=rfl
theorem dA.qD(x:dA):x.d.aV=C:=rfl
theorem dA.pQ(x:dA):x.d.flat=x.cells:=rfl
theorem dA.pO(x:dA):x.cells.length=6:=rfl
theorem WJ{l:List dA}:cj (l.map dA.d)=V:=ig dA.pure _
theorem aGE{l:List gS}:cj (l.map gS.d)=V:=ig (λ_=>rfl) _
attribute[go_sem]wZ gS.qD gS.pQ gS.pO dA.qD dA.pQ dA.pO WJ aGE
theorem aMw(p:gS):cV BT (ev PP cf (.call 178 [p.d] .no .empty)):=by refine fM func178 ?_;simp only[go_sem,f178,gS.d,gS.cells];repeat'(with_reducible apply cX<;>intro h<;>simp only[h,go_sem,bw,tY])
theorem aMv(t:kb)(d:t.bs.l.length<1100000):cV BS (ev PP cf (.call 177 [t.d] .no .empty)):=by
 refine fM func177 ?_;simp only[go_sem,f177,kb.d,kb.cells,bW];repeat'(with_reducible apply cX<;>intro h<;>simp only[h,go_sem,bw,qZ])
 all_goals
 refine oF t.bs.l _ (λi s=>⟨_,42,[(25,iS i),(3,.dv (iD s) _),(23,.dv _ _),(24,iS _)],[],_⟩) (λ_ _ _=>True) ab rfl trivial (λs _=>?_) (λi x l s b c w _ a=>?_);.simp only[go_sem,bw,qZ]
 .simp only[go_sem,bW]at a;simp only[go_sem,b,c,bW];repeat'(with_reducible apply cX<;>intro h<;>simp only[h,go_sem,bw,qZ,w,a])
theorem aMu(t:kb)(p:gS)(b:t.bs.l.length<1100000)(g:t.ps.l.length<1100000):cV BS (ev PP cf (.call 106 [t.d,p.d] .no .empty)):=by
 obtain⟨r,e0,n,rfl⟩:=aMv t b;have d:=λx:gS=>aMw x;simp only[kb.d,kb.cells,bW,nu]at e0;refine fM func106 ?_;simp only[go_sem,f106,kb.d,kb.cells,bW,nu,gS.d,gS.cells,e0];repeat'(with_reducible apply cX<;>intro h<;>simp only[h,go_sem,bw,qZ])
 all_goals
 refine oF t.ps.l p (λi s=>⟨106,53,[(30,iS i),(3,.lp 3 0),(28,.dv (nu t.ps) .no),(29,iS t.ps.l.length)],[(3,⟨s.cells,[]⟩)],.empty⟩) (λ_ _ _=>True) ab rfl trivial (λs _=>?_) (λi x l s c e w _ a=>?_);.simp only[go_sem,bw,qZ]
 .have a:=a x trivial;obtain⟨r,e1,f,rfl⟩:=d x;simp only[gS.d,gS.cells]at e1;simp only[go_sem,nu,gS.cells]at a;simp only[go_sem,c,e,nu,gS.d,gS.cells,e1];repeat'(with_reducible apply cX<;>intro h<;>simp only[h,go_sem,bw,qZ,w,a])
theorem aMz(r:dA)(a:r.t.bs.l.length<1100000)(b:r.t.ps.l.length<1100000):cV BS (ev PP cf (.call 38 [r.d] .no .empty)):=by
 obtain⟨x,e0,n,rfl⟩:=aMu _ ⟨r.t.n,r.t.m⟩ a b;simp only[kb.d,kb.cells,bW,nu,gS.d,gS.cells]at e0;have e1:CC 63 [r.t.d] (vI n):=by refine aO func63 ?_;simp only[go_sem,f63,kb.d,kb.cells,bW,nu,e0]
 simp only[kb.d,kb.cells,bW,nu]at e1;refine fM func38 ?_;simp only[go_sem,f38,dA.d,dA.cells,bW,nu,e1];repeat'(with_reducible apply cX<;>intro h<;>simp only[h,e1,go_sem,bw,qZ])
def VD{a:Type}(l:List a)(r:bh):Prop:=∃n,r=vI n/\(n=0->l≠[])
theorem aMx(l:Sl dA)(o:l.l.length<1100000)(k:∀r∈l.l,r.t.bs.l.length<1100000/\r.t.ps.l.length<1100000):cV (VD l.l) (ev PP cf (.call 13 [mO l] .no .empty)):=by
 have b:VD l.l _:=⟨5,rfl,λh=>ab⟩;refine fM func13 ?_;simp only[go_sem,f13,mO];apply cX<;>intro h;.simp only[h,go_sem,bw,b]
 have d:∀n,VD l.l _:=λn=>⟨n,rfl,λ_ e=>by rw[e]at h;cases h⟩;simp only[h,go_sem];apply cX<;>intro h;.simp only[h,go_sem,bw,b]
 simp only[h,go_sem];refine ub l.l (λi=>[(16,iS i)]) ab rfl ?_ (λi x j a w c=>?_);.simp only[go_sem,bw,d]
 .obtain⟨f,g⟩:=k x (dw a);obtain⟨r,e1,m,rfl⟩:=aMz x f g;simp only[dA.d,dA.cells,bW,nu]at e1;simp only[go_sem]at c;simp only[go_sem,j,a,dA.d,dA.cells,bW,nu,e1];repeat'(with_reducible apply cX<;>intro h<;>simp only[h,go_sem,bw,d,w,c])
theorem k6:cf.fk 6=0:=by rfl
theorem p6:cf.iz 6=V:=by rfl
attribute[go_sem]k6 p6
def ev6(g:GH):ev PP cf (.call 6 [] .no g)=J (.val (.dv (.bool V) .no) g):=C4 rfl rfl
theorem cv6{k:SV->GH->ah α}:jA cf (ev PP cf) 6 [] .no g k=k (.dv (.bool V) .no) g:=by rw[ace p6 rfl,ev6];rfl
attribute[go_sem]cv6
theorem aqq:dj cf (bp f41 1)=V:=by rfl
def UN(o:bq):Prop:=∀x∈o.keys.l,sI x.key.k x.key.n x.key.s=0/\x.key.s.length<1050000
theorem aMA(x:aC)(s:dR)(w b c:Nat)(g:GH)(a:g.get b=J (.box ⟨s.cells,[]⟩))(e:g.get c=J (.box ⟨[iD (.ofNat w)],[]⟩))(d:1<=s.os.l.length/\s.os.l.length<=8)(v:sI x.key.k x.key.n x.key.s=0)(f:x.key.s.length<1050000):ev PP cf (.call 41 [x.d,.ptr b 0,.ptr c 0] .no g)=J (.val (.dv (.bool (!aj (x.key.rB (.ofNat s.os.l.length)) (.ofNat w))) .no) g):=by have h:=Dj _ (.ofNat _) v f ⟨ai,ci.2 d.2⟩;have hd:=aqq;simp only[bp,opsOf,f41,go_sem]at hd;simp only[cH.d,cH.cells]at h;simp only[dR.cells,mO,mf]at a;refine aO func41 ?_;simp only[go_sem,f41,hd,aC.d,aC.cells,a,e,h]
def AA(s:dR):cG:=s.rs.l.map λr=>r.t.m
structure SG(p:cC)(n0:Int)(mk:cG)(m w:Nat)(o:bq):Prop where
 e:vY p n0 o=0
 k:o.marks.l=mk
 w:∀x∈o.keys.l,x.key.rB (.ofNat m)=.ofNat w
theorem aMy(p:cC)(s:dR)(w:Nat)(a:Int)(o:bq)(l:s.os.l[w]?=J o)(q:s.os.l.length<=8)(G:o.marks.l.length<1100000)(E:o.keys.l.length<1100000)(B:∃g,CC 39 [p.d,o.d] (.val (.dv (iD (vY p a o)) .no) g))(m:vY p a o=0->UN o):cV (λr=>∃n g,r=.val (.dv (iD n) .no) g/\(n=0↔SG p a (AA s) s.os.l.length w o)) (ev PP cf (.call 15 [p.d,s.d,iD (.ofNat w)] .no .empty)):=by
 obtain⟨g5,e5⟩:=B;have v:w<s.os.l.length:=(am.1 l).1;have L:(w<s.os.l.length)=True:=il v;simp only[cC.d,cC.cells,bq.d,bq.cells,cm,bW,jr]at e5;refine fM func15 ?_;simp only[go_sem,f15,cC.d,cC.cells,cm,dR.d,dR.cells,mO,mf,L,l,bq.d,bq.cells,bW,jr,e5];apply cX<;>intro h;rotate_left;.simp only[h,go_sem,bw];exact⟨_,_,rfl,⟨(λk=>by rw[k]at h;cases h),λx=>by rw[x.e]at h;cases h⟩⟩
 have e:vY p a o=0:=tJ h;simp only[h,go_sem];apply cX<;>intro h;rotate_left;.simp only[h,go_sem,bw];exact⟨_,_,rfl,⟨ab,λx=>absurd (by rw[x.k,AA,fO]) (Wu h)⟩⟩
 have F:o.marks.l.length=s.rs.l.length:=ue h;simp only[h,go_sem];refine Ja o.marks.l (λi=>[(32,iS i)]) (λi=>∀j<i,o.marks.l[j]?=(AA s)[j]?) ab rfl (λ_ h=>absurd h (Hs _)) (λI=>?_) (λi x f O D I A=>?_)
 . have e0:=HV (d:=aC.d) 41 [] _ ⟨2,[(0,.box _),(1,.box _)]⟩ o.keys.nl _ ab (λx O=>.inl ⟨rfl,rfl,aMA x s w 0 1 _ rfl rfl ⟨ab,q⟩ (m e x O).1 (m e x O).2⟩) (.inr (.inr (.inr (.inr (.inl rfl))))) (λ_=>⟨rfl,rfl⟩);have t:o.marks.l=AA s:=Ej λj=>by grind[AA]
   simp only[dR.cells,mO,mf]at e0;simp only[go_sem,e0];apply cX<;>intro h;.simp only[h,go_sem,bw];refine⟨_,_,rfl,⟨ab,λx=>?_⟩⟩;obtain⟨y,c,u⟩:=List.any_eq_true.1 h;rw[x.w y c,nJ]at u;grind
   .simp only[h,go_sem,bw];refine⟨_,_,rfl,⟨λ_=>⟨e,t,λx O=>?_⟩,λ_=>rfl⟩⟩;grind[jl]
 . have N:=nr f;obtain⟨y,c⟩:∃y,s.rs.l[i]?=J y:=⟨_,dC ab⟩;have b:=il ab;have M:(AA s)[i]?=J y.t.m:=by grind[AA]
   simp only[go_sem]at A;simp only[go_sem,f,O,b,c,dA.d,dA.cells];apply cX<;>intro h;.simp only[h,go_sem,D];grind[jl]
   .simp only[h,go_sem,bw];refine⟨_,_,rfl,⟨ab,λz=>?_⟩⟩;rw[z.k,M]at O;grind[nJ]
structure zu(s:dR):Prop where
 r:s.rs.l.length<1100000/\∀r∈s.rs.l,r.t.bs.l.length<1100000/\r.t.ps.l.length<1100000
 l:s.os.l.length<1100000
 o:∀o∈s.os.l,Oh o/\o.sz/\∀x∈o.keys.l,x.e.cp/\x.key.s.length<1050000
structure Bd(p:cC)(n0:Int)(s:dR):Prop where
 n:n0=0
 u:aA s.num 1=C
 U:aA 1099511627776 s.num=C
 v:CC 13 [mO s.rs] (vI 0)r:s.rs.l≠[]c:1<=s.os.l.length/\s.os.l.length<=8
 p:∀w o,s.os.l[w]?=J o->SG p n0 (AA s) s.os.l.length w o
theorem Vi(p:cC)(s:dR)(a:Int)(f:zu s)(U:∃t,t.pure=V/\∃o g,CC 12 [p.d] (.val (.tp [(t,o),iO a]) g))(H:∀o,Oh o->∃g,CC 39 [p.d,o.d] (.val (.dv (iD (vY p a o)) .no) g))(F:∀o∈s.os.l,vY p a o=0->UN o):cV (λr=>∃n g,r=.val (.dv (iD n) .no) g/\(n=0↔Bd p a s)) (ev PP cf (.call 5 [p.d,s.d] .no .empty)):=by
 obtain⟨t,B,o,g,e⟩:=U;obtain⟨r,T,R,rfl,N⟩:=aMx s.rs f.r.1 f.r.2;have Q:=T;simp only[cC.d,cC.cells,cm,mO]at e T;refine fM func5 ?_;simp only[go_sem,f5,cC.d,cC.cells,cm,dR.d,dR.cells,mO,mf,e,B];apply cX<;>intro h;rotate_left;.simp only[h,go_sem,bw];exact⟨_,_,rfl,⟨(λk=>by rw[k]at h;cases h),λx=>by rw[x.n]at h;cases h⟩⟩
 have A:=tJ h;simp only[h,go_sem];apply cX<;>intro h;.simp only[h,go_sem,bw];exact⟨_,_,rfl,⟨ab,λx=>by rw[x.u]at h;grind⟩⟩
 have D:=h;simp only[h,go_sem];apply cX<;>intro h;.simp only[h,go_sem,bw];exact⟨_,_,rfl,⟨ab,λx=>by rw[x.U]at h;grind⟩⟩
 have v:=h;simp only[h,go_sem,T];apply cX<;>intro h;rotate_left;.simp only[h,go_sem,bw];refine⟨_,_,rfl,⟨ai,λx=>?_⟩⟩;have:=Q.symm.trans x.v;grind
 have j:=tJ h;have hr:=N j;rw[j]at Q;obtain⟨r,c,b,rfl,l⟩:=aEb s.os.nl s.os.l;simp only[WD]at c;simp only[h,go_sem,c];apply cX<;>intro h;rotate_left;.simp only[h,go_sem,bw];exact⟨_,_,rfl,⟨ab,λx=>by rw[l.2 x.c]at h;grind⟩⟩
 have q:=l.1 h;simp only[h,go_sem];refine Ja s.os.l (λi=>[(39,iS i)]) (λi=>∀w o,w<i->s.os.l[w]?=J o->SG p a (AA s) s.os.l.length w o) ab rfl ab (λI=>?_) (λi x y O E I G=>?_);.simp only[go_sem,bw];exact⟨_,_,rfl,⟨λ_=>⟨A,D,v,Q,hr,q,λw o u=>I w o (am.1 u).1 u⟩,λ_=>rfl⟩⟩
 . have m:=dw O;obtain⟨⟨K,L,_⟩,_⟩:=f.o x m;obtain⟨r,d,S,g2,rfl,M⟩:=aMy p s i a x O q.2 K L (H x (f.o x m).1) (F x m);simp only[cC.d,cC.cells,cm,dR.d,dR.cells,mO,mf]at d;simp only[go_sem]at G;simp only[go_sem,y,O,d];apply cX<;>intro h;rotate_left;.simp only[h,go_sem,bw];exact⟨_,_,rfl,⟨ai,λz=>by rw[M.2 (z.p i x O)]at h;grind⟩⟩
   have P:=tJ h;simp only[h,go_sem,E];grind
theorem aqr:dj cf (bp f7 10)=V:=by rfl
theorem aqs:dj cf (bp f7 15)=V:=by rfl
def cpP(v:Sl gS)(h:v.l.length<1100000):∃o,(o=.ex 104\/v.l=[]/\o=.any)/\CC 30 [nu v] (.val (.dv (nu v) o) .empty):=HM (.inr (.inr (.inr (.inr (.inr rfl))))) (λ_=>rfl) v.nl v.l h
def ao3{a:ao}{k:SV->GH->ah α}(h:cj a=V):jA cf (ev PP cf) 27 a .no g k=(ev PP cf (.call 27 a .no ⟨g.next,[]⟩)).bind λ|.val v b=>bif FT g b then k v ⟨b.next,b.kj++g.kj⟩else Z|_=>Z:=anO rfl rfl h
def kp(l:List bq)(i:Nat):List aC:=vX ((l.take i).map λo=>o.keys.l) []
structure uw(l:List bq):Prop where
 a:∀o∈l,qn o.keys.l
 n:∀o∈l,o.keys.l.length<=256
 m:∀o∈l,o.marks.l.length<1100000
 k:∀o∈l,∀x∈o.keys.l,x.e.cp/\sI x.key.k x.key.n x.key.s=0/\x.key.s.length<1050000
 w:∀(i:Nat)(o:bq),l[i]?=J o->∀x∈o.keys.l,x.key.rB (.ofNat l.length)=.ofNat i
theorem Et{l:List bq}:x∈kp l l.length↔∃o∈l,x∈o.keys.l:=by grind[kp,aht]
theorem alP{l:List bq}{i:Nat}{o:bq}(h:l[i]?=J o):nk ((kp l i).length+o.keys.l.length) (kp l i) o.keys.l=kp l (i+1):=by grind[kp,Kh,ahu]
theorem alO{l:List bq}(h:∀o∈l,o.keys.l.length<=256)(i:Nat):(kp l i).length<=l.length*256:=by
 have:=V8 ((l.take i).map λo=>o.keys.l) [] 256 λk a=>by grind
 rw[fO,sL,gL,kG]at this;exact gj this ab
theorem Hy{l:List bq}(h:uw l):qn (kp l l.length):=by
 unfold kp;rw[A8];refine ahs _ _ List.Pairwise.nil (λk a=>?_) aU ?_;.obtain⟨o,b,rfl⟩:=au.1 a;exact h.a o b
 .rw[List.pairwise_map,List.pairwise_iff_getElem];intro i j m n M x c y d e;have f:=h.w i _ aU x c;have g:=h.w j _ aU y d;grind[aow]
def mG:DV:=.agg [iD 0,.nl,.nl]
def qa(a:bq)(l:List bq):bq:=⟨a.marks,⟨V,kp l l.length⟩⟩
def Gr(s:dR)(P:ao)(i:Nat)(o:List (Nat×aN)):St:=⟨7,76,[(50,iS i),(12,.dv (.ptr 1 0) .no),(6,.lp 6 0),(49,iS s.rs.l.length)],[(6,⟨[iD 0,.nl,.nl],[]⟩)],⟨2,[(0,.box ⟨iP (s.rs.l.map dA.d),o⟩),(1,.box ⟨[iD s.num,.cY 0 0 s.rs.l.length 46 6,.ay P 76 2],[]⟩)]⟩⟩
theorem Va(p:cC)(s:dR)(w:Nat)(a:bq)(D:s.os.l[0]?=J a)(K:1<=w/\w<=8)(G:zu s)(hr:s.rs.l≠[])(h8:s.os.l.length<=8)(f:∃g,CC 5 [p.d,s.d] (.val (.dv (iD 0) .no) g))(e:uw s.os.l):cV (λr=>∃g,r=.val (.tp [(bif aA 256 (.ofNat (kp s.os.l s.os.l.length).length)then mG else .agg [iD s.num,mO s.rs,.ay ((jJ (qa a s.os.l) w).map bq.d) 76 2],.no),iO (bif aA 256 (.ofNat (kp s.os.l s.os.l.length).length)then 5 else 0)]) g) (ev PP cf (.call 7 [p.d,s.d,iD (.ofNat w)] .no .empty)):=by
 obtain⟨g8,f⟩:=f;have d10:=aqr;have d15:=aqs;simp only[bp,opsOf,f7,go_sem]at d10 d15;have k:=aD8 (.ofNat w) ⟨ci.2 K.1,ci.2 K.2⟩;have wN:=alO e.n;obtain⟨r,H,g26,rfl⟩:=aEg a s.os.l D (kp s.os.l) ab (e.m a (dw D)) rfl (λi op t=>⟨alP t,by have:=wN i;have:=e.n op ai;omega⟩) (λop iH x c=>(e.k op iH x c).1) (Hy e) ai;have hE:bK s.os.nl (s.os.l.map bq.d) 76 2=.ay (s.os.l.map bq.d) 76 2:=by
  obtain⟨x,M,A⟩:∃x M,s.os.l=x::M:=by cases hc:s.os.l<;>simp_all
  rw[A];rfl
 rw[<-hE]at H;generalize hF:kp s.os.l s.os.l.length=F at*;simp only[cC.d,cC.cells,cm,dR.d,dR.cells,mO,mf]at f;cases L:aA 256 (.ofNat F.length)with
 |true=>
  rw[L]at H;refine Jw (q:=λr=>∃g,r=.val (.tp [(mG,.no),iO 5]) g) func7 rfl rfl rfl rfl rfl ?_ ?_;.rintro r⟨g,rfl⟩;exact⟨_,rfl,_,rfl⟩
  .simp only[go_sem,f7,cC.d,cC.cells,cm,dR.d,dR.cells,mO,mf,f,k,H];exact bw.symm▸⟨_,rfl⟩|false=>
  rw[L]at H;simp only[ch]at H;obtain⟨r,O,U,rfl⟩:=aD9 (qa a s.os.l) w K (e.m a (dw D)) (by show(kp _ _).length<_;grind) (λx c=>by obtain⟨o,h1,h2⟩:=Et.1 c;exact e.k o h1 x h2);have O:CC 28 [.agg [bW a.marks,sQ F],iD (.ofNat w)] (.val (.dv (.ay ((jJ (qa a s.os.l) w).map bq.d) 76 2) .no) U):=by rw[<-hF];unfold jJ;rw[List.map_map];exact O
  have u:=λg=>Tt (d:=dA.d) (.inr rfl) (λ_=>rfl) s.rs.l g hr G.r.1;have R:bK s.rs.nl (s.rs.l.map dA.d) 46 6=.ay (s.rs.l.map dA.d) 46 6:=by
    obtain⟨x,M,A⟩:∃x M,s.rs.l=x::M:=by cases hc:s.rs.l<;>simp_all
    rw[A];rfl
  rw[R]at f;have B:cj ((jJ (qa a s.os.l) w).map bq.d)=V:=WI;generalize(jJ (qa a s.os.l) w).map bq.d=P at*;have z:(sQ F).pure=V:=oI WH;have v:(sQ F).flat=[sQ F]:=HP;refine Jw (q:=λr=>∃ow,pC 6 46 s.rs.l.length s.rs.l.length ow/\r=.val (.tp [(.agg [iD s.num,.cY 0 0 s.rs.l.length 46 6,.ay P 76 2],.no),iO 0]) (Gr s P 0 ow).g) func7 rfl rfl rfl rfl rfl ?_ ?_
  . rintro r⟨ow,I,rfl⟩;have E:∀x∈s.rs.l.map dA.d,x.flat.length=6/\DV.agg x.flat=x:=λx c=>by obtain⟨y,_,rfl⟩:=au.1 c;exact⟨rfl,rfl⟩
    have u1:=akq (g:=(Gr s P 0 ow).g) (b:=0) rfl (by rfl) ab aU E I;refine⟨.val _ ⟨2,[]⟩,?_,_,rfl⟩;have u2:Sd PP (Gr s P 0 ow).g (.agg [iD s.num,.cY 0 0 s.rs.l.length 46 6,.ay P 76 2])=J (.agg [iD s.num,mO s.rs,.ay P 76 2]):=by show Option.map _ _=_;rw[MA,MA,u1];simp only[mO,R];rfl
    show Option.map _ _=_;rw[MA,u2];rfl
  . have B:cj P=V:=B;simp only[bW]at O;simp only[go_sem,f7,cC.d,cC.cells,cm,dR.d,dR.cells,mO,mf,f,k,H,R,z,v,d10,ao3,u,O,B];rw[show FT _ _=V from rfl,aR];refine oF s.rs.l _ (Gr s P) (λi _ ow=>pC 6 46 s.rs.l.length i ow) (by have:=G.r.1;omega) rfl ?_ (λow I=>?_) (λi x l ow t c ld I S=>?_);.exact⟨aU,λj _ h=>by rw[DB,if_neg ab];rfl⟩
    .simp only[Gr,go_sem,bw];grind
    . obtain⟨kV,jb⟩:=G.r.2 x (dw c);obtain⟨o1,W,m⟩:=TD x.t.bs kV;obtain⟨o2,uR,n⟩:=cpP x.t.ps jb;have n1:look ow (i*6+2+1)=Z:=I.2 _ ab ai;have n2:look ow (i*6+2+2)=Z:=I.2 _ ab ai;have E:∀x∈s.rs.l.map dA.d,x.flat.length=6:=λx c=>by obtain⟨y,_,rfl⟩:=au.1 c;rfl
      have T:(s.rs.l.map dA.d)[i]?=J x.d:=ai;have N:(iP (s.rs.l.map dA.d))[i*6+2+1]?=J (bK x.t.bs.nl (x.t.bs.l.map iD) 3 1):=Ld (j:=3) E T ab;have Q:(iP (s.rs.l.map dA.d))[i*6+2+2]?=J (bK x.t.ps.nl (x.t.ps.l.map gS.d) 104 2):=Ld (j:=4) E T ab;have kA:(iP (s.rs.l.map dA.d)).length=6*s.rs.l.length:=by grind[Po]
      have gN:=nr t;have s1:(iP (s.rs.l.map dA.d)).take (i*6+2+1)++bK x.t.bs.nl (x.t.bs.l.map iD) 3 1::(iP (s.rs.l.map dA.d)).drop (i*6+2+1+1)=iP (s.rs.l.map dA.d):=JJ N;have s2:(iP (s.rs.l.map dA.d)).take (i*6+2+2)++bK x.t.ps.nl (x.t.ps.l.map gS.d) 104 2::(iP (s.rs.l.map dA.d)).drop (i*6+2+2+1)=iP (s.rs.l.map dA.d):=JJ Q;have X:(i*6+2+1+1<=(iP (s.rs.l.map dA.d)).length)=True:=il ab;have Y:(i*6+2+2+1<=(iP (s.rs.l.map dA.d)).length)=True:=il ab;simp only[Gr,go_sem]at S;simp only[bW,nu]at m n;rcases W with rfl|⟨_,rfl⟩<;>rcases uR with rfl|⟨_,rfl⟩;all_goals simp only[Gr,go_sem,t,d15,E3,n1,n2,N,Q,m,n,s1,s2,X,Y,ld];refine S _ ?_;repeat(first|exact I.up|refine pC.cn ?_ ab|refine pC.dr ?_ ab)
