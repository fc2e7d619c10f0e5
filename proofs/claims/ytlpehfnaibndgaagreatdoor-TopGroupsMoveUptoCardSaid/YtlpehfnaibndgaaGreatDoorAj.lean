/- Proved: what functions of the program answer, within the sizes that each theorem names. -/
import Derived.Test.YtlpehfnaibndgaaGreatDoorAi
open Option renaming some->J,none->Z
open Bool renaming true->V,false->C
open Go renaming TypeId->an,Program->aH,Code->bM,IntKind->fR,ResultVar->oK
open Int renaming ofNat->dk,add->kh
open List renaming replicate->lT,range->rq
open Nat renaming beq->aw,ble->bt,blt->ct
open Option renaming bind->sD
noncomputable section
set_option linter.all false
namespace Go.VM
open Go Go.AM Proofs.Tryz
variable{α:Type}{g:GH}{a:Int}{ps:List (DV×DV)}{ow:List (Nat×aM)}{e j I:Nat}{P:aH}{t:an}{l:ao}{k:fR}
attribute[local congr]bB bC
set_option maxRecDepth 100000
set_option maxHeartbeats 2000000
def nR(l:ao):GH:=⟨2,[(0,.box ⟨l,[(6,.full 178)]⟩),(1,.box ⟨[.func 322 [] []],[]⟩)]⟩
theorem aDV(x y:br)(n:Int)(a:CC 322 [y.d,x.d] (vI n)):ev PP cf (.call 459 [.dY 0 0 2 178 3,iD 0,iD 2,.func 322 [] []] .no (nR (x.cells++y.cells)))=J (.val (.tp []) (nR (bif aA n 0 then y.cells++x.cells else x.cells++y.cells))):=by
 have d4:dz cf (bH f459 4)=V:=apw;have d6:=apx;simp only[bH,opsOf,f459,go_sem]at d4 d6;simp only[br.d,br.cells]at a;refine aO func459 ?_;simp only[go_sem,f459,nR,br.cells,lS,jJ];refine ik ?_;simp only[go_sem];refine Gm rfl ?_;have c:dN .i64 (kh 0 1)=1:=rfl;have b:dN .i64 (kh 1 1)=2:=rfl;have w:dN .i64 (Int.sub 1 1)=dk 0:=rfl;have l1:aA 0 1=V:=rfl;simp only[go_sem,c];rw[CA];refine ik ?_;simp only[go_sem,d4,l1,w,a];have q0:cY [(6,aM.full 178)] 0 3=[(6,.full 178)]:=rfl;have q3:cY [(6,aM.full 178)] 3 3=[(6,.full 178)]:=rfl;apply sp<;>intro h;.simp only[h,go_sem,d6,w,q0,q3];refine ik ?_;simp only[go_sem,d4,b];refine ik ?_;simp only[go_sem];rfl
 .simp only[h,go_sem,b];refine ik ?_;simp only[go_sem];rfl
theorem aDS:CC 345 [.int .u64 2] (vI 2):=by refine aO func345 ?_;rfl
theorem aDO:CC 290 [.int .u64 2] (vI 2):=by refine aO func290 ?_;simp only[go_sem,f290,aDS]
theorem aDQ(x y:br)(n:Int)(h:CC 322 [y.d,x.d] (vI n)):ev PP cf (.call 422 [.dY 0 0 2 178 3,iD 0,iD 2,iD 2,.func 322 [] []] .no (nR (x.cells++y.cells)))=J (.val (.tp []) (nR (bif aA n 0 then y.cells++x.cells else x.cells++y.cells))):=by have e:=aDV x y n h;have s:dN .i64 (Int.sub 2 0)=2:=rfl;refine aO func422 ?_;simp only[go_sem,f422];refine ik ?_;simp only[go_sem,s];refine Jy rfl ?_;simp only[go_sem,e]
theorem alg:AM.isAgg PP 444=J C:=by rfl
attribute[go_sem]alg
theorem aDE(x y:br)(n:Int)(h:CC 322 [y.d,x.d] (vI n)):ev PP cf (.call 373 [.dY 0 0 2 178 3,.func 322 [] []] .no (nR (x.cells++y.cells)))=J (.val (.tp []) (nR (bif aA n 0 then y.cells++x.cells else x.cells++y.cells))):=by have e:=aDQ x y n h;have w:dN .u64 (dk 2)=2:=rfl;generalize nR _=g0 at*;have e:ev PP cf (.call _ [.dY 0 0 2 _ 3,.int _ 0,.int _ (.ofNat 2),.int _ 2,.func _ [] []] _ g0)=J _:=e;refine aO func373 ?_;simp only[go_sem,f373,w,aDO,e]
theorem aDF(x y:br)(n:Int)(l:ao)(h:CC 322 [y.d,x.d] (vI n)):ev PP cf (.call 375 [y.d,x.d,.ptr 1 0] .no (nR l))=J (.val (.dv (.bool (aj n 0)) .no) (nR l)):=by simp only[br.d,br.cells]at h;refine aO func375 ?_;simp only[go_sem,f375,nR,br.d,br.cells,h]
theorem ahG(x y:br)(n:Int)(a:CC 322 [y.d,x.d] (vI n)):ev PP cf (.call 374 [.dY 0 0 2 178 3,.func 375 [] [.ptr 1 0]] .no (nR (x.cells++y.cells)))=bif aj n 0 then J (.val (.dv (.dY 0 0 1 178 3) .no) (nR (x.cells++[iD 0,.nl,.nl])))else J (.val (.dv (.dY 0 0 2 178 3) .no) (nR (x.cells++y.cells))):=by have e:=aDF x y n (x.cells++y.cells) a;have d6:=aph;simp only[bH,opsOf,f374,go_sem]at d6;have w:dN .i64 (Int.sub 1 1)=dk 0:=rfl;have c:dN .i64 (kh 1 1)=2:=rfl;simp only[nR,br.d,br.cells,lS,jJ]at e;cases h:aj n 0 with|true=>rw[h]at e;refine aO func374 ?_;simp only[go_sem,f374,nR,br.cells,lS,jJ];refine Jy rfl ?_;simp only[go_sem];refine ik ?_;simp only[go_sem];refine Gm rfl ?_;simp only[go_sem,d6,w,e];have s:oD PP 48 (.dY 0 0 2 178 3) (J (.int .i64 1)) Z Z=J _:=rfl;have b:oD PP 48 (.dY 0 0 2 178 3) Z (J (.int .i64 1)) Z=J _:=rfl;simp only[s,go_sem];rw[CA];refine ik ?_;simp only[go_sem];refine Jy rfl ?_;simp only[go_sem,s,b,q3];rfl|false=>rw[h]at e;refine aO func374 ?_;simp only[go_sem,f374,nR,br.cells,lS,jJ];refine Jy rfl ?_;simp only[go_sem];refine ik ?_;simp only[go_sem];refine Gm rfl ?_;simp only[go_sem,d6,w,e,c];refine ik ?_;simp only[go_sem];rfl
def isP(x y:br)(r:bh):Prop:=∃u v:br,(u=x/\v=y\/u=y/\v=x)/\(r=.val (.dv (.dY 0 0 1 178 3) .no) (nR (u.cells++[iD 0,.nl,.nl]))\/r=.val (.dv (.dY 0 0 2 178 3) .no) (nR (u.cells++v.cells)))
def br.sm(c:br):Prop:=c.bs.l.length<1100000/\c.ss.l.length<1100000
theorem aDx(x y:br)(d:x.sm)(e:y.sm):cW (isP x y) (ev PP cf (.call 321 [.dY 0 0 2 178 3,.func 322 [] []] .no ⟨1,[(0,.box ⟨x.cells++y.cells,[(6,.full 178)]⟩)]⟩)):=by obtain⟨k,o⟩:=d;obtain⟨D,v⟩:=e;obtain⟨r,a,n,rfl⟩:=ahD y x ab ab;obtain⟨r,c,m,rfl⟩:=ahD x y ab ab;have e1:=aDE x y n a;have e2:=ahG x y n a;have e3:=ahG y x m c;have w:(⟨1,[(0,.box ⟨x.cells++y.cells,[(6,.full 178)]⟩)]⟩:GH).alloc (.box ⟨[.func 322 [] []],[]⟩)=nR (x.cells++y.cells):=rfl;have f:∀l,(nR l).get 1=J (.box ⟨[.func 322 [] []],[]⟩):=λ_=>rfl;generalize i:(⟨1,[(0,.box ⟨x.cells++y.cells,[(6,.full 178)]⟩)]⟩:GH)=g at*;have b:g.next=1:=ai;refine fY func321 ?_;simp only[go_sem,f321,b,w,f,e1];cases aA n 0 with
 |true=>cases h:aj m 0 with|true=>rw[h]at e3;simp only[go_sem]at e3;simp only[go_sem,e3,bz];exact⟨y,x,.inr ⟨rfl,rfl⟩,.inl rfl⟩|false=>rw[h]at e3;simp only[go_sem]at e3;simp only[go_sem,e3,bz];exact⟨y,x,.inr ⟨rfl,rfl⟩,.inr rfl⟩
 |false=>cases h:aj n 0 with|true=>rw[h]at e2;simp only[go_sem]at e2;simp only[go_sem,e2,bz];exact⟨x,y,.inl ⟨rfl,rfl⟩,.inl rfl⟩|false=>rw[h]at e2;simp only[go_sem]at e2;simp only[go_sem,e2,bz];exact⟨x,y,.inl ⟨rfl,rfl⟩,.inr rfl⟩
theorem Jh{p q:bh->Prop}{c:bU}{f n:Nat}{d:Func}{i:bM}{e:List oK}{s:ao}{o:aM}(m:P.funcs[f]?=J d)(l:d.body=J i)(w:d.results=⟨e⟩)(x:d.ntmps=n)(v:c.iU f s=Z)(t:(yx (e.map vY)&&bt s.length n&&c.AI f)=V)(u:∀r,q r->cW p (AJ P r))(h:cW q (exec P c (ev P c) Z i ⟨f,n,uu 0 o s,[],g⟩ (B6 P e))):cW p (ev P c (.call f s o g)):=by obtain⟨r,a,b⟩:=h;obtain⟨y,j,k⟩:=u r b;grind[arH]
def isQ(x y:br)(r:bh):Prop:=∃u v:br,(u=x/\v=y\/u=y/\v=x)/\∃L g,(L=[u]\/L=[u,v])/\r=.val (.tp [(.ay (L.map br.d) 178 3,.no),iO 0]) g
theorem aDt(x y:br)(h:x.sm)(a:y.sm):cW (isQ x y) (ev PP cf (.call 305 [.ay [x.d,y.d] 178 3] .no .empty)):=by
 obtain⟨r,e1,u,v,b,hr⟩:=aDx x y h a;have e0:=S9 (d:=br.d) (.inl rfl) (λ_=>rfl) [x,y] .empty aP aP;have e0:ev PP cf (.call 70 [.ay [x.d,y.d] _ 3] _ _)=J (.val _ ⟨1,[(0,.box ⟨x.cells++y.cells,_⟩)]⟩):=e0;refine Jh (q:=λr=>∃c,(c=[u]/\r=.val (.tp [(.dY 0 0 1 178 3,.no),iO 0]) (nR (u.cells++[iD 0,.nl,.nl]))\/c=[u,v]/\r=.val (.tp [(.dY 0 0 2 178 3,.no),iO 0]) (nR (u.cells++v.cells)))) func305 rfl rfl rfl rfl rfl ?_ ?_
 . rintro r⟨c,⟨rfl,rfl⟩|⟨rfl,rfl⟩⟩;.exact⟨_,rfl,u,v,b,_,_,.inl rfl,rfl⟩
   .exact⟨_,rfl,u,v,b,_,_,.inr rfl,rfl⟩
 . generalize(⟨1,_⟩:GH)=g at*;simp only[br.d,br.cells]at e0;simp only[go_sem,f305,br.d,br.cells,e0];rcases hr with rfl|rfl;.simp only[go_sem,e1];refine DJ rfl ?_;simp only[go_sem,bz];exact⟨_,.inl ⟨rfl,rfl⟩⟩
   .simp only[go_sem,e1];refine DJ rfl ?_;simp only[go_sem,bz];exact⟨_,.inr ⟨rfl,rfl⟩⟩
def agc(r:bh):Prop:=∃b g,r=.val (.dv (.bool b) .no) g
def Vn{b:Bool}:agc (.val (.dv (.bool b) .no) g)=True:=ir ⟨b,g,rfl⟩
theorem aDg(a b:br)(c:a.sm)(f:b.sm):cW agc (ev PP cf (.call 268 [a.d,b.d] .no .empty)):=by
 obtain⟨r,e1,u,v,i,L,g,e,rfl⟩:=aDt b a f c;have d:u.sm:=ai;obtain⟨r,e2,j,rfl⟩:=aDu u.bs a.bs (by have:=d.1;omega) (by have:=c.1;omega);obtain⟨r,e3,k,rfl⟩:=aDv u.ss a.ss (by have:=d.2;omega) (by have:=c.2;omega);have hd:=aoZ;simp only[bH,opsOf,f268,go_sem]at hd;simp only[br.d,br.cells]at e1;refine fY func268 ?_;rcases e with rfl|rfl;.simp only[fO,eG,br.d,br.cells]at e1;simp only[go_sem,f268,br.d,br.cells,e1,hd];have z:aj (.ofNat 1) 2=C:=rfl;refine DJ rfl ?_;repeat'(first|(simp only[z,go_sem,bz,Vn];done)|(simp only[z,hd,go_sem,bz,Vn];apply cV<;>intro h))
 .simp only[fO,eG,br.d,br.cells]at e1;simp only[go_sem,f268,br.d,br.cells,e1,hd];have z:aj (.ofNat 2) 2=V:=rfl;refine RB rfl ?_;simp only[z,go_sem];repeat'(with_reducible apply cV<;>intro h<;>simp only[h,e2,e3,go_sem,bz,Vn])
def M5{p:bh->Prop}{c:bU}{b:bM}{t:Tg b}{s:St}{d:ah Nat}{f:bh->ah bh}(h:cW p ((exec P c (ev P c) d b s (nh P c (.mk b t) d)).bind f)):cW p ((ld (ev P c) (.mk b t) s d).bind f):=let⟨r,a,b⟩:=h;⟨r,ik a,b⟩
def ew.sm(e:ew):Prop:=e.sz/\e.held.l.length+e.wait.l.length<1100000/\∀c∈e.runs.l,c.sm
theorem aDc(p:eJ)(e:ew)(a:p7 p)(q:mw p.query)(A:ri (mS p.query.pat).1)(o:e.sm):cW IJ (ev PP cf (.call 226 [.agg p.cells,e.d] .no .empty)):=by
 obtain⟨z,u,hr⟩:=o;obtain⟨g,e0⟩:=ev9 p.types p.query p.xK a.t q A;have e0:CC 264 [.agg p.cells] (.val (.dv (iD (Kt mS p.types p.query p.xK)) .no) g):=e0;obtain⟨r,e1,I,g1,rfl,_⟩:=V0 e.held ab;obtain⟨r,e2,K,g2,rfl,_⟩:=V0 e.wait ab;obtain⟨r,e3,L,g3,rfl⟩:=aDe p e a.t a.k z u;have e4:=λc b=>aDf p e c a q A z (hr c b).1 (by have:=(hr c b).2;omega);have d24:=aoX;simp only[bH,opsOf,f226,go_sem]at d24;have m:cg p.cells=V:=eJ.pure p;have l:p.cells.length=23:=p.dE;generalize Kt mS p.types p.query p.xK=n at*;generalize b:p.cells=s at*;have t:s.take 23=s:=ai;simp only[de,mQ,ew.d,ew.cells]at e1 e2 e3;refine fY func226 ?_;simp only[go_sem,f226,de,mQ,ew.d,ew.cells,l,t,m,e0];repeat'(with_reducible apply cV<;>intro h<;>simp only[h,go_sem,bz,rP])
 have l0:aA 0 (.ofNat 2)=V:=rfl;have l1:aA 1 (.ofNat 2)=V:=rfl;have l2:aA 2 (.ofNat 2)=C:=rfl;have D:dN .i64 (kh 0 1)=1:=rfl;have E:dN .i64 (kh 1 1)=2:=rfl;refine M5 ?_;simp only[go_sem];refine RB l0 ?_;simp only[go_sem,e1];apply cV<;>intro h;rotate_left;.simp only[h,go_sem,bz,rP]
 simp only[h,go_sem,D];refine M5 ?_;simp only[go_sem];refine RB l1 ?_;simp only[go_sem,e2];apply cV<;>intro h;rotate_left;.simp only[h,go_sem,bz,rP]
 simp only[h,go_sem,E];refine M5 ?_;simp only[go_sem];refine DJ l2 ?_;simp only[go_sem,l,t,m,e3];repeat'(with_reducible apply cV<;>intro h<;>simp only[h,go_sem,bz,rP])
 refine tX e.runs.l (λi=>[(55,iS i)]) (by have:=z.2.2.1;omega) rfl ?_ (λi x f d w v=>?_);.simp only[go_sem,bz,rP]
 . have H:=mI f;have F:=z.2.2.1;obtain⟨r,e5,M,g5,rfl⟩:=e4 x (du d);simp only[de,mQ,ew.d,ew.cells,br.d,br.cells]at e5;simp only[go_sem]at v;simp only[go_sem,f,d,br.d,br.cells,l,t,m,e5];rcases i with _|i
   . have k:aA 0 (dk 0)=C:=rfl;have N:aA 0 0=C:=rfl;apply cV<;>intro h;rotate_left;.simp only[h,go_sem,bz,rP]
     simp only[h,go_sem,d24];grind
   . have k:aA 0 (dk (i+1))=V:=by rfl
     obtain⟨y,j⟩:∃y,e.runs.l[i]?=J y:=⟨_,dA ab⟩;have B:=sub_succ i ab;obtain⟨r,e6,G,g6,rfl⟩:=aDg y x (hr y (du j)) (hr x (du d));simp only[br.d,br.cells]at e6;repeat'(with_reducible apply cV<;>intro h<;>simp only[h,d24,k,B,j,e6,w,br.d,br.cells,go_sem,bz,rP])
     omega
theorem aD6(p:eJ)(e:ew)(b:p7 p)(q:mw p.query)(h:ri (mS p.query.pat).1)(a:e.sm):cW IJ (ev PP cf (.call 169 [.agg p.cells,e.d] .no .empty)):=by obtain⟨r,e1,n,g,rfl⟩:=aDc p e b q h a;have m:=eJ.pure p;have l:=p.dE;generalize d:p.cells=c at*;have t:c.take 23=c:=ai;simp only[ew.d,ew.cells]at e1;refine fY func169 ?_;simp only[go_sem,f169,ew.d,ew.cells,l,t,m,e1,bz,rP]
set_option maxHeartbeats 1000000
def TT(v:Sl cM):Bool:=aA (.ofNat v.l.length) 40&&v.l.all λx=>!aA 128 (.ofNat x.s.length)
theorem aD5(v:Sl cM)(e:v.l.length<1000000000):CC 87 [yV v] (vB (TT v)):=by
 refine aO func87 ?_;simp only[go_sem,f87,yV];refine jn v.l (λi=>[(3,iS i)]) (λ_ l=>vB (aA _ 40&&l.all _)) ab rfl rfl ?_ (λi x l c d w a=>?_);.simp only[go_sem,nU]
 . simp only[go_sem]at a;simp only[go_sem,c,oJ];apply sp<;>intro h;.simp only[h,d,cM.d,cM.cells,go_sem];apply sp<;>intro h<;>simp only[h,w,go_sem,a]
   . have b:aA (.ofNat v.l.length) 40=C:=by grind[gL]
     simp only[b,go_sem]
theorem aDZ(e:aN)(l:e.lR.l.length<1000000000):CC 62 [e.d] (vB (TT e.lR)):=by have h:=aD5 _ l;refine aO func62 ?_;simp only[go_sem,f62,aN.d,aN.cells,h]
def asJ(v:Sl aN):Bool:=!aA 20 (.ofNat v.l.length)&&v.l.all λe=>TT e.lR
theorem ahH(v:Sl aN)(d:Gv v):CC 43 [de v] (vB (asJ v)):=by
 obtain⟨f,a⟩:=d;refine aO func43 ?_;simp only[go_sem,f43,de];refine jn v.l (λi=>[(3,iS i)]) (λ_ l=>vB (!aA 20 _&&l.all _)) ab rfl rfl ?_ (λi x l c e w b=>?_);.simp only[go_sem,nU]
 . have g:=aDZ x ai;simp only[go_sem]at b;simp only[go_sem,c,oJ];apply sp<;>intro h;.simp only[h,e,g,go_sem];apply sp<;>intro h<;>simp only[h,w,go_sem,b,y9,y8]
   . have a:aA 20 (.ofNat v.l.length)=V:=by grind[gL]
     simp only[a,go_sem]
def TS(c:br):Bool:=bif aA 12 (.ofNat c.bs.l.length)then C else !aA 12 (.ofNat c.ss.l.length)
def asK(v:Sl br):Bool:=!aA 60 (.ofNat v.l.length)&&v.l.all TS
theorem aDY(v:Sl br)(e:v.l.length<1000000000):CC 61 [mQ v] (vB (asK v)):=by
 refine aO func61 ?_;simp only[go_sem,f61,mQ];refine jn v.l (λi=>[(3,iS i)]) (λ_ l=>vB (!aA 60 (.ofNat v.l.length)&&l.all TS)) ab rfl rfl ?_ (λi x l a b w c=>?_);.simp only[go_sem,nU]
 . have K:i<v.l.length:=mI a;simp only[go_sem]at c;simp only[go_sem,a,oJ];apply sp<;>intro h
   . simp only[h,b,br.d,br.cells,ij,jQ,TS,go_sem];apply sp<;>intro h;.simp only[h,go_sem]
     .simp only[h,b,br.d,br.cells,ij,jQ,go_sem];apply sp<;>intro h<;>simp only[h,w,go_sem,c]
   . have d:aA 60 (.ofNat v.l.length)=V:=by grind[gL]
     simp only[d,go_sem]
theorem abv{t n:Nat}(h:t=78\/t=47\/t=94\/t=176\/t=32\/t=116):gb PP .eql t (.ay l e n) .nl=J (.bool C)/\gb PP .eql t .nl .nl=J (.bool V):=by rcases h with rfl|rfl|rfl|rfl|rfl|rfl<;>exact⟨rfl,rfl⟩
theorem Hu{d:α->DV}{f t c b:Nat}(j:(f,t,e,c,b)=(107,78,46,3,32)\/(f,t,e,c,b)=(106,47,80,5,56)\/(f,t,e,c,b)=(71,94,184,4,32)\/(f,t,e,c,b)=(72,176,187,2,16)\/(f,t,e,c,b)=(29,32,3,1,8)\/(f,t,e,c,b)=(30,116,126,2,16))(r:∀x,(d x).flat.length=c)(i:Bool)(g:List α)(h:g.length<1100000):∃o,(o=.ex e\/g=[]/\o=.any)/\CC f [bw i (g.map d) e c] (.val (.dv (bw i (g.map d) e c) o) .empty):=by have k:b<=64/\c≠0:=ai;have s:(0+(g.map d).length)*b<=1100000*64:=qz ai k.1;have p:fu e c b (.ay [] e c) (.ex e) (g.map d)=J (.ay ([]++g.map d) e c,.ex e):=p8 k.2 (by grind[bm]) (by grind[bm]);have q:(g.map d).all (λy=>decide (y.flat.length=c))=V:=ai;have e1:∀g,gb PP .eql t (.ay g e c) .nl=J (.bool C):=λg=>(abv ai).1;have e2:gb PP .eql t .nl .nl=J (.bool V):=(abv (e:=0) (n:=0) (l:=[]) ai).2;rw[jJ]at p;cases g with
 |nil=>cases i with
  |true=>
  refine⟨_,.inr ⟨rfl,rfl⟩,?_⟩;show ev PP cf (.call f [.nl] _ _)=J _;rcases j with h|h|h|h|h|h<;>cases h<;>first|refine aO func107 ?_|refine aO func106 ?_|refine aO func71 ?_|refine aO func72 ?_|refine aO func29 ?_|refine aO func30 ?_
  all_goals rfl|false=>
  refine⟨_,.inl rfl,?_⟩;show ev PP cf (.call f [.ay [] e c] _ _)=J _;rcases j with h|h|h|h|h|h<;>cases h<;>first|refine aO func107 ?_|refine aO func106 ?_|refine aO func71 ?_|refine aO func72 ?_|refine aO func29 ?_|refine aO func30 ?_
  all_goals rfl
 |cons a g=>
  refine⟨_,.inl rfl,?_⟩;have m:bw i ((a::g).map d) e c=.ay _ e c:=rfl;rw[m];generalize(a::g).map d=L at*;rcases j with h|h|h|h|h|h<;>cases h<;>first|refine aO func107 ?_|refine aO func106 ?_|refine aO func71 ?_|refine aO func72 ?_|refine aO func29 ?_|refine aO func30 ?_
  all_goals simp only[go_sem,f107,f106,f71,f72,f29,f30,e1,p,q]
theorem aDD(p:eJ)(v:Sl aN)(r:Sl br)(j:∃b,CC 60 [.agg p.cells] (vB b))(m:Gv v)(k:r.l.length<1000000000):cW Di (ev PP cf (.call 42 [.agg p.cells,de v,mQ r] .no .empty)):=by
 obtain⟨b,g⟩:=j;have a:=ahH v m;have d:=aDY r k;simp only[de,mQ]at a d;refine fY func42 ?_;generalize i:p.cells=c at*;have l:c.length=23:=by rw[<-i];exact p.dE
 have n:cg c=V:=by grind[eJ.pure]
 have t:c.take 23=c:=ai;have e:=HG v;have f:=Ks r;simp only[de,mQ]at e f;simp only[go_sem,f42,g,de,mQ,l,n,t];repeat'(with_reducible apply cV<;>intro h<;>simp only[h,a,d,e,f,go_sem,bz,uP])
theorem ahB(p:eJ)(e:ew)(q:∃b,CC 60 [.agg p.cells] (vB b))(t:p.types.l.length<1100000)(a:e.sz):cW Di (ev PP cf (.call 20 [.agg p.cells,e.d] .no .empty)):=by
 obtain⟨v,f,u,rfl⟩:=aDD p e.held e.runs q a.2.1 a.2.2.1;have g:=ahH e.wait a.1;have i:=ac6 p.types t;refine fY func20 ?_;have d:p.cells[0]?=J (cB p.types):=rfl;generalize n:p.cells=c at*;have o:c.length=23:=by rw[<-n];exact p.dE
 have s:cg c=V:=by grind[eJ.pure]
 have r:c.take 23=c:=ai;have j:=HG e.held;have k:=HG e.wait;have l:=Ks e.runs;have m:=Zz p.types;simp only[de,mQ,cB]at f g i d j k l m;simp only[go_sem,f20,ew.d,ew.cells,f,de,mQ,o,s,r,j,l];repeat'(with_reducible apply cV<;>intro h<;>simp only[h,g,i,d,k,m,go_sem,bz,uP])
structure dh where
 types:Sl b9
 qs:Sl cA
def cA.dv(q:cA):DV:=.agg q.cells
def sh(s:Sl cA):DV:=bw s.nl (s.l.map cA.dv) 77 18
def dh.cells(p:dh):ao:=[cB p.types,sh p.qs]
def dh.d(p:dh):DV:=.agg p.cells
theorem cA.apP(q:cA):q.dv.aU=C:=rfl
theorem cA.apO(q:cA):q.dv.flat=q.cells:=rfl
def cA.acL(q:cA):q.dv.pure=V:=cA.pure q
theorem aGT(s:Sl cA):(sh s).pure=V:=nN (gT cA.acL _)
attribute[go_sem]cA.apP cA.apO cA.dE aGT
def Hj:dJ:=⟨0,0,⟨V,[]⟩,⟨V,[]⟩⟩
def ap6:ew:=⟨0,⟨V,[]⟩,⟨V,[]⟩,⟨V,[]⟩⟩
def M1:cA:=⟨[],⟨V,[]⟩,⟨V,[]⟩,.mk 0 V [] 0 0 0 0 (.mk 0 V [] 0 0 0 0 0 []),⟨V,[]⟩⟩
def dh.ok(p:dh):Prop:=p.types.l.length<1100000/\p.qs.l.length<1000000000/\(∀q∈p.qs.l,∃b,CC 60 [.agg (eJ.cells ⟨p.types,q,Hj⟩)] (vB b))/\∃b,CC 60 [.agg (eJ.cells ⟨p.types,M1,Hj⟩)] (vB b)
theorem ap7:ap6.sz:=⟨⟨fD,λe h=>by cases h⟩,⟨fD,λe h=>by cases h⟩,fD,λe h=>by cases h⟩
theorem nv4(p:dh)(o:bG)(l:p.ok)(k:o.sz):cW Di (ev PP cf (.call 7 [p.d,o.d] .no .empty)):=by
 obtain⟨f,s,g,j⟩:=l;obtain⟨k1,k2,k3⟩:=k;have hd:=apD;have q:=apC;simp only[bH,opsOf,f7,go_sem]at hd q;refine fY func7 ?_;simp only[go_sem,f7,dh.d,dh.cells,bG.d,bG.cells,cB,sh,cE,kx];repeat'(with_reducible apply cV<;>intro h<;>simp only[h,go_sem,bz,uP])
 refine tX p.qs.l (λi=>[(5,iS i)]) ab rfl ?_ (λi x d b w c=>?_)
 . simp only[go_sem];refine tX o.keys.l (λi=>[(6,iS i)]) ab rfl ?_ (λi x d b w c=>?_);.simp only[go_sem,bz,uP]
   .obtain⟨r,a,e,rfl⟩:=ahB ⟨p.types,M1,Hj⟩ x.e j f (k3 x (du b));simp only[go_sem]at c;have a:CC 20 [.agg [bw p.types.nl (p.types.l.map b9.d) 69 2,.str [],.nl,.nl,iD 0,.nl,iD 0,iD 0,iD 0,iD 0,iD 0,.nl,iD 0,iD 0,iD 0,iD 0,iD 0,.str [],.nl,iD 0,iD 0,.nl,.nl],.agg [iD x.e.mark,de x.e.wait,mQ x.e.runs,de x.e.held]] (vB e):=a;simp only[go_sem,d,b,q,aF.d,aF.cells,a];repeat'(with_reducible apply cV<;>intro h<;>simp only[h,b,w,c,aF.d,aF.cells,go_sem,bz,uP])
 .obtain⟨r,a,e,rfl⟩:=ahB _ _ (g x (du b)) f ap7;simp only[go_sem]at c;have a:ev PP cf (.call 20 [.agg (bw _ _ 69 2::(x.cells++[iD 0,iD 0,.nl,.nl])),.agg [iD 0,.nl,.nl,.nl]] _ _)=J _:=a;have m:=Zz p.types;have n:=cA.pure x;simp only[go_sem,d,b,hd,cA.dv,B0,m,n,a];apply cV<;>intro h<;>simp only[h,w,c,go_sem,bz,uP]
set_option maxHeartbeats 2000000
theorem aFI{l:List cA}:cg (l.map cA.dv)=V:=gT cA.acL _
attribute[go_sem]aFI
structure D'(p:dh):Prop where
 t:lX p.types
 q:∀q∈p.qs.l,mw q
 l:p.qs.l.length<1100000
def aga(p:dh)(r:bh):Prop:=∃i n g,r=.val (.tp [iO i,iO n]) g/\(aj n 0=V->∀q∈p.qs.l,wF p.types q=0)
theorem aDU(p:dh)(d:D' p):cW (aga p) (ev PP cf (.call 45 [p.d] .no .empty)):=by
 have r:∀{i n:Int}{g:GH},aj n 0=C->aga p (.val (.tp [iO i,iO n]) g):=λh=>⟨_,_,_,rfl,λk=>ai⟩;obtain⟨g0,e0⟩:=KN p.types d.t.a d.t.b;have z:=d.l;simp only[cB]at e0;refine fY func45 ?_;simp only[go_sem,f45,dh.d,dh.cells,cB,sh,e0];repeat'(with_reducible apply cV<;>intro h<;>simp only[h,go_sem,bz])
 .exact r rfl
 rotate_left;.grind
 refine ni p.qs.l ([]:List aC) (λi b=>⟨45,45,[(23,iS i),(5,.dv (.map 0) .no),(1,.lp 1 0),(21,.dv (sh p.qs) .no),(22,iS p.qs.l.length)],[(1,⟨[cB p.types,sh p.qs],[]⟩)],⟨1,[(0,.map (qa b) b.length)]⟩⟩) (λi _ _=>∀j q,j<i->p.qs.l[j]?=J q->wF p.types q=0) ab rfl (λj q h=>absurd h (N3 _)) (λb I=>?_) (λi x l b w v A I a=>?_);.simp only[go_sem,bz];exact⟨_,_,_,rfl,λ_ q u=>by obtain⟨j,t,e⟩:=List.mem_iff_getElem.1 u;exact I j q t ai⟩
 . obtain⟨g1,e1⟩:=ado p.types x d.t (d.q x (du v));have a:=a (b++[x.name]);have f:x.cells[0]?=J (.str x.name):=rfl;have y:x.cells.length=18:=x.dE;have B:cg x.cells=V:=cA.pure x;simp only[OI,ib,dH,gX,cB,sh,go_sem]at a;simp only[cB]at e1;have E:x.dv=.agg x.cells:=rfl;generalize x.cells=s at*;have D:s.take 18=s:=ai;simp only[go_sem,w,v,E,y,B,D,cB,sh,e1];apply cV<;>intro h;rotate_left;.simp only[h,go_sem,bz];grind
   have F:wF p.types x=0:=by grind[iZ]
   have step:∀j q,j<i+1->p.qs.l[j]?=J q->wF p.types q=0:=λj q t u=>by grind
   have a:=a step;cases o:b.any λm=>decide (x.name=m)with|true=>obtain⟨k,c,m,e⟩:=KV b 0 0 o;simp only[h,go_sem,qa,f,e,bz];exact r rfl|false=>have e:=KU b 0 0 o;simp only[qa]at a;simp only[h,go_sem,qa,f,e,A];omega
def eJ.dv(p:eJ):DV:=.agg p.cells
def uW(p:dh)(q:cA):eJ:=⟨p.types,q,(mS q.pat).1⟩
def xc(l:List eJ):DV:=bw V (l.map eJ.dv) 105 23
theorem anU{t:Sl b9}{q:cA}(h:wF t q=0)(a:(mS q.pat).2=0):(mS q.pat).1.vars<=.ofNat q.vars.l.length:=by grind[mS,wF,ub,tF]
theorem aGg{p:dh}(a:D' p){q:cA}(b:q∈p.qs.l)(h:wF p.types q=0)(c:(mS q.pat).2=0):p7 (uW p q):=⟨a.t,by have:=(a.q q b).k;show q.key.l.length<_;omega,acu _ (a.q q b).p,anU h c⟩
def af9(p:dh)(r:bh):Prop:=(∃o n g,aj n 0=C/\r=.val (.tp [(.nl,o),iO n]) g)\/((∀q∈p.qs.l,p7 (uW p q))/\∃o g,(o=.any\/o=.ex 105)/\r=.val (.tp [(xc (p.qs.l.map (uW p)),o),iO 0]) g)
theorem aDl(p:dh)(k:D' p):cW (af9 p) (ev PP cf (.call 21 [p.d] .no .empty)):=by
 have G:∀{o:aM}{n:Int}{g:GH},aj n 0=C->af9 p (.val (.tp [(.nl,o),iO n]) g):=λh=>.inl ⟨_,_,_,h,rfl⟩;obtain⟨r,e0,P,R,g0,rfl,k0⟩:=aDU p k;have H:=k.l;simp only[dh.d,dh.cells,cB,sh]at e0;refine fY func21 ?_;simp only[go_sem,f21,dh.d,dh.cells,cB,sh,e0];apply cV<;>intro h;rotate_left;.simp only[h,go_sem,bz];grind
 have k0:=k0 h;simp only[h,go_sem];refine ni p.qs.l ([]:List eJ) (λi b=>⟨21,45,[(22,iS i),(1,.lp 1 0),(6,fP (b.map eJ.dv) 105 23),(20,.dv (sh p.qs) .no),(21,iS p.qs.l.length)],[(1,⟨[cB p.types,sh p.qs],[]⟩)],.empty⟩) (λi _ b=>b=(p.qs.l.take i).map (uW p)/\∀j q,j<i->p.qs.l[j]?=J q->p7 (uW p q)) ab rfl ⟨rfl,λj q h=>absurd h (N3 _)⟩ (λb I=>?_) (λi x l b B w E I c=>?_)
 . obtain⟨rfl,I⟩:=I;have I:∀q∈p.qs.l,p7 (uW p q):=λq f=>by obtain⟨j,D,e⟩:=List.mem_iff_getElem.1 f;exact I j q D ai
   rw[D6];rcases d:p.qs.l with _|⟨a,t⟩;.simp only[go_sem,xG,bz];exact .inr ⟨I,_,_,.inl rfl,by rw[d];rfl⟩
   simp only[fO,N8,go_sem,bz];exact .inr ⟨I,_,_,.inr rfl,by rw[d];rfl⟩
 . obtain⟨N,I⟩:=I;have M:=mI B;have U:b.length=i:=ai;have v:=k.q x (du w);obtain⟨_,g1,e1,rfl⟩:=adp x.pat v.p;have c:=c (b++[uW p x]);rw[pZ,fO,eG,Kb]at c;have X:(mS x.pat).2=0->b++[uW p x]=(p.qs.l.take (i+1)).map (uW p)/\∀j q,j<i+1->p.qs.l[j]?=J q->p7 (uW p q):=λO=>by
    refine⟨by grind[G2],λj q D f=>?_⟩;by_cases e:j=i;.subst e;rw[w]at f;cases f;grind[aGg]
    grind
   have u:(uW p x).dv=.agg (cB p.types::(x.cells++(mS x.pat).1.cells)):=rfl;rw[u]at c;have c3:x.cells.drop 3=x.pat.cells++[uB x.jG]:=rfl;have S:x.pat.cells.length=14:=ae.dE _;have pt:∀m,(x.pat.cells++m).take 14=x.pat.cells:=λm=>ai;have d:x.cells.length=18:=x.dE;have Q:cg x.cells=V:=cA.pure x;simp only[cB,sh,go_sem]at c;have K:x.dv=.agg x.cells:=rfl;generalize x.cells=s at*;have F:s.take 18=s:=ai;simp only[go_sem,B,w,K,d,cB,sh,c3,pt,e1];apply cV<;>intro h;rotate_left;.simp only[h,go_sem,bz];grind
   have c:=c (X (tF h));have t18:∀m:ao,(s++m).take 18=s:=λm=>ai;have JR:∀m:ao,(s++m).drop 22=m.drop 4:=λm=>by simp_all[zn]
   have L:∀m:ao,(m.length=22)->(DV.agg (bw p.types.nl (p.types.l.map b9.d) 69 2::m)).flat.length=23:=λm h=>by show m.length+1=23;omega
   cases b with|nil=>simp only[eG,xG,jJ]at c|-;simp only[h,go_sem,d,F,t18,JR,E];omega|cons A bs=>have y:∀z:DV,fu 105 23 328 (.ay ((A::bs).map eJ.dv) 105 23) (.ex 105) [z]=J (.ay ((A::bs).map eJ.dv++[z]) 105 23,.ex 105):=λz=>p8 ab (by grind[bm]) (by grind[bm]);simp only[fO,N8]at c y|-;simp only[h,go_sem,d,F,t18,JR,E,y];grind
set_option maxHeartbeats 1000000
theorem SL{b:Int}:gb P .mul t (.int k a) (.int k b)=J (.int k (dN k (Int.mul a b))):=by show(if k=k then _ else Z)=_;rw[if_pos rfl];rfl
theorem amx{b:Int}(h:aj b 0=C):gb P .quo t (.int k a) (.int k b)=J (.int k (dN k (a.tdiv b))):=by show(if k=k then sD (cond _ _ _) _ else Z)=_;rw[if_pos rfl,h];rfl
theorem amy{b:Int}(h:aj b 0=C):gb P .rem t (.int k a) (.int k b)=J (.int k (a.tmod b)):=by show(if k=k then sD (cond _ _ _) _ else Z)=_;rw[if_pos rfl,h];rfl
theorem amA(a b:Int)(h:0<=b/\b<64):∃n,gb P .shr t (.int .i64 a) (.int .i64 b)=J (.int .i64 n):=by obtain⟨m,rfl⟩:∃m:Nat,b=m:=⟨b.toNat,ab⟩;exact⟨_,rfl⟩
theorem abw(a b:Int):∃n,gb P .xor t (.int .u32 a) (.int .u32 b)=J (.int .u32 n):=by exact⟨_,rfl⟩
theorem RW{x:Int}(h:0<=x/\x<9223372036854775808):dN .i64 x=x:=by obtain⟨m,rfl⟩:∃m:Nat,x=dk m:=⟨x.toNat,ai⟩;grind[AK]
theorem V1(g w:Int)(a:0<=g/\g<16)(b:1<=w/\w<=8):CC 33 [iD g,iD w] (vI (g*w/16)):=by refine aO func33 ?_;have h:0<=g*w:=Int.mul_nonneg a.1 ab;have c:g*w<=16*8:=Int.mul_le_mul ab b.2 ab ab;have e1:dN _ (Int.mul g w)=g*w:=RW (x:=g*w) ⟨h,ab⟩;have e2:(g*w).tdiv 16=g*w/16:=Int.tdiv_eq_ediv_of_nonneg h;have e3:dN _ _=g*w/16:=RW ab;simp only[go_sem,f33,SL,amx _,e1,e2,e3]
theorem aDa(g w:Int)(a:0<=g/\g<16)(b:1<=w/\w<=8):CC 68 [iD g,iD w] (.val (.tp [iO (g*w/16),iO 0]) .empty):=by
 have h:=V1 g w a b;have e0:aA g 0=C:=by grind[gL]
 have e1:aA g 16=V:=by grind[gL]
 have e2:(bif aA w 1 then C else !aA 8 w)=V:=by grind[gL]
 have k:=ahE [V,V,V] ai;simp only[fO,eG,oJ,nU,id,wm,aR]at k;refine aO func68 ?_;simp only[go_sem,f68,ahF,e0,e1,e2,y8,k,h]
theorem wrap_u32(x:Int):0<=dN .u32 x/\dN .u32 x<4294967296:=by grind[dN,IntKind.wrap,IntKind.signed,IntKind.bits]
def aAy{s:aC}:wZ 1 (.str s)=J (s.map λb=>.int .u8 (.ofNat b)):=rfl
theorem aa7{l:cF}{new:ao}(h:l.length+new.length<1100000):fu 5 1 1 (.ay (l.map (DV.int .u8)) 5 1) (.ex 5) new=J (.ay (l.map (DV.int .u8)++new) 5 1,.ex 5):=by grind[p8,bm]
def yM(i:Nat):Int:=56-8*i
theorem aDA(v:cM)(q:sA v.k v.n v.s=0)(u:v.s.length<1050000):cW (λr=>∃h:Int,(0<=h/\h<4294967296)/\r=.val (.tp [iO h,iO 0]) .empty) (ev PP cf (.call 34 [v.d] .no .empty)):=by
 have h:=OR v.k v.n v.s;rw[q]at h;refine fY func34 ?_;simp only[go_sem,f34,cM.d,cM.cells,h];apply cV<;>intro h
 . have e:=aa7 (l:=[dN .u8 v.k]) (new:=v.s.map λb=>.int .u8 (.ofNat b)) ai;have m:((v.s.map λb=>DV.int .u8 (.ofNat b)).all λy=>decide (y.flat.length=1))=V:=by simp[DV.flat]
   simp only[fO,eG]at e;simp only[h,go_sem,aAy,e,m];obtain⟨L,o,a,p⟩:∃L:cF,DV.int .u8 (dN .u8 v.k)::v.s.map (λb=>DV.int .u8 (.ofNat b))=L.map (DV.int .u8)/\L.length<1100000/\v.s.length+1=L.length:=⟨dN .u8 v.k::v.s.map dk,aT,ai,aP⟩;simp only[o,p];refine ni L (2166136261:Int) (λi s=>⟨34,52,[(40,iS i),(7,.dv (.int .u32 s) .no),(38,.dv (.ay (L.map (DV.int .u8)) 5 1) .no),(39,iS L.length)],[],.empty⟩) (λi _ s=>0<=s/\s<4294967296) ab rfl ab (λs I=>?_) (λi j l s d g f I c=>?_);.simp only[go_sem,RW (x:=s) ab,bz];grind
   .simp only[go_sem]at c;obtain⟨n,a⟩:=abw (P:=PP) (t:=154) s (dN .u32 j);simp only[go_sem,d,g,SL,a,f];grind[wrap_u32]
 . simp only[h,go_sem];refine ni (lT 8 ()) [dN .u8 v.k] (λi s=>⟨34,52,[(6,.dv (.int .i64 (yM i)) .no),(1,.lp 1 0),(5,.dv (.ay (s.map (DV.int .u8)) 5 1) (.ex 5))],[(1,⟨[iD v.k,iD v.n,.str v.s],[]⟩)],.empty⟩) (λi _ s=>s.length=i+1) ai rfl rfl (λs I=>?_) (λi j l s d g f I c=>?_)
   . have z:aA (yM 8) 0=V:=by rfl
     simp only[go_sem];apply cV<;>intro h;rotate_left;.grind
     simp only[h,go_sem];obtain⟨L,rfl,a⟩:∃L,L=s/\L.length<1100000:=⟨s,rfl,ai⟩;refine ni L (2166136261:Int) (λi s=>⟨34,52,[(40,iS i),(7,.dv (.int .u32 s) .no),(38,.dv (.ay (L.map (DV.int .u8)) 5 1) .no),(39,iS L.length)],[],.empty⟩) (λi _ s=>0<=s/\s<4294967296) ab rfl ab (λs I=>?_) (λi j l s d g f I c=>?_);.simp only[go_sem,RW (x:=s) ab,bz];grind
     .simp only[go_sem]at c;obtain⟨n,a⟩:=abw (P:=PP) (t:=154) s (dN .u32 j);simp only[go_sem,d,g,SL,a,f];grind[wrap_u32]
   . have k:i<8:=mI d;have z:aA (yM i) 0=C:=by grind[gL,yM]
     have w:dN .i64 (Int.sub (yM i) 8)=yM (i+1):=by
      have:Int.sub (yM i) 8=yM (i+1):=by grind[yM]
      rw[this];match i,k with|0,_|1,_|2,_|3,_|4,_|5,_|6,_|7,_=>rfl
     obtain⟨n,a⟩:=amA (P:=PP) (t:=3) v.n (yM i) (by grind[yM]);have e:=aa7 (l:=s) (new:=[.int .u8 (dN .u8 n)]) ai;have c:=c (s++[dN .u8 n]) aT;simp only[go_sem,pZ]at c;simp only[go_sem];apply cV<;>intro h;.simp_all
     simp only[h,go_sem,a,e,w];omega
theorem aC7(v:cM)(a:sA v.k v.n v.s=0)(l:v.s.length<1050000):cW (λr=>∃g:Int,(0<=g/\g<16)/\r=.val (.tp [iO g,iO 0]) .empty) (ev PP cf (.call 11 [v.d] .no .empty)):=by obtain⟨r,e,h,b,rfl⟩:=aDA v a l;simp only[cM.d,cM.cells]at e;refine fY func11 ?_;simp only[go_sem,f11,cM.d,cM.cells,e,amy _,bz];grind
def cM.vx(v:cM):Int:=match ev PP cf (.call 11 [v.d] .no .empty)with|some (.val (.tp [(.int _ g,_),_]) _)=>g|_=>0
theorem Pc(v:cM)(a:sA v.k v.n v.s=0)(h:v.s.length<1050000):(0<=v.vx/\v.vx<16)/\CC 11 [v.d] (.val (.tp [iO v.vx,iO 0]) .empty):=by obtain⟨r,e,g,b,rfl⟩:=aC7 v a h;grind[cM.vx]
def cM.te(v:cM)(w:Int):Int:=v.vx*w/16
theorem akc(v:cM)(w:Int)(h:0<=v.vx/\v.vx<16)(c:1<=w/\w<=8):0<=v.te w/\v.te w<w:=by have a:0<=v.vx*w:=Int.mul_nonneg h.1 ab;have b:v.vx*w<=15*w:=Int.mul_le_mul_of_nonneg_right ab ab;grind[cM.te]
theorem ahI(v:cM)(w:Int)(a:sA v.k v.n v.s=0)(l:v.s.length<1050000)(b:1<=w/\w<=8):CC 50 [v.d,iD w] (vI (v.te w)):=by obtain⟨h,e⟩:=Pc v a l;have e2:=aDa _ w h b;simp only[cM.d,cM.cells]at e;refine aO func50 ?_;simp only[go_sem,f50,cM.d,cM.cells,e,e2,cM.te]
set_option maxHeartbeats 2000000
def m9(t:Sl b9)(p:List eJ)(m:Sl Int)(k:Sl aF):GH:=⟨1,[(0,.box ⟨[cB t,xc p,cE m,kx k],[]⟩)]⟩
def agX(m:Sl Int):Int:=match m.l with|[]=>-1|a::l=>Fz a l
theorem aD1(F:Sl b9)(l:List eJ)(b:Sl Int)(x:aF)(T:∀p∈l,p7 p/\mw p.query)(O:l.length<1100000)(N:b.l.length<1100000)(i:x.e.sm):∃n,(aj n 0=V->sA x.key.k x.key.n x.key.s=0)/\∀s:Sl aF,ev PP cf (.call 165 [.ptr 0 0,x.d] .no (m9 F l b s))=J (.val (.dv (iD n) .no) (m9 F l b s)):=by have d1:=apE;have d6:=apG;have d10:=apF;simp only[bH,opsOf,f165,go_sem]at d1 d6 d10;have e0:=OR x.key.k x.key.n x.key.s;have e1:∀s:Sl aF,CC 120 [.agg [cE b,kx s]] (vI (agX b)):=λs=>aD3 ⟨b,s⟩ N;have e2:=aD7 x.e;simp only[cE,ew.d,ew.cells]at e1 e2;cases q:aA x.q 0 with|true=>refine⟨2,(λh=>by cases h),λs=>?_⟩;refine aO func165 ?_;simp only[go_sem,f165,m9,aF.d,aF.cells,d1,q]|false=>
 obtain⟨k,a⟩:∃k:Nat,x.q=dk k:=by
   rcases L:x.q with k|k;.grind
   .rw[L]at q;cases q
 rcases d:l[k]? with _|p
 . have:aA (.ofNat k) (.ofNat l.length)=C:=by grind[gL]
   refine⟨2,(λh=>by cases h),λs=>?_⟩;refine aO func165 ?_;rw[a]at q;simp only[go_sem,f165,m9,aF.d,aF.cells,d1,a,q,xc,this]
 have e:aA (.ofNat k) (.ofNat l.length)=V:=by grind[gL]
 rw[a]at q;cases c:aj (sA x.key.k x.key.n x.key.s) 0 with|false=>refine⟨sA x.key.k x.key.n x.key.s,(λh=>ai),λs=>?_⟩;refine aO func165 ?_;simp only[go_sem,f165,m9,aF.d,aF.cells,d1,a,q,xc,e,e0,c]|true=>obtain⟨I,o⟩:=T p (du d);obtain⟨r,e3,E,g3,rfl⟩:=aD6 p x.e I o (acu _ o.p) i;have c3:p.cells[3]?=J (cE p.query.key):=rfl;have D:p.cells[0]?=J (cB p.types):=rfl;have j:p.cells.length=23:=p.dE;have u:cg p.cells=V:=eJ.pure p;have y:p.dv=.agg p.cells:=rfl;have w:p.cells.take 23=p.cells:=ai;simp only[ew.d,ew.cells]at e3;cases g:aj E 0 with|false=>refine⟨E,(λh=>ai),λs=>?_⟩;generalize p.cells=A at*;refine aO func165 ?_;simp only[go_sem,f165,m9,aF.d,aF.cells,d1,d6,a,q,xc,e,e0,c,d,y,j,w,u,e3,g]|true=>cases U:aj x.e.mark (agX b)with|false=>refine⟨22,(λh=>by cases h),λs=>?_⟩;generalize p.cells=A at*;have e1:=e1 s;refine aO func165 ?_;simp only[go_sem,f165,m9,aF.d,aF.cells,d1,d6,d10,a,q,xc,e,e0,c,d,y,j,w,u,e3,g,e1,U]|true=>cases hid:(bif aj (.ofNat x.e.held.l.length) 0 then aj (.ofNat x.e.wait.l.length) 0 else C)with|true=>refine⟨21,(λh=>by cases h),λs=>?_⟩;generalize p.cells=A at*;have e1:=e1 s;rw[hid]at e2;refine aO func165 ?_;simp only[go_sem,f165,m9,aF.d,aF.cells,d1,d6,d10,a,q,xc,e,e0,c,d,y,j,w,u,e3,g,e1,U,e2]|false=>
   obtain⟨f,t,B⟩:∃f t,x.e.held.l++x.e.wait.l=f::t:=by cases M:x.e.held.l++x.e.wait.l with|cons f t=>grind|nil=>obtain⟨H,K⟩:=List.append_eq_nil_iff.1 M;rw[H,K]at hid;cases hid
   have R:f.lR.l.length<1000000000:=by
    have:f∈x.e.held.l++x.e.wait.l:=ai;rcases Co.1 this with h|h;.exact i.1.2.1.2 f h
    .exact i.1.1.2 f h
   have e6:=ahN x.e.held x.e.wait (by have:=i.2.1;omega);obtain⟨r,e7,v,z,m,rfl⟩:=V3 p.types p.query.key f I.t I.k R;rw[B,fO,N8]at e6;rw[hid]at e2;simp only[de,cB,cE,aN.d,aN.cells,cM.d,cM.cells]at e6 e7;simp only[de]at e2 e3;refine⟨bif aj m 0 then bif z then bif yJ v.k v.n v.s x.key.k x.key.n x.key.s then 0 else 16 else 16 else 16,(λ_=>tF c),λs=>?_⟩;have G:(0<t.length+1)=True:=ir (Nat.succ_pos _);simp only[cB,cE]at D c3;generalize p.cells=A at*;have e1:=e1 s;refine aO func165 ?_;simp only[go_sem,f165,m9,aF.d,aF.cells,d1,d6,d10,a,q,xc,e,e0,c,d,y,j,w,u,e3,g,e1,U,e2,de,e6,D,c3,e7,G];repeat'(with_reducible apply sp<;>intro h<;>simp only[h,go_sem,y9,y8])
open Classical in def Fg(t:Sl b9)(p:List eJ)(m:Sl Int)(x:aF):Int:=if h:∃n,(aj n 0=V->sA x.key.k x.key.n x.key.s=0)/\∀k:Sl aF,ev PP cf (.call 165 [.ptr 0 0,x.d] .no (m9 t p m k))=J (.val (.dv (iD n) .no) (m9 t p m k))then h.choose else 0
theorem Vp(t:Sl b9)(l:List eJ)(m:Sl Int)(x:aF)(c:∀p∈l,p7 p/\mw p.query)(a:l.length<1100000)(b:m.l.length<1100000)(d:x.e.sm):(aj (Fg t l m x) 0=V->sA x.key.k x.key.n x.key.s=0)/\∀k:Sl aF,ev PP cf (.call 165 [.ptr 0 0,x.d] .no (m9 t l m k))=J (.val (.dv (iD (Fg t l m x)) .no) (m9 t l m k)):=by have h:=aD1 t l m x c a b d;grind[Fg]
def BK(f:aF->Int):ah aF->List aF->Int|_,[]=>0|p,x::l=>bif aj (f x) 0 then(bif(match p with|some y=>!aA (y.cmp x) 0|none=>C)then 14 else BK f (J x) l)else f x
def jx(f:aF->Int)(m:Sl Int)(k:Sl aF):Int:=bif(bif aA (.ofNat m.l.length) 1 then V else aA 8 (.ofNat m.l.length))then 5 else bif m.l.any IV then 2 else bif aA 256 (.ofNat k.l.length)then 5 else BK f Z k.l
def Q9(l:List aF):Nat->ah aF|0=>Z|i+1=>l[i]?
theorem aDP(t:Sl b9)(a:List eJ)(m:Sl Int)(k:Sl aF)(T:∀p∈a,p7 p/\mw p.query)(f:a.length<1100000)(j:m.l.length<1100000)(A:k.l.length<1100000)(n:∀x∈k.l,x.e.sm):ev PP cf (.call 105 [.ptr 0 0] .no (m9 t a m k))=J (.val (.dv (iD (jx (Fg t a m) m k)) .no) (m9 t a m k)):=by
 have d13:=aps;simp only[bH,opsOf,f105,go_sem]at d13;have e0:∀g,ev PP cf (.call 163 [cE m,.func 164 [] []] .no g)=J (.val (.dv (.bool (m.l.any IV)) .no) g):=λg=>adB (d:=iD) (q:=IV) 164 [] [] g m.nl m.l ab (λx _=>.inr ⟨rfl,rfl,rfl,aD0 x⟩) (.inl rfl) (λ_=>⟨rfl,rfl⟩);have e1:=λx b=>(Vp t a m x T f j (n x b)).2 k;simp only[cE]at e0;simp only[m9,cB,cE,kx]at e1;refine aO func105 ?_;simp only[go_sem,f105,m9,jx,cB,cE,kx];repeat'(with_reducible apply sp<;>intro h<;>simp only[h,e0,go_sem,y9,y8])
 refine jn k.l (λi=>[(44,iS i)]) (λi l=>.val (.dv (iD (BK (Fg t a m) (Q9 k.l i) l)) .no) (m9 t a m k)) ab rfl (by rfl) ?_ (λi x l e b w r=>?_);.simp only[go_sem,BK,m9,cB,cE,kx]
 . have v:=mI e;have e1:=e1 x (du b);simp only[aF.d,aF.cells]at e1;simp only[go_sem,m9,cB,cE,kx,Q9,b]at r;simp only[go_sem,e,b,aF.d,aF.cells,e1,m9,cB,cE,kx,BK];apply sp<;>intro h;rotate_left;.simp only[h,go_sem]
   rcases i with _|i;.have z:aA 0 (dk 0)=C:=rfl;have u:aA 0 0=C:=rfl;simp only[h,go_sem,d13,u,Q9];grind
   . have z:aA 0 (dk (i+1))=V:=by rfl
     obtain⟨y,o⟩:∃y,k.l[i]?=J y:=⟨_,dA ab⟩;have s:=sub_succ i ab;have c:=aD2 y x;simp only[aF.d,aF.cells]at c;simp only[h,go_sem,d13,z,s,o,c,aF.d,aF.cells,Q9];apply sp<;>intro g;.simp only[g,go_sem,y9,w];omega
     .simp only[g,go_sem,y8]
structure Sn(o:bG):Prop where
 m:o.marks.l.length<1100000
 k:o.keys.l.length<1100000
 e:∀x∈o.keys.l,x.e.sm
def yz(p:dh):List eJ:=p.qs.l.map (uW p)
def vR(p:dh)(n:Int)(o:bG):Int:=bif aj n 0 then jx (Fg p.types (yz p) o.marks) o.marks o.keys else n
theorem aij{l:List eJ}:(xc l).pure=V:=nN (gT (λx=>show x.dv.pure=V from eJ.pure x) _)
theorem aGh{l:List eJ}:(xc l).flat=[xc l]:=acV
attribute[go_sem]aij aGh
theorem nv5(p:dh)(d:D' p):∃n,(aj n 0=V->∀q∈p.qs.l,p7 (uW p q))/\(∃t,t.pure=V/\∃o g,CC 21 [p.d] (.val (.tp [(t,o),iO n]) g))/\∀o,Sn o->∃g,CC 48 [p.d,o.d] (.val (.dv (iD (vR p n o)) .no) g):=by
 obtain⟨r,e0,hr⟩:=aDl p d;rcases hr with⟨w,n,g,f,rfl⟩|⟨T,w,g,i,rfl⟩
 . refine⟨n,aT,⟨_,rfl,w,g,e0⟩,λo a=>?_⟩;simp only[dh.d,dh.cells,cB]at e0;have e1:CC 67 [p.d,o.d] (.val (.tp [(.eN,.no),iO n]) .empty):=by refine aO func67 ?_;simp only[go_sem,f67,dh.d,dh.cells,bG.d,bG.cells,e0,f]
   simp only[dh.d,dh.cells,bG.d,bG.cells,cB,cE]at e1;refine Hf func48 ?_;simp only[go_sem,f48,dh.d,dh.cells,bG.d,bG.cells,e1,vR,f,NV]
 . refine⟨0,λ_=>T,⟨_,aij,w,g,e0⟩,λo a=>?_⟩;have b:∀x∈yz p,p7 x/\mw x.query:=λx j=>by obtain⟨q,b,rfl⟩:=au.1 j;exact⟨T q b,d.q q b⟩
   have e2:=aDP p.types (yz p) o.marks o.keys b (by show(p.qs.l.map _).length<_;rw[fZ];exact d.l) a.m a.k a.e;simp only[dh.d,dh.cells,cB]at e0;simp only[m9,cB,cE]at e2;generalize e:jx (Fg p.types (yz p) o.marks) o.marks o.keys=c at*;have e0:CC 21 [.agg [bw p.types.nl (p.types.l.map b9.d) 69 2,sh p.qs]] (.val (.tp [(xc (yz p),w),iO 0]) g):=e0;have e1:CC 67 [p.d,o.d] (.val (.tp [(bif aj c 0 then .ptr 0 0 else .eN,.no),iO c]) (m9 p.types (yz p) o.marks o.keys)):=by rcases i with rfl|rfl;all_goals
    refine aO func67 ?_;simp only[go_sem,f67,dh.d,dh.cells,bG.d,bG.cells,e0,m9,e2];apply sp<;>intro h;.have v:=tF h;simp only[v,go_sem]
    .simp only[h,go_sem]
   simp only[dh.d,dh.cells,bG.d,bG.cells,cB,cE]at e1;have z:aj 0 0=V:=rfl;refine Hf func48 ?_;rcases W:aj c 0 with _|_;.simp only[go_sem,f48,dh.d,dh.cells,bG.d,bG.cells,e1,vR,z,e,NV]
   simp only[go_sem,f48,dh.d,dh.cells,bG.d,bG.cells,e1,vR,z,e,NV]
def cpE(v:Sl aN)(h:v.l.length<1100000):∃o,(o=.ex 80\/v.l=[]/\o=.any)/\CC 106 [de v] (.val (.dv (de v) o) .empty):=Hu (.inr (.inl rfl)) (λ_=>rfl) v.nl v.l h
def cpV(v:Sl cM)(h:v.l.length<1100000):∃o,(o=.ex 46\/v.l=[]/\o=.any)/\CC 107 [yV v] (.val (.dv (yV v) o) .empty):=Hu (.inl rfl) (λ_=>rfl) v.nl v.l h
def cpB(v:Sl eD)(h:v.l.length<1100000):∃o,(o=.ex 184\/v.l=[]/\o=.any)/\CC 71 [ij v] (.val (.dv (ij v) o) .empty):=Hu (.inr (.inr (.inl rfl))) (λ_=>rfl) v.nl v.l h
def cpS(v:Sl fK)(h:v.l.length<1100000):∃o,(o=.ex 187\/v.l=[]/\o=.any)/\CC 72 [jQ v] (.val (.dv (jQ v) o) .empty):=Hu (.inr (.inr (.inr (.inl rfl)))) (λ_=>rfl) v.nl v.l h
def Tk(v:Sl Int)(h:v.l.length<1100000):∃o,(o=.ex 3\/v.l=[]/\o=.any)/\CC 29 [cE v] (.val (.dv (cE v) o) .empty):=Hu (.inr (.inr (.inr (.inr (.inl rfl))))) (λ_=>rfl) v.nl v.l h
theorem ahL(v:Sl aN)(g:v.l.length<1100000)(j:∀x∈v.l,x.lR.l.length<1100000):∃o,(o=.ex 80\/v.l=[]/\o=.any)/\CC 69 [de v] (.val (.dv (de v) o) .empty):=by
 obtain⟨o,h,e0⟩:=cpE v g;refine⟨o,h,?_⟩;rcases f:v.l with _|⟨a,t⟩;.simp only[de]at e0;refine aO func69 ?_;rcases h with rfl|⟨_,rfl⟩;all_goals
  simp only[go_sem,f69,de,e0];refine jn v.l (λi=>[(9,iS i)]) (λ_ _=>.val (.dv (bw v.nl (v.l.map aN.d) 80 5) _) .empty) ab rfl rfl ?_ (λi x l d b w c=>?_);.simp only[go_sem]
  grind
 have e:de v=.ay (v.l.map aN.d) 80 5:=by unfold de;rw[f];rfl
 obtain rfl:o=.ex 80:=ai;rw[e]at e0|-;refine aO func69 ?_;simp only[go_sem,f69,e0];refine jn v.l (λi=>[(9,iS i)]) (λ_ _=>.val (.dv (.ay (v.l.map aN.d) 80 5) (.ex 80)) .empty) ab rfl rfl ?_ (λi x l d b w c=>?_);.simp only[go_sem]
 .obtain⟨o,h,e1⟩:=cpV x.lR (j x (du b));have s:(v.l.map aN.d).take i++x.d::(v.l.map aN.d).drop (i+1)=v.l.map aN.d:=Ju ai;simp only[aN.d,aN.cells]at s;simp only[go_sem]at c;rcases h with rfl|⟨_,rfl⟩<;>simp only[go_sem,d,b,aN.d,aN.cells,e1,s,w,c]
set_option maxHeartbeats 4000000
def ew.cp(e:ew):Prop:=e.sm/\e.wait.l.length<1100000/\e.held.l.length<1100000/\e.runs.l.length<1100000/\(∀x∈e.wait.l,x.lR.l.length<1100000)/\∀x∈e.held.l,x.lR.l.length<1100000
theorem Hv{k n:Nat}{x:aM}{l:List (Nat×aM)}:cY ((k,x)::l) I n=bif decide (k<I)||decide (I+n<=k)then(k,x)::cY l I n else cY l I n:=by show List.filter _ _=_;rw[D4];rw[eQ,show bt _ k=decide (I+n<=k)from by rw[Bool.eq_iff_iff];simp];cases(decide (k<I)||decide (I+n<=k))<;>rfl
theorem aFr{v:DV}(h:v.aU=V):mK I v (.ex e)=[(I,.ex e)]:=by grind[mK]
attribute[go_sem]aFr
def ph(m e n i:Nat)(o:List (Nat×aM)):Prop:=(m*n,aM.full e)∈o/\∀j,m*i<=j->j<m*n->look o j=Z
theorem aAQ{l:List (Nat×aM)}{n:Nat}(h:look l j=Z):look (cY l I n) j=Z:=by induction l with|nil=>rfl|cons x l i=>grind[Hv,look]
section
variable{m e n i I:Nat}{x:aM}{ow:List (Nat×aM)}
theorem ph.up(h:ph m e n i ow):ph m e n (i+1) ow:=⟨h.1,λj b a=>h.2 j ai a⟩
theorem ph.cn(h:ph m e n i ow)(o:I<m*i):ph m e n i ((I,x)::ow):=⟨jR _ h.1,λj a b=>by rw[Dm,if_neg ab];exact h.2 j a b⟩
theorem ph.dr(h:ph m e n i ow)(o:I<m*n):ph m e n i (cY ow I 1):=by refine⟨bl.2 ⟨h.1,?_⟩,λj a b=>aAQ (h.2 j a b)⟩;grind[nw]
end
theorem KY{n:Nat}{L:ao}{i:Nat}{c:DV}(d:∀x∈L,x.flat.length=n)(h:L[i]?=J c)(b:j<n):(iL L)[i*n+j]?=c.flat[j]?:=by induction L generalizing i with|nil=>grind|cons a l e=>show(a.flat++iL l)[i*n+j]?=_;cases i<;>grind
theorem agt{u:iK}{f n:Nat}{a:cX}{l:dV}{d:ah Tmp}{i:Nat}{c:ao}{s:List (Nat×aM)}(h:AM.isAgg P t=J C)(j:look s I=Z):rQ P t u ⟨f,n,a,l,g⟩ d i I (.box ⟨c,s⟩)=(c[I]?).bind λv=>aG ⟨f,n,a,l,g.set i (.box ⟨c,s⟩)⟩ d (.dv v (JD u v)):=by cases s with|cons o s=>grind[agu]|nil=>
 have e:eu ⟨c,[]⟩ I=BV (c[I]?) Z:=by unfold eu;rcases c[I]? with _|v;rfl;cases v<;>rfl
 have e2:rQ P t u ⟨f,n,a,l,g⟩ d i I (.box ⟨c,[]⟩)=(fF P u t ⟨c,[]⟩ I).bind λr=>aG ⟨f,n,a,l,g.set i (.box r.2)⟩ d r.1:=by
  show(match u,eu _ _,AM.isAgg P t with|.ref,.ex _,J C=>_|_,_,_=>_)=_;rw[e];rcases c[I]? with _|v;.cases u<;>rfl
  cases v<;>cases u<;>rfl
 have e3:fF P u t ⟨c,[]⟩ I=(c[I]?).bind λd=>J (pg u ⟨c,[]⟩ I d (eu ⟨c,[]⟩ I)):=by grind[fF]
 rw[e2,e3,e];rcases b:c[I]? with _|v;.rfl
 cases v<;>cases u<;>rfl
def Ej(k:aF)(w:List (Nat×aM))(i:Nat)(o:List (Nat×aM)):St:=⟨51,63,[(36,iS i),(3,.dv (.ptr 0 4) .no),(2,.lp 2 0),(1,.dv (.ptr 0 0) .no),(35,iS k.e.runs.l.length)],[(2,⟨[iD 0,iD 0,iD 0,.str [],iD 0,.nl,.nl,.nl],[]⟩)],⟨2,[(0,.box ⟨[iD k.q,iD k.key.k,iD k.key.n,.str k.key.s,iD k.e.mark,de k.e.wait,.dY 1 0 k.e.runs.l.length 178 3,de k.e.held],w⟩),(1,.box ⟨iL (k.e.runs.l.map br.d),o⟩)]⟩⟩
theorem Fv{a:Type}{f:α->ah a}:cw f []=J []:=rfl
def Mo{c:Type}{f:α->ah c}{a:α}{l:List α}:cw f (a::l)=(f a).bind λb=>(cw f l).bind λt=>J (b::t):=rfl
theorem NI{nl:Bool}{n:Nat}:xq PP g (bw nl l e n)=J (bw nl l e n):=by
 unfold bw;split;.cases nl<;>rfl
 rfl
theorem ajZ{b m l i:Nat}{L:ao}(s:g.get b=J (.box ⟨iL L,ow⟩))(r:AM.isAgg PP e=J V)(u:1<=m)(t:L.length=l)(j:∀x∈L,x.flat.length=m/\.agg x.flat=x)(h:ph m e l i ow):xq PP g (.dY b 0 l e m)=J (.ay L e m):=by
 have o:bt (0+L.length*m) (iL L).length=V:=nw (by grind[O4,Nat.mul_comm]);have p:ow.any (λx=>isFull e x.2)=V:=List.any_eq_true.2 ⟨_,h.1,pw e⟩;have q:yG ⟨iL L,ow⟩ 0 L.length m V=L:=by
  unfold yG;apply GY;intro i;by_cases d:i<L.length;.obtain⟨c,a⟩:∃c,L[i]?=J c:=⟨_,dA d⟩;obtain⟨n,f⟩:=j c (du a);rw[ki,J2 d,a];show J (DV.agg _)=J c;rw[<-f];congr 2;apply GY;grind[KY]
  grind
 show(match g.get b,AM.isAgg PP e with|some (.box b),J k=>_|_,_=>Z)=_;grind[nw]
theorem amr:gb PP .eql 48 (.ay l 178 3) .nl=J (.bool C):=by rfl
theorem amv:gb PP .eql 48 .nl .nl=J (.bool V):=by rfl
theorem aD4(n:Bool)(g:GH):∃o,(o=.any\/o=.full 178)/\ev PP cf (.call 70 [bw n [] 178 3] .no g)=J (.val (.dv (bw n [] 178 3) o) g):=by cases n with|true=>refine⟨_,.inl rfl,?_⟩;show ev PP cf (.call 70 [.nl] _ g)=J (.val (.dv .nl _) g);refine aO func70 ?_;simp only[go_sem,f70,amv]|false=>refine⟨_,.inr rfl,?_⟩;show ev PP cf (.call 70 [.ay [] _ 3] _ g)=J (.val (.dv (.ay [] _ 3) _) g);have a:fu 178 3 56 (.ay [] 178 3) _ []=J (.ay [] _ 3,.full 178):=rfl;have r:rb [5,7] (J 7) (.ay [] 178 3) (.full 178) []=C:=rfl;refine aO func70 ?_;simp only[go_sem,f70,amr,a,r,nU]
theorem aFs{v:DV}:mK I v (.full e)=[]:=by simp[mK]
attribute[go_sem]aFs
theorem ahJ(k:aF)(Y:k.e.cp):∃g,CC 51 [k.d] (.val (.dv k.d .no) g):=by
 obtain⟨o,m,X,hr,E,D⟩:=Y;obtain⟨ow,M,e1⟩:=ahL k.e.wait m E;obtain⟨oh,P,e2⟩:=ahL k.e.held X D;have d2:=apu;have d7:=apv;simp only[bH,opsOf,f51,go_sem]at d2 d7;suffices W:cW (λr=>∃g,r=.val (.dv k.d .no) g) (ev PP cf (.call 51 [k.d] .no .empty))by obtain⟨r,e,g,rfl⟩:=W;exact⟨g,e⟩
 cases B:k.e.runs.l with|nil=>
 obtain⟨orr,A,e3⟩:=aD4 k.e.runs.nl ⟨1,[(0,.box ⟨k.cells,[]⟩)]⟩;have f:mQ k.e.runs=bw k.e.runs.nl [] 178 3:=by unfold mQ;rw[B];rfl
 have es:=abX k.e.runs;have T:=abW k.e.runs;rw[<-f]at e3;generalize F:mQ k.e.runs=R at*;simp only[aF.cells,F]at e3;refine Jh (q:=λr=>∃g,r=.val (.dv k.d .no) g) func51 rfl rfl rfl rfl rfl ?_ ?_
 . rintro r⟨g,rfl⟩;have v:=λ(g:GH)=>NI (g:=g) (nl:=k.e.wait.nl) (l:=k.e.wait.l.map aN.d) (e:=80) (n:=5);have z:=λ(g:GH)=>NI (g:=g) (nl:=k.e.held.nl) (l:=k.e.held.l.map aN.d) (e:=80) (n:=5);have O:∀g:GH,xq PP g R=J R:=λg=>by rw[f];exact NI
   have G:∀g k n,xq PP g (.int k n)=J (.int k n):=λ_ _ _=>rfl;have H:∀g s,xq PP g (.str s)=J (.str s):=λ_ _=>rfl;refine⟨.val (.dv k.d .no) ⟨g.next,[]⟩,?_,_,rfl⟩;simp only[aF.d,aF.cells,F];show Option.map _ (Option.map _ (cw _ _))=_;simp only[de,Mo,Fv,v,z,O,G,H,cR,gJ]
 . have uH:nd R=J 0:=by rw[f];cases k.e.runs.nl<;>rfl
   rcases M with rfl|⟨_,rfl⟩<;>rcases P with rfl|⟨_,rfl⟩<;>rcases A with rfl|rfl;all_goals simp only[go_sem,f51,aF.d,aF.cells,F,d2,e1,e2,e3,T,Hv,uH];refine M5 ?_;simp only[go_sem,bz];exact⟨_,rfl⟩|cons a t=>
 have f:mQ k.e.runs=.ay (k.e.runs.l.map br.d) 178 3:=by unfold mQ;rw[B];rfl
 have u:∀x∈k.e.runs.l.map br.d,x.flat.length=3/\DV.agg x.flat=x:=λx b=>by obtain⟨y,_,rfl⟩:=au.1 b;exact⟨rfl,rfl⟩
 have e3:=λg=>S9 (d:=br.d) (.inl rfl) (λx=>rfl) k.e.runs.l g (by rw[B];simp) hr;refine Jh (q:=λr=>∃w ow,ph 3 178 k.e.runs.l.length k.e.runs.l.length ow/\r=.val (.dv (.agg [iD k.q,iD k.key.k,iD k.key.n,.str k.key.s,iD k.e.mark,de k.e.wait,.dY 1 0 k.e.runs.l.length 178 3,de k.e.held]) .no) (⟨2,[(0,.box ⟨[iD k.q,iD k.key.k,iD k.key.n,.str k.key.s,iD k.e.mark,de k.e.wait,.dY 1 0 k.e.runs.l.length 178 3,de k.e.held],w⟩),(1,.box ⟨iL (k.e.runs.l.map br.d),ow⟩)]⟩)) func51 rfl rfl rfl rfl rfl ?_ ?_;.rintro r⟨w,ow,I,rfl⟩;have v:=λ(g:GH)=>NI (g:=g) (nl:=k.e.wait.nl) (l:=k.e.wait.l.map aN.d) (e:=80) (n:=5);have z:=λ(g:GH)=>NI (g:=g) (nl:=k.e.held.nl) (l:=k.e.held.l.map aN.d) (e:=80) (n:=5);have G:∀g k n,xq PP g (.int k n)=J (.int k n):=λ_ _ _=>rfl;have H:∀g s,xq PP g (.str s)=J (.str s):=λ_ _=>rfl;have u3:∀x n,xq PP ⟨n,[(0,x),(1,.box ⟨iL (k.e.runs.l.map br.d),ow⟩)]⟩ (.dY 1 0 k.e.runs.l.length 178 3)=J (.ay (k.e.runs.l.map br.d) 178 3):=λx n=>ajZ rfl (by rfl) fD (fZ _) u I;refine⟨.val (.dv k.d .no) ⟨2,[]⟩,?_,_,rfl⟩;simp only[aF.d,aF.cells,f];show Option.map _ (Option.map _ (cw _ _))=_;simp only[de,Mo,Fv,v,z,G,H,u3,cR,gJ]
 .rcases M with rfl|⟨_,rfl⟩<;>rcases P with rfl|⟨_,rfl⟩;all_goals
   simp only[go_sem,f51,aF.d,aF.cells,d2,e1,e2,f,e3,Hv];first|refine ni k.e.runs.l _ (Ej k [(7,.ex 80),(5,.ex 80)]) (λi _ ow=>ph 3 178 k.e.runs.l.length i ow) ab rfl ?_ (λow I=>?_) (λi x l ow c b m I p=>?_)|refine ni k.e.runs.l _ (Ej k [(7,.ex 80)]) (λi _ ow=>ph 3 178 k.e.runs.l.length i ow) ab rfl ?_ (λow I=>?_) (λi x l ow c b m I p=>?_)|refine ni k.e.runs.l _ (Ej k [(5,.ex 80)]) (λi _ ow=>ph 3 178 k.e.runs.l.length i ow) ab rfl ?_ (λow I=>?_) (λi x l ow c b m I p=>?_)|refine ni k.e.runs.l _ (Ej k []) (λi _ ow=>ph 3 178 k.e.runs.l.length i ow) ab rfl ?_ (λow I=>?_) (λi x l ow c b m I p=>?_)
   .exact⟨gv,λj _ h=>by rw[Dm,if_neg ab];rfl⟩
   .simp only[Ej,go_sem,bz];exact⟨_,_,I,rfl⟩
   . obtain⟨ob,U,e4⟩:=cpB x.bs (o.2.2 x (du b)).1;obtain⟨os,vF,e5⟩:=cpS x.ss (o.2.2 x (du b)).2;have n1:look ow (i*3+1)=Z:=I.2 _ ab (by have:=mI c;omega);have n2:look ow (i*3+2)=Z:=I.2 _ ab (by have:=mI c;omega);have N:(k.e.runs.l.map br.d)[i]?=J x.d:=by rw[ki,b];rfl
     have K:(iL (k.e.runs.l.map br.d))[i*3+1]?=J (ij x.bs):=KY (λx b=>(u x b).1) N fD;have L:(iL (k.e.runs.l.map br.d))[i*3+2]?=J (jQ x.ss):=KY (λx b=>(u x b).1) N fD;have kr:(iL (k.e.runs.l.map br.d)).length=3*k.e.runs.l.length:=by rw[O4 λx b=>(u x b).1,fZ]
     have gd:=mI c;have s1:(iL (k.e.runs.l.map br.d)).take (i*3+1)++ij x.bs::(iL (k.e.runs.l.map br.d)).drop (i*3+1+1)=iL (k.e.runs.l.map br.d):=Ju K;have s2:(iL (k.e.runs.l.map br.d)).take (i*3+2)++jQ x.ss::(iL (k.e.runs.l.map br.d)).drop (i*3+2+1)=iL (k.e.runs.l.map br.d):=Ju L;have Q:(i*3+1+1<=(iL (k.e.runs.l.map br.d)).length)=True:=ir ab;have S:(i*3+2+1<=(iL (k.e.runs.l.map br.d)).length)=True:=ir ab;simp only[Ej,go_sem]at p;rcases U with rfl|⟨_,rfl⟩<;>rcases vF with rfl|⟨_,rfl⟩;all_goals simp only[Ej,go_sem,c,d7,agt,n1,n2,K,L,e4,e5,s1,s2,Q,S,m];refine p _ ?_;repeat(first|exact I.up|refine ph.cn ?_ ab|refine ph.dr ?_ ab)
def ix(s:List (DV×DV)):ao:=s.flatMap λp=>[p.1,p.2]
theorem Nb{p:DV×DV}:ix (p::ps)=p.1::p.2::ix ps:=rfl
theorem Nc(p:List (DV×DV)):(ix p).length=2*p.length:=by induction p with|nil=>rfl|cons a l i=>grind[Nb]
theorem Zx{i:Nat}{p:DV×DV}(h:ps[i]?=J p):(ix ps)[i*2]?=J p.1/\(ix ps)[i*2+1]?=J p.2:=by induction ps generalizing i<;>grind[Nb]
theorem Ro{i:Nat}{p:DV×DV}{v:DV}(h:ps[i]?=J p):iH (ix ps) (i*2) v=ix (ps.set i (v,p.2))/\iH (ix ps) (i*2+1) v=ix (ps.set i (p.1,v)):=by induction ps generalizing i with|nil=>grind|cons a l b=>
 rcases i with _|i;.cases h;exact⟨rfl,rfl⟩
 have:=b h;rw[show(i+1)*2=i*2+1+1 by omega,Nb,List.set_cons_succ,List.set_cons_succ,Nb,Nb,<-this.1,<-this.2];exact⟨rfl,rfl⟩
theorem aIk(s:List (DV×DV))(o:List (Nat×aM)):yG ⟨ix s,o⟩ 0 s.length 2 V=s.map λp=>.agg [p.1,p.2]:=by
 unfold yG;apply GY;intro i;by_cases h:i<s.length;.obtain⟨p,a⟩:∃p,s[i]?=J p:=⟨_,dA h⟩;rw[ki,J2 h,ki,a];show J (DV.agg _)=J _;congr 2;apply GY;intro j;match j with|0=>grind[Zx]|1=>simp_all[Zx]|j+2=>grind
 grind
theorem aIl(n:Nat):(lT n (DV.agg [.nl,.nl])).flatMap DV.flat=ix (lT n (.nl,.nl)):=by induction n with|zero=>rfl|succ n i=>rw[List.replicate_succ,List.replicate_succ,GZ,i];rfl
theorem aAa{f n:Nat}{s:cX}{l:dV}{d:ah Tmp}{i:Nat}{c:ao}{o:List (Nat×aM)}(h:AM.isAgg P t=J C)(a:c[I]?=J .nl):rQ P t .take ⟨f,n,s,l,g⟩ d i I (.box ⟨c,o⟩)=aG ⟨f,n,s,l,g.set i (.box ⟨c,o⟩)⟩ d (.dv .nl .any):=by
 have e:eu ⟨c,o⟩ I=.any:=by grind[eu]
 rw[agv];unfold fF;rw[h];rw[a,e];rfl
theorem aAR{l:List (Nat×aM)}{n:Nat}(h:j<I\/I+n<=j):look (cY l I n) j=look l j:=by induction l<;>grind[cY,Hv,Dm]
theorem VJ{l:List (Nat×aM)}{n:Nat}{x:aM}(h:(j,x)∈l)(a:I+n<=j):(j,x)∈cY l I n:=by refine bl.2 ⟨h,?_⟩;simp_all
def sH(l:List aF):DV:=bw V (l.map aF.d) 52 8
def M'(M:DV)(n i:Nat)(s:List (DV×DV)×List (Nat×aM)):Prop:=s.1.length=n/\(2*n,aM.full 35)∈s.2/\∀j,j<n->s.1[j]?=J (if j<i then M else .nl,.nl)
def Gb(M:DV)(n:Nat)(p:Nat->List aF)(s:List (DV×DV)×List (Nat×aM)):Prop:=s.1.length=n/\(2*n,aM.full 35)∈s.2/\∀j,j<n->s.1[j]?=J (M,sH (p j))/\(p j≠[]->look s.2 (j*2+1)=J (.ex 52))
def prt(o:bG)(w i j:Nat):List aF:=(o.keys.l.take i).filter λx=>decide (x.key.te w=j)
def Nq(o:bG)(w:Nat)(i:Nat)(s:List (DV×DV)×List (Nat×aM)):St:=⟨28,51,[(14,iS i),(2,.lp 2 0),(5,.dv (.dY 0 0 w 35 2) .no),(1,iS w),(13,iS w)],[(2,⟨[cE o.marks,kx o.keys],[]⟩)],⟨1,[(0,.box ⟨ix s.1,s.2⟩)]⟩⟩
def Np(o:bG)(w:Nat)(i:Nat)(s:List (DV×DV)×List (Nat×aM)):St:=⟨28,51,[(28,iS i),(5,.dv (.dY 0 0 w 35 2) .no),(1,iS w),(26,.dv (kx o.keys) .no),(27,iS o.keys.l.length)],[],⟨1,[(0,.box ⟨ix s.1,s.2⟩)]⟩⟩
theorem M'.st{M:DV}{n i:Nat}(h:M' M n i (ps,ow))(d:i<n)(l:List (Nat×aM)):M' M n (i+1) (ps.set i (M,.nl),l++cY ow (i*2) 1):=by obtain⟨b,a,c⟩:=h;refine⟨ai,Sj _ (VJ a ab),λj e=>?_⟩;grind
theorem aAP{k:Nat}(h:k≠j):look (cY ow (j*2+1) 1) (k*2+1)=look ow (k*2+1):=by grind[aAR]
theorem Gb.st{M:DV}{n:Nat}{p:Nat->List aF}{I:List (Nat×aM)}(h:Gb M n p (ps,ow))(g:j<n)(x:aF)(a:Nat->List aF)(c:∀k,a k=if k=j then p j++[x]else p k)(o:I=ow\/I=cY ow (j*2+1) 1):Gb M n a (ps.set j (M,.ay ((p j++[x]).map aF.d) 52 8),(j*2+1,.ex 52)::cY I (j*2+1) 1):=by
 obtain⟨b,d,f⟩:=h;have b:ps.length=n:=b;have m:(2*n,aM.full 35)∈I:=by grind[VJ]
 refine⟨ai,jR _ (VJ m ab),λk i=>?_⟩;rw[c k,List.getElem?_set];by_cases e:j=k;.subst e;rw[if_pos rfl,if_pos ab,if_pos rfl];exact⟨by unfold sH;rw[pZ];cases(p j).map _<;>rfl,λ_=>by simp[Dm]⟩
 grind[Dm,aAP]
theorem aiq{o:bG}{w i k:Nat}{x:aF}(a:o.keys.l[i]?=J x)(h:x.key.te w=dk j):prt o w (i+1) k=if k=j then prt o w i j++[x]else prt o w i k:=by grind[prt,G2]
theorem aDk(o:bG)(w:Nat)(T:1<=w/\w<=8)(R:o.marks.l.length<1100000)(hk:o.keys.l.length<1100000)(hx:∀x∈o.keys.l,x.e.cp/\sA x.key.k x.key.n x.key.s=0/\x.key.s.length<1050000):cW (λr=>∃g,r=.val (.dv (.ay ((rq w).map λj=>bG.d ⟨o.marks,⟨V,prt o w o.keys.l.length j⟩⟩) 35 2) .no) g) (ev PP cf (.call 28 [o.d,.int .i64 (.ofNat w)] .no .empty)):=by
 obtain⟨om,vE,e1⟩:=Tk o.marks R;have d11:=ao7;simp only[bH,opsOf,f28,go_sem]at d11;simp only[cE]at e1;refine Jh (q:=λr=>∃ps ow,Gb (cE o.marks) w (prt o w o.keys.l.length) (ps,ow)/\r=.val (.dv (.dY 0 0 w 35 2) .no) ⟨1,[(0,.box ⟨ix ps,ow⟩)]⟩) func28 rfl rfl rfl rfl rfl ?_ ?_
 . rintro r⟨ps,ow,⟨b,A,m⟩,rfl⟩;have b:ps.length=w:=b;have R:(ps.map λp=>DV.agg [p.1,p.2])=(rq w).map λj=>bG.d ⟨o.marks,⟨V,prt o w o.keys.l.length j⟩⟩:=by
     apply GY;intro j;rw[ki,ki];by_cases n:j<w;.have:=(m j n).1;rw[show ps[j]?=_ from this,J2 n];rfl
     .rw[ce ab,ce (by simp;omega)];rfl
   have a1:bt (0+w*2) (ix ps).length=V:=nw (by rw[Nc];omega);have a2:ow.any (λx=>isFull 35 x.2)=V:=List.any_eq_true.2 ⟨_,A,rfl⟩;have U:=aIk ps ow;rw[b,R]at U;refine⟨.val (.dv (.ay ((rq w).map λj=>bG.d ⟨o.marks,⟨V,prt o w o.keys.l.length j⟩⟩) 35 2) .no) ⟨1,[]⟩,?_,_,rfl⟩;show(bif bt (0+w*2) (ix ps).length&&bt 1 2&&(V||aw 2 1)&&ow.any (λx=>isFull 35 x.2)then J (DV.ay (yG ⟨ix ps,ow⟩ 0 w 2 V) 35 2)else Z).map _=_;rw[a1,a2,U];rfl
 . have D:(w*48<=bm)=True:=ir (by simp only[bm];omega);have K:(w<=bm)=True:=ir (by simp only[bm];omega);simp only[go_sem,f28,bG.d,bG.cells,cE,kx,aIl,Nc,xE,D,K];refine ni (lT w ()) (lT w (.nl,.nl),[(2*w,.full 35)]) (Nq o w) (λi _ s=>M' (cE o.marks) w i s) (by rw[xE];omega) rfl ⟨aP,aP,λj n=>by rw[if_neg (N3 _),List.getElem?_replicate,if_pos n]⟩ (λs I=>?_) (λi x l s N hx T I c=>?_)
   . obtain⟨ps,ow⟩:=s;simp only[Nq,go_sem,xE,kx];obtain⟨b,A,m⟩:=I;rw[xE]at m;refine ni o.keys.l (ps,ow) (Np o w) (λi _ s=>Gb (cE o.marks) w (prt o w i) s) ab rfl ⟨b,A,λj n=>⟨by rw[m j n,if_pos n];rfl,λh=>absurd rfl h⟩⟩ (λs I=>?_) (λi x l s N E ku I c=>?_);.simp only[Np,go_sem,bz];exact⟨_,_,I,rfl⟩
     .obtain⟨ps,ow⟩:=s;obtain⟨b,A,m⟩:=I;have b:ps.length=w:=b;obtain⟨Q,Y,X⟩:=hx x (du E);have e2:=ahI x.key w Y X ab;obtain⟨g3,e3⟩:=ahJ x Q;obtain⟨q1,q2⟩:=akc x.key w (Pc x.key Y X).1 ab;obtain⟨j,n⟩:∃j:Nat,x.key.te w=dk j:=⟨(x.key.te w).toNat,(Se q1).symm⟩;rw[n]at e2 q2;have H:j<w:=Int.ofNat_lt.1 q2;have G:(j<w)=True:=ir H;obtain⟨u,S⟩:=m j H;have u:ps[j]?=J (cE o.marks,sH (prt o w i j)):=u;have z:=(Zx u).2;have kr:=Nc ps;have D:(j*2+1+1<=(ix ps).length)=True:=ir ab;simp only[cM.d,cM.cells]at e2;simp only[aF.d,aF.cells]at e3;simp only[Np,go_sem,kx]at c;have e2:CC 50 [.agg [.int .i64 x.key.k,.int .i64 x.key.n,.str x.key.s],.int .i64 (.ofNat w)] (vI (.ofNat j)):=e2;cases P:prt o w i j with|nil=>rw[P]at z u;have z:(ix ps)[j*2+1]?=J .nl:=z;simp only[Np,go_sem,N,E,aF.d,aF.cells,kx,e2,d11,e3,G,aAa,z,D];have B:∀d,(ix ps).take (j*2+1)++d::(ix ps).drop (j*2+1+1)=ix (ps.set j (cE o.marks,d)):=λd=>(Ro u).2;have hr:=Gb.st ⟨b,A,m⟩ H x (prt o w (i+1)) (λk=>aiq E n) (.inl rfl);rw[P]at hr;have c:=c (_,_) hr;simp only[jJ,fO,eG,aF.d,aF.cells]at c;simp only[B,ku];exact c|cons y t=>
     have S:=S (by rw[P];simp);have hr:=Gb.st ⟨b,A,m⟩ H x (prt o w (i+1)) (λk=>aiq E n) (.inr rfl);have cT:(prt o w i j).length<=o.keys.l.length:=gw (Sh _ _) (by rw[uj];omega);rw[P]at z u hr cT;have z:(ix ps)[j*2+1]?=J (.ay ((y::t).map aF.d) 52 8):=z;have W:fu 52 8 120 (.ay ((y::t).map aF.d) 52 8) (.ex 52) [x.d]=J (.ay ((y::t).map aF.d++[x.d]) 52 8,.ex 52):=p8 fD (by rw[fZ];simp[bm]at*;omega) (by rw[fZ];simp[bm]at*;omega);have s0:∀d,(ix ps).take (j*2+1)++d::(ix ps).drop (j*2+1+1)=ix (ps.set j (cE o.marks,d)):=λd=>(Ro u).2;have PL:(ps.set j (cE o.marks,DV.jk))[j]?=J (cE o.marks,.jk):=by rw[List.getElem?_set,if_pos rfl,if_pos ab]
     have B:∀d,(ix (ps.set j (cE o.marks,DV.jk))).take (j*2+1)++d::(ix (ps.set j (cE o.marks,DV.jk))).drop (j*2+1+1)=ix (ps.set j (cE o.marks,d)):=λd=>by have:=(Ro (v:=d) PL).2;rw[List.set_set]at this;exact this
     have K:(j*2+1+1<=(ix (ps.set j (cE o.marks,DV.jk))).length)=True:=ir (by rw[Nc,List.length_set];omega);have lb:fF PP .take 33 ⟨ix ps,ow⟩ (j*2+1)=J (.dv (.ay ((y::t).map aF.d) 52 8) (.ex 52),⟨ix (ps.set j (cE o.marks,DV.jk)),cY ow (j*2+1) 1⟩):=by
      have e:eu ⟨ix ps,ow⟩ (j*2+1)=.ex 52:=by unfold eu;rw[z];show(look ow _).getD .no=_;rw[show look ow (j*2+1)=_ from S];rfl
      unfold fF;rw[show AM.isAgg PP 33=J C by rfl];show((ix ps)[j*2+1]?).map _=_;rw[z,e,<-s0 .jk];rfl
     have c:=c (_,_) hr;rw[pZ,fO (f:=aF.d) (a:=x),eG]at c;generalize(y::t).map aF.d=L at*;simp only[aF.d,aF.cells,cE]at c W B K lb;simp only[Np,go_sem,N,E,aF.d,aF.cells,kx,e2,d11,e3,G,lb,B,K,W,ku];exact c
   . obtain⟨ps,ow⟩:=s;obtain⟨b,A,m⟩:=I;have O:i<w:=by have:=mI N;rwa[xE]at this
     have u:=m i O;rw[if_neg (Nat.lt_irrefl _)]at u;have F:(i<w)=True:=ir O;simp only[Nq,go_sem,cE,kx]at c;have kr:=Nc ps;have b:ps.length=w:=b;have D:(i*2+1<=(ix ps).length)=True:=ir ab;have B:(ix ps).take (i*2)++bw o.marks.nl (o.marks.l.map iD) 3 1::(ix ps).drop (i*2+1)=ix (ps.set i (bw o.marks.nl (o.marks.l.map iD) 3 1,.nl)):=(Ro u).1;have hr:=M'.st (M:=cE o.marks) ⟨b,A,m⟩ O;simp only[cE]at hr;rcases vE with rfl|⟨_,rfl⟩;.simp only[Nq,go_sem,cE,kx,F,e1,vk,D,B,T];exact c (_,_) (hr [(i*2,.ex 3)])
     .simp only[Nq,go_sem,cE,kx,F,e1,vk,D,B,T];exact c (_,_) (hr [])
end Go.VM
namespace Go.VM
open Go Go.AM
variable{α:Type}{a:Int}{l:List bG}
structure Ck{α:Type}(c:α->α->Int):Prop where
 neg:∀a b,c a b=-c b a
 tr:∀a b d,c a b<0->c b d<0->c a d<0
 Kz:∀a b d,c a b=0->c a d=c b d
theorem Ox(a b:Int):iB a b=if a<b then-1 else if b<a then 1 else 0:=by
 simp only[iB,gL];by_cases h:a<b;.simp[h]
 .by_cases k:b<a<;>simp[h,k]
theorem S'(f:α->Int):Ck λa b=>iB (f a) (f b):=⟨λa b=>by simp only[Ox];grind,λa b d=>by simp only[Ox];grind,λa b d=>by simp only[Ox];grind⟩
theorem Bc{x y:Nat}{a b:aC}:cmpL (x::a) (y::b)=if x<y then-1 else if y<x then 1 else cmpL a b:=by
 show(bif ct x y then(-1:Int)else bif ct y x then 1 else cmpL a b)=_;rw[eQ,eQ];by_cases h:x<y;.simp[h]
 .by_cases k:y<x<;>simp[h,k]
def an5:cmpL [] []=0:=rfl
def Tb{y:Nat}{b:aC}:cmpL [] (y::b)=-1:=rfl
def Ku{x:Nat}{a:aC}:cmpL (x::a) []=1:=rfl
theorem Tc:Ck cmpL:=by
 refine⟨?_,?_,?_⟩;.intro a;induction a with|nil=>intro b;cases b<;>rfl|cons x a i=>intro b;cases b with|nil=>rfl|cons y b=>rw[Bc,Bc,i b];grind
 .intro a;induction a with
 |nil=>intro b d;cases d with|nil=>cases b<;>simp[an5,Tb,Ku]|cons z d=>simp[Tb]
 |cons x a i=>intro b d;cases b with|nil=>simp[Ku]|cons y b=>cases d with|nil=>simp[Ku]|cons z d=>rw[Bc,Bc,Bc];have:=i b d;grind
 .intro a;induction a with|nil=>intro b d;cases b<;>simp[Tb]|cons x a i=>intro b d;cases b with|nil=>simp[Ku]|cons y b=>cases d with|nil=>simp[Ku]|cons z d=>rw[Bc,Bc,Bc];have:=i b d;grind
def an6(f:α->aC):Ck λa b=>cmpL (f a) (f b):=⟨λa b=>Tc.neg _ _,λa b d=>Tc.tr _ _ _,λa b d=>Tc.Kz _ _ _⟩
theorem Vv{f g:α->α->Int}(c:Ck f)(i:Ck g):Ck λa b=>bif aj (f a b) 0 then g a b else f a b:=by
 have e:(λa b=>bif aj (f a b) 0 then g a b else f a b)=λa b=>if f a b=0 then g a b else f a b:=by funext a b;rw[iZ];by_cases h:f a b=0<;>simp[h]
 rw[e];refine⟨λa b=>?_,λa b d=>?_,λa b d=>?_⟩;.have x:=c.neg a b;have y:=i.neg a b;grind
 .have x:=c.neg a b;have y:=c.neg a d;have z:=c.tr a b d;have u:=c.Kz a b d;have v:=c.Kz b d a;have w:=i.tr a b d;have t:=c.neg b d;have s:=c.neg d a;grind
 .have u:=c.Kz a b d;have w:=i.Kz a b d;grind
def ak1(f:α->cM):Ck λa b=>(f a).cmp (f b):=Vv (S' λa=>(f a).k) (Vv (S' λa=>(f a).n) (an6 λa=>(f a).s))
def N1:Ck aF.cmp:=Vv (S' λa:aF=>a.q) (ak1 λa:aF=>a.key)
def tB:List aF->Prop:=List.Pairwise λa b=>a.cmp b<0
def mF:Nat->List aF->List aF->List aF|0,a,b=>a++b|_+1,[],b=>b|_+1,a,[]=>a|n+1,x::a,y::b=>bif aA 0 (x.cmp y)then y::mF n (x::a) b else x::mF n a (y::b)
def IX{b:List aF}:∀{n:Nat},mF n [] b=b|0=>rfl|_+1=>rfl
theorem QD{a:List aF}:∀{n:Nat},mF n a []=a|0=>kD a|_+1=>by cases a<;>rfl
theorem IW:∀(n:Nat)(a b:List aF)(z:aF),z∈mF n a b↔z∈a\/z∈b|0,a,b,z=>Co|_+1,[],b,z=>by rw[IX];simp|_+1,x::a,[],z=>by rw[QD];simp|n+1,x::a,y::b,z=>by show z∈(bif aA 0 (x.cmp y)then y::mF n (x::a) b else x::mF n a (y::b))↔_;cases aA 0 (x.cmp y)with|true=>rw[aR,Cp,IW n];grind|false=>rw[bX,Cp,IW n];grind
theorem VN:∀(n:Nat)(a b:List aF),(mF n a b).length=a.length+b.length|0,a,b=>ib|_+1,[],b=>by rw[IX];simp|_+1,x::a,[]=>by rw[QD];simp|n+1,x::a,y::b=>by show(bif aA 0 (x.cmp y)then y::mF n (x::a) b else x::mF n a (y::b)).length=_;cases aA 0 (x.cmp y)with|true=>rw[aR,dH,VN n];simp only[dH];omega|false=>rw[bX,dH,VN n];simp only[dH];omega
theorem VL:∀(n:Nat)(a b:List aF),a.length+b.length<=n->tB a->tB b->(∀x∈a,∀y∈b,x.cmp y≠0)->tB (mF n a b)|0,[],[],_,_,_,_=>List.Pairwise.nil|0,_::_,_,d,_,_,_=>absurd d aP|0,[],_::_,d,_,_,_=>absurd d aP|_+1,[],b,_,_,g,_=>by rw[IX];exact g|_+1,x::a,[],_,f,_,_=>by rw[QD];exact f|n+1,x::a,y::b,d,f,g,hd=>by simp only[dH]at d;obtain⟨k,m⟩:=be.1 f;obtain⟨l,o⟩:=be.1 g;have p:=hd x gv y gv;have P:=N1.neg y x;show tB (bif aA 0 (x.cmp y)then y::mF n (x::a) b else x::mF n a (y::b));cases h:aA 0 (x.cmp y)with
 |true=>
 rw[gL]at h;have h:=uU h;rw[aR];refine be.2 ⟨λz c=>?_,VL n (x::a) b (by simp only[dH];omega) f o λu i v j=>hd u i v (jR _ j)⟩;have e:y.cmp x<0:=ab;rcases(IW n _ _ z).1 c with c|c
 . rcases Cp.1 c with rfl|c;.exact e
   .exact N1.tr _ _ _ e (k z c)
 .exact l z c|false=>
 rw[gL]at h;have h:=of_decide_eq_false h;rw[bX];refine be.2 ⟨λz c=>?_,VL n a (y::b) (by simp only[dH];omega) m g λu i v j=>hd u (jR _ i) v j⟩;have t:x.cmp y<0:=ab;rcases(IW n _ _ z).1 c with c|c;.exact k z c
 . rcases Cp.1 c with rfl|c;.exact t
   .exact N1.tr _ _ _ t (l z c)
def vQ:List (List aF)->List aF->List aF|[],o=>o|k::l,o=>vQ l (mF (o.length+k.length) o k)
theorem ag3:∀(l:List (List aF))(o:List aF)(z:aF),z∈vQ l o↔z∈o\/∃k∈l,z∈k|[],o,z=>by simp[vQ]|k::l,o,z=>by rw[vQ,ag3 l,IW];grind
theorem ag1:∀(l:List (List aF))(o:List aF),tB o->(∀k∈l,tB k)->(∀k∈l,∀x∈o,∀y∈k,x.cmp y≠0)->l.Pairwise (λa b=>∀x∈a,∀y∈b,x.cmp y≠0)->tB (vQ l o)
 |[],o,h,_,_,_=>h|k::l,o,h,e,hd,p=>by
  obtain⟨g,i⟩:=be.1 p;rw[vQ];refine ag1 l _ (VL _ _ _ (bS _) h (e k gv) (hd k gv)) (λq d=>e q (jR _ d)) (λq d x c y f=>?_) i;rcases(IW _ _ _ x).1 c with c|c;.exact hd q (jR _ d) x c y f
  .exact g q d x c y f
theorem afZ{b:Type}(f:b->Bool):∀(l:List b)(i j:Nat)(x:b),l[j]?=J x->f x=V->(∀m y,m<j->l[m]?=J y->f y=C)->gk f l i=.ofNat (i+j)|[],_,_,_,h,_,_=>by simp at h|y::l,i,0,x,h,a,_=>by simp only[aaI,wx]at h;subst h;rw[gk,a];rfl|y::l,i,j+1,x,h,a,c=>by rw[gk,c 0 y (Nat.succ_pos j) rfl,bX,afZ f l (i+1) j x (by simpa using h) a λm z e d=>c (m+1) z ab (by simpa using d)];congr 1;omega
def IY(a b g:Int):Int×Int×Int:=(g,g*a/16,g*b/16)
def qR(a b:Int)(l:cF):List (Int×Int×Int):=(l.filter λg=>!aj (g*a/16) (g*b/16)).map (IY a b)
theorem aBU{b g w t:Int}{l:cF}(h:g∈l)(d:w=g*a/16)(c:t=g*b/16):(g,w,t)∈qR a b l↔w≠t:=by simp only[qR,IY,List.mem_map,List.mem_filter,iZ,NW,CJ,J7];grind
theorem ag4(k:List aF):∀(l:List (List aF))(o:List aF),vQ (l++[k]) o=mF ((vQ l o).length+k.length) (vQ l o) k|[],_=>rfl|q::l,o=>ag4 k l _
theorem ag2:∀(l:List (List aF))(o:List aF)(n:Nat),(∀k∈l,k.length<=n)->(vQ l o).length<=o.length+l.length*n|[],o,n,_=>by simp[vQ]|k::l,o,n,h=>by have a:=ag2 l (mF (o.length+k.length) o k) n λq b=>h q (jR _ b);have c:=h k gv;rw[VN]at a;rw[vQ,dH,Nat.succ_mul];omega
theorem an4{b:Int}(h:iB a b=0):a=b:=by grind[Ox]
theorem ack:∀{a b:aC},cmpL a b=0->a=b|[],[],_=>rfl|[],_::_,h=>by cases h|_::_,[],h=>by cases h|x::a,y::b,h=>by rw[Bc]at h;have:=@ack a b;grind
theorem an7{x y:aF}(h:x.cmp y=0):x.key=y.key:=by obtain⟨q,⟨k,n,s⟩,e⟩:=x;obtain⟨d,⟨b,c,f⟩,a⟩:=y;grind[aF.cmp,cM.cmp,iZ,an4,ack]
open Proofs.Tryz
attribute[local congr]bB bC
set_option maxRecDepth 100000
set_option maxHeartbeats 4000000
theorem ahK(a b:aF):CC 53 [a.d,b.d] (vI (a.cmp b)):=by
 have c:=ahM a.key b.key;have h:=FK [iB a.q b.q,a.key.cmp b.key] C ai;simp only[zJ,fO,eG]at h;have hd:=apB;simp only[bH,opsOf,f53,go_sem]at hd;simp only[cM.d,cM.cells]at c;have e:Aq [iB a.q b.q,a.key.cmp b.key]=a.cmp b:=by grind[Aq,aF.cmp,tF]
 rw[e]at h;refine aO func53 ?_;simp only[go_sem,f53,aF.d,aF.cells,hd,An,c,h]
structure Sm where
 out:List aF
 na:Bool
 a:List aF
 nb:Bool
 b:List aF
theorem aDW(P S:Bool)(a b:List aF)(g:GH)(h:a.length+b.length<1100000):ev PP cf (.call 52 [bw P (a.map aF.d) 52 8,bw S (b.map aF.d) 52 8,.func 53 [] []] .no g)=J (.val (fP ((mF (a.length+b.length) a b).map aF.d) 52 8) g):=by
 have d3:=apy;have d4:=apz;have d5:=apA;simp only[bH,opsOf,f52,go_sem]at d3 d4 d5;refine aO func52 ?_;simp only[go_sem,f52];have r:∀n:Nat,(0<n+1)=True:=λn=>ir (Nat.succ_pos n);have k:∀n:Nat,aA 0 (.ofNat (n+1))=V:=λn=>by rfl
 have dY:∀(x:DV)(l:ao),oD PP 33 (.ay (x::l) 52 8) (J (.int .i64 1)) Z Z=J (.ay l 52 8,.no):=λx l=>by unfold oD;simp only[Proofs.Tryz.underlying33,show aW PP 52=J 8 from by rfl,cR];have:bt 1 (x::l).length=V:=nw aP;show(Option.map (λv=>(DV.ay (List.drop v (List.take (x::l).length (x::l))) 52 8,aM.no)) (bif bt 1 (x::l).length then J 1 else Z))=_;grind
 have H:∀(l w:List aF),l.length+w.length<1100000->fu 52 8 120 (.ay (l.map aF.d) 52 8) (.ex 52) (w.map aF.d)=J (.ay (l.map aF.d++w.map aF.d) 52 8,.ex 52):=λl w G=>p8 ab (by grind[bm]) (by grind[bm]);have u:∀l:List aF,(l.map aF.d).all (λy=>decide (y.flat.length=8))=V:=λl=>by simp[aF.pE,aF.pD]
 have M:fu 52 8 120 .nl .any []=J (.nl,.any):=rfl;have N:∀(y:aF)(l:List aF),l.length<1100000->fu 52 8 120 .nl .any ((y::l).map aF.d)=J (.ay ((y::l).map aF.d) 52 8,.ex 52):=λy l G=>by have q1:bt (((y::l).map aF.d).length*120) bm=V:=nw (by grind[bm]);have q2:bt ((y::l).map aF.d).length bm=V:=nw (by grind[bm]);show(bif bt (((y::l).map aF.d).length*120) bm&&bt ((y::l).map aF.d).length bm then _ else Z)=_;grind
 have x0:∀L:ao,L.length<1100000->fu 52 8 120 (.ay L 52 8) (.ex 52) []=J (.ay L 52 8,.ex 52):=λL G=>by grind[p8,bm]
 refine Qu (lT (a.length+b.length) ()) (⟨[],P,a,S,b⟩:Sm) (λi s=>⟨52,46,[(0,.dv (bw s.na (s.a.map aF.d) 52 8) .no),(7,fP (s.out.map aF.d) 52 8),(1,.dv (bw s.nb (s.b.map aF.d) 52 8) .no),(2,.dv (.func 53 [] []) .no)],[],g⟩) (λi _ s=>.val (fP ((s.out++mF (a.length+b.length-i) s.a s.b).map aF.d) 52 8) g) (λi _ s=>i+s.a.length+s.b.length=a.length+b.length/\s.out.length=i) ai rfl ⟨aP,rfl⟩ rfl (λs I=>?_) (λi x l s F hx hw I K=>?_)
 . obtain⟨out,O,d,Q,c⟩:=s;obtain⟨o,p⟩:=I;simp only[xE]at o p;obtain rfl:d=[]:=bf.1 ab;obtain rfl:c=[]:=bf.1 ab;rw[xE];have e2:∀n,mF n ([]:List aF) []=[]:=λn=>IX;rcases out with _|⟨z,out⟩;.simp only[go_sem,eG,xG,e2,kD,gX,M]
   have A:fP ((z::out).map aF.d) 52 8=.dv (.ay ((z::out).map aF.d) 52 8) (.ex 52):=rfl;have sa:=x0 ((z::out).map aF.d) ai;rw[e2,kD,A];generalize(z::out).map aF.d=L at*;simp only[go_sem,eG,gX,nU,sa]
 .obtain⟨out,O,d,Q,c⟩:=s;obtain⟨o,p⟩:=I;simp only at o p;rw[xE]at F;have Y:=mI F;obtain⟨n,q⟩:∃n,a.length+b.length-i=n+1:=⟨a.length+b.length-i-1,ab⟩;have X:a.length+b.length-(i+1)=n:=ab;cases d with
   |nil=>
   rw[q,IX];rcases c with _|⟨y,c⟩;.grind
   cases out with|nil=>have A:fP (([]++y::c).map aF.d) 52 8=.dv (.ay ((y::c).map aF.d) 52 8) (.ex 52):=rfl;have j:=N y c ai;have m:=u (y::c);rw[A];have E:bw Q ((y::c).map aF.d) 52 8=.ay ((y::c).map aF.d) 52 8:=rfl;rw[E];generalize(y::c).map aF.d=L at*;simp only[go_sem,eG,xG,gX,nU,M,j,m]|cons z out=>
   have A:fP ((z::out).map aF.d) 52 8=.dv (.ay ((z::out).map aF.d) 52 8) (.ex 52):=rfl;have B:fP (((z::out)++y::c).map aF.d) 52 8=.dv (.ay ((z::out).map aF.d++(y::c).map aF.d) 52 8) (.ex 52):=by rw[pZ];rfl
   have sa:=x0 ((z::out).map aF.d) ai;have j:=H (z::out) (y::c) ab;have m:=u (y::c);have E:bw Q ((y::c).map aF.d) 52 8=.ay ((y::c).map aF.d) 52 8:=rfl;rw[A,B,E];generalize(y::c).map aF.d=R at*;generalize(z::out).map aF.d=L at*;simp only[go_sem,eG,gX,nU,sa,j,m]
   |cons x d=>cases c with
   |nil=>rw[q,QD];have m:=u (x::d);have E:bw O ((x::d).map aF.d) 52 8=.ay ((x::d).map aF.d) 52 8:=rfl;have D:((x::d).map aF.d).length=d.length+1:=aP;cases out with|nil=>have A:fP (([]++x::d).map aF.d) 52 8=.dv (.ay ((x::d).map aF.d) 52 8) (.ex 52):=rfl;have j:=N x d ai;have sa:=x0 ((x::d).map aF.d) ai;rw[A,E];generalize(x::d).map aF.d=R at*;simp only[go_sem,eG,xG,D];refine Gm (k _) ?_;simp only[go_sem,k,gX,nU,sa,j,m]|cons z out=>
   have A:fP ((z::out).map aF.d) 52 8=.dv (.ay ((z::out).map aF.d) 52 8) (.ex 52):=rfl;have B:fP (((z::out)++x::d).map aF.d) 52 8=.dv (.ay ((z::out).map aF.d++(x::d).map aF.d) 52 8) (.ex 52):=by rw[pZ];rfl
   have j:=H (z::out) (x::d) ab;have sa:=x0 ((z::out).map aF.d++(x::d).map aF.d) (by simp at o p|-;omega);rw[A,B,E];generalize(x::d).map aF.d=R at*;generalize(z::out).map aF.d=L at*;simp only[go_sem,eG,D];refine Gm (k _) ?_;simp only[go_sem,k,gX,nU,sa,j,m]
   |cons y c=>have e1:=ahK x y;have e2:mF (n+1) (x::d) (y::c)=bif aA 0 (x.cmp y)then y::mF n (x::d) c else x::mF n d (y::c):=rfl;have sa:=H out [x] ai;have j:=H out [y] ai;simp only[aF.d,aF.cells]at e1;have U:i+1+d.length+(y::c).length=a.length+b.length/\(out++[x]).length=i+1:=⟨ai,ai⟩;have W:i+1+(x::d).length+c.length=a.length+b.length/\(out++[y]).length=i+1:=⟨ai,ai⟩;have e:=K (Sm.mk (out++[x]) C d Q (y::c)) U;have f:=K (Sm.mk (out++[y]) O (x::d) C c) W;simp only[X,wv,lS,jJ,fO,zJ,Ty,aF.d,aF.cells]at e f;rw[pZ,fO,eG,Kb]at e f;simp only[aF.d,aF.cells]at e f;cases out with
   |nil=>
   simp only[go_sem,eG,xG,fO,zJ,dH,aF.d,aF.cells,q,e2,jJ];refine Gm (k _) ?_;simp only[go_sem,k,d3,e1];apply sp<;>intro h;.simp only[h,go_sem,d5,dY,r];exact f
   .simp only[h,go_sem,d4,dY,r];exact e|cons z out=>
   have A:fP ((z::out).map aF.d) 52 8=.dv (.ay ((z::out).map aF.d) 52 8) (.ex 52):=rfl;have sa:fu 52 8 120 (.ay ((z::out).map aF.d) 52 8) (.ex 52) [x.d]=J (.ay ((z::out).map aF.d++[x.d]) 52 8,.ex 52):=H (z::out) [x] (by simp only[dH,gX]at o p|-;omega);have j:fu 52 8 120 (.ay ((z::out).map aF.d) 52 8) (.ex 52) [y.d]=J (.ay ((z::out).map aF.d++[y.d]) 52 8,.ex 52):=H (z::out) [y] (by simp only[dH,gX]at o p|-;omega);have T:∀t,fP (((z::out)++t).map aF.d) 52 8=.dv (.ay ((z::out).map aF.d++t.map aF.d) 52 8) (.ex 52):=λt=>by rw[pZ];rfl
   simp only[A,T]at e f|-;generalize(z::out).map aF.d=L at*;simp only[aF.d,aF.cells]at sa j;simp only[go_sem,fO,zJ,dH,aF.d,aF.cells,q,e2];refine Gm (k _) ?_;simp only[go_sem,k,d3,e1];apply sp<;>intro h;.simp only[h,go_sem,d5,dY,r,j];simp_all
   .simp only[h,go_sem,d4,dY,r,sa];simp_all
def bG.dd(o:bG):o.d=.agg [cE o.marks,kx o.keys]:=rfl
def MF(l:List aF):List (Nat×aM):=match l with|[]=>[]|_=>[(1,.ex 52)]
def Qh(l:List bG)(M:DV)(i:Nat)(o:List aF):St:=⟨26,69,[(19,iS i),(4,.lp 4 0),(17,.dv (.ay (l.map bG.d) 35 2) .no),(2,.lp 2 0),(18,iS l.length)],[(4,⟨[M,sH o],MF o⟩),(2,⟨[.nl,.nl],[]⟩)],.empty⟩
theorem Sw(b:List aF):fP (b.map aF.d) 52 8=.dv .nl .any/\sH b=.nl/\MF b=[]\/∃L,fP (b.map aF.d) 52 8=.dv (.ay L 52 8) (.ex 52)/\sH b=.ay L 52 8/\MF b=[(1,.ex 52)]/\cg L=V:=by
 rcases b with _|⟨a,b⟩;.exact .inl ⟨rfl,rfl,rfl⟩
 exact .inr ⟨_,rfl,rfl,rfl,Wk (l:=a::b)⟩
def L4(M:DV)(F:List aF)(i:Nat)(w:List (Nat×aM)):St:=⟨26,69,[(2,.lp 2 0),(10,iS (i+1)),(4,.lp 4 0)],[(2,⟨[.nl,.nl],[]⟩),(4,⟨[M,sH F],w⟩)],.empty⟩
theorem aDr(a:bG)(l:List bG)(e:l[0]?=J a)(f:Nat->List aF)(hn:l.length<1000)(hm:a.marks.l.length<1100000)(X:f 0=[])(v:∀i op,l[i]?=J op->mF ((f i).length+op.keys.l.length) (f i) op.keys.l=f (i+1)/\(f i).length+op.keys.l.length<1100000)(hx:∀op∈l,∀x∈op.keys.l,x.e.cp)(ha:tB (f l.length))(hl:(f l.length).length<9000000):cW (λr=>∃g,r=.val (.tp [(bif aA 256 (.ofNat (f l.length).length)then .agg [.nl,.nl]else .agg [cE a.marks,sH (f l.length)],.no),iO (bif aA 256 (.ofNat (f l.length).length)then 5 else 0)]) g) (ev PP cf (.call 26 [.ay (l.map bG.d) 35 2] .no .empty)):=by obtain⟨om,vE,e1⟩:=Tk a.marks hm;have d16:=apc;simp only[bH,opsOf,f26,go_sem]at d16;simp only[cE]at e1;have hz:(0<l.length)=True:=ir (am.1 e).1;refine fY func26 ?_;rcases vE with rfl|⟨_,rfl⟩;all_goals
 simp only[go_sem,f26,bG.d,bG.cells,cE,kx,e,e1];refine ni l () (λi _=>Qh l (cE a.marks) i (f i)) (λ_ _ _=>True) ab (by rw[X];rfl) trivial (λ_ _=>?_) (λi x l _ n m S _ b=>?_);.simp only[Qh,go_sem,cE];generalize f l.length=F at*;cases F with|nil=>simp only[show sH []=.nl from rfl,show MF []=[]from rfl];refine M5 ?_;simp only[go_sem];refine DJ rfl ?_;simp only[go_sem];refine DJ rfl ?_;simp only[go_sem,bz];exact⟨_,rfl⟩|cons c s=>
   have k:sH (c::s)=.ay ((c::s).map aF.d) 52 8:=rfl;have d:(c::s).length=s.length+1:=rfl;have hO:MF (c::s)=[(1,.ex 52)]:=rfl;generalize c::s=D at*;refine ni (lT s.length ()) [(1,.ex 52)] (L4 (cE a.marks) D) (λ_ _ w=>w=[(1,.ex 52)]\/w=[(1,.ty 52)]) (by rw[xE];omega) (by rw[hO];rfl) (.inl rfl) (λw I=>?_) (λi x l w n m S I b=>?_);.rw[xE];cases G:aA 256 (.ofNat D.length)with|false=>rcases I with rfl|rfl;all_goals simp only[L4,go_sem,cE,k,<-d];refine DJ G ?_;simp only[go_sem,bz];exact⟨_,rfl⟩|true=>rcases I with rfl|rfl;all_goals simp only[L4,go_sem,cE,k,<-d];refine RB G ?_;simp only[go_sem,bz];exact⟨_,rfl⟩
   . rw[xE]at n;have gd:=mI n;obtain⟨p,Q⟩:∃p,D[i]?=J p:=⟨_,dA ab⟩;obtain⟨q,R⟩:∃q,D[i+1]?=J q:=⟨_,dA ab⟩;have e4:=ahK p q;have bY:p.cmp q<0:=by obtain⟨_,e1⟩:=am.1 Q;obtain⟨_,e2⟩:=am.1 R;rw[<-e1,<-e2];exact List.pairwise_iff_getElem.1 ha i (i+1) _ _ (G7 i)
     have U:aj (p.cmp q) 0=C:=by rw[iZ,CJ];omega
     have rN:(i+1<D.length)=True:=ir ab;have sb:=sub_succ i ab;have w2:dN .i64 (kh (dk (i+1)) 1)=dk (i+1+1):=vi ab;simp only[aF.d,aF.cells]at e4;have b:=b [(1,.ty 52)] (.inr rfl);simp only[L4,go_sem,cE,k]at b;rcases I with rfl|rfl;all_goals simp only[L4,go_sem,cE,k,rN,Q,R,aF.d,aF.cells,d16,sb,e4,U,Hv,w2];exact b
 . have b:=b () trivial;simp only[Qh,go_sem,cE]at b;simp only[Qh,go_sem,n,m,cE,kx,bG.d,bG.cells];rw[CA];obtain⟨B,W⟩:=v i x m;have e9:=aDW V V (f i) x.keys.l .empty W;rw[B]at e9;have E:=hx x (du m);refine Ml x.keys.l (λj=>[(26,iS j),(7,fP ((x.keys.l.take j).map aF.d) 52 8)]) (λ_=>True) ab rfl trivial (λ_=>?_) (λj y A o H _ h=>?_);.rw[D6];have hK:bw V (x.keys.l.map aF.d) 52 8=sH x.keys.l:=rfl;have hF:bw V ((f i).map aF.d) 52 8=sH (f i):=rfl;rw[hK,hF]at e9;rcases Sw (f i)with⟨_,t,K⟩|⟨L1,_,t,K,a3⟩<;>rcases Sw x.keys.l with⟨M,N,_⟩|⟨L2,M,N,_,b3⟩<;>rcases Sw (f (i+1))with⟨O,P,c3⟩|⟨L3,O,P,c3,_⟩;all_goals rw[t,N,O]at e9;rw[P,c3]at b;rw[t,K,M];simp only[go_sem,e9,S,Hv];exact b
   .have h:=h trivial;have qf:=mI A;obtain⟨g4,e4⟩:=ahJ y (E y (du o));rw[G2,o,Option.toList_some,pZ,fO,eG,Kb]at h;simp only[go_sem]at h;simp only[aF.d,aF.cells]at e4;cases u:x.keys.l.take j with|nil=>rw[u]at h;simp only[go_sem,eG,xG,A,o,aF.d,aF.cells,e4,H];exact h|cons z zs=>
     have T:(z::zs).length<=x.keys.l.length:=by rw[<-u,uj];omega
     have sa:fu 52 8 120 (.ay ((z::zs).map aF.d) 52 8) (.ex 52) [y.d]=J (.ay ((z::zs).map aF.d++[y.d]) 52 8,.ex 52):=p8 fD (by rw[fZ];simp[bm]at*;omega) (by rw[fZ];simp[bm]at*;omega);have Y:fP ((z::zs).map aF.d) 52 8=.dv (.ay ((z::zs).map aF.d) 52 8) (.ex 52):=rfl;rw[u]at h;rw[Y];generalize(z::zs).map aF.d=L at*;simp only[aF.d,aF.cells]at sa;simp only[go_sem,A,o,aF.d,aF.cells,e4,sa,H];exact h
set_option maxHeartbeats 1000000
theorem aDj(w:Int)(h:1<=w/\w<=8):CC 25 [iD w] (vI 0):=by
 have a:aA w 1=C:=by grind[gL]
 have b:aA 8 w=C:=by grind[gL]
 refine aO func25 ?_;simp only[go_sem,f25];rw[a,bX]<;>try show kg PP cf (ev PP cf) _=_<;>simp only[go_sem]
 refine Jy b ?_;rfl
def Wh(n:Bool)(l:List bG):DV:=bw n (l.map bG.d) 35 2
theorem aDm(n:Bool)(l:List bG):cW (λr=>∃b,r=vB b/\(b=V->1<=l.length/\l.length<=8)) (ev PP cf (.call 23 [Wh n l] .no .empty)):=by
 refine fY func23 ?_;simp only[go_sem,f23,Wh];apply cV<;>intro h;rotate_left;.simp only[h,go_sem,bz];grind[gL]
 .simp only[h,go_sem,bz];grind
set_option maxHeartbeats 4000000
def qV(o:bG)(w:Nat):List bG:=(rq w).map λj=>⟨o.marks,⟨V,prt o w o.keys.l.length j⟩⟩
theorem agl{f:aF->Int}:∀(l:List aF)(p:aF),BK f (J p) l=0↔(∀x∈l,f x=0)/\tB (p::l)
 |[],p=>⟨λ_=>⟨λx h=>absurd h mO,List.pairwise_singleton _ _⟩,λ_=>rfl⟩|x::l,p=>by
  have i:=agl (f:=f) l x;show(bif aj (f x) 0 then(bif !aA (p.cmp x) 0 then 14 else BK f (J x) l)else f x)=0↔_;rw[iZ,gL];by_cases d:f x=0
  . by_cases e:p.cmp x<0
    . simp only[d,e,eB,aR,y9,bX];rw[i];refine⟨λ⟨a,b⟩=>⟨λy c=>?_,?_⟩,λ⟨a,b⟩=>⟨λy c=>a y (jR _ c),(be.1 b).2⟩⟩
      . rcases Cp.1 c with rfl|c;.exact d
        .exact a y c
      . refine be.2 ⟨λy c=>?_,b⟩;rcases Cp.1 c with rfl|c;.exact e
        .exact N1.tr _ _ _ e ((be.1 b).1 y c)
    .simp only[d,e,eB,lA,aR,y8];refine⟨(λh=>by cases h),λ⟨_,b⟩=>absurd ((be.1 b).1 x gv) e⟩
  .simp only[d,lA,bX];exact⟨λh=>h.elim,λ⟨a,_⟩=>d (a x gv)⟩
theorem agm{f:aF->Int}(l:List aF):BK f Z l=0↔(∀x∈l,f x=0)/\tB l:=by
 rcases l with _|⟨x,l⟩;.exact⟨λ_=>⟨λx h=>absurd h mO,List.Pairwise.nil⟩,λ_=>rfl⟩
 grind[agl,BK,iZ]
structure aaF(f:aF->Int)(o:bG):Prop where
 m:1<=o.marks.l.length/\o.marks.l.length<=8
 k:o.keys.l.length<=256
 f:∀x∈o.keys.l,f x=0
 a:tB o.keys.l
theorem abZ{f:aF->Int}{o:bG}(h:jx f o.marks o.keys=0):aaF f o/\∀k:Sl aF,k.l.length<=256->(∀x∈k.l,f x=0)->tB k.l->jx f o.marks k=0:=by unfold jx at h;cases c:(bif aA (.ofNat o.marks.l.length) 1 then V else aA 8 (.ofNat o.marks.l.length))with|true=>grind|false=>cases d:o.marks.l.any IV with|true=>grind|false=>cases e:aA 256 (.ofNat o.keys.l.length)with|true=>grind|false=>rw[c,d,e]at h;obtain⟨a,b⟩:=(agm _).1 h;refine⟨⟨?_,?_,a,b⟩,λk k1 k2 k3=>?_⟩<;>grind[gL,jx,agm]
theorem Wp(o:bG)(w j:Nat):prt o w o.keys.l.length j=o.keys.l.filter λx:aF=>decide (x.key.te (w:Int)=(j:Int)):=by simp[prt]
structure ic where
 a:Int
 b:Int
structure lW where
 n:Int
 bs:Sl Int
 ps:Sl ic
 m:Int
structure ey where
 src:Int
 ck:Int
 t:lW
structure gK where
 num:Int
 rs:Sl ey
 os:Sl bG
def ic.cells(p:ic):ao:=[iD p.a,iD p.b]
def ic.d(p:ic):DV:=.agg p.cells
def qW(s:Sl ic):DV:=bw s.nl (s.l.map ic.d) 126 2
def lW.cells(t:lW):ao:=[iD t.n,cE t.bs,qW t.ps,iD t.m]
def lW.d(t:lW):DV:=.agg t.cells
def ey.cells(r:ey):ao:=[iD r.src,iD r.ck,iD r.t.n,cE r.t.bs,qW r.t.ps,iD r.t.m]
def ey.d(r:ey):DV:=.agg r.cells
def qn(s:Sl ey):DV:=bw s.nl (s.l.map ey.d) 120 6
def xb(s:Sl bG):DV:=bw s.nl (s.l.map bG.d) 35 2
def gK.cells(s:gK):ao:=[iD s.num,qn s.rs,xb s.os]
def gK.d(s:gK):DV:=.agg s.cells
theorem aik(s:Sl ic):(qW s).pure=V:=nN (gT (λ_=>rfl) _)
theorem ey.pure(e:ey):e.d.pure=V:=by simp[ey.d,ey.cells,DV.pure,cg,aik,LX]
theorem ic.qp(x:ic):x.d.aU=C:=rfl
theorem ic.pE(x:ic):x.d.flat=x.cells:=rfl
theorem ic.pD(x:ic):x.cells.length=2:=rfl
theorem ey.qp(x:ey):x.d.aU=C:=rfl
theorem ey.pE(x:ey):x.d.flat=x.cells:=rfl
theorem ey.pD(x:ey):x.cells.length=6:=rfl
theorem aic{l:List ey}:cg (l.map ey.d)=V:=gT ey.pure _
theorem aFH{l:List ic}:cg (l.map ic.d)=V:=gT (λ_=>rfl) _
attribute[go_sem]aik ic.qp ic.pE ic.pD ey.qp ey.pE ey.pD aic aFH
set_option maxHeartbeats 2000000
theorem aLp(p:ic):cW Di (ev PP cf (.call 162 [p.d] .no .empty)):=by refine fY func162 ?_;simp only[go_sem,f162,ic.d,ic.cells];repeat'(with_reducible apply cV<;>intro h<;>simp only[h,go_sem,bz,uP])
theorem aLo(t:lW)(d:t.bs.l.length<1100000):cW BI (ev PP cf (.call 161 [t.d] .no .empty)):=by
 refine fY func161 ?_;simp only[go_sem,f161,lW.d,lW.cells,cE];repeat'(with_reducible apply cV<;>intro h<;>simp only[h,go_sem,bz,qN])
 all_goals
 refine ni t.bs.l _ (λi s=>⟨_,42,[(25,iS i),(3,.dv (iD s) _),(23,.dv _ _),(24,iS _)],[],_⟩) (λ_ _ _=>True) ab rfl trivial (λs _=>?_) (λi x l s b c w _ a=>?_);.simp only[go_sem,bz,qN]
 .simp only[go_sem,cE]at a;simp only[go_sem,b,c,cE];repeat'(with_reducible apply cV<;>intro h<;>simp only[h,go_sem,bz,qN,w,a])
theorem aLk(t:lW)(p:ic)(b:t.bs.l.length<1100000)(g:t.ps.l.length<1100000):cW BI (ev PP cf (.call 104 [t.d,p.d] .no .empty)):=by
 obtain⟨r,e0,n,rfl⟩:=aLo t b;have d:=λx:ic=>aLp x;simp only[lW.d,lW.cells,cE,qW]at e0;refine fY func104 ?_;simp only[go_sem,f104,lW.d,lW.cells,cE,qW,ic.d,ic.cells,e0];repeat'(with_reducible apply cV<;>intro h<;>simp only[h,go_sem,bz,qN])
 all_goals
 refine ni t.ps.l p (λi s=>⟨104,53,[(30,iS i),(3,.lp 3 0),(28,.dv (qW t.ps) .no),(29,iS t.ps.l.length)],[(3,⟨s.cells,[]⟩)],.empty⟩) (λ_ _ _=>True) ab rfl trivial (λs _=>?_) (λi x l s c e w _ a=>?_);.simp only[go_sem,bz,qN]
 .have a:=a x trivial;obtain⟨r,e1,f,rfl⟩:=d x;simp only[ic.d,ic.cells]at e1;simp only[go_sem,qW,ic.cells]at a;simp only[go_sem,c,e,qW,ic.d,ic.cells,e1];repeat'(with_reducible apply cV<;>intro h<;>simp only[h,go_sem,bz,qN,w,a])
theorem aLu(r:ey)(a:r.t.bs.l.length<1100000)(b:r.t.ps.l.length<1100000):cW BI (ev PP cf (.call 47 [r.d] .no .empty)):=by
 obtain⟨x,e0,n,rfl⟩:=aLk _ ⟨r.t.n,r.t.m⟩ a b;simp only[lW.d,lW.cells,cE,qW,ic.d,ic.cells]at e0;have e1:CC 66 [r.t.d] (vI n):=by refine aO func66 ?_;simp only[go_sem,f66,lW.d,lW.cells,cE,qW,e0]
 simp only[lW.d,lW.cells,cE,qW]at e1;refine fY func47 ?_;simp only[go_sem,f47,ey.d,ey.cells,cE,qW,e1];repeat'(with_reducible apply cV<;>intro h<;>simp only[h,e1,go_sem,bz,qN])
def Vk{a:Type}(l:List a)(r:bh):Prop:=∃n,r=vI n/\(n=0->l≠[])
theorem aLq(l:Sl ey)(o:l.l.length<1100000)(k:∀r∈l.l,r.t.bs.l.length<1100000/\r.t.ps.l.length<1100000):cW (Vk l.l) (ev PP cf (.call 22 [qn l] .no .empty)):=by
 have b:Vk l.l _:=⟨5,rfl,λh=>ab⟩;refine fY func22 ?_;simp only[go_sem,f22,qn];apply cV<;>intro h;.simp only[h,go_sem,bz,b]
 have d:∀n,Vk l.l _:=λn=>⟨n,rfl,λ_ e=>by rw[e]at h;cases h⟩;simp only[h,go_sem];apply cV<;>intro h;.simp only[h,go_sem,bz,b]
 simp only[h,go_sem];refine tX l.l (λi=>[(16,iS i)]) ab rfl ?_ (λi x j a w c=>?_);.simp only[go_sem,bz,d]
 .obtain⟨f,g⟩:=k x (du a);obtain⟨r,e1,m,rfl⟩:=aLu x f g;simp only[ey.d,ey.cells,cE,qW]at e1;simp only[go_sem]at c;simp only[go_sem,j,a,ey.d,ey.cells,cE,qW,e1];repeat'(with_reducible apply cV<;>intro h<;>simp only[h,go_sem,bz,d,w,c])
set_option maxHeartbeats 1000000
theorem k6:cf.fk 4=0:=by rfl
theorem p6:cf.iw 4=V:=by rfl
attribute[go_sem]k6 p6
def ev6(g:GH):ev PP cf (.call 4 [] .no g)=J (.val (.dv (.bool V) .no) g):=CN rfl rfl
theorem cv6{g:GH}{k:SV->GH->ah α}:jv cf (ev PP cf) 4 [] .no g k=k (.dv (.bool V) .no) g:=by rw[abP p6 rfl,ev6];rfl
attribute[go_sem]cv6
set_option maxHeartbeats 2000000
theorem apL:dz cf (bH f49 1)=V:=by rfl
def Sf(o:bG):Prop:=∀x∈o.keys.l,sA x.key.k x.key.n x.key.s=0/\x.key.s.length<1050000
theorem aLv(x:aF)(s:gK)(w b c:Nat)(g:GH)(a:g.get b=J (.box ⟨s.cells,[]⟩))(e:g.get c=J (.box ⟨[iD (.ofNat w)],[]⟩))(d:1<=s.os.l.length/\s.os.l.length<=8)(v:sA x.key.k x.key.n x.key.s=0)(f:x.key.s.length<1050000):ev PP cf (.call 49 [x.d,.ptr b 0,.ptr c 0] .no g)=J (.val (.dv (.bool (!aj (x.key.te (.ofNat s.os.l.length)) (.ofNat w))) .no) g):=by have h:=ahI _ (.ofNat _) v f ⟨ai,ci.2 d.2⟩;have hd:=apL;simp only[bH,opsOf,f49,go_sem]at hd;simp only[cM.d,cM.cells]at h;simp only[gK.cells,qn,xb]at a;refine aO func49 ?_;simp only[go_sem,f49,hd,aF.d,aF.cells,a,e,h]
structure Sr(p:dh)(n0:Int)(m w:Nat)(o:bG):Prop where
 e:vR p n0 o=0
 w:∀x∈o.keys.l,x.key.te (.ofNat m)=.ofNat w
theorem aLr(p:dh)(s:gK)(w:Nat)(b:Int)(o:bG)(j:s.os.l[w]?=J o)(q:s.os.l.length<=8)(E:o.marks.l.length<1100000)(B:o.keys.l.length<1100000)(v:∃g,CC 48 [p.d,o.d] (.val (.dv (iD (vR p b o)) .no) g))(l:vR p b o=0->Sf o):cW (λr=>∃n g,r=.val (.dv (iD n) .no) g/\(n=0->Sr p b s.os.l.length w o)) (ev PP cf (.call 24 [p.d,s.d,iD (.ofNat w)] .no .empty)):=by
 obtain⟨g5,e5⟩:=v;have t:w<s.os.l.length:=(am.1 j).1;have L:(w<s.os.l.length)=True:=ir t;simp only[dh.d,dh.cells,bG.d,bG.cells,cB,cE,kx]at e5;refine fY func24 ?_;simp only[go_sem,f24,dh.d,dh.cells,cB,gK.d,gK.cells,qn,xb,L,j,bG.d,bG.cells,cE,kx,e5];apply cV<;>intro h;rotate_left;.simp only[h,go_sem,bz];exact⟨_,_,rfl,λk=>by rw[k]at h;cases h⟩
 have e:vR p b o=0:=tF h;simp only[h,go_sem];apply cV<;>intro h;rotate_left;.simp only[h,go_sem,bz];grind
 have D:o.marks.l.length=s.rs.l.length:=uU h;simp only[h,go_sem];refine tX o.marks.l (λi=>[(32,iS i)]) ab rfl ?_ (λi x f a z m=>?_)
 . have e0:=Eu (d:=aF.d) 49 [] _ ⟨2,[(0,.box _),(1,.box _)]⟩ o.keys.nl _ ab (λx a=>.inl ⟨rfl,rfl,aLv x s w 0 1 _ rfl rfl ⟨ab,q⟩ (l e x a).1 (l e x a).2⟩) (.inr (.inr (.inr (.inr (.inl rfl))))) (λ_=>⟨rfl,rfl⟩);simp only[gK.cells,qn,xb]at e0;simp only[go_sem,e0];apply cV<;>intro h;.simp only[h,go_sem,bz];grind
   .simp only[h,go_sem,bz];refine⟨_,_,rfl,λ_=>⟨e,λx a=>?_⟩⟩;grind[iZ]
 . have A:=mI f;obtain⟨y,u⟩:∃y,s.rs.l[i]?=J y:=⟨_,dA ab⟩;have c:=ir ab;simp only[go_sem]at m;simp only[go_sem,f,a,c,u,ey.d,ey.cells];apply cV<;>intro h;.simp only[h,go_sem,z,m]
   .simp only[h,go_sem,bz];grind
structure Ss(s:gK):Prop where
 r:s.rs.l.length<1100000/\∀r∈s.rs.l,r.t.bs.l.length<1100000/\r.t.ps.l.length<1100000
 l:s.os.l.length<1100000
 o:∀o∈s.os.l,Sn o/\o.sz/\∀x∈o.keys.l,x.e.cp/\x.key.s.length<1050000
structure aaK(p:dh)(n0:Int)(s:gK):Prop where
 n:n0=0
 r:s.rs.l≠[]c:1<=s.os.l.length/\s.os.l.length<=8
 p:∀w o,s.os.l[w]?=J o->Sr p n0 s.os.l.length w o
theorem tg8(p:dh)(s:gK)(a:Int)(d:Ss s)(U:∃t,t.pure=V/\∃o g,CC 21 [p.d] (.val (.tp [(t,o),iO a]) g))(D:∀o,Sn o->∃g,CC 48 [p.d,o.d] (.val (.dv (iD (vR p a o)) .no) g))(A:∀o∈s.os.l,vR p a o=0->Sf o):cW (λr=>∃n g,r=.val (.dv (iD n) .no) g/\(n=0->aaK p a s)) (ev PP cf (.call 8 [p.d,s.d] .no .empty)):=by
 obtain⟨t,y,o,g,Hw⟩:=U;obtain⟨r,Ep,K,rfl,E⟩:=aLq s.rs d.r.1 d.r.2;simp only[dh.d,dh.cells,cB,qn]at Hw Ep;refine fY func8 ?_;simp only[go_sem,f8,dh.d,dh.cells,cB,gK.d,gK.cells,qn,xb,Hw,y];apply cV<;>intro h;rotate_left;.simp only[h,go_sem,bz];exact⟨_,_,rfl,λk=>by rw[k]at h;cases h⟩
 have v:=tF h;simp only[h,go_sem];apply cV<;>intro h;.simp only[h,go_sem,bz];grind
 simp only[h,go_sem];apply cV<;>intro h;.simp only[h,go_sem,bz];grind
 simp only[h,go_sem,Ep];apply cV<;>intro h;rotate_left;.simp only[h,go_sem,bz];grind
 have hr:=E (tF h);obtain⟨r,e,b,rfl,q⟩:=aDm s.os.nl s.os.l;simp only[Wh]at e;simp only[h,go_sem,e];apply cV<;>intro h;rotate_left;.simp only[h,go_sem,bz];grind
 have j:=q h;simp only[h,go_sem];refine Ml s.os.l (λi=>[(39,iS i)]) (λi=>∀w o,w<i->s.os.l[w]?=J o->Sr p a s.os.l.length w o) ab rfl ab (λI=>?_) (λi x u f z I B=>?_);.simp only[go_sem,bz];exact⟨_,_,rfl,λ_=>⟨v,hr,j,λw o l=>I w o (am.1 l).1 l⟩⟩
 . have m:=du f;obtain⟨⟨F,G,_⟩,_⟩:=d.o x m;obtain⟨r,c,L,g2,rfl,S⟩:=aLr p s i a x f j.2 F G (D x (d.o x m).1) (A x m);simp only[dh.d,dh.cells,cB,gK.d,gK.cells,qn,xb]at c;simp only[go_sem]at B;simp only[go_sem,u,f,c];apply cV<;>intro h;rotate_left;.simp only[h,go_sem,bz];grind
   have H:=tF h;simp only[h,go_sem,z];grind
abbrev Ct:=Int×Int×Int
def lQ(x:Ct):DV:=.agg [iD x.1,iD x.2.1,iD x.2.2]
theorem amh{b c d e f:Int}:gb PP .eql 59 (.agg [.int .i64 a,.int .i64 b,.int .i64 c]) (.agg [.int .i64 d,.int .i64 e,.int .i64 f])=J (.bool (oQ a b c d e f)):=by refine Eg (by rfl) ?_ (.inl rfl);show(J _).bind (λr=>(bif r then J _ else J _).bind λr=>(bif r then J _ else J _).bind _)=J (bif aj a d then bif aj b e then aj c f else C else C);grind
theorem amZ{s:St}{d:ah Tmp}{b c x y z:Int}:Oh PP 59 s d [(0,.int .i64 a),(1,.int .i64 b),(2,.int .i64 c)] (.agg [.int .i64 x,.int .i64 y,.int .i64 z])=aG s d (.dv (.agg [.int .i64 a,.int .i64 b,.int .i64 c]) .no):=by rfl
attribute[go_sem]amh amZ
def Wm{l:List Ct}:cg (l.map lQ)=V:=gT (λ_=>rfl) _
theorem aka{w:Int}(h:1<=w/\w<=8):(bif aA w 1 then C else !aA 8 w)=V:=by grind[gL]
def qd:cF:=(rq 16).map dk
theorem aLj(a b:Int)(d:1<=a/\a<=8)(f:1<=b/\b<=8):∃o,(o=.any\/o=.ex 59/\qR a b qd≠[])/\CC 10 [iD a,iD b] (.val (.tp [(bw V ((qR a b qd).map lQ) 59 3,o),iO 0]) .empty):=by
 have k:=ahE [V,V] ai;simp only[fO,eG,oJ,nU,id,wm,aR]at k;have e1:=aka d;have e2:=aka f;suffices S:cW (λr=>∃o,(o=.any\/o=.ex 59/\qR a b qd≠[])/\r=.val (.tp [(bw V ((qR a b qd).map lQ) 59 3,o),iO 0]) .empty) (ev PP cf (.call 10 [iD a,iD b] .no .empty))by obtain⟨r,e,o,p,rfl⟩:=S;grind
 refine fY func10 ?_;simp only[go_sem,f10,ahF,e1,e2,k];refine Ml (lT 16 ()) (λi=>[(20,iS i),(7,fP ((qR a b (qd.take i)).map lQ) 59 3)]) (λ_=>True) ai rfl trivial (λ_=>?_) (λi x m q w _ c=>?_);.have z:aA (.ofNat 16) 16=C:=rfl;have j:qd.take 16=qd:=rfl;simp only[go_sem,xE,z,j];generalize qR a b qd=L;cases L with|nil=>simp only[eG,xG,go_sem,bz];exact⟨_,.inl rfl,rfl⟩|cons x L=>have A:fP ((x::L).map lQ) 59 3=.dv (.ay ((x::L).map lQ) 59 3) (.ex 59):=rfl;have E:bw V ((x::L).map lQ) 59 3=.ay ((x::L).map lQ) 59 3:=rfl;rw[A,E];simp only[go_sem,bz];grind
 . have g:i<16:=mI m;have z:aA (.ofNat i) 16=V:=by grind[gL]
   have g1:=V1 (.ofNat i) a ⟨Int.natCast_nonneg _,Int.ofNat_lt.2 g⟩ d;have g2:=V1 (.ofNat i) b ⟨Int.natCast_nonneg _,Int.ofNat_lt.2 g⟩ f;have t:qd.take (i+1)=qd.take i++[.ofNat i]:=by grind[G2,qd]
   have n:qR a b (qd.take (i+1))=qR a b (qd.take i)++bif aj (.ofNat i*a/16) (.ofNat i*b/16)then[]else[IY a b (.ofNat i)]:=by grind[qR]
   have c:=c trivial;rw[n]at c;simp only[go_sem,z,g1,g2];apply cV<;>intro h;.rw[h,aR,kD]at c;simp only[go_sem]at c;simp only[h,go_sem,w,c]
   . rw[h,bX,pZ,fO,eG,Kb]at c;simp only[go_sem]at c;have l:((qR a b (qd.take i)).map lQ).length<=16:=by grind[qR]
     generalize(qR a b (qd.take i)).map lQ=L at*;cases L with|nil=>simp only[xG,h,go_sem,w];exact c|cons y L=>have A:fP (y::L) 59 3=.dv (.ay (y::L) 59 3) (.ex 59):=rfl;have sa:fu 59 3 24 (.ay (y::L) 59 3) (.ex 59) [lQ (IY a b (.ofNat i))]=J (.ay (y::L++[lQ (IY a b (.ofNat i))]) 59 3,.ex 59):=p8 ab (by grind[bm]) (by grind[bm]);rw[A];generalize y::L=M at*;simp only[lQ,IY]at sa;simp only[h,go_sem,sa,w];exact c
theorem apK:dz cf (bH f36 4)=V:=by rfl
def JG(x y:Ct):Bool:=oQ x.1 x.2.1 x.2.2 y.1 y.2.1 y.2.2
theorem aLt(n:Bool)(l:List Ct)(x:Ct)(d:l.length<1100000):CC 36 [bw n (l.map lQ) 59 3,lQ x] (vI (gk (JG x) l 0)):=by
 have hd:=apK;simp only[bH,opsOf,f36,go_sem]at hd;refine aO func36 ?_;simp only[go_sem,f36,lQ];refine jn l (λi=>[(8,iS i)]) (λi l=>vI (gk _ l i)) ab rfl rfl ?_ (λi y l b c w a=>?_);.simp only[go_sem,gk]
 . simp only[go_sem]at a;simp only[go_sem,b,c,hd,lQ,gk,JG];apply sp<;>intro h;.simp only[h,go_sem]
   .simp only[h,go_sem,w,a]
theorem aLV(x y:Ct):JG x y=decide (x=y):=by grind[JG,oQ,iZ]
theorem aLn(n:Bool)(l:List Ct)(x:Ct)(h:l.length<1100000):CC 16 [bw n (l.map lQ) 59 3,lQ x] (vB (l.any (JG x))):=by have e:=aLt n l x h;simp only[lQ]at e;refine aO func16 ?_;have p:(bw n (l.map _) 59 3).pure=V:=nN Wm;simp only[go_sem,f16,lQ,e,p,ym,AQ]
set_option maxHeartbeats 4000000
theorem apM:dz cf (bH f9 10)=V:=by rfl
theorem apN:dz cf (bH f9 15)=V:=by rfl
def cpP(v:Sl ic)(h:v.l.length<1100000):∃o,(o=.ex 126\/v.l=[]/\o=.any)/\CC 30 [qW v] (.val (.dv (qW v) o) .empty):=Hu (.inr (.inr (.inr (.inr (.inr rfl))))) (λ_=>rfl) v.nl v.l h
def aoC{a:ao}{g:GH}{k:SV->GH->ah α}(h:cg a=V):jv cf (ev PP cf) 27 a .no g k=(ev PP cf (.call 27 a .no ⟨g.next,[]⟩)).bind λ|.val v b=>bif FF g b then k v ⟨b.next,b.kb++g.kb⟩else Z|_=>Z:=ano rfl rfl h
def sJ(l:List bG)(i:Nat):List aF:=vQ ((l.take i).map λo=>o.keys.l) []
structure N4(l:List bG):Prop where
 a:∀o∈l,tB o.keys.l
 n:∀o∈l,o.keys.l.length<=256
 m:∀o∈l,o.marks.l.length<1100000
 k:∀o∈l,∀x∈o.keys.l,x.e.cp/\sA x.key.k x.key.n x.key.s=0/\x.key.s.length<1050000
 w:∀(i:Nat)(o:bG),l[i]?=J o->∀x∈o.keys.l,x.key.te (.ofNat l.length)=.ofNat i
theorem aaW{x:aF}:x∈sJ l l.length↔∃o∈l,x∈o.keys.l:=by grind[sJ,ag3]
theorem alp{i:Nat}{o:bG}(h:l[i]?=J o):mF ((sJ l i).length+o.keys.l.length) (sJ l i) o.keys.l=sJ l (i+1):=by grind[sJ,G2,ag4]
theorem aaV(h:∀o∈l,o.keys.l.length<=256)(i:Nat):(sJ l i).length<=l.length*256:=by
 have:=ag2 ((l.take i).map λo=>o.keys.l) [] 256 λk a=>by grind
 rw[fZ,uj,gX,kE]at this;exact gw this ab
theorem alo(h:N4 l):tB (sJ l l.length):=by
 unfold sJ;rw[D6];refine ag1 _ _ List.Pairwise.nil (λk a=>?_) aT ?_;.obtain⟨o,b,rfl⟩:=au.1 a;exact h.a o b
 .rw[List.pairwise_map,List.pairwise_iff_getElem];intro i j m n K x c y d e;have f:=h.w i _ aT x c;have g:=h.w j _ aT y d;grind[an7]
def aaA:DV:=.agg [iD 0,.nl,.nl]
def qT(a:bG)(l:List bG):bG:=⟨a.marks,⟨V,sJ l l.length⟩⟩
def Gc(s:gK)(P:ao)(i:Nat)(o:List (Nat×aM)):St:=⟨9,76,[(50,iS i),(12,.dv (.ptr 1 0) .no),(6,.lp 6 0),(49,iS s.rs.l.length)],[(6,⟨[iD 0,.nl,.nl],[]⟩)],⟨2,[(0,.box ⟨iL (s.rs.l.map ey.d),o⟩),(1,.box ⟨[iD s.num,.dY 0 0 s.rs.l.length 120 6,.ay P 35 2],[]⟩)]⟩⟩
theorem tg9(p:dh)(s:gK)(w:Nat)(a:bG)(G:s.os.l[0]?=J a)(L:1<=w/\w<=8)(K:Ss s)(hr:s.rs.l≠[])(h8:s.os.l.length<=8)(k:∃g,CC 8 [p.d,s.d] (.val (.dv (iD 0) .no) g))(f:N4 s.os.l):cW (λr=>∃g,r=.val (.tp [(bif aA 256 (.ofNat (sJ s.os.l s.os.l.length).length)then aaA else .agg [iD s.num,qn s.rs,.ay ((qV (qT a s.os.l) w).map bG.d) 35 2],.no),iO (bif aA 256 (.ofNat (sJ s.os.l s.os.l.length).length)then 5 else 0)]) g) (ev PP cf (.call 9 [p.d,s.d,iD (.ofNat w)] .no .empty)):=by
 obtain⟨g8,k⟩:=k;have d10:=apM;have d15:=apN;simp only[bH,opsOf,f9,go_sem]at d10 d15;have m:=aDj (.ofNat w) ⟨ci.2 L.1,ci.2 L.2⟩;have wM:=aaV f.n;obtain⟨r,H,g26,rfl⟩:=aDr a s.os.l G (sJ s.os.l) ab (f.m a (du G)) rfl (λi op v=>⟨alp v,by have:=wM i;have:=f.n op ai;omega⟩) (λop iF x e=>(f.k op iF x e).1) (alo f) ai;have hE:bw s.os.nl (s.os.l.map bG.d) 35 2=.ay (s.os.l.map bG.d) 35 2:=by
  obtain⟨x,M,D⟩:∃x M,s.os.l=x::M:=by cases hc:s.os.l<;>simp_all
  rw[D];rfl
 rw[<-hE]at H;generalize hF:sJ s.os.l s.os.l.length=F at*;simp only[dh.d,dh.cells,cB,gK.d,gK.cells,qn,xb]at k;cases N:aA 256 (.ofNat F.length)with
 |true=>
  rw[N]at H;refine Jh (q:=λr=>∃g,r=.val (.tp [(aaA,.no),iO 5]) g) func9 rfl rfl rfl rfl rfl ?_ ?_;.rintro r⟨g,rfl⟩;exact⟨_,rfl,_,rfl⟩
  .simp only[go_sem,f9,dh.d,dh.cells,cB,gK.d,gK.cells,qn,xb,k,m,H];exact bz.symm▸⟨_,rfl⟩|false=>
  rw[N]at H;simp only[bX]at H;obtain⟨r,O,W,rfl⟩:=aDk (qT a s.os.l) w L (f.m a (du G)) (by show(sJ _ _).length<_;grind) (λx e=>by obtain⟨o,h1,h2⟩:=aaW.1 e;exact f.k o h1 x h2);have O:CC 28 [.agg [cE a.marks,sH F],iD (.ofNat w)] (.val (.dv (.ay ((qV (qT a s.os.l) w).map bG.d) 35 2) .no) W):=by rw[<-hF];unfold qV;rw[List.map_map];exact O
  have z:=λg=>S9 (d:=ey.d) (.inr rfl) (λ_=>rfl) s.rs.l g hr K.r.1;have R:bw s.rs.nl (s.rs.l.map ey.d) 120 6=.ay (s.rs.l.map ey.d) 120 6:=by
    obtain⟨x,M,D⟩:∃x M,s.rs.l=x::M:=by cases hc:s.rs.l<;>simp_all
    rw[D];rfl
  rw[R]at k;have E:cg ((qV (qT a s.os.l) w).map bG.d)=V:=Wl;generalize(qV (qT a s.os.l) w).map bG.d=P at*;have B:(sH F).pure=V:=nN Wk;have A:(sH F).flat=[sH F]:=Hz;refine Jh (q:=λr=>∃c,ph 6 120 s.rs.l.length s.rs.l.length c/\r=.val (.tp [(.agg [iD s.num,.dY 0 0 s.rs.l.length 120 6,.ay P 35 2],.no),iO 0]) (Gc s P 0 c).g) func9 rfl rfl rfl rfl rfl ?_ ?_
  . rintro r⟨c,I,rfl⟩;have u:∀x∈s.rs.l.map ey.d,x.flat.length=6/\DV.agg x.flat=x:=λx e=>by obtain⟨y,_,rfl⟩:=au.1 e;exact⟨rfl,rfl⟩
    have u1:=ajZ (g:=(Gc s P 0 c).g) (b:=0) rfl (by rfl) ab aT u I;refine⟨.val _ ⟨2,[]⟩,?_,_,rfl⟩;have u2:RU PP (Gc s P 0 c).g (.agg [iD s.num,.dY 0 0 s.rs.l.length 120 6,.ay P 35 2])=J (.agg [iD s.num,qn s.rs,.ay P 35 2]):=by show Option.map _ _=_;rw[Mo,Mo,u1];simp only[qn,R];rfl
    show Option.map _ _=_;rw[Mo,u2];rfl
  . have E:cg P=V:=E;simp only[cE]at O;simp only[go_sem,f9,dh.d,dh.cells,cB,gK.d,gK.cells,qn,xb,k,m,H,R,B,A,d10,aoC,z,O,E];rw[show FF _ _=V from rfl,aR];refine ni s.rs.l _ (Gc s P) (λi _ c=>ph 6 120 s.rs.l.length i c) (by have:=K.r.1;omega) rfl ?_ (λc I=>?_) (λi x l c v e ku I T=>?_);.exact⟨aT,λaa _ h=>by rw[Dm,if_neg ab];rfl⟩
    .simp only[Gc,go_sem,bz];grind
    . obtain⟨kV,ji⟩:=K.r.2 x (du e);obtain⟨o1,X,n⟩:=Tk x.t.bs kV;obtain⟨o2,uK,t⟩:=cpP x.t.ps ji;have n1:look c (i*6+2+1)=Z:=I.2 _ ab ai;have n2:look c (i*6+2+2)=Z:=I.2 _ ab ai;have u:∀x∈s.rs.l.map ey.d,x.flat.length=6:=λx e=>by obtain⟨y,_,rfl⟩:=au.1 e;rfl
      have U:(s.rs.l.map ey.d)[i]?=J x.d:=ai;have Q:(iL (s.rs.l.map ey.d))[i*6+2+1]?=J (bw x.t.bs.nl (x.t.bs.l.map iD) 3 1):=KY (j:=3) u U ab;have S:(iL (s.rs.l.map ey.d))[i*6+2+2]?=J (bw x.t.ps.nl (x.t.ps.l.map ic.d) 126 2):=KY (j:=4) u U ab;have kr:(iL (s.rs.l.map ey.d)).length=6*s.rs.l.length:=by grind[O4]
      have gd:=mI v;have s1:(iL (s.rs.l.map ey.d)).take (i*6+2+1)++bw x.t.bs.nl (x.t.bs.l.map iD) 3 1::(iL (s.rs.l.map ey.d)).drop (i*6+2+1+1)=iL (s.rs.l.map ey.d):=Ju Q;have s2:(iL (s.rs.l.map ey.d)).take (i*6+2+2)++bw x.t.ps.nl (x.t.ps.l.map ic.d) 126 2::(iL (s.rs.l.map ey.d)).drop (i*6+2+2+1)=iL (s.rs.l.map ey.d):=Ju S;have Y:(i*6+2+1+1<=(iL (s.rs.l.map ey.d)).length)=True:=ir ab;have b2:(i*6+2+2+1<=(iL (s.rs.l.map ey.d)).length)=True:=ir ab;simp only[Gc,go_sem]at T;simp only[cE,qW]at n t;rcases X with rfl|⟨_,rfl⟩<;>rcases uK with rfl|⟨_,rfl⟩;all_goals simp only[Gc,go_sem,v,d15,agt,n1,n2,Q,S,n,t,s1,s2,Y,b2,ku];refine T _ ?_;repeat(first|exact I.up|refine ph.cn ?_ ab|refine ph.dr ?_ ab)
end Go.VM
