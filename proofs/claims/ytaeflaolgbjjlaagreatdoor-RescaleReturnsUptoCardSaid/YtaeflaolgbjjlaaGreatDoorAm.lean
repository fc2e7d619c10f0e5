/- Proved: what functions of the program answer (a part of the proof of RescaleReturnsUptoCardSaid, whose theorem stands in the last text), within the sizes that each theorem names. -/
import Derived.Test.YtaeflaolgbjjlaaGreatDoorAl
open Option renaming some->J,none->Z
open Bool renaming true->V,false->C
open Go renaming TypeId->an,Program->aG,Code->bF,IntKind->fN,ResultVar->oy
open Int renaming ofNat->di,add->jP
open List renaming replicate->lW
open Nat renaming beq->aw,ble->br,blt->cm
open Option renaming bind->qT
noncomputable section
set_option linter.all false
namespace Go.VM
open Go Go.AM Proofs.Tryz
variable{α:Type}{g:GH}{a:Int}{ow:List (Nat×aM)}{e f I:Nat}{P:aG}{t:an}{l:aq}{k:fN}
attribute[local congr]bz bA
set_option maxRecDepth 100000
set_option maxHeartbeats 2000000
theorem aIk{t n i:Nat}(a:PP.underlying t=J (.slice e))(z:aZ PP e=J n)(h:i<=l.length)(r:i<=bl):n8 PP t (.ay l e n) Z (J (.int .i64 (.ofNat i))) Z=J (.ay (l.take i) e n,.no):=by simp_all[n8,nI,nH]
theorem SP{n:Nat}:bP C l e n=.ay l e n:=by cases l<;>rfl
theorem kH.al{c:aq}{a b:GO}(h:kH c g):kH c ((g.alloc a).set g.next b):=by obtain⟨n,f,e,d⟩:=h;have u:((g.alloc a).set g.next b).next=g.next+1:=rfl;refine⟨ab,f,by grind[lj,ke],?_⟩;rcases d with rfl|⟨i,w,rfl,j,k,l⟩<;>grind[lj,ke]
theorem aBP(p:eH)(e:dy)(w:lF p.types)(N:p.query.key.l.length<1000000000)(o:e.sz)(Q:e.held.l.length+e.wait.l.length<1100000):de Iq (ev PP cf (.call 190 [.agg p.cells,e.d] .no .empty)):=by
 have H:=agS e.held e.wait ab;have G:p.cells[0]?=J (cC p.types):=rfl;have u:p.cells.length=23:=p.dG;have S:cA p.cells=V:=eH.pure p;generalize Y:p.cells=s at*;have D:s.take 23=s:=ai;simp only[cX]at H;refine ic func190 ?_;obtain⟨L,n⟩:∃L,e.held.l++e.wait.l=L:=⟨_,rfl⟩;have K:L.length<1100000:=ai;have v:∀x∈L,x.j9.l.length<1000000000:=λx c=>by
   rw[<-n]at c;rcases List.mem_append.1 c with h|h;.exact o.2.1.2 x h
   .exact o.1.2 x h
 rw[n]at H;rcases M:L with _|⟨a,t⟩
 . simp only[M,eG,zl]at H;simp only[go_sem,f190,dy.d,dy.cells,cX,u,D,H];refine tx ([]:List aL) (λi=>[(22,iS i)]) ai rfl ?_ (λi x k c z f=>?_);.simp only[go_sem,bW,rA]
   grind
 have O:fU (L.map aL.d) 90 5=.dv (.ay (L.map aL.d) 90 5) (.ex 90):=tV ai;rw[O]at H;simp only[go_sem,f190,dy.d,dy.cells,cX,u,D,H];refine pA L (⟨1,[(0,.box ⟨s++[.eN],[]⟩)]⟩:GH) (λi g=>⟨190,57,[(22,iS i),(6,.dv (.ay (L.map aL.d) 90 5) (.ty 90)),(5,.dv (.ptr 0 0) .no),(3,.lp 3 0),(2,.lp 2 0),(20,.dv (.ay (L.map aL.d) 90 5) .no),(21,iS L.length)],[(3,⟨e.cells,[]⟩),(2,⟨s,[]⟩)],g⟩) (λ_ _ g=>kH s g) ab rfl ⟨Nat.zero_lt_one,.eN,rfl,.inl rfl⟩ (λg I=>?_) (λi x l g k c z I f=>?_);.simp only[go_sem,bW,rA]
 . have P:=mT k;have A:=v x (dw c);obtain⟨r,e1,m,rfl,_⟩:=Ve p.types x w A;have U:=I.al (a:=.box ⟨[iD 0,iD 0,iD 0,iD 0,.nl],[]⟩) (b:=.box ⟨x.cells,[]⟩);obtain⟨r,e2,R,g2,rfl,B,T,E⟩:=aB0 p _ x w N A (by rw[Y];omega);rw[Y]at B;have j:g2.get g.next=J (.box ⟨x.cells,[]⟩):=by rw[E g.next I.1 (by show g.next<g.next+1;omega),lj,if_pos rfl]
   have cV:n8 PP 44 (.ay (L.map aL.d) 90 5) Z (J (.int .i64 (.ofNat i))) Z=J (.ay ((L.map aL.d).take i) 90 5,.no):=aIk underlying44 (by rfl) ai (by grind[bl]);have e3:=aCY (d:=aL.d) (q:=λy=>rO x y) 239 [] [.ptr g.next 0] g2 C (L.take i) ai (λy _=>.inl ⟨ac5.1,ac5.2,aB1 x y g.next g2 j⟩) (λ_=>⟨rfl,rfl⟩);have F:∀a b:Bool,gG PP .neq 4 (.bool a) (.bool b)=J (.bool (!(a==b))):=λa b=>rfl;have f:=f g2 B;simp only[go_sem,dy.cells,cX]at f;simp only[cC,aL.d,aL.cells]at e1 e2;simp only[go_sem,k,c,aL.d,aL.cells,dy.cells,cX,G,cC,e1,ke,lj];apply dO<;>intro h;rotate_left;.simp only[h,go_sem,bW,rA]
   simp only[h,go_sem,ke,lj,F];apply dO<;>intro h;rotate_left;.simp only[h,go_sem,bW,rA]
   simp only[h,go_sem,ke,lj,e2];apply dO<;>intro h;rotate_left;.simp only[h,go_sem,bW,rA]
   rw[SP,List.map_take]at e3;simp only[h,go_sem,cV,e3];apply dO<;>intro h;.simp only[h,go_sem,bW,rA]
   .simp only[h,go_sem,z];omega
theorem aDW{f:bh->ah bh}{k:eB->ah bh}{x:ah bh}:x.bind (fF λo=>(k o).bind f)=(x.bind (fF k)).bind f:=by
 rcases x with _|r;.rfl
 cases r<;>rfl
theorem aq7{cf:bR}{rec:dR}{rd:ah Nat}{f:bh->ah bh}:∀(c:bF)(st:St)(k:eB->ah bh),exec P cf rec rd c st (λo=>(k o).bind f)=(exec P cf rec rd c st k).bind f:=by intro c;induction c with
 |seq a b i d=>intro st k;show exec P cf rec rd a st _=(exec P cf rec rd a st _).bind f;rw[<-i];congr 1;funext o;cases o<;>simp_all|block id b e=>intro st k;show exec P cf rec rd b st _=(exec P cf rec rd b st _).bind f;rw[<-e];congr 1;funext o;cases o<;>grind|cond c a b i d=>
  intro st k;show(match bj cf.ao st c with|some (.bool x)=>_|_=>Z)=qT (match bj cf.ao st c with|some (.bool x)=>_|_=>Z) f;rcases bj cf.ao st c with _|v;.rfl
  cases v<;>grind|loop b e=>intro st k;exact aDW|scope b e=>intro st k;exact e st k|region id j dr=>intro st k;show cond _ _ _=qT (cond _ _ _) f;grind|rangeFunc g l X b i d=>
  intro st k;show(match bj cf.ao st g with|some (.func h a c)=>_|_=>Z)=qT (match bj cf.ao st g with|some (.func h a c)=>_|_=>Z) f;rcases bj cf.ao st g with _|v;.rfl
  cases v with
  |func h a c=>show cond _ _ _=qT (cond _ _ _) f;cases((cf.iK h (a++[.dT st.g.next]++c)).isSome||!(Ak rd st.g))with|true=>rfl|false=>show qT _ _=(qT _ _).bind f;rw[Option.bind_assoc];congr 1;funext r;cases r with|out o=>rfl|val v g=>
   show(match g.get st.g.next with|some (.loop r)=>_|_=>Z)=qT (match g.get st.g.next with|some (.loop r)=>_|_=>Z) f;rcases g.get st.g.next with _|o;.rfl
   cases o with
   |loop r=>show(match r.state with|.busy=>Z|_=>_)=qT (match r.state with|.busy=>Z|_=>_) f;rcases r with⟨s,p,_,_,_,_,_,_⟩;cases s<;>first|rfl|(rcases p with _|p;rfl;(cases p<;>rfl))
   |_=>rfl
  |_=>rfl
 |_=>intro st k;rfl
theorem aqy{c:bR}{n:Nat}{b:Func}{j:bF}{d:List oy}{a:aq}{w:aM}{p r:bh}(v:P.funcs[f]?=J b)(u:b.body=J j)(z:b.results=⟨d⟩)(A:b.ntmps=n)(x:c.iK f a=Z)(m:(yp (d.map vF)&&br a.length n&&c.Ay f)=V)(h:exec P c (ev P c) Z j ⟨f,n,tX 0 w a,[],g⟩ (BN P d)=J p)(B:Az P p=J r):ev P c (.call f a w g)=J r:=by
 apply Kh;rw[gD,gD]at m;obtain⟨⟨q,t⟩,l⟩:=m;subst A;show(match c.iK f _ with|some r=>_|none=>_)=_;rw[x];rw[v];show b.body.bind _=_;rw[u];rw[t];show exec P c _ _ j _ _=_;have e:=aq7 (P:=P) (cf:=c) (rec:=ev P c) (rd:=Z) (f:=Az P) j ⟨f,b.ntmps,tX 0 w a,[],g⟩ (BN P d);rw[h]at e;rw[<-B];refine Eq.trans ?_ e;congr 1;funext o;have k:∀st,xQ P b st=(sZ P d st).bind _:=λst=>by show cond _ _ _=_;rw[z];rw[q];rcases sZ P d st with _|y<;>rfl
 rcases o with s|⟨i,s⟩|s;.show cond _ _ _=_;rw[l];rw[k];rfl
 .rfl
 show cond _ _ _=_;rw[l];rw[k];rfl
theorem aaC:gG PP .eql 45 (.ay l 127 3) .nl=J (.bool C):=by rfl
theorem als:gG PP .eql 45 .nl .nl=J (.bool V):=by rfl
def mD(L:List bp):aq:=L.flatMap bp.cells
theorem Sm(L:List bp):(mD L).length=3*L.length:=by induction L with|nil=>rfl|cons a L i=>show(a.cells++mD L).length=_;rw[gJ,i,dE];show 3+_=_;omega
theorem amG(L:List bp):(L.map bp.d).flatMap DV.flat=mD L:=by rw[List.flatMap_map];rfl
theorem agQ(L:List bp)(g:GH)(c:L≠[])(l:L.length<1100000):ev PP cf (.call 66 [.ay (L.map bp.d) 127 3] .no g)=J (.val (.dv (.cV g.next 0 L.length 127 3) .no) (g.alloc (.box ⟨mD L,[(3*L.length,.full 127)]⟩))):=by
 have p:fB 127 3 56 (.ay [] 127 3) (.full 127) (L.map bp.d)=J (.ay (L.map bp.d) 127 3,.ex 127):=by
  have h:br ((0+(L.map bp.d).length)*56) bl=V:=nH (by grind[bl]);have b:br (0+(L.map bp.d).length) bl=V:=nH (by grind[bl]);rcases L with _|⟨a,L⟩;.grind
  show cond (aw 3 3&&aw _ _&&(br ((0+((a::L).map _).length)*56) _&&br (0+((a::L).map _).length) _)) _ _=_;rw[h,b];rfl
 have r:qH [5,7] (J 7) (.ay [] 127 3) (.full 127) (L.map bp.d)=V:=by
  rcases L with _|⟨a,L⟩;.grind
  rfl
 have f:(L.map bp.d).all (λy=>decide (y.flat.length=3))=V:=by simp[bp.rj,bp.re]
 have e2:=Sm L;refine aP func66 ?_;simp only[go_sem,f66,aaC,p,r,f,amG,e2];trace_state
set_option maxHeartbeats 1000000
theorem aB5(a b:Sl dU)(j:a.l.length<1000000000)(k:b.l.length<1000000000):de EP (ev PP cf (.call 242 [gX a,gX b] .no .empty)):=by
 have hd:=an4;simp only[bw,opsOf,f242,go_sem]at hd;refine ic func242 ?_;simp only[go_sem,f242,gX];apply dO<;>intro h
 . simp only[h,go_sem];refine tx a.l (λi=>[(13,iS i)]) ab rfl ?_ (λi x d e w c=>?_);.simp only[go_sem,bW,vk]
   .obtain⟨y,f⟩:∃y,b.l[i]?=J y:=⟨_,dD ai⟩;simp only[go_sem]at c;simp only[go_sem,d,e,f,hd,dU.d,dU.cells];apply dO<;>intro g<;>simp only[g,go_sem,w,c,bW,vk]
 .simp only[h,go_sem,bW,vk]
theorem aB6(a b:Sl fA)(j:a.l.length<1000000000)(k:b.l.length<1000000000):de EP (ev PP cf (.call 243 [jC a,jC b] .no .empty)):=by
 have hd:=an5;simp only[bw,opsOf,f243,go_sem]at hd;refine ic func243 ?_;simp only[go_sem,f243,jC];apply dO<;>intro h
 . simp only[h,go_sem];refine tx a.l (λi=>[(13,iS i)]) ab rfl ?_ (λi x d e w c=>?_);.simp only[go_sem,bW,vk]
   .obtain⟨y,f⟩:∃y,b.l[i]?=J y:=⟨_,dD ai⟩;simp only[go_sem]at c;simp only[go_sem,d,e,f,hd,fA.d,fA.cells];apply dO<;>intro g<;>simp only[g,go_sem,w,c,bW,vk]
 .simp only[h,go_sem,bW,vk]
theorem aCr(t s q c b a:Int):CC 321 [jz t s q,jz c b a] (vI (Cl t s q c b a)):=by have h:=Fh [ir t c,ir s b,ir q a] C ai;simp only[zy,fS,eG]at h;have hd:=aoe;simp only[bw,opsOf,f321,go_sem]at hd;refine aP func321 ?_;simp only[go_sem,f321,hd,jz,Af,h,Cl]
def dU.cmp(a b:dU):Int:=wW [Cl a.a a.b a.c b.a b.b b.c,ir a.v b.v]
theorem aCq(a b:dU):CC 320 [a.d,b.d] (vI (a.cmp b)):=by have h:=Fh [Cl a.a a.b a.c b.a b.b b.c,ir a.v b.v] C ai;have c:=aCr a.a a.b a.c b.a b.b b.c;simp only[zy,fS,eG]at h;simp only[jz]at c;have hd:=aod;simp only[bw,opsOf,f320,go_sem]at hd;refine aP func320 ?_;simp only[go_sem,f320,hd,dU.d,dU.cells,Af,c,h,dU.cmp]
def fA.cmp(a b:fA):Int:=wW [ir a.sc b.sc,ir a.tm b.tm]
theorem aCo(a b:fA):CC 315 [a.d,b.d] (vI (a.cmp b)):=by have h:=Fh [ir a.sc b.sc,ir a.tm b.tm] C ai;simp only[zy,fS,eG]at h;have hd:=aoc;simp only[bw,opsOf,f315,go_sem]at hd;refine aP func315 ?_;simp only[go_sem,f315,hd,fA.d,fA.cells,Af,h,fA.cmp]
theorem aCp(a b:Sl dU)(k:a.l.length<1000000000):de Ip (ev PP cf (.call 319 [gX a,gX b,.func 320 [] []] .no .empty)):=by
 refine ic func319 ?_;simp only[go_sem,f319,gX];refine tx a.l (λi=>[(13,iS i)]) ab rfl ?_ (λi x d e w f=>?_)
 . simp only[go_sem];by_cases h:a.l.length<b.l.length;.simp only[h,go_sem];simp[yg,de]
   .simp only[h,go_sem];simp[yg,de]
 . simp only[go_sem]at f;by_cases h:i<b.l.length;.obtain⟨y,j⟩:∃y,b.l[i]?=J y:=⟨_,dD h⟩;have c:=aCq x y;simp only[dU.d,dU.cells]at c;simp only[go_sem,d,e,j,h,dU.d,dU.cells,c];apply dO<;>intro g<;>simp only[g,go_sem,w,f,bW,yg]
   .simp only[go_sem,d,e,h,dU.d,dU.cells,bW,yg]
theorem aCn(a b:Sl fA)(k:a.l.length<1000000000):de Ip (ev PP cf (.call 314 [jC a,jC b,.func 315 [] []] .no .empty)):=by
 refine ic func314 ?_;simp only[go_sem,f314,jC];refine tx a.l (λi=>[(13,iS i)]) ab rfl ?_ (λi x d e w f=>?_)
 . simp only[go_sem];by_cases h:a.l.length<b.l.length;.simp only[h,go_sem];simp[yg,de]
   .simp only[h,go_sem];simp[yg,de]
 . simp only[go_sem]at f;by_cases h:i<b.l.length;.obtain⟨y,j⟩:∃y,b.l[i]?=J y:=⟨_,dD h⟩;have c:=aCo x y;simp only[fA.d,fA.cells]at c;simp only[go_sem,d,e,j,h,fA.d,fA.cells,c];apply dO<;>intro g<;>simp only[g,go_sem,w,f,bW,yg]
   .simp only[go_sem,d,e,h,fA.d,fA.cells,bW,yg]
theorem aCb(a b:Sl dU)(c:a.l.length<1000000000):de Ip (ev PP cf (.call 260 [.agg [gX a],.agg [gX b]] .no .empty)):=by obtain⟨r,h,n,rfl⟩:=aCp a b c;refine ic func260 ?_;simp only[go_sem,f260,h,bW,yg]
theorem ab0{a:Bool}{n:Nat}:(bP a l e n).flat=[bP a l e n]:=by
 unfold bP;split;.cases a<;>rfl
 rfl
theorem ak8(s:Sl dU):(gX s).flat=[gX s]:=ab0
theorem agJ(a b:bp)(c:a.bs.l.length<1000000000)(d:a.ss.l.length<1000000000):de Ip (ev PP cf (.call 258 [a.d,b.d] .no .empty)):=by obtain⟨r,e1,n,rfl⟩:=aCb _ b.bs c;obtain⟨r,e2,m,rfl⟩:=aCn _ b.ss d;have h:=Fh [ir a.st b.st,n,m] C ai;simp only[zy,fS,eG]at h;have hd:=an8;simp only[bw,opsOf,f258,go_sem]at hd;refine ic func258 ?_;simp only[go_sem,f258,hd,bp.d,bp.cells,ak8,dE,gE,List.drop_succ_cons,xp,lC,jF,Af,e1,e2,h,bW,yg]
set_option maxHeartbeats 2000000
def nE(l:aq):GH:=⟨2,[(0,.box ⟨l,[(6,.full 127)]⟩),(1,.box ⟨[.func 258 [] []],[]⟩)]⟩
theorem aCD(x y:bp)(n:Int)(a:CC 258 [y.d,x.d] (vI n)):ev PP cf (.call 424 [.cV 0 0 2 127 3,iD 0,iD 2,.func 258 [] []] .no (nE (x.cells++y.cells)))=J (.val (.tp []) (nE (bif aA n 0 then y.cells++x.cells else x.cells++y.cells))):=by
 have d4:dm cf (bw f424 4)=V:=aop;have d6:=aoq;simp only[bw,opsOf,f424,go_sem]at d4 d6;simp only[bp.d,bp.cells]at a;refine aP func424 ?_;simp only[go_sem,f424,nE,bp.cells,lC,jF];refine hZ ?_;simp only[go_sem];refine FW rfl ?_;have c:dI .i64 (jP 0 1)=1:=rfl;have b:dI .i64 (jP 1 1)=2:=rfl;have w:dI .i64 (Int.sub 1 1)=di 0:=rfl;have l1:aA 0 1=V:=rfl;simp only[go_sem,c];rw[Cf];refine hZ ?_;simp only[go_sem,d4,l1,w,a];have q0:cW [(6,aM.full 127)] 0 3=[(6,.full 127)]:=rfl;have q3:cW [(6,aM.full 127)] 3 3=[(6,.full 127)]:=rfl;apply sp<;>intro h;.simp only[h,go_sem,d6,w,q0,q3];refine hZ ?_;simp only[go_sem,d4,b];refine hZ ?_;simp only[go_sem];rfl
 .simp only[h,go_sem,b];refine hZ ?_;simp only[go_sem];rfl
theorem aCz:CC 383 [.int .u64 2] (vI 2):=by refine aP func383 ?_;rfl
theorem aCv:CC 328 [.int .u64 2] (vI 2):=by refine aP func328 ?_;simp only[go_sem,f328,aCz]
theorem aCx(x y:bp)(n:Int)(h:CC 258 [y.d,x.d] (vI n)):ev PP cf (.call 367 [.cV 0 0 2 127 3,iD 0,iD 2,iD 2,.func 258 [] []] .no (nE (x.cells++y.cells)))=J (.val (.tp []) (nE (bif aA n 0 then y.cells++x.cells else x.cells++y.cells))):=by have e:=aCD x y n h;have s:dI .i64 (Int.sub 2 0)=2:=rfl;refine aP func367 ?_;simp only[go_sem,f367];refine hZ ?_;simp only[go_sem,s];refine I' rfl ?_;simp only[go_sem,e]
theorem akj:AM.isAgg PP 369=J C:=by rfl
attribute[go_sem]akj
theorem aCl(x y:bp)(n:Int)(h:CC 258 [y.d,x.d] (vI n)):ev PP cf (.call 311 [.cV 0 0 2 127 3,.func 258 [] []] .no (nE (x.cells++y.cells)))=J (.val (.tp []) (nE (bif aA n 0 then y.cells++x.cells else x.cells++y.cells))):=by have e:=aCx x y n h;have w:dI .u64 (di 2)=2:=rfl;generalize nE _=g0 at*;have e:ev PP cf (.call _ [.cV 0 0 2 _ 3,.int _ 0,.int _ (.ofNat 2),.int _ 2,.func _ [] []] _ g0)=J _:=e;refine aP func311 ?_;simp only[go_sem,f311,w,aCv,e]
theorem aCm(x y:bp)(n:Int)(l:aq)(h:CC 258 [y.d,x.d] (vI n)):ev PP cf (.call 313 [y.d,x.d,.ptr 1 0] .no (nE l))=J (.val (.dv (.bool (aj n 0)) .no) (nE l)):=by simp only[bp.d,bp.cells]at h;refine aP func313 ?_;simp only[go_sem,f313,nE,bp.d,bp.cells,h]
theorem agK(x y:bp)(n:Int)(a:CC 258 [y.d,x.d] (vI n)):ev PP cf (.call 312 [.cV 0 0 2 127 3,.func 313 [] [.ptr 1 0]] .no (nE (x.cells++y.cells)))=bif aj n 0 then J (.val (.dv (.cV 0 0 1 127 3) .no) (nE (x.cells++[iD 0,.nl,.nl])))else J (.val (.dv (.cV 0 0 2 127 3) .no) (nE (x.cells++y.cells))):=by have e:=aCm x y n (x.cells++y.cells) a;have d6:=aob;simp only[bw,opsOf,f312,go_sem]at d6;have w:dI .i64 (Int.sub 1 1)=di 0:=rfl;have c:dI .i64 (jP 1 1)=2:=rfl;simp only[nE,bp.d,bp.cells,lC,jF]at e;cases h:aj n 0 with|true=>rw[h]at e;refine aP func312 ?_;simp only[go_sem,f312,nE,bp.cells,lC,jF];refine I' rfl ?_;simp only[go_sem];refine hZ ?_;simp only[go_sem];refine FW rfl ?_;simp only[go_sem,d6,w,e];have s:n8 PP 45 (.cV 0 0 2 127 3) (J (.int .i64 1)) Z Z=J _:=rfl;have b:n8 PP 45 (.cV 0 0 2 127 3) Z (J (.int .i64 1)) Z=J _:=rfl;simp only[s,go_sem];rw[Cf];refine hZ ?_;simp only[go_sem];refine I' rfl ?_;simp only[go_sem,s,b,q3];rfl|false=>rw[h]at e;refine aP func312 ?_;simp only[go_sem,f312,nE,bp.cells,lC,jF];refine I' rfl ?_;simp only[go_sem];refine hZ ?_;simp only[go_sem];refine FW rfl ?_;simp only[go_sem,d6,w,e,c];refine hZ ?_;simp only[go_sem];rfl
def isP(x y:bp)(r:bh):Prop:=∃u v:bp,(u=x/\v=y\/u=y/\v=x)/\(r=.val (.dv (.cV 0 0 1 127 3) .no) (nE (u.cells++[iD 0,.nl,.nl]))\/r=.val (.dv (.cV 0 0 2 127 3) .no) (nE (u.cells++v.cells)))
def bp.sm(c:bp):Prop:=c.bs.l.length<1100000/\c.ss.l.length<1100000
theorem aB9(x y:bp)(d:x.sm)(e:y.sm):de (isP x y) (ev PP cf (.call 257 [.cV 0 0 2 127 3,.func 258 [] []] .no ⟨1,[(0,.box ⟨x.cells++y.cells,[(6,.full 127)]⟩)]⟩)):=by obtain⟨k,o⟩:=d;obtain⟨U,j⟩:=e;obtain⟨r,a,n,rfl⟩:=agJ y x ab ab;obtain⟨r,c,m,rfl⟩:=agJ x y ab ab;have e1:=aCl x y n a;have e2:=agK x y n a;have e3:=agK y x m c;have w:(⟨1,[(0,.box ⟨x.cells++y.cells,[(6,.full 127)]⟩)]⟩:GH).alloc (.box ⟨[.func 258 [] []],[]⟩)=nE (x.cells++y.cells):=rfl;have f:∀l,(nE l).get 1=J (.box ⟨[.func 258 [] []],[]⟩):=λ_=>rfl;generalize i:(⟨1,[(0,.box ⟨x.cells++y.cells,[(6,.full 127)]⟩)]⟩:GH)=g at*;have b:g.next=1:=ai;refine ic func257 ?_;simp only[go_sem,f257,b,w,f,e1];cases aA n 0 with
 |true=>cases h:aj m 0 with|true=>rw[h]at e3;simp only[go_sem]at e3;simp only[go_sem,e3,bW];exact⟨y,x,.inr ⟨rfl,rfl⟩,.inl rfl⟩|false=>rw[h]at e3;simp only[go_sem]at e3;simp only[go_sem,e3,bW];exact⟨y,x,.inr ⟨rfl,rfl⟩,.inr rfl⟩
 |false=>cases h:aj n 0 with|true=>rw[h]at e2;simp only[go_sem]at e2;simp only[go_sem,e2,bW];exact⟨x,y,.inl ⟨rfl,rfl⟩,.inl rfl⟩|false=>rw[h]at e2;simp only[go_sem]at e2;simp only[go_sem,e2,bW];exact⟨x,y,.inl ⟨rfl,rfl⟩,.inr rfl⟩
theorem QH{p q:bh->Prop}{c:bR}{n:Nat}{d:Func}{i:bF}{e:List oy}{s:aq}{o:aM}(m:P.funcs[f]?=J d)(l:d.body=J i)(w:d.results=⟨e⟩)(x:d.ntmps=n)(v:c.iK f s=Z)(t:(yp (e.map vF)&&br s.length n&&c.Ay f)=V)(u:∀r,q r->de p (Az P r))(h:de q (exec P c (ev P c) Z i ⟨f,n,tX 0 o s,[],g⟩ (BN P e))):de p (ev P c (.call f s o g)):=by obtain⟨r,a,b⟩:=h;obtain⟨y,j,k⟩:=u r b;grind[aqy]
def isQ(x y:bp)(r:bh):Prop:=∃u v:bp,(u=x/\v=y\/u=y/\v=x)/\∃L g,(L=[u]\/L=[u,v])/\r=.val (.tp [(.ay (L.map bp.d) 127 3,.no),iO 0]) g
theorem aB4(x y:bp)(h:x.sm)(a:y.sm):de (isQ x y) (ev PP cf (.call 241 [.ay [x.d,y.d] 127 3] .no .empty)):=by
 obtain⟨r,e1,u,v,U,hr⟩:=aB9 x y h a;have e0:=agQ [x,y] .empty aO aO;have e0:ev PP cf (.call 66 [.ay [x.d,y.d] _ 3] _ _)=J (.val _ ⟨1,[(0,.box ⟨x.cells++y.cells,_⟩)]⟩):=e0;refine QH (q:=λr=>∃c,(c=[u]/\r=.val (.tp [(.cV 0 0 1 127 3,.no),iO 0]) (nE (u.cells++[iD 0,.nl,.nl]))\/c=[u,v]/\r=.val (.tp [(.cV 0 0 2 127 3,.no),iO 0]) (nE (u.cells++v.cells)))) func241 rfl rfl rfl rfl rfl ?_ ?_
 . rintro r⟨c,⟨rfl,rfl⟩|⟨rfl,rfl⟩⟩;.exact⟨_,rfl,u,v,U,_,_,.inl rfl,rfl⟩
   .exact⟨_,rfl,u,v,U,_,_,.inr rfl,rfl⟩
 . generalize(⟨1,_⟩:GH)=g at*;simp only[bp.d,bp.cells]at e0;simp only[go_sem,f241,bp.d,bp.cells,e0];rcases hr with rfl|rfl;.simp only[go_sem,e1];refine Ds rfl ?_;simp only[go_sem,bW];exact⟨_,.inl ⟨rfl,rfl⟩⟩
   .simp only[go_sem,e1];refine Ds rfl ?_;simp only[go_sem,bW];exact⟨_,.inr ⟨rfl,rfl⟩⟩
def afl(r:bh):Prop:=∃b g,r=.val (.dv (.bool b) .no) g
theorem UD{b:Bool}:afl (.val (.dv (.bool b) .no) g)=True:=iT ⟨b,g,rfl⟩
theorem aBR(a b:bp)(c:a.sm)(f:b.sm):de afl (ev PP cf (.call 192 [a.d,b.d] .no .empty)):=by
 obtain⟨r,e1,u,v,U,L,g,e,rfl⟩:=aB4 b a f c;have d:u.sm:=ai;obtain⟨r,e2,i,rfl⟩:=aB5 u.bs a.bs (by have:=d.1;omega) (by have:=c.1;omega);obtain⟨r,e3,j,rfl⟩:=aB6 u.ss a.ss (by have:=d.2;omega) (by have:=c.2;omega);have hd:=anT;simp only[bw,opsOf,f192,go_sem]at hd;simp only[bp.d,bp.cells]at e1;refine ic func192 ?_;rcases e with rfl|rfl;.simp only[fS,eG,bp.d,bp.cells]at e1;simp only[go_sem,f192,bp.d,bp.cells,e1,hd];have z:aj (.ofNat 1) 2=C:=rfl;refine Ds rfl ?_;repeat'(first|(simp only[z,go_sem,bW,UD];done)|(simp only[z,hd,go_sem,bW,UD];apply dO<;>intro h))
 .simp only[fS,eG,bp.d,bp.cells]at e1;simp only[go_sem,f192,bp.d,bp.cells,e1,hd];have z:aj (.ofNat 2) 2=V:=rfl;refine Y0 rfl ?_;simp only[z,go_sem];repeat'(with_reducible apply dO<;>intro h<;>simp only[h,e2,e3,go_sem,bW,UD])
theorem Mu{p:bh->Prop}{c:bR}{b:bF}{t:Tg b}{s:St}{d:ah Nat}{f:bh->ah bh}(h:de p ((exec P c (ev P c) d b s (mR P c (.mk b t) d)).bind f)):de p ((kT (ev P c) (.mk b t) s d).bind f):=let⟨r,a,b⟩:=h;⟨r,hZ a,b⟩
def dy.sm(e:dy):Prop:=e.sz/\e.held.l.length+e.wait.l.length<1100000/\∀c∈e.runs.l,c.sm
theorem aBN(p:eH)(e:dy)(a:qe p)(q:mB p.query)(A:qM (mF p.query.pat).1)(o:e.sm):de Iq (ev PP cf (.call 139 [.agg p.cells,e.d] .no .empty)):=by
 obtain⟨z,u,hr⟩:=o;obtain⟨g,e0⟩:=ev9 p.types p.query p.xC a.t q A;have e0:CC 188 [.agg p.cells] (.val (.dv (iD (JX mF p.types p.query p.xC)) .no) g):=e0;obtain⟨r,e1,H,g1,rfl,_⟩:=Vd e.held ab;obtain⟨r,e2,I,g2,rfl,_⟩:=Vd e.wait ab;obtain⟨r,e3,K,g3,rfl⟩:=aBP p e a.t a.k z u;have e4:=λc b=>aBQ p e c a q A z (hr c b).1 (by have:=(hr c b).2;omega);have d24:=anR;simp only[bw,opsOf,f139,go_sem]at d24;have m:cA p.cells=V:=eH.pure p;have l:p.cells.length=23:=p.dG;generalize JX mF p.types p.query p.xC=n at*;generalize b:p.cells=s at*;have t:s.take 23=s:=ai;simp only[cX,mc,dy.d,dy.cells]at e1 e2 e3;refine ic func139 ?_;simp only[go_sem,f139,cX,mc,dy.d,dy.cells,l,t,m,e0];repeat'(with_reducible apply dO<;>intro h<;>simp only[h,go_sem,bW,rA])
 have l0:aA 0 (.ofNat 2)=V:=rfl;have l1:aA 1 (.ofNat 2)=V:=rfl;have l2:aA 2 (.ofNat 2)=C:=rfl;have D:dI .i64 (jP 0 1)=1:=rfl;have E:dI .i64 (jP 1 1)=2:=rfl;refine Mu ?_;simp only[go_sem];refine Y0 l0 ?_;simp only[go_sem,e1];apply dO<;>intro h;rotate_left;.simp only[h,go_sem,bW,rA]
 simp only[h,go_sem,D];refine Mu ?_;simp only[go_sem];refine Y0 l1 ?_;simp only[go_sem,e2];apply dO<;>intro h;rotate_left;.simp only[h,go_sem,bW,rA]
 simp only[h,go_sem,E];refine Mu ?_;simp only[go_sem];refine Ds l2 ?_;simp only[go_sem,l,t,m,e3];repeat'(with_reducible apply dO<;>intro h<;>simp only[h,go_sem,bW,rA])
 refine tx e.runs.l (λi=>[(55,iS i)]) (by have:=z.2.2.1;omega) rfl ?_ (λi x f d w v=>?_);.simp only[go_sem,bW,rA]
 . have O:=mT f;have F:=z.2.2.1;obtain⟨r,e5,L,g5,rfl⟩:=e4 x (dw d);simp only[cX,mc,dy.d,dy.cells,bp.d,bp.cells]at e5;simp only[go_sem]at v;simp only[go_sem,f,d,bp.d,bp.cells,l,t,m,e5];rcases i with _|i
   . have k:aA 0 (di 0)=C:=rfl;have M:aA 0 0=C:=rfl;apply dO<;>intro h;rotate_left;.simp only[h,go_sem,bW,rA]
     simp only[h,go_sem,d24];grind
   . have k:aA 0 (di (i+1))=V:=by rfl
     obtain⟨y,j⟩:∃y,e.runs.l[i]?=J y:=⟨_,dD ab⟩;have B:=sub_succ i ab;obtain⟨r,e6,G,g6,rfl⟩:=aBR y x (hr y (dw j)) (hr x (dw d));simp only[bp.d,bp.cells]at e6;repeat'(with_reducible apply dO<;>intro h<;>simp only[h,d24,k,B,j,e6,w,bp.d,bp.cells,go_sem,bW,rA])
     omega
theorem aCT(p:eH)(e:dy)(b:qe p)(q:mB p.query)(h:qM (mF p.query.pat).1)(a:e.sm):de Iq (ev PP cf (.call 84 [.agg p.cells,e.d] .no .empty)):=by obtain⟨r,e1,n,g,rfl⟩:=aBN p e b q h a;have m:=eH.pure p;have l:=p.dG;generalize d:p.cells=c at*;have t:c.take 23=c:=ai;simp only[dy.d,dy.cells]at e1;refine ic func84 ?_;simp only[go_sem,f84,dy.d,dy.cells,l,t,m,e1,bW,rA]
set_option maxHeartbeats 1000000
def Td(v:Sl ct):Bool:=aA (.ofNat v.l.length) 40&&v.l.all λx=>!aA 128 (.ofNat x.s.length)
theorem aCS(v:Sl ct)(e:v.l.length<1000000000):CC 82 [uJ v] (vB (Td v)):=by
 refine aP func82 ?_;simp only[go_sem,f82,uJ];refine gR v.l (λi=>[(3,iS i)]) (λ_ l=>vB (aA _ 40&&l.all _)) ab rfl rfl ?_ (λi x l c d w a=>?_);.simp only[go_sem,nG]
 . simp only[go_sem]at a;simp only[go_sem,c,oT];apply sp<;>intro h;.simp only[h,d,ct.d,ct.cells,go_sem];apply sp<;>intro h<;>simp only[h,w,go_sem,a]
   . have b:aA (.ofNat v.l.length) 40=C:=by grind[fQ]
     simp only[b,go_sem]
theorem aCJ(e:aL)(l:e.j9.l.length<1000000000):CC 51 [e.d] (vB (Td e.j9)):=by have h:=aCS _ l;refine aP func51 ?_;simp only[go_sem,f51,aL.d,aL.cells,h]
theorem aLS{i n k:Nat}(h:aA (.ofNat i) (.ofNat k)=C)(a:i<n):k<n:=by grind[fQ]
def arw(v:Sl aL):Bool:=!aA 20 (.ofNat v.l.length)&&v.l.all λe=>Td e.j9
theorem agL(v:Sl aL)(d:F7 v):CC 32 [cX v] (vB (arw v)):=by
 obtain⟨f,a⟩:=d;refine aP func32 ?_;simp only[go_sem,f32,cX];refine gR v.l (λi=>[(3,iS i)]) (λ_ l=>vB (!aA 20 _&&l.all _)) ab rfl rfl ?_ (λi x l c e w b=>?_);.simp only[go_sem,nG]
 . have g:=aCJ x ai;simp only[go_sem]at b;simp only[go_sem,c,oT];apply sp<;>intro h;.simp only[h,e,g,go_sem];apply sp<;>intro h<;>simp only[h,w,go_sem,b,xk,vU]
   . have a:aA 20 (.ofNat v.l.length)=V:=by grind[fQ]
     simp only[a,go_sem]
def Tc(c:bp):Bool:=bif aA 12 (.ofNat c.bs.l.length)then C else !aA 12 (.ofNat c.ss.l.length)
def arx(v:Sl bp):Bool:=!aA 60 (.ofNat v.l.length)&&v.l.all Tc
theorem aCI(v:Sl bp)(e:v.l.length<1000000000):CC 50 [mc v] (vB (arx v)):=by
 refine aP func50 ?_;simp only[go_sem,f50,mc];refine gR v.l (λi=>[(3,iS i)]) (λ_ l=>vB (!aA 60 (.ofNat v.l.length)&&l.all Tc)) ab rfl rfl ?_ (λi x l a b w c=>?_);.simp only[go_sem,nG]
 . have H:i<v.l.length:=mT a;simp only[go_sem]at c;simp only[go_sem,a,oT];apply sp<;>intro h
   . simp only[h,b,bp.d,bp.cells,gX,jC,Tc,go_sem];apply sp<;>intro h;.simp only[h,go_sem]
     .simp only[h,b,bp.d,bp.cells,gX,jC,go_sem];apply sp<;>intro h<;>simp only[h,w,go_sem,c]
   . have d:aA 60 (.ofNat v.l.length)=V:=by grind[fQ]
     simp only[d,go_sem]
theorem aaD{t n:Nat}(h:t=88\/t=44\/t=124\/t=125\/t=26):gG PP .eql t (.ay l e n) .nl=J (.bool C)/\gG PP .eql t .nl .nl=J (.bool V):=by rcases h with rfl|rfl|rfl|rfl|rfl<;>exact⟨rfl,rfl⟩
theorem JY{d:α->DV}{t c b:Nat}(j:(f,t,e,c,b)=(99,88,43,3,32)\/(f,t,e,c,b)=(110,44,90,5,56)\/(f,t,e,c,b)=(67,124,164,4,32)\/(f,t,e,c,b)=(68,125,167,2,16)\/(f,t,e,c,b)=(38,26,3,1,8))(r:∀x,(d x).flat.length=c)(i:Bool)(g:List α)(h:g.length<1100000):∃o,(o=.ex e\/g=[]/\o=.any)/\CC f [bP i (g.map d) e c] (.val (.dv (bP i (g.map d) e c) o) .empty):=by have k:b<=64/\c≠0:=ai;have s:(0+(g.map d).length)*b<=1100000*64:=qR ai k.1;have p:fB e c b (.ay [] e c) (.ex e) (g.map d)=J (.ay ([]++g.map d) e c,.ex e):=qg k.2 (by grind[bl]) (by grind[bl]);have q:(g.map d).all (λy=>decide (y.flat.length=c))=V:=ai;have e1:∀g,gG PP .eql t (.ay g e c) .nl=J (.bool C):=λg=>(aaD ai).1;have e2:gG PP .eql t .nl .nl=J (.bool V):=(aaD (e:=0) (n:=0) (l:=[]) ai).2;rw[List.nil_append]at p;cases g with
 |nil=>cases i with
  |true=>
  refine⟨_,.inr ⟨rfl,rfl⟩,?_⟩;show ev PP cf (.call f [.nl] _ _)=J _;rcases j with h|h|h|h|h<;>cases h<;>first|refine aP func99 ?_|refine aP func110 ?_|refine aP func67 ?_|refine aP func68 ?_|refine aP func38 ?_
  all_goals rfl|false=>
  refine⟨_,.inl rfl,?_⟩;show ev PP cf (.call f [.ay [] e c] _ _)=J _;rcases j with h|h|h|h|h<;>cases h<;>first|refine aP func99 ?_|refine aP func110 ?_|refine aP func67 ?_|refine aP func68 ?_|refine aP func38 ?_
  all_goals rfl
 |cons a g=>
  refine⟨_,.inl rfl,?_⟩;have m:bP i ((a::g).map d) e c=.ay _ e c:=rfl;rw[m];generalize(a::g).map d=L at*;rcases j with h|h|h|h|h<;>cases h<;>first|refine aP func99 ?_|refine aP func110 ?_|refine aP func67 ?_|refine aP func68 ?_|refine aP func38 ?_
  all_goals simp only[go_sem,f99,f110,f67,f68,f38,e1,p,q]
theorem aCk(p:eH)(v:Sl aL)(r:Sl bp)(j:∃b,CC 49 [.agg p.cells] (vB b))(m:F7 v)(k:r.l.length<1000000000):de EP (ev PP cf (.call 31 [.agg p.cells,cX v,mc r] .no .empty)):=by
 obtain⟨b,g⟩:=j;have a:=agL v m;have d:=aCI r k;simp only[cX,mc]at a d;refine ic func31 ?_;generalize i:p.cells=c at*;have l:c.length=23:=by rw[<-i];exact p.dG
 have N:cA c=V:=by grind[eH.pure]
 have t:c.take 23=c:=ai;have e:=Hj v;have f:=JW r;simp only[cX,mc]at e f;simp only[go_sem,f31,g,cX,mc,l,N,t];repeat'(with_reducible apply dO<;>intro h<;>simp only[h,a,d,e,f,go_sem,bW,vk])
theorem agG(p:eH)(e:dy)(q:∃b,CC 49 [.agg p.cells] (vB b))(t:p.types.l.length<1100000)(a:e.sz):de EP (ev PP cf (.call 14 [.agg p.cells,e.d] .no .empty)):=by
 obtain⟨u,f,s,rfl⟩:=aCk p e.held e.runs q a.2.1 a.2.2.1;have g:=agL e.wait a.1;have i:=acb p.types t;refine ic func14 ?_;have d:p.cells[0]?=J (cC p.types):=rfl;generalize n:p.cells=c at*;have o:c.length=23:=by rw[<-n];exact p.dG
 have N:cA c=V:=by grind[eH.pure]
 have r:c.take 23=c:=ai;have j:=Hj e.held;have k:=Hj e.wait;have l:=JW e.runs;have m:=YO p.types;simp only[cX,mc,cC]at f g i d j k l m;simp only[go_sem,f14,dy.d,dy.cells,f,cX,mc,o,N,r,j,l];repeat'(with_reducible apply dO<;>intro h<;>simp only[h,g,i,d,k,m,go_sem,bW,vk])
structure dA where
 types:Sl bY
 qs:Sl cq
def cq.dv(q:cq):DV:=.agg q.cells
def sH(s:Sl cq):DV:=bP s.nl (s.l.map cq.dv) 63 18
def dA.cells(p:dA):aq:=[cC p.types,sH p.qs]
def dA.d(p:dA):DV:=.agg p.cells
theorem cq.aoL(q:cq):q.dv.aV=C:=rfl
theorem cq.aoK(q:cq):q.dv.flat=q.cells:=rfl
theorem cq.abT(q:cq):q.dv.pure=V:=cq.pure q
theorem aFE(s:Sl cq):(sH s).pure=V:=pC (iB cq.abT _)
attribute[go_sem]cq.aoL cq.aoK cq.dG aFE
def GU:dK:=⟨0,0,⟨V,[]⟩,⟨V,[]⟩⟩
def ao0:dy:=⟨0,⟨V,[]⟩,⟨V,[]⟩,⟨V,[]⟩⟩
def Mr:cq:=⟨[],⟨V,[]⟩,⟨V,[]⟩,.mk 0 V [] 0 0 0 0 (.mk 0 V [] 0 0 0 0 0 []),⟨V,[]⟩⟩
def dA.ok(p:dA):Prop:=p.types.l.length<1100000/\p.qs.l.length<1000000000/\(∀q∈p.qs.l,∃b,CC 49 [.agg (eH.cells ⟨p.types,q,GU⟩)] (vB b))/\∃b,CC 49 [.agg (eH.cells ⟨p.types,Mr,GU⟩)] (vB b)
theorem ao1:ao0.sz:=⟨⟨eY,λe h=>by cases h⟩,⟨eY,λe h=>by cases h⟩,eY,λe h=>by cases h⟩
theorem nv4(p:dA)(o:bK)(l:p.ok)(k:o.sz):de EP (ev PP cf (.call 4 [p.d,o.d] .no .empty)):=by
 obtain⟨f,s,g,j⟩:=l;obtain⟨k1,k2,k3⟩:=k;have hd:=aoz;have m:=aoy;simp only[bw,opsOf,f4,go_sem]at hd m;refine ic func4 ?_;simp only[go_sem,f4,dA.d,dA.cells,bK.d,bK.cells,cC,sH,cL,ki];repeat'(with_reducible apply dO<;>intro h<;>simp only[h,go_sem,bW,vk])
 refine tx p.qs.l (λi=>[(5,iS i)]) ab rfl ?_ (λi x d b w c=>?_)
 . simp only[go_sem];refine tx o.keys.l (λi=>[(6,iS i)]) ab rfl ?_ (λi x d b w c=>?_);.simp only[go_sem,bW,vk]
   .obtain⟨r,a,e,rfl⟩:=agG ⟨p.types,Mr,GU⟩ x.e j f (k3 x (dw b));simp only[go_sem]at c;have a:CC 14 [.agg [bP p.types.nl (p.types.l.map bY.d) 79 2,.str [],.nl,.nl,iD 0,.nl,iD 0,iD 0,iD 0,iD 0,iD 0,.nl,iD 0,iD 0,iD 0,iD 0,iD 0,.str [],.nl,iD 0,iD 0,.nl,.nl],.agg [iD x.e.mark,cX x.e.wait,mc x.e.runs,cX x.e.held]] (vB e):=a;simp only[go_sem,d,b,m,aE.d,aE.cells,a];repeat'(with_reducible apply dO<;>intro h<;>simp only[h,b,w,c,aE.d,aE.cells,go_sem,bW,vk])
 .obtain⟨r,a,e,rfl⟩:=agG _ _ (g x (dw b)) f ao1;simp only[go_sem]at c;have a:ev PP cf (.call 14 [.agg (bP _ _ 79 2::(x.cells++[iD 0,iD 0,.nl,.nl])),.agg [iD 0,.nl,.nl,.nl]] _ _)=J _:=a;have n:=YO p.types;have q:=cq.pure x;simp only[go_sem,d,b,hd,cq.dv,BI,n,q,a];apply dO<;>intro h<;>simp only[h,w,c,go_sem,bW,vk]
set_option maxHeartbeats 2000000
theorem aEt{l:List cq}:cA (l.map cq.dv)=V:=iB cq.abT _
attribute[go_sem]aEt
structure DT(p:dA):Prop where
 t:lF p.types
 q:∀q∈p.qs.l,mB q
 l:p.qs.l.length<1100000
def afj(p:dA)(r:bh):Prop:=∃i n g,r=.val (.tp [iO i,iO n]) g/\(aj n 0=V->∀q∈p.qs.l,wu p.types q=0)
theorem aCC(p:dA)(d:DT p):de (afj p) (ev PP cf (.call 41 [p.d] .no .empty)):=by
 have r:∀{i n:Int}{g:GH},aj n 0=C->afj p (.val (.tp [iO i,iO n]) g):=λh=>⟨_,_,_,rfl,λk=>ai⟩;obtain⟨g0,e0⟩:=Kf p.types d.t.a d.t.b;have z:=d.l;simp only[cC]at e0;refine ic func41 ?_;simp only[go_sem,f41,dA.d,dA.cells,cC,sH,e0];repeat'(with_reducible apply dO<;>intro h<;>simp only[h,go_sem,bW])
 .exact r rfl
 rotate_left;.grind
 refine pA p.qs.l ([]:List aD) (λi b=>⟨41,45,[(23,iS i),(5,.dv (.map 0) .no),(1,.lp 1 0),(21,.dv (sH p.qs) .no),(22,iS p.qs.l.length)],[(1,⟨[cC p.types,sH p.qs],[]⟩)],⟨1,[(0,.map (pO b) b.length)]⟩⟩) (λi _ _=>∀j q,j<i->p.qs.l[j]?=J q->wu p.types q=0) ab rfl (λj q h=>absurd h (Ns _)) (λb I=>?_) (λi x l b w v A I a=>?_);.simp only[go_sem,bW];exact⟨_,_,_,rfl,λ_ q u=>by obtain⟨j,t,e⟩:=List.mem_iff_getElem.1 u;exact I j q t ai⟩
 . obtain⟨g1,e1⟩:=acu p.types x d.t (d.q x (dw v));have a:=a (b++[x.name]);have f:x.cells[0]?=J (.str x.name):=rfl;have y:x.cells.length=18:=x.dG;have N:cA x.cells=V:=cq.pure x;simp only[N7,gJ,dE,gE,cC,sH,go_sem]at a;simp only[cC]at e1;have D:x.dv=.agg x.cells:=rfl;generalize x.cells=s at*;have B:s.take 18=s:=ai;simp only[go_sem,w,v,D,y,N,B,cC,sH,e1];apply dO<;>intro h;rotate_left;.simp only[h,go_sem,bW];grind
   have E:wu p.types x=0:=by grind[jU]
   have step:∀j q,j<i+1->p.qs.l[j]?=J q->wu p.types q=0:=λj q t u=>by grind
   have a:=a step;cases o:b.any λm=>decide (x.name=m)with|true=>obtain⟨k,c,m,e⟩:=Km b 0 0 o;simp only[h,go_sem,pO,f,e,bW];exact r rfl|false=>have e:=Kl b 0 0 o;simp only[pO]at a;simp only[h,go_sem,pO,f,e,A];omega
def eH.dv(p:eH):DV:=.agg p.cells
def uA(p:dA)(q:cq):eH:=⟨p.types,q,(mF q.pat).1⟩
def vx(l:List eH):DV:=bP V (l.map eH.dv) 69 23
theorem amO{t:Sl bY}{q:cq}(h:wu t q=0)(a:(mF q.pat).2=0):(mF q.pat).1.vars<=.ofNat q.vars.l.length:=by grind[mF,wu,tD,uR]
theorem aE1{p:dA}(a:DT p){q:cq}(b:q∈p.qs.l)(h:wu p.types q=0)(c:(mF q.pat).2=0):qe (uA p q):=⟨a.t,by have:=(a.q q b).k;show q.key.l.length<_;omega,abB _ (a.q q b).p,amO h c⟩
def afi(p:dA)(r:bh):Prop:=(∃o n g,aj n 0=C/\r=.val (.tp [(.nl,o),iO n]) g)\/((∀q∈p.qs.l,qe (uA p q))/\∃o g,(o=.any\/o=.ex 69)/\r=.val (.tp [(vx (p.qs.l.map (uA p)),o),iO 0]) g)
theorem aBW(p:dA)(u:DT p):de (afi p) (ev PP cf (.call 22 [p.d] .no .empty)):=by
 have K:∀{o:aM}{n:Int}{g:GH},aj n 0=C->afi p (.val (.tp [(.nl,o),iO n]) g):=λh=>.inl ⟨_,_,_,h,rfl⟩;obtain⟨r,e0,S,U,g0,rfl,k0⟩:=aCC p u;have L:=u.l;simp only[dA.d,dA.cells,cC,sH]at e0;refine ic func22 ?_;simp only[go_sem,f22,dA.d,dA.cells,cC,sH,e0];apply dO<;>intro h;rotate_left;.simp only[h,go_sem,bW];grind
 have k0:=k0 h;simp only[h,go_sem];refine pA p.qs.l ([]:List eH) (λi b=>⟨22,45,[(22,iS i),(1,.lp 1 0),(6,fU (b.map eH.dv) 69 23),(20,.dv (sH p.qs) .no),(21,iS p.qs.l.length)],[(1,⟨[cC p.types,sH p.qs],[]⟩)],.empty⟩) (λi _ b=>b=(p.qs.l.take i).map (uA p)/\∀j q,j<i->p.qs.l[j]?=J q->qe (uA p q)) ab rfl ⟨rfl,λj q h=>absurd h (Ns _)⟩ (λb I=>?_) (λi x l b D y F I c=>?_)
 . obtain⟨rfl,I⟩:=I;have I:∀q∈p.qs.l,qe (uA p q):=λq k=>by obtain⟨j,E,e⟩:=List.mem_iff_getElem.1 k;exact I j q E ai
   rw[AL];rcases d:p.qs.l with _|⟨a,t⟩;.simp only[go_sem,zl,bW];exact .inr ⟨I,_,_,.inl rfl,by rw[d];rfl⟩
   simp only[fS,Nz,go_sem,bW];exact .inr ⟨I,_,_,.inr rfl,by rw[d];rfl⟩
 . obtain⟨Q,I⟩:=I;have P:=mT D;have N:b.length=i:=ai;have w:=u.q x (dw y);obtain⟨_,g1,e1,rfl⟩:=acv x.pat w.p;have c:=c (b++[uA p x]);rw[qb,fS,eG,NA]at c;have H:(mF x.pat).2=0->b++[uA p x]=(p.qs.l.take (i+1)).map (uA p)/\∀j q,j<i+1->p.qs.l[j]?=J q->qe (uA p q):=λR=>by
    refine⟨by grind[List.take_add_one],λj q E k=>?_⟩;by_cases e:j=i;.subst e;rw[y]at k;cases k;grind[aE1]
    grind
   have v:(uA p x).dv=.agg (cC p.types::(x.cells++(mF x.pat).1.cells)):=rfl;rw[v]at c;have c3:x.cells.drop 3=x.pat.cells++[ue x.jB]:=rfl;have W:x.pat.cells.length=14:=ae.dG _;have pt:∀m,(x.pat.cells++m).take 14=x.pat.cells:=λm=>ai;have d:x.cells.length=18:=x.dG;have T:cA x.cells=V:=cq.pure x;simp only[cC,sH,go_sem]at c;have M:x.dv=.agg x.cells:=rfl;generalize x.cells=s at*;have G:s.take 18=s:=ai;simp only[go_sem,D,y,M,d,cC,sH,c3,pt,e1];apply dO<;>intro h;rotate_left;.simp only[h,go_sem,bW];grind
   have c:=c (H (uR h));have t18:∀m:aq,(s++m).take 18=s:=λm=>ai;have f:∀m:aq,(s++m).drop 22=m.drop 4:=λm=>by simp_all[zd]
   have O:∀m:aq,(m.length=22)->(DV.agg (bP p.types.nl (p.types.l.map bY.d) 79 2::m)).flat.length=23:=λm h=>by show m.length+1=23;omega
   cases b with|nil=>simp only[eG,zl,jF]at c|-;simp only[h,go_sem,d,G,t18,f,F];omega|cons B bs=>have A:∀z:DV,fB 69 23 328 (.ay ((B::bs).map eH.dv) 69 23) (.ex 69) [z]=J (.ay ((B::bs).map eH.dv++[z]) 69 23,.ex 69):=λz=>qg ab (by grind[bl]) (by grind[bl]);simp only[fS,Nz]at c A|-;simp only[h,go_sem,d,G,t18,f,F,A];grind
set_option maxHeartbeats 1000000
theorem R4{b:Int}:gG P .mul t (.int k a) (.int k b)=J (.int k (dI k (Int.mul a b))):=by show(if k=k then _ else Z)=_;rw[if_pos rfl];rfl
theorem alv{b:Int}(h:aj b 0=C):gG P .quo t (.int k a) (.int k b)=J (.int k (dI k (a.tdiv b))):=by show(if k=k then qT (cond _ _ _) _ else Z)=_;rw[if_pos rfl,h];rfl
theorem aaE{b:Int}(h:aj b 0=C):gG P .rem t (.int k a) (.int k b)=J (.int k (a.tmod b)):=by show(if k=k then qT (cond _ _ _) _ else Z)=_;rw[if_pos rfl,h];rfl
theorem alx(a b:Int)(h:0<=b/\b<64):∃n,gG P .shr t (.int .i64 a) (.int .i64 b)=J (.int .i64 n):=by obtain⟨m,rfl⟩:∃m:Nat,b=m:=⟨b.toNat,ab⟩;exact⟨_,rfl⟩
theorem aaF(a b:Int):∃n,gG P .xor t (.int .u32 a) (.int .u32 b)=J (.int .u32 n):=by exact⟨_,rfl⟩
theorem Rl{x:Int}(h:0<=x/\x<9223372036854775808):dI .i64 x=x:=by obtain⟨m,rfl⟩:∃m:Nat,x=di m:=⟨x.toNat,ai⟩;grind[vQ]
theorem aCj(g w:Int)(a:0<=g/\g<16)(b:1<=w/\w<=8):CC 30 [iD g,iD w] (vI (g*w/16)):=by refine aP func30 ?_;have h:0<=g*w:=Int.mul_nonneg a.1 ab;have c:g*w<=16*8:=Int.mul_le_mul ab b.2 ab ab;have e1:dI _ (Int.mul g w)=g*w:=Rl (x:=g*w) ⟨h,ab⟩;have e2:(g*w).tdiv 16=g*w/16:=Int.tdiv_eq_ediv_of_nonneg h;have e3:dI _ _=g*w/16:=Rl ab;simp only[go_sem,f30,R4,alv _,e1,e2,e3]
theorem agF(g w:Int)(a:0<=g/\g<16)(b:1<=w/\w<=8):CC 13 [iD g,iD w] (.val (.tp [iO (g*w/16),iO 0]) .empty):=by
 have h:=aCj g w a b;have e0:aA g 0=C:=by grind[fQ]
 have e1:aA g 16=V:=by grind[fQ]
 have e2:(bif aA w 1 then C else !aA 8 w)=V:=by grind[fQ]
 have k:=aCe [V,V,V] ai;simp only[fS,eG,oT,nG,id,xj,aR]at k;refine aP func13 ?_;simp only[go_sem,f13,aCf,e0,e1,e2,vU,k,h]
theorem wrap_u32(x:Int):0<=dI .u32 x/\dI .u32 x<4294967296:=by grind[dI,IntKind.wrap,IntKind.signed,IntKind.bits]
theorem azm{s:aD}:wR 1 (.str s)=J (s.map λb=>.int .u8 (.ofNat b)):=rfl
theorem aae{l:cE}{new:aq}(h:l.length+new.length<1100000):fB 5 1 1 (.ay (l.map (DV.int .u8)) 5 1) (.ex 5) new=J (.ay (l.map (DV.int .u8)++new) 5 1,.ex 5):=by grind[qg,bl]
def yH(i:Nat):Int:=56-8*i
theorem aCd(v:ct)(q:rQ v.k v.n v.s=0)(u:v.s.length<1050000):de (λr=>∃h:Int,(0<=h/\h<4294967296)/\r=.val (.tp [iO h,iO 0]) .empty) (ev PP cf (.call 27 [v.d] .no .empty)):=by
 have h:=Of v.k v.n v.s;rw[q]at h;refine ic func27 ?_;simp only[go_sem,f27,ct.d,ct.cells,h];apply dO<;>intro h
 . have e:=aae (l:=[dI .u8 v.k]) (new:=v.s.map λb=>.int .u8 (.ofNat b)) ai;have m:((v.s.map λb=>DV.int .u8 (.ofNat b)).all λy=>decide (y.flat.length=1))=V:=by simp[DV.flat]
   simp only[fS,eG]at e;simp only[h,go_sem,azm,e,m];obtain⟨L,o,a,p⟩:∃L:cE,DV.int .u8 (dI .u8 v.k)::v.s.map (λb=>DV.int .u8 (.ofNat b))=L.map (DV.int .u8)/\L.length<1100000/\v.s.length+1=L.length:=⟨dI .u8 v.k::v.s.map di,aT,ai,aO⟩;simp only[o,p];refine pA L (2166136261:Int) (λi s=>⟨27,52,[(40,iS i),(7,.dv (.int .u32 s) .no),(38,.dv (.ay (L.map (DV.int .u8)) 5 1) .no),(39,iS L.length)],[],.empty⟩) (λi _ s=>0<=s/\s<4294967296) ab rfl ab (λs I=>?_) (λi j l s d g f I c=>?_);.simp only[go_sem,Rl (x:=s) ab,bW];grind
   .simp only[go_sem]at c;obtain⟨n,a⟩:=aaF (P:=PP) (t:=131) s (dI .u32 j);simp only[go_sem,d,g,R4,a,f];grind[wrap_u32]
 . simp only[h,go_sem];refine pA (lW 8 ()) [dI .u8 v.k] (λi s=>⟨27,52,[(6,.dv (.int .i64 (yH i)) .no),(1,.lp 1 0),(5,.dv (.ay (s.map (DV.int .u8)) 5 1) (.ex 5))],[(1,⟨[iD v.k,iD v.n,.str v.s],[]⟩)],.empty⟩) (λi _ s=>s.length=i+1) ai rfl rfl (λs I=>?_) (λi j l s d g f I c=>?_)
   . have z:aA (yH 8) 0=V:=by rfl
     simp only[go_sem];apply dO<;>intro h;rotate_left;.grind
     simp only[h,go_sem];obtain⟨L,rfl,a⟩:∃L,L=s/\L.length<1100000:=⟨s,rfl,ai⟩;refine pA L (2166136261:Int) (λi s=>⟨27,52,[(40,iS i),(7,.dv (.int .u32 s) .no),(38,.dv (.ay (L.map (DV.int .u8)) 5 1) .no),(39,iS L.length)],[],.empty⟩) (λi _ s=>0<=s/\s<4294967296) ab rfl ab (λs I=>?_) (λi j l s d g f I c=>?_);.simp only[go_sem,Rl (x:=s) ab,bW];grind
     .simp only[go_sem]at c;obtain⟨n,a⟩:=aaF (P:=PP) (t:=131) s (dI .u32 j);simp only[go_sem,d,g,R4,a,f];grind[wrap_u32]
   . have k:i<8:=mT d;have z:aA (yH i) 0=C:=by grind[fQ,yH]
     have w:dI .i64 (Int.sub (yH i) 8)=yH (i+1):=by
      have:Int.sub (yH i) 8=yH (i+1):=by grind[yH]
      rw[this];match i,k with|0,_|1,_|2,_|3,_|4,_|5,_|6,_|7,_=>rfl
     obtain⟨n,a⟩:=alx (P:=PP) (t:=3) v.n (yH i) (by grind[yH]);have e:=aae (l:=s) (new:=[.int .u8 (dI .u8 n)]) ai;have c:=c (s++[dI .u8 n]) aT;simp only[go_sem,qb]at c;simp only[go_sem];apply dO<;>intro h;.simp_all
     simp only[h,go_sem,a,e,w];omega
theorem aBH(v:ct)(a:rQ v.k v.n v.s=0)(l:v.s.length<1050000):de (λr=>∃g:Int,(0<=g/\g<16)/\r=.val (.tp [iO g,iO 0]) .empty) (ev PP cf (.call 12 [v.d] .no .empty)):=by obtain⟨r,e,h,b,rfl⟩:=aCd v a l;simp only[ct.d,ct.cells]at e;refine ic func12 ?_;simp only[go_sem,f12,ct.d,ct.cells,e,aaE _,bW];grind
def ct.xW(v:ct):Int:=match ev PP cf (.call 12 [v.d] .no .empty)with|some (.val (.tp [(.int _ g,_),_]) _)=>g|_=>0
theorem OB(v:ct)(a:rQ v.k v.n v.s=0)(h:v.s.length<1050000):(0<=v.xW/\v.xW<16)/\CC 12 [v.d] (.val (.tp [iO v.xW,iO 0]) .empty):=by obtain⟨r,e,g,b,rfl⟩:=aBH v a h;grind[ct.xW]
def ct.oo(v:ct)(w:Int):Int:=v.xW*w/16
theorem ajg(v:ct)(w:Int)(h:0<=v.xW/\v.xW<16)(c:1<=w/\w<=8):0<=v.oo w/\v.oo w<w:=by have a:0<=v.xW*w:=Int.mul_nonneg h.1 ab;have b:v.xW*w<=15*w:=Int.mul_le_mul_of_nonneg_right ab ab;grind[ct.oo]
theorem aCA(v:ct)(w:Int)(a:rQ v.k v.n v.s=0)(l:v.s.length<1050000)(b:1<=w/\w<=8):CC 39 [v.d,iD w] (vI (v.oo w)):=by obtain⟨h,e⟩:=OB v a l;have e2:=agF _ w h b;simp only[ct.d,ct.cells]at e;refine aP func39 ?_;simp only[go_sem,f39,ct.d,ct.cells,e,e2,ct.oo]
set_option maxHeartbeats 2000000
def mP(t:Sl bY)(p:List eH)(m:Sl Int)(k:Sl aE):GH:=⟨1,[(0,.box ⟨[cC t,vx p,cL m,ki k],[]⟩)]⟩
def af3(m:Sl Int):Int:=match m.l with|[]=>-1|a::l=>E6 a l
theorem aCL(D:Sl bY)(l:List eH)(b:Sl Int)(x:aE)(U:∀p∈l,qe p/\mB p.query)(O:l.length<1100000)(K:b.l.length<1100000)(g:x.e.sm):∃n,(aj n 0=V->rQ x.key.k x.key.n x.key.s=0)/\∀s:Sl aE,ev PP cf (.call 54 [.ptr 0 0,x.d] .no (mP D l b s))=J (.val (.dv (iD n) .no) (mP D l b s)):=by have d1:=aoA;have d6:=aoC;have d10:=aoB;simp only[bw,opsOf,f54,go_sem]at d1 d6 d10;have e0:=Of x.key.k x.key.n x.key.s;have e1:∀s:Sl aE,CC 63 [.agg [cL b,ki s]] (vI (af3 b)):=λs=>aCN ⟨b,s⟩ K;have e2:=aCU x.e;simp only[cL,dy.d,dy.cells]at e1 e2;cases q:aA x.q 0 with|true=>refine⟨2,(λh=>by cases h),λs=>?_⟩;refine aP func54 ?_;simp only[go_sem,f54,mP,aE.d,aE.cells,d1,q]|false=>
 obtain⟨k,a⟩:∃k:Nat,x.q=di k:=by
   rcases L:x.q with k|k;.grind
   .rw[L]at q;cases q
 rcases d:l[k]? with _|p
 . have:aA (.ofNat k) (.ofNat l.length)=C:=by grind[fQ]
   refine⟨2,(λh=>by cases h),λs=>?_⟩;refine aP func54 ?_;rw[a]at q;simp only[go_sem,f54,mP,aE.d,aE.cells,d1,a,q,vx,this]
 have R:aA (.ofNat k) (.ofNat l.length)=V:=by grind[fQ]
 rw[a]at q;cases c:aj (rQ x.key.k x.key.n x.key.s) 0 with|false=>refine⟨rQ x.key.k x.key.n x.key.s,(λh=>ai),λs=>?_⟩;refine aP func54 ?_;simp only[go_sem,f54,mP,aE.d,aE.cells,d1,a,q,vx,R,e0,c]|true=>obtain⟨H,o⟩:=U p (dw d);obtain⟨r,e3,B,g3,rfl⟩:=aCT p x.e H o (abB _ o.p) g;have c3:p.cells[3]?=J (cL p.query.key):=rfl;have A:p.cells[0]?=J (cC p.types):=rfl;have N:p.cells.length=23:=p.dG;have i:cA p.cells=V:=eH.pure p;have u:p.dv=.agg p.cells:=rfl;have j:p.cells.take 23=p.cells:=ai;simp only[dy.d,dy.cells]at e3;cases e:aj B 0 with|false=>refine⟨B,(λh=>ai),λs=>?_⟩;generalize p.cells=w at*;refine aP func54 ?_;simp only[go_sem,f54,mP,aE.d,aE.cells,d1,d6,a,q,vx,R,e0,c,d,u,N,j,i,e3,e]|true=>cases T:aj x.e.mark (af3 b)with|false=>refine⟨22,(λh=>by cases h),λs=>?_⟩;generalize p.cells=w at*;have e1:=e1 s;refine aP func54 ?_;simp only[go_sem,f54,mP,aE.d,aE.cells,d1,d6,d10,a,q,vx,R,e0,c,d,u,N,j,i,e3,e,e1,T]|true=>cases hid:(bif aj (.ofNat x.e.held.l.length) 0 then aj (.ofNat x.e.wait.l.length) 0 else C)with|true=>refine⟨21,(λh=>by cases h),λs=>?_⟩;generalize p.cells=w at*;have e1:=e1 s;rw[hid]at e2;refine aP func54 ?_;simp only[go_sem,f54,mP,aE.d,aE.cells,d1,d6,d10,a,q,vx,R,e0,c,d,u,N,j,i,e3,e,e1,T,e2]|false=>
   obtain⟨f,t,y⟩:∃f t,x.e.held.l++x.e.wait.l=f::t:=by cases I:x.e.held.l++x.e.wait.l with|cons f t=>grind|nil=>obtain⟨F,G⟩:=List.append_eq_nil_iff.1 I;rw[F,G]at hid;cases hid
   have M:f.j9.l.length<1000000000:=by
    have:f∈x.e.held.l++x.e.wait.l:=ai;rcases List.mem_append.1 this with h|h;.exact g.1.2.1.2 f h
    .exact g.1.1.2 f h
   have e6:=agS x.e.held x.e.wait (by have:=g.2.1;omega);obtain⟨r,e7,v,z,m,rfl⟩:=Vf p.types p.query.key f H.t H.k M;rw[y,fS,Nz]at e6;rw[hid]at e2;simp only[cX,cC,cL,aL.d,aL.cells,ct.d,ct.cells]at e6 e7;simp only[cX]at e2 e3;refine⟨bif aj m 0 then bif z then bif Dp v.k v.n v.s x.key.k x.key.n x.key.s then 0 else 16 else 16 else 16,(λ_=>uR c),λs=>?_⟩;have E:(0<t.length+1)=True:=iT (Nat.succ_pos _);simp only[cC,cL]at A c3;generalize p.cells=w at*;have e1:=e1 s;refine aP func54 ?_;simp only[go_sem,f54,mP,aE.d,aE.cells,d1,d6,d10,a,q,vx,R,e0,c,d,u,N,j,i,e3,e,e1,T,e2,cX,e6,A,c3,e7,E];repeat'(with_reducible apply sp<;>intro h<;>simp only[h,go_sem,xk,vU])
open Classical in def C1(t:Sl bY)(p:List eH)(m:Sl Int)(x:aE):Int:=if h:∃n,(aj n 0=V->rQ x.key.k x.key.n x.key.s=0)/\∀k:Sl aE,ev PP cf (.call 54 [.ptr 0 0,x.d] .no (mP t p m k))=J (.val (.dv (iD n) .no) (mP t p m k))then h.choose else 0
theorem aft(t:Sl bY)(l:List eH)(m:Sl Int)(x:aE)(c:∀p∈l,qe p/\mB p.query)(a:l.length<1100000)(b:m.l.length<1100000)(d:x.e.sm):(aj (C1 t l m x) 0=V->rQ x.key.k x.key.n x.key.s=0)/\∀k:Sl aE,ev PP cf (.call 54 [.ptr 0 0,x.d] .no (mP t l m k))=J (.val (.dv (iD (C1 t l m x)) .no) (mP t l m k)):=by have h:=aCL t l m x c a b d;grind[C1]
def Bs(f:aE->Int):ah aE->List aE->Int|_,[]=>0|p,x::l=>bif aj (f x) 0 then(bif(match p with|some y=>!aA (y.cmp x) 0|none=>C)then 14 else Bs f (J x) l)else f x
def jc(f:aE->Int)(m:Sl Int)(k:Sl aE):Int:=bif(bif aA (.ofNat m.l.length) 1 then V else aA 8 (.ofNat m.l.length))then 5 else bif m.l.any IA then 2 else bif aA 256 (.ofNat k.l.length)then 5 else Bs f Z k.l
def Qz(l:List aE):Nat->ah aE|0=>Z|i+1=>l[i]?
theorem aCw(t:Sl bY)(a:List eH)(m:Sl Int)(k:Sl aE)(U:∀p∈a,qe p/\mB p.query)(f:a.length<1100000)(j:m.l.length<1100000)(v:k.l.length<1100000)(n:∀x∈k.l,x.e.sm):ev PP cf (.call 34 [.ptr 0 0] .no (mP t a m k))=J (.val (.dv (iD (jc (C1 t a m) m k)) .no) (mP t a m k)):=by
 have d13:=aol;simp only[bw,opsOf,f34,go_sem]at d13;have e0:∀g,ev PP cf (.call 52 [cL m,.func 53 [] []] .no g)=J (.val (.dv (.bool (m.l.any IA)) .no) g):=λg=>acH (d:=iD) (q:=IA) 53 [] [] g m.nl m.l ab (λx _=>.inr ⟨rfl,rfl,rfl,aCK x⟩) (.inl rfl) (λ_=>⟨rfl,rfl⟩);have e1:=λx b=>(aft t a m x U f j (n x b)).2 k;simp only[cL]at e0;simp only[mP,cC,cL,ki]at e1;refine aP func34 ?_;simp only[go_sem,f34,mP,jc,cC,cL,ki];repeat'(with_reducible apply sp<;>intro h<;>simp only[h,e0,go_sem,xk,vU])
 refine gR k.l (λi=>[(44,iS i)]) (λi l=>.val (.dv (iD (Bs (C1 t a m) (Qz k.l i) l)) .no) (mP t a m k)) ab rfl (by rfl) ?_ (λi x l e b w r=>?_);.simp only[go_sem,Bs,mP,cC,cL,ki]
 . have O:=mT e;have e1:=e1 x (dw b);simp only[aE.d,aE.cells]at e1;simp only[go_sem,mP,cC,cL,ki,Qz,b]at r;simp only[go_sem,e,b,aE.d,aE.cells,e1,mP,cC,cL,ki,Bs];apply sp<;>intro h;rotate_left;.simp only[h,go_sem]
   rcases i with _|i;.have z:aA 0 (di 0)=C:=rfl;have u:aA 0 0=C:=rfl;simp only[h,go_sem,d13,u,Qz];grind
   . have z:aA 0 (di (i+1))=V:=by rfl
     obtain⟨y,o⟩:∃y,k.l[i]?=J y:=⟨_,dD ab⟩;have s:=sub_succ i ab;have c:=aCM y x;simp only[aE.d,aE.cells]at c;simp only[h,go_sem,d13,z,s,o,c,aE.d,aE.cells,Qz];apply sp<;>intro g;.simp only[g,go_sem,xk,w];omega
     .simp only[g,go_sem,vU]
structure Nt(o:bK):Prop where
 m:o.marks.l.length<1100000
 k:o.keys.l.length<1100000
 e:∀x∈o.keys.l,x.e.sm
def yu(p:dA):List eH:=p.qs.l.map (uA p)
def yq(p:dA)(n:Int)(o:bK):Int:=bif aj n 0 then jc (C1 p.types (yu p) o.marks) o.marks o.keys else n
theorem ahn{l:List eH}:(vx l).pure=V:=pC (iB (λx=>show x.dv.pure=V from eH.pure x) _)
theorem aE2{l:List eH}:(vx l).flat=[vx l]:=ab0
attribute[go_sem]ahn aE2
theorem nv5(p:dA)(d:DT p):∃n,(aj n 0=V->∀q∈p.qs.l,qe (uA p q))/\(∃t,(aj n 0=V->t=(vx (yu p)))/\∃o g,CC 22 [p.d] (.val (.tp [(t,o),iO n]) g))/\∀o,Nt o->∃g,CC 5 [p.d,o.d] (.val (.dv (iD (yq p n o)) .no) g):=by
 obtain⟨r,e0,hr⟩:=aBW p d;rcases hr with⟨w,n,g,f,rfl⟩|⟨U,w,g,i,rfl⟩
 . refine⟨n,by simp_all,⟨.nl,by simp_all,w,g,e0⟩,λo a=>?_⟩;simp only[dA.d,dA.cells,cC]at e0;have e1:CC 15 [p.d,o.d] (.val (.tp [(.eN,.no),iO n]) .empty):=by refine aP func15 ?_;simp only[go_sem,f15,dA.d,dA.cells,bK.d,bK.cells,e0,f]
   simp only[dA.d,dA.cells,bK.d,bK.cells,cC,cL]at e1;refine GQ func5 ?_;simp only[go_sem,f5,dA.d,dA.cells,bK.d,bK.cells,e1,yq,f,Ni]
 . refine⟨0,λ_=>U,⟨_,λ_=>rfl,w,g,e0⟩,λo a=>?_⟩;have b:∀x∈yu p,qe x/\mB x.query:=λx j=>by obtain⟨q,b,rfl⟩:=List.mem_map.1 j;exact⟨U q b,d.q q b⟩
   have e2:=aCw p.types (yu p) o.marks o.keys b (by show(p.qs.l.map _).length<_;rw[fZ];exact d.l) a.m a.k a.e;simp only[dA.d,dA.cells,cC]at e0;simp only[mP,cC,cL]at e2;generalize e:jc (C1 p.types (yu p) o.marks) o.marks o.keys=c at*;have e0:CC 22 [.agg [bP p.types.nl (p.types.l.map bY.d) 79 2,sH p.qs]] (.val (.tp [(vx (yu p),w),iO 0]) g):=e0;have e1:CC 15 [p.d,o.d] (.val (.tp [(bif aj c 0 then .ptr 0 0 else .eN,.no),iO c]) (mP p.types (yu p) o.marks o.keys)):=by rcases i with rfl|rfl;all_goals
    refine aP func15 ?_;simp only[go_sem,f15,dA.d,dA.cells,bK.d,bK.cells,e0,mP,e2];apply sp<;>intro h;.have u:=uR h;simp only[u,go_sem]
    .simp only[h,go_sem]
   simp only[dA.d,dA.cells,bK.d,bK.cells,cC,cL]at e1;have z:aj 0 0=V:=rfl;refine GQ func5 ?_;rcases k:aj c 0 with _|_;.simp only[go_sem,f5,dA.d,dA.cells,bK.d,bK.cells,e1,yq,z,e,Ni]
   simp only[go_sem,f5,dA.d,dA.cells,bK.d,bK.cells,e1,yq,z,e,Ni]
theorem cpE(v:Sl aL)(h:v.l.length<1100000):∃o,(o=.ex 90\/v.l=[]/\o=.any)/\CC 110 [cX v] (.val (.dv (cX v) o) .empty):=JY (.inr (.inl rfl)) (λ_=>rfl) v.nl v.l h
theorem cpV(v:Sl ct)(h:v.l.length<1100000):∃o,(o=.ex 43\/v.l=[]/\o=.any)/\CC 99 [uJ v] (.val (.dv (uJ v) o) .empty):=JY (.inl rfl) (λ_=>rfl) v.nl v.l h
theorem cpB(v:Sl dU)(h:v.l.length<1100000):∃o,(o=.ex 164\/v.l=[]/\o=.any)/\CC 67 [gX v] (.val (.dv (gX v) o) .empty):=JY (.inr (.inr (.inl rfl))) (λ_=>rfl) v.nl v.l h
theorem cpS(v:Sl fA)(h:v.l.length<1100000):∃o,(o=.ex 167\/v.l=[]/\o=.any)/\CC 68 [jC v] (.val (.dv (jC v) o) .empty):=JY (.inr (.inr (.inr (.inl rfl)))) (λ_=>rfl) v.nl v.l h
theorem cpI(v:Sl Int)(h:v.l.length<1100000):∃o,(o=.ex 3\/v.l=[]/\o=.any)/\CC 38 [cL v] (.val (.dv (cL v) o) .empty):=JY (.inr (.inr (.inr (.inr rfl)))) (λ_=>rfl) v.nl v.l h
theorem agP(v:Sl aL)(g:v.l.length<1100000)(j:∀x∈v.l,x.j9.l.length<1100000):∃o,(o=.ex 90\/v.l=[]/\o=.any)/\CC 65 [cX v] (.val (.dv (cX v) o) .empty):=by
 obtain⟨o,h,e0⟩:=cpE v g;refine⟨o,h,?_⟩;rcases f:v.l with _|⟨a,t⟩;.simp only[cX]at e0;refine aP func65 ?_;rcases h with rfl|⟨_,rfl⟩;all_goals
  simp only[go_sem,f65,cX,e0];refine gR v.l (λi=>[(9,iS i)]) (λ_ _=>.val (.dv (bP v.nl (v.l.map aL.d) 90 5) _) .empty) ab rfl rfl ?_ (λi x l d b w c=>?_);.simp only[go_sem]
  grind
 have e:cX v=.ay (v.l.map aL.d) 90 5:=by unfold cX;rw[f];rfl
 obtain rfl:o=.ex 90:=ai;rw[e]at e0|-;refine aP func65 ?_;simp only[go_sem,f65,e0];refine gR v.l (λi=>[(9,iS i)]) (λ_ _=>.val (.dv (.ay (v.l.map aL.d) 90 5) (.ex 90)) .empty) ab rfl rfl ?_ (λi x l d b w c=>?_);.simp only[go_sem]
 .obtain⟨o,h,e1⟩:=cpV x.j9 (j x (dw b));have s:(v.l.map aL.d).take i++x.d::(v.l.map aL.d).drop (i+1)=v.l.map aL.d:=QY ai;simp only[aL.d,aL.cells]at s;simp only[go_sem]at c;rcases h with rfl|⟨_,rfl⟩<;>simp only[go_sem,d,b,aL.d,aL.cells,e1,s,w,c]
set_option maxHeartbeats 4000000
def dy.cp(e:dy):Prop:=e.sm/\e.wait.l.length<1100000/\e.held.l.length<1100000/\e.runs.l.length<1100000/\(∀x∈e.wait.l,x.j9.l.length<1100000)/\∀x∈e.held.l,x.j9.l.length<1100000
theorem G3{k n:Nat}{x:aM}{l:List (Nat×aM)}:cW ((k,x)::l) I n=bif decide (k<I)||decide (I+n<=k)then(k,x)::cW l I n else cW l I n:=by show List.filter _ _=_;rw[tN];show(if(cm k I||br (I+n) k)=V then _ else _)=_;rw[eK,show br (I+n) k=decide (I+n<=k)from by rw[Bool.eq_iff_iff];simp];cases(decide (k<I)||decide (I+n<=k))<;>rfl
theorem aEd{v:DV}(h:v.aV=V):mn I v (.ex e)=[(I,.ex e)]:=by unfold mn;rw[h]
attribute[go_sem]aEd
def rN(n i:Nat)(o:List (Nat×aM)):Prop:=(3*n,aM.full 127)∈o/\∀j,3*i<=j->j<3*n->look o j=Z
theorem azD{l:List (Nat×aM)}{n j:Nat}(h:look l j=Z):look (cW l I n) j=Z:=by induction l with|nil=>rfl|cons x l i=>
 rw[yl]at h;by_cases a:x.1=j;.rw[if_pos a]at h;cases h
 . rw[if_neg a]at h;rw[G3];cases(decide (x.1<I)||decide (I+n<=x.1));.exact i h
   .show look ((x.1,x.2)::_) j=Z;rw[yl,if_neg a];exact i h
theorem rN.up{n i:Nat}(h:rN n i ow):rN n (i+1) ow:=⟨h.1,λj b a=>h.2 j ab a⟩
theorem rN.cn{n i:Nat}{x:aM}(h:rN n i ow)(o:I<3*i):rN n i ((I,x)::ow):=⟨kG _ h.1,λj a b=>by rw[yl,if_neg ab];exact h.2 j a b⟩
theorem rN.dr{n i:Nat}(h:rN n i ow)(o:I<3*n):rN n i (cW ow I 1):=by refine⟨List.mem_filter.2 ⟨h.1,?_⟩,λj a b=>azD (h.2 j a b)⟩;show(cm (3*n) I||br (I+1) (3*n))=V;rw[nH ab,Bool.or_true]
theorem Sk{l:List bp}{i j:Nat}{c:bp}(h:l[i]?=J c)(d:j<3):(mD l)[i*3+j]?=c.cells[j]?:=by induction l generalizing i with|nil=>cases h|cons a l b=>show(a.cells++mD l)[i*3+j]?=_;cases i with|zero=>obtain rfl:a=c:=bt h;rw[mz (by show 0*3+j<3;omega),DP,iZ]|succ i=>rw[ov (by show 3<=_;omega),<-b h];congr 1;show(i+1)*3+j-3=_;omega
theorem ayW{u:iF}{f n:Nat}{a:cT}{l:dV}{d:ah Tmp}{i:Nat}{c:aq}{s:List (Nat×aM)}(h:AM.isAgg P t=J C)(b:look s I=Z):rB P t u ⟨f,n,a,l,g⟩ d i I (.box ⟨c,s⟩)=(c[I]?).bind λv=>aH ⟨f,n,a,l,g.set i (.box ⟨c,s⟩)⟩ d (.dv v (Je u v)):=by cases s with|cons o s=>exact afC h b|nil=>
 have e:ew ⟨c,[]⟩ I=BD (c[I]?) Z:=by unfold ew;rcases c[I]? with _|v;rfl;cases v<;>rfl
 have e2:rB P t u ⟨f,n,a,l,g⟩ d i I (.box ⟨c,[]⟩)=(fD P u t ⟨c,[]⟩ I).bind λr=>aH ⟨f,n,a,l,g.set i (.box r.2)⟩ d r.1:=by
  show(match u,ew ⟨c,[]⟩ I,AM.isAgg P t with|.ref,.ex _,J C=>_|_,_,_=>_)=_;rw[e];rcases c[I]? with _|v;.cases u<;>rfl
  cases v<;>cases u<;>rfl
 have e3:fD P u t ⟨c,[]⟩ I=(c[I]?).bind λd=>J (oP u ⟨c,[]⟩ I d (ew ⟨c,[]⟩ I)):=by unfold fD;rw[h];rcases c[I]? with _|v<;>rfl
 rw[e2,e3,e];rcases j:c[I]? with _|v;.rfl
 show qT (J _) _=_;cases v<;>cases u<;>rfl
def D4(k:aE)(w:List (Nat×aM))(i:Nat)(o:List (Nat×aM)):St:=⟨40,63,[(36,iS i),(3,.dv (.ptr 0 4) .no),(2,.lp 2 0),(1,.dv (.ptr 0 0) .no),(35,iS k.e.runs.l.length)],[(2,⟨[iD 0,iD 0,iD 0,.str [],iD 0,.nl,.nl,.nl],[]⟩)],⟨2,[(0,.box ⟨[iD k.q,iD k.key.k,iD k.key.n,.str k.key.s,iD k.e.mark,cX k.e.wait,.cV 1 0 k.e.runs.l.length 127 3,cX k.e.held],w⟩),(1,.box ⟨mD k.e.runs.l,o⟩)]⟩⟩
theorem EZ{a:Type}{f:α->ah a}:cu f []=J []:=rfl
theorem afZ{c:Type}{f:α->ah c}{a:α}{l:List α}:cu f (a::l)=(f a).bind λb=>(cu f l).bind λt=>J (b::t):=rfl
theorem M4{a:Bool}{n:Nat}:yN PP g (bP a l e n)=J (bP a l e n):=by
 unfold bP;split;.cases a<;>rfl
 .rfl
theorem amH(L:List bp)(o:List (Nat×aM)):w7 ⟨mD L,o⟩ 0 L.length 3 V=L.map bp.d:=by
 unfold w7;apply Gz;intro i;by_cases a:i<L.length
 . obtain⟨c,h⟩:∃c,L[i]?=J c:=⟨_,dD a⟩;rw[jo,DN a,jo,h];show J (DV.agg (((mD L).drop (0+i*3)).take 3))=J (.agg c.cells);congr 2;apply Gz;intro j;by_cases b:j<3;.rw[v7 b,sS,iZ,Sk h b]
   .rw[xq (by rw[qa];omega),xq (by show 3<=j;omega)]
 .rw[xq (by simp;omega),xq (by simp;omega)]
theorem aKw{L:List bp}{x:GO}{n i:Nat}(h:rN L.length i ow):yN PP ⟨n,[(0,x),(1,.box ⟨mD L,ow⟩)]⟩ (.cV 1 0 L.length 127 3)=J (.ay (L.map bp.d) 127 3):=by have a:br (0+L.length*3) (mD L).length=V:=nH (by rw[Sm];omega);have b:ow.any (λx=>isFull 127 x.2)=V:=List.any_eq_true.2 ⟨_,h.1,rfl⟩;show(bif br (0+L.length*3) (mD L).length&&br 1 3&&(V||aw 3 1)&&ow.any (λx=>isFull 127 x.2)then J (DV.ay (w7 ⟨mD L,ow⟩ 0 L.length 3 V) 127 3)else Z)=_;rw[a,b,amH];rfl
theorem aCO(n:Bool)(g:GH):∃o,(o=.any\/o=.full 127)/\ev PP cf (.call 66 [bP n [] 127 3] .no g)=J (.val (.dv (bP n [] 127 3) o) g):=by cases n with|true=>refine⟨.any,.inl rfl,?_⟩;show ev PP cf (.call 66 [.nl] .no g)=J (.val (.dv .nl .any) g);refine aP func66 ?_;simp only[go_sem,f66,als]|false=>refine⟨.full 127,.inr rfl,?_⟩;show ev PP cf (.call 66 [.ay [] 127 3] .no g)=J (.val (.dv (.ay [] 127 3) (.full 127)) g);have a:fB 127 3 56 (.ay [] 127 3) (.full 127) []=J (.ay [] 127 3,.full 127):=rfl;have r:qH [5,7] (J 7) (.ay [] 127 3) (.full 127) []=C:=rfl;refine aP func66 ?_;simp only[go_sem,f66,aaC,a,r,nG]
theorem aEe{v:DV}:mn I v (.full e)=[]:=by unfold mn;cases v.aV<;>rfl
attribute[go_sem]aEe
theorem agM(k:aE)(T:k.e.cp):∃g,CC 40 [k.d] (.val (.dv k.d .no) g):=by
 obtain⟨o,m,Q,hr,B,A⟩:=T;obtain⟨ow,K,e1⟩:=agP k.e.wait m B;obtain⟨oh,O,e2⟩:=agP k.e.held Q A;have d2:=aon;have d7:=aoo;simp only[bw,opsOf,f40,go_sem]at d2 d7;suffices S:de (λr=>∃g,r=.val (.dv k.d .no) g) (ev PP cf (.call 40 [k.d] .no .empty))by obtain⟨r,e,g,rfl⟩:=S;exact⟨g,e⟩
 cases y:k.e.runs.l with|nil=>
 obtain⟨Y,z,e3⟩:=aCO k.e.runs.nl ⟨1,[(0,.box ⟨k.cells,[]⟩)]⟩;have f:mc k.e.runs=bP k.e.runs.nl [] 127 3:=by unfold mc;rw[y];rfl
 have es:=aa8 k.e.runs;have P:=aa7 k.e.runs;rw[<-f]at e3;generalize D:mc k.e.runs=R at*;simp only[aE.cells,D]at e3;refine QH (q:=λr=>∃g,r=.val (.dv k.d .no) g) func40 rfl rfl rfl rfl rfl ?_ ?_
 . rintro r⟨g,rfl⟩;have u:=λ(g:GH)=>@M4 g 90 (k.e.wait.l.map aL.d) k.e.wait.nl 5;have v:=λ(g:GH)=>@M4 g 90 (k.e.held.l.map aL.d) k.e.held.nl 5;have L:∀g:GH,yN PP g R=J R:=λg=>by rw[f];exact M4
   have E:∀g k n,yN PP g (.int k n)=J (.int k n):=λ_ _ _=>rfl;have F:∀g s,yN PP g (.str s)=J (.str s):=λ_ _=>rfl;refine⟨.val (.dv k.d .no) ⟨g.next,[]⟩,?_,_,rfl⟩;simp only[aE.d,aE.cells,D];show Option.map _ (Option.map _ (cu _ _))=_;simp only[cX,afZ,EZ,u,v,L,E,F,cQ,gF]
 . have uk:mQ R=J 0:=by rw[f];cases k.e.runs.nl<;>rfl
   rcases K with rfl|⟨_,rfl⟩<;>rcases O with rfl|⟨_,rfl⟩<;>rcases z with rfl|rfl;all_goals simp only[go_sem,f40,aE.d,aE.cells,D,d2,e1,e2,e3,P,G3,uk];refine Mu ?_;simp only[go_sem,bW];exact⟨_,rfl⟩|cons a t=>
 have f:mc k.e.runs=.ay (k.e.runs.l.map bp.d) 127 3:=by unfold mc;rw[y];rfl
 have e3:=λg=>agQ k.e.runs.l g (by rw[y];simp) hr;refine QH (q:=λr=>∃w ow,rN k.e.runs.l.length k.e.runs.l.length ow/\r=.val (.dv (.agg [iD k.q,iD k.key.k,iD k.key.n,.str k.key.s,iD k.e.mark,cX k.e.wait,.cV 1 0 k.e.runs.l.length 127 3,cX k.e.held]) .no) (⟨2,[(0,.box ⟨[iD k.q,iD k.key.k,iD k.key.n,.str k.key.s,iD k.e.mark,cX k.e.wait,.cV 1 0 k.e.runs.l.length 127 3,cX k.e.held],w⟩),(1,.box ⟨mD k.e.runs.l,ow⟩)]⟩)) func40 rfl rfl rfl rfl rfl ?_ ?_;.rintro r⟨w,ow,I,rfl⟩;have u:=λ(g:GH)=>@M4 g 90 (k.e.wait.l.map aL.d) k.e.wait.nl 5;have v:=λ(g:GH)=>@M4 g 90 (k.e.held.l.map aL.d) k.e.held.nl 5;have E:∀g k n,yN PP g (.int k n)=J (.int k n):=λ_ _ _=>rfl;have F:∀g s,yN PP g (.str s)=J (.str s):=λ_ _=>rfl;have u3:=λb n=>aKw (x:=b) (n:=n) I;refine⟨.val (.dv k.d .no) ⟨2,[]⟩,?_,_,rfl⟩;simp only[aE.d,aE.cells,f];show Option.map _ (Option.map _ (cu _ _))=_;simp only[cX,afZ,EZ,u,v,E,F,u3,cQ,gF]
 .rcases K with rfl|⟨_,rfl⟩<;>rcases O with rfl|⟨_,rfl⟩;all_goals
   simp only[go_sem,f40,aE.d,aE.cells,d2,e1,e2,f,e3,G3];first|refine pA k.e.runs.l _ (D4 k [(7,.ex 90),(5,.ex 90)]) (λi _ ow=>rN k.e.runs.l.length i ow) ab rfl ?_ (λow I=>?_) (λi b l ow c d m I p=>?_)|refine pA k.e.runs.l _ (D4 k [(7,.ex 90)]) (λi _ ow=>rN k.e.runs.l.length i ow) ab rfl ?_ (λow I=>?_) (λi b l ow c d m I p=>?_)|refine pA k.e.runs.l _ (D4 k [(5,.ex 90)]) (λi _ ow=>rN k.e.runs.l.length i ow) ab rfl ?_ (λow I=>?_) (λi b l ow c d m I p=>?_)|refine pA k.e.runs.l _ (D4 k []) (λi _ ow=>rN k.e.runs.l.length i ow) ab rfl ?_ (λow I=>?_) (λi b l ow c d m I p=>?_)
   .exact⟨gK,λj _ h=>by rw[yl,if_neg ab];rfl⟩
   .simp only[D4,go_sem,bW];exact⟨_,_,I,rfl⟩
   .obtain⟨ob,U,e4⟩:=cpB b.bs (o.2.2 b (dw d)).1;obtain⟨os,u7,e5⟩:=cpS b.ss (o.2.2 b (dw d)).2;have W:look ow (i*3+1)=Z:=I.2 _ ab (by have:=mT c;omega);have X:look ow (i*3+2)=Z:=I.2 _ ab (by have:=mT c;omega);have G:(mD k.e.runs.l)[i*3+1]?=J (gX b.bs):=Sk d eY;have H:(mD k.e.runs.l)[i*3+2]?=J (jC b.ss):=Sk d eY;have kN:=Sm k.e.runs.l;have gO:=mT c;have s1:(mD k.e.runs.l).take (i*3+1)++gX b.bs::(mD k.e.runs.l).drop (i*3+1+1)=mD k.e.runs.l:=QY G;have s2:(mD k.e.runs.l).take (i*3+2)++jC b.ss::(mD k.e.runs.l).drop (i*3+2+1)=mD k.e.runs.l:=QY H;have M:(i*3+1+1<=(mD k.e.runs.l).length)=True:=iT ab;have N:(i*3+2+1<=(mD k.e.runs.l).length)=True:=iT ab;simp only[D4,go_sem]at p;rcases U with rfl|⟨_,rfl⟩<;>rcases u7 with rfl|⟨_,rfl⟩;all_goals simp only[D4,go_sem,c,d7,ayW,W,X,G,H,e4,e5,s1,s2,M,N,m];refine p _ ?_;repeat(first|exact I.up|refine rN.cn ?_ ab|refine rN.dr ?_ ab)
end Go.VM
