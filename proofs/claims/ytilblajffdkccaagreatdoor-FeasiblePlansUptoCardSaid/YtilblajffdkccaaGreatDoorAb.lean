/- Proved: the operations of the abstract machine answer as the model does (a part of the proof of FeasiblePlansUptoCardSaid, whose theorem stands in the last text), under the relation between heaps that is defined here. -/
import Derived.Test.YtilblajffdkccaaGreatDoorAa
open Option renaming some->J,none->Z
open Bool renaming true->V,false->C
open Bool renaming noConfusion->mK
open Go renaming TypeId->al,Value->aB,Oper->aC,Operand->aH,Program->aM,World->aT,Code->bz,FuncId->bS,Frame->cZ,lone->eT,IntKind->gZ,MapEntry->kZ
open Go.Builtin renaming zeroCells->nR,firstCells->oE,append_->s8,copy_->zF
open Go.Lib renaming compact->tb
open Go.Op renaming operands->eB,mapUpdate->rC
open Go.Proofs.Tryz renaming prog->eS
open Go.Region renaming binds->uq
open Go.stepG renaming exec->ug
open Int renaming ofNat->dI,sub->nS
open List renaming rec->kG,append->qA
open Nat renaming beq->aw,ble->bV,blt->cM,succ->eU,add->im,mul->jD
open SizeOf renaming sizeOf->kb
open UInt8 renaming toNat->nU
noncomputable section set_option linter.all false
namespace Go.AM
open Go
variable{r x:AV}{ats:Array al}{H':Heap}{s:Sem aB}{sv v:aB}{z:aD}{e elem t:al}
section
variable{P:aM}{S:Nat->Prop}{O:aZ}{H:Heap}{w:aT}
theorem aAm{y:al}{s:an}(a:ats[0]?=J t)(u:P.underlying t=J .string)(h:VR O (.str s) v):pX P O (Builtin.len_ ats y #[v]) (ix (eL s)):=by cases h with|str _ b e=>refine⟨goInt b.size,λw=>by simp_all[Builtin.len_,dA],?_⟩;rw[ef,<-Nv e];exact .int _ _
theorem aAh{n:Nat}(h:nN x=J n)(a:VR O x v):∃b c,v=.slice b n c:=by cases a<;>simp_all[nN]
theorem aAl{y:al}{n:Nat}(d:ats[0]?=J t)(u:P.underlying t=J (.slice e))(h:nN x=J n)(a:VR O x v):pX P O (Builtin.len_ ats y #[v]) (ix n):=by obtain⟨b,c,rfl⟩:=aAh h a;exact⟨goInt n,λw=>by simp_all[Builtin.len_,dA],.int _ _⟩
theorem aAi(s:bA S O H w){ty k v:al}{r c:Nat}{e:List ew}{p:Pl}(h:ats[0]?=J t)(j:P.underlying t=J (.map k v))(i:O r=J p)(b:S (rootOf H r))(g:H.get r=J (.map e c)):∃u,(Builtin.len_ ats ty #[.map (J p.aW)]).run P w=.ok u w/\VR O (ix (eL e)) u:=by obtain⟨a,d,f,l⟩:=AT s i b g;refine⟨goInt a.size,by simp[Builtin.len_,h,dA j,vd d],?_⟩;have:=f.1;simp at this;rw[ef,this];exact .int _ _
theorem anP{y:al}{i o l c s:Nat}(d:ats[0]?=J t)(u:P.underlying t=J (.slice e))(b:VR O (.sl i o l (J c) s) v):pX P O (Builtin.cap_ ats y #[v]) (ix c):=by cases b with|sl _ _ _ _ _ p q a k g m h j hr f n=>obtain⟨rfl,_⟩:=h c rfl;exact⟨goInt a,λw=>by simp_all[Builtin.cap_,dA],.int _ _⟩
theorem anO{y:al}(a:ats[0]?=J t)(u:P.underlying t=J (.slice e))(h:VR O .bc v):pX P O (Builtin.cap_ ats y #[v]) (ix 0):=by cases h;exact⟨goInt 0,λw=>by simp_all[Builtin.cap_,dA],.int _ _⟩
theorem aog(l:ba H)(s:bA S O H w){ty:al}{d:TypeDesc}{r c:Nat}{f:List ew}{p:Pl}(i:ats[0]?=J t)(u:P.underlying t=J d)(b:O r=J p)(j:S (rootOf H r))(g:H.get r=J (.map f c)):∃a,(Builtin.clear_ ats ty #[.map (J p.aW)]).run P w=.ok (.tuple #[]) a/\ba (H.put r r (.map [] c))/\bA S O (H.put r r (.map [] c)) a/\Fr O H w O (H.put r r (.map [] c)) a:=by obtain⟨e,h,m,k⟩:=AT s b j g;exact⟨_,by simp[Builtin.clear_,i,dA u,vd h,DX h],DP l s #[] b g k ⟨rfl,aO⟩⟩
end
def dE(P:aM)(S:Nat->Prop)(d:aZ)(H:Heap)(w:aT)(s:Sem aB)(r:AV)(c:Heap):Prop:=∃b v a,s.run P w=.ok v a/\VR b r v/\ir S d H w b c a
section
variable{P:aM}{S:Nat->Prop}{O:aZ}{H:Heap}{w:aT}
theorem dE.xD(i:ba H)(c:bA S O H w)(h:pX P O s r):dE P S O H w s r H:=by obtain⟨v,a,b⟩:=h;exact⟨O,v,w,a w,b,ir.refl i c⟩
theorem dE.read(i:ba H)(b:bA S O H w)(h:s.run P w=.ok v w)(a:VR O r v):dE P S O H w s r H:=⟨O,v,w,h,a,ir.refl i b⟩
theorem aAH{i o n:Nat}{l:aD}(h:H.load i o n=J l):l.length=n:=by cases c:H.cellsOf i<;>grind[Heap.load,du,ef,qx,qI]
theorem Wc{n:Nat}(h:rT x=J n)(a:VR O x v):∀w:aT,(Builtin.lenOf v).run P w=.ok n w:=by cases a<;>simp_all[rT,nN,Builtin.lenOf,ef,Nv]
theorem asP{b:ByteArray}{s:an}(e:b.data.toList.map nU=s)(n:Nat):aV O (AS (λ(b:Nat)=>AV.int .u8 (.ofNat b)) (xK n s)) ((b.extract 0 n).data.map λb=>Value.int .u8 b.toNat).toList:=by
 rw[Ce,qx,<-e];have hd:(b.extract 0 n).data.toList=b.data.toList.take n:=by simp_all
 rw[Array.toList_map,hd];refine⟨aO,λi a v h d=>?_⟩;rw[lE]at h d;rw[<-List.map_take,lE]at h;rcases x:(b.data.toList.take n)[i]? with _|c;.grind
 simp[x]at h d;subst h;subst d;exact .int _ _
theorem UI(q:bA S O H w)(l:∀r,S r){z n m:Nat}{a:aD}(h:qK H z n x=J a)(f:VR O x v)(d:rT x=J m)(K:n<=m):∃j:Array aB,(oE z n v).run P w=.ok j w/\aV O a j.toList/\(∀x,x∈a->x.bj=V)/\a.length=n*z:=by
 cases x<;>simp[qK]at h;case bc=>simp[rT,nN]at d;subst d;subst h;cases f;simp_all[oE,aV.nil]
 case str s=>simp[rT]at d;subst d;cases f with|str _ b e=>
  rw[bN]at h;by_cases g:z=1
  . subst g;simp at h;subst h;refine⟨_,by rfl,asP e n,?_,?_⟩;.intro x i;rw[Ce]at i;obtain⟨c,_,rfl⟩:=List.mem_map.1 i;rfl
    grind[Ce,qx,ef]
  grind
 case sl id u len k e=>simp[rT,nN]at d;subst d;cases f with|sl _ _ _ _ _ p N Q o I M F L hr g R=>
  rw[bN]at h;by_cases t:n=0;.simp_all[oE,loadCells,loadCellsFrom,aV.nil]
  . simp only[t,mO,bg,bN]at h;by_cases y:e=z;.subst y;simp only[eu,aL]at h;have G:=hr ae;subst G;obtain⟨A,B,D,E⟩:=ahv (P:=P) q o (l _) h;grind[oE,aAH]
    grind
theorem abq{i:TypeInfo}(h:mJ P elem=J z)(c:P.info? elem=J i):∃b,i.zero=J b/\aV O z b.cells.toList/\(∀x,x∈z->x.bj=V):=by
 unfold mJ zB at h;rw[c]at h;rcases U:i.zero with _|v;.grind
 simp only[U,cU]at h;rcases o:xx v with _|a;.grind
 simp only[o,cU]at h;obtain⟨d,e⟩:=(WQ (O:=O) o).cells h;grind
theorem vi{k:Nat}{d:TypeDesc}(h:ats[k]?.bind P.underlying=J d):∃t,ats[k]?=J t/\P.underlying t=J d:=aj
theorem ami(hi:ba H)(j:bA S O H w)(c:∀r,S r){ty:al}{d:TypeDesc}{i:TypeInfo}{a:aD}{s:AV}{n:Nat}{v:aB}(h0:ats[0]?.bind P.underlying=J (.slice elem))(A:P.info? elem=J i)(hz:mJ P elem=J z)(oo:z.length=i.size)(h1:ats[1]?.bind P.underlying=J d)(y:∀k,d≠.int k)(g:rT x=J n)(f:qK H i.size n x=J a)(h:nz H elem i.size i.bytes s a n=J (r,H'))(jy:VR O s sv)(X:VR O x v):dE P S O H w (s8 ats ty #[sv,v]) r H':=by
 obtain⟨st,G,u⟩:=vi h0;obtain⟨xt,F,L⟩:=vi h1;obtain⟨zv,E,D,L9⟩:=abq (O:=O) hz A;have fI:bC P elem=J i.size:=by grind[bC]
 obtain⟨xs,f1,f2,f3,f4⟩:=UI (P:=P) j c f X g (bo _);obtain⟨xs',R,U,W,f4'⟩:=UI (P:=P) j.drew c f X g (bo _);have Q:(oE i.size n v).run P w.drew=.ok xs w.drew:=by
  cases x<;>simp[qK]at f;case bc=>cases X;simp_all[oE]
  case str=>cases X;simp_all[oE]
  case sl id t len K e=>cases X with|sl _ _ _ _ _ p ib kf hp hl ht hc ho hr he om=>
  have l:len=n:=by grind[rT,nN]
  subst l;by_cases mz:len=0;.simp_all[oE,loadCells,loadCellsFrom]
  . rw[bN]at f;simp only[mz,mO,bg,bN]at f;by_cases w7:e=i.size
    . simp only[w7,eu,aL]at f;obtain⟨m,hm⟩:∃m,H.cellsOf id=J m:=by unfold Heap.load at f;cases hc:H.cellsOf id<;>simp_all
      obtain⟨rr,fl,ee,hg,B⟩:=KD hm;obtain⟨je,xb⟩:=CO j hp (c _) hg B;have q:t+len*i.size<=m.length:=aj;obtain⟨cs,fz,e1,g1,g2,g3,g4⟩:=je.slice xb q;have tG:=hr ae;subst tG;have a1:=Jo (P:=P) g1 g2;have a2:=Jo (P:=P) (w:=w.drew) g1 g2;grind[oE]
    grind
 have T:zv.cells.size=i.size:=by rw[<-oo];simpa using D.1.symm
 refine abT hi j c T h jy f2 f3 f4 ?_ ?_;.intro b M jn w' N Y I mV PW;subst N;exact ajG G u fI F L y (Wc g X w) f1 Y I
 .intro b M jn old N Y o nK qO;subst N;exact run_append_grow G u A E F L y (Wc g X w) Q Y o nK qO
theorem amk(t:ba H)(u:bA S O H w)(q:∀r,S r){R:al}{k:gZ}{i:TypeInfo}{s:AV}{n:Nat}{x:aB}(m:ats[0]?.bind P.underlying=J (.slice elem))(A:P.info? elem=J i)(v:mJ P elem=J z)(I:z.length=i.size)(p:ats[1]?.bind P.underlying=J (.int k))(h:nz H elem i.size i.bytes s (kU n z) n=J (r,H'))(B:VR O s sv)(E:VR O (.int .i64 (.ofNat n)) x):dE P S O H w (s8 ats R #[sv,x]) r H':=by
 obtain⟨st,G,X⟩:=vi m;obtain⟨xt,F,L⟩:=vi p;obtain⟨U,Q,a,f⟩:=abq (O:=O) v A;have d:=IH E;subst d;have T:U.cells.size=i.size:=by rw[<-I];simpa using a.1.symm
 have c:i.size≠0:=by intro e;simp_all[nz]
 refine abT t u q T h B (akV a n) (Rl f n) (by grind[Jh]) ?_ ?_;.intro b j y Y N l g D W;subst N;exact aGn G X A Q F L D W l c g
 .intro b j y old N l o K M;subst N;exact ajH G X A Q F L l c o K M
def Tx(H:Heap)(n:Nat)(c:aD):AV->ah (AV×Heap)|.sl id o _ _ _=>bif aw n 0 then J (ix 0,H)else(H.store id o c).map λH=>(ix n,H)|_=>J (ix n,H)
theorem aoD(i:ba H)(b:bA S O H w)(f:∀r,S r){T:al}{z a c n:Nat}{d s:AV}{l:aD}{j:aB}(A:ats[0]?.bind P.underlying=J (.slice elem))(k:bC P elem=J z)(o:rT s=J a)(B:nN d=J c)(K:n=Nat.min a c)(D:qK H z n s=J l)(v:VR O d j)(y:VR O s sv)(h:Tx H n l d=J (r,H')):dE P S O H w (zF ats T #[j,sv]) r H':=by obtain⟨X,I,u⟩:=vi A;have g:n<=a:=aj;have M:n<=c:=aj;obtain⟨x,f1,f2,f3,f4⟩:=UI (P:=P) b f D y o g;have q:=Wc (P:=P) o y w;cases d with
 |bc=>
 obtain rfl:c=0:=by grind[nN]
 cases v;have m:n=0:=ae;subst m;have L:Nat.min a 0=0:=aO;simp[Tx]at h;obtain⟨rfl,rfl⟩:=h;refine⟨O,goInt 0,w,?_,.int _ _,ir.refl i b⟩;simp[zF,I,dA u,q,mf k,f1]|sl id Q len t e=>
 obtain rfl:c=len:=by grind[nN]
 cases v with|sl _ _ _ _ _ p ib kf N jd ht uE ho hr he om=>
 have L:min a c=n:=K.symm;simp only[Tx,bN]at h;by_cases m:n=0
 . simp[m]at h;obtain⟨rfl,rfl⟩:=h;refine⟨O,goInt n,w,?_,by rw[m];exact .int _ _,ir.refl i b⟩;have F:x=#[]:=by
    have Y:x.size=0:=by have:=f2.1;grind
    grind
   subst F;simp[zF,I,dA u,q,mf k,L,f1,storeCells]
 .simp only[m,mO,bg,jE]at h;obtain⟨W,G,E⟩:=h;obtain⟨rfl,rfl⟩:=j9 E;have R:=hr ae;subst R;obtain⟨U,g1,g2,g3,g4⟩:=NB (P:=P) i b N (f _) G f2 f3;refine⟨O,goInt n,U,?_,.int _ _,g2,g3.up (λr _=>f r),g4⟩;simp_all[zF,dA,mf]
 |_=>simp[nN]at B
theorem atB{f:aB->aB->Sem aB}{g:AV->AV->ah AV}(a:∀{x y r:AV}{u v:aB},g x y=J r->VR O x u->VR O y v->pX P O (f u v) r):∀(l:aD)(s:List aB)(x r:AV)(u:aB),oN g l x=J r->aV O l s->VR O x u->pX P O (s.foldlM f u) r:=by intro l;induction l with|nil=>intro s x r u h b c;obtain rfl:=b.sT;rw[H6]at h;simp at h;subst h;exact⟨u,λw=>by rfl,c⟩|cons y l n=>
 intro s x r u h b c;obtain⟨v,t,rfl,k,j⟩:=b.cons_inv;rw[H4]at h;rcases d:g x y with _|m;.grind
 simp only[d,cU]at h;obtain⟨o,q,e⟩:=a d c k;obtain⟨p,z,i⟩:=n t m r o h j e;exact⟨p,λw=>aP,i⟩
theorem aA9{y:AV}{u:aB}(h:(match x,y with|.int k a,.int _ b=>J (AV.int k (bif ao a b then b else a))|_,_=>Z)=J r)(c:VR O x u)(d:VR O y v):pX P O (Builtin.max2 u v) r:=by cases x<;>cases y<;>simp at h;subst h;cases c;cases d;rename_i k a e b;refine⟨_,λw=>by rfl,?_⟩;rw[Mr];by_cases D:a<b<;>simp[D]<;>exact .int _ _
theorem aoA{r s:al}{d:TypeDesc}{k a:gZ}{n:Int}(c:P.underlying r=J d)(b:P.underlying s=J (.int k))(h:VR O (.int a n) v):pX P O (convert r s v) (.int k (fS k n)):=by cases h;exact⟨.int k (k.wrap n),λw=>by simp_all[convert,dA,Conv.intToInt],by rw[Ef];exact .int _ _⟩
theorem atV{b D n:Nat}{cs:Array aB}(h:w.heap[b]?=J (.cells cs e (0,0)))(a:n≠0):w.freeze ⟨b,D,Z⟩ n=World.eH w b (.cells cs e (D,D+n)):=by have c:b<w.heap.size:=(Array.getElem?_eq_some_iff.1 h).1;unfold World.freeze World.eH;rw[if_neg a];congr 1;grind
theorem aoB(L:ba H)(Q:bA S O H w){o t:al}{d:TypeDesc}{s:an}(B:P.underlying o=J d)(y:P.underlying t=J (.slice e))(I:P.underlying e=J (.int .u8))(g:VR O (.str s) v):dE P S O H w (convert o t v) (.sl H.next 0 (eL s) Z 1) (H.cO (AS (λ(b:Nat)=>AV.int .u8 (.ofNat b)) s) .ro e):=by cases g with|str _ b E=>
 have K:b.size=s.length:=Nv E;obtain⟨p,M⟩:∃p,p=(Question.appendCap b.size 0 e).cut (w.tape w.drawn (.appendCap b.size 0 e)):=⟨_,rfl⟩;have N:b.size<=p:=by grind[Tz]
 obtain⟨f,G⟩:∃f:Array aB,f=(b.data.map λb=>Value.int .u8 b.toNat)++Array.replicate (p-b.size) (.int .u8 0):=⟨_,rfl⟩;have z:f.size=p:=by grind
 have u:aV O (AS (λ(b:Nat)=>AV.int .u8 (.ofNat b)) s) (b.data.map λb=>Value.int .u8 b.toNat).toList:=by
   rw[Ce,<-E];refine⟨aO,λi a v j g=>?_⟩;rw[Array.toList_map,lE]at g;rw[lE,lE]at j;rcases m:b.data.toList[i]? with _|c;.grind
   simp[m]at j;rw[m]at g;simp at g;subst j;subst g;exact .int _ _
 have T:(AS (λ(b:Nat)=>AV.int .u8 (.ofNat b)) s).length=s.length:=by simp[Ce]
 have R:=Kn L Q.drew (.cells (AS (λ(b:Nat)=>AV.int .u8 (.ofNat b)) s) H.next .ro e) (.cells f e (f.size,f.size+1)) ⟨w.heap.size,0,p,s.length⟩ rfl (λl r X W h=>aj) (by
    refine⟨f,(f.size,f.size+1),_,xF w.drew _,z,?_,?_,?_,λh=>absurd rfl h,λh=>aj⟩;.grind
    .intro i a j;obtain⟨v,q,F⟩:=u.get j;grind
    .intro x m;rw[Ce]at m;obtain⟨c,_,rfl⟩:=List.mem_map.1 m;rfl);refine⟨_,.slice (J ⟨w.heap.size,0,Z⟩) b.size p,World.push w.drew (.cells f e (f.size,f.size+1)),?_,?_,ir.drew R⟩
 . have A:(w.drew.alloc (.cells f e)).shape? w.heap.size=J (e,f.size):=Z2 (w:=World.push w.drew (.cells f e)) (xF w.drew _);have U:(w.drew.alloc (.cells f e)).freeze ⟨w.heap.size,f.size,Z⟩ 1=World.push w.drew (.cells f e (f.size,f.size+1)):=by
    have q:=atV (w:=World.push w.drew (.cells f e)) (b:=w.heap.size) (D:=f.size) (n:=1) (cs:=f) (e:=e) (xF w.drew _) ae;have F:World.eH (World.push w.drew (.cells f e)) w.heap.size (.cells f e (f.size,f.size+1))=World.push w.drew (.cells f e (f.size,f.size+1)):=by have y:w.drew.heap=w.heap:=rfl;unfold World.eH World.push;simp only[y];congr 1;grind
    exact q.trans F
   simp[convert,dA B,dA y,dA I,Conv.stringToBytes,newRow,newObj,markStringish,shape,Sem.run,Question.forced,<-M,<-G,A,freeze];omega
 .have q:gH O H.next ⟨w.heap.size,0,p,s.length⟩ H.next=J ⟨w.heap.size,0,p,s.length⟩:=jK _ _ _;rw[K,ef];refine .sl H.next 0 s.length Z 1 _ _ p q ae ?_ (λk Y=>aj) (λ_=>?_) (λ_=>rfl) ae ?_<;>grind
theorem aa5{a:AV}{c:Array aB}(h:aV O [a] c.toList):∃u,c=#[u]/\VR O a u:=by obtain⟨u,t,d,e,b⟩:=h.cons_inv;have:=b.sT;grind
theorem aa6{a b:AV}{c:Array aB}(h:aV O [a,b] c.toList):∃u v,c=#[u,v]/\VR O a u/\VR O b v:=by obtain⟨u,t,f,g,d⟩:=h.cons_inv;obtain⟨v,k,i,j,e⟩:=d.cons_inv;have:=e.sT;grind
def Ey(a:aZ)(r:AV):Next->Prop|.value v=>VR a r v|.skip=>r=fR|_=>False
def aCd:Next->aB|.value v=>v|_=>undef
theorem Ey.val{n:Next}(h:Ey O r n):VR O r (aCd n):=by
 cases n<;>simp only[Ey]at h;.exact h
 .subst h;exact aV.cw (aV.nil O) #[] rfl
def tc(P:aM)(S:Nat->Prop)(d:aZ)(H:Heap)(w:aT)(s:Sem Next)(r:AV)(c:Heap):Prop:=∃b n a,s.run P w=.ok n a/\Ey b r n/\ir S d H w b c a
theorem dE.next(h:dE P S O H w s r H'):tc P S O H w (do pure (.value (<-s))) r H':=by obtain⟨d,v,c,e,a,b⟩:=h;exact⟨d,.value v,c,aP,a,b⟩
theorem acf{c d:Type}{x:ah c}{f:c->ah d}{b:d}(h:x.bind f=J b):∃a,x=J a/\f a=J b:=by cases x<;>simp_all
theorem aOm{f:gS}(h:f.wr=V):f≠.ro:=by grind[gS.wr]
theorem anh(p:ba H)(q:bA S O H w)(l:∀r,S r){t:al}{a:aD}{c:Array aB}(h:lf P H .append ats a=J (r,H'))(b:aV O a c.toList):dE P S O H w (s8 ats t c) r H':=by match a,h,b with
 |[s,x],h,b=>
 obtain⟨u,v,rfl,y,B⟩:=aa6 b;simp only[lf]at h;split at h
 . rename_i elem j;split at h
   . rename_i i A;rcases g:mJ P elem with _|z;.grind
     simp only[g,cU,bN,ef]at h;by_cases o:z.length=i.size
     . simp only[o,eu,aL]at h;split at h;.rename_i k e;split at h<;>grind[amk]
       . rename_i d D e;rcases f:rT x with _|n;.grind
         simp only[f,cU]at h;cases m:qK H i.size n x<;>grind[ami]
       grind
     grind
   grind
 grind
theorem ank(m:ba H)(o:bA S O H w)(l:∀r,S r){t:al}{g:aD}{c:Array aB}(h:lf P H .copy ats g=J (r,H'))(b:aV O g c.toList):dE P S O H w (zF ats t c) r H':=by match g,h,b with
 |[d,s],h,b=>
 obtain⟨u,v,rfl,hd,y⟩:=aa6 b;simp only[lf]at h;split at h
 . rename_i elem k;rcases z:bC P elem with _|e;.grind
   rcases f:rT s with _|a;.grind
   rcases i:nN d with _|n;.grind
   simp only[z,f,i,cU]at h;rcases j:qK H e (Nat.min a n) s with _|cells;.grind
   simp only[j,cU]at h;exact aoD m o l k z f i rfl j hd y (by cases d<;>exact h)
 grind
theorem anm(j:ba H)(s:bA S O H w){y:al}{g:aD}{c:Array aB}(i:∀m o,g=[.map m]->H.jT m=J o->S (rootOf H m))(h:lf P H .len ats g=J (r,H'))(l:aV O g c.toList):dE P S O H w (Builtin.len_ ats y c) r H':=by match g,h,l,i with
 |[x],h,l,i=>
 obtain⟨v,rfl,q⟩:=aa5 l;simp only[lf]at h;split at h;.rename_i n e b;obtain⟨t,d,f⟩:=vi b;simp at h;obtain⟨rfl,rfl⟩:=h;exact dE.read j s (v:=goInt n) (by simp_all[Builtin.len_,dA]) (.int _ _)
 . rename_i a b;obtain⟨t,d,f⟩:=vi b;split at h;.rename_i n e A;simp at h;obtain⟨rfl,rfl⟩:=h;exact dE.read j s (v:=goInt n) (by simp_all[Builtin.len_,dA]) (.int _ _)
   grind
 .grind[dE.xD,aAm]
 .rename_i e b;obtain⟨t,d,f⟩:=vi b;cases G:nN x<;>grind[dE.xD,aAl]
 . rename_i I K b;obtain⟨t,d,f⟩:=vi b;split at h;.simp at h;obtain⟨rfl,rfl⟩:=h;cases q;exact dE.read j s (v:=goInt 0) (by simp_all[Builtin.len_,dA]) (.int _ _)
   . rename_i m;rcases k:H.jT m with _|o;.grind
     simp[k]at h;obtain⟨rfl,rfl⟩:=h;obtain⟨D,B⟩:=o;cases q with|map _ p z=>obtain⟨u,E,F⟩:=aAi (P:=P) (ty:=y) s d f z (i m _ rfl k) (sR k);grind[dE.read]
   grind
 grind
theorem ani(i:ba H)(s:bA S O H w){t:al}{a:aD}{c:Array aB}(h:lf P H .cap ats a=J (r,H'))(b:aV O a c.toList):dE P S O H w (Builtin.cap_ ats t c) r H':=by match a,h,b with|[x],h,b=>obtain⟨v,rfl,d⟩:=aa5 b;simp only[lf]at h;grind[dE.xD,anO,anP]
theorem ann(p:ba H)(s:bA S O H w){l:al}{a:aD}{c:Array aB}(h:lf P H .max ats a=J (r,H'))(b:aV O a c.toList):dE P S O H w (Builtin.max_ ats l c) r H':=by match a,h,b with|x::rest,h,b=>obtain⟨u,t,q,i,D⟩:=b.cons_inv;simp only[lf,jE]at h;obtain⟨m,e,d⟩:=h;obtain⟨rfl,rfl⟩:=j9 d;have:=atB (P:=P) (O:=O) (f:=Builtin.max2) (λ{x y r u v}g j k=>aA9 g j k) rest t x m u e D i;obtain⟨z,n,o⟩:=this;simp_all[dE.read,Builtin.max_]
theorem anj(i:ba H)(s:bA S O H w)(f:∀r,S r){D:al}{g:aD}{c:Array aB}(h:lf P H .clear ats g=J (r,H'))(o:aV O g c.toList):dE P S O H w (Builtin.clear_ ats D c) r H':=by match g,h,o with
 |[x],h,o=>
 obtain⟨v,rfl,e⟩:=aa5 o;simp only[lf]at h;split at h;.rename_i d b;obtain⟨t,j,u⟩:=vi b;simp at h;obtain⟨rfl,rfl⟩:=h;cases e;exact dE.read i s (v:=.tuple #[]) (by simp_all[Builtin.clear_,dA]) (aV.cw (aV.nil O) #[] rfl)
 .rename_i d b;obtain⟨t,j,u⟩:=vi b;simp at h;obtain⟨rfl,rfl⟩:=h;cases e;exact dE.read i s (v:=.tuple #[]) (by simp_all[Builtin.clear_,dA]) (aV.cw (aV.nil O) #[] rfl)
 . rename_i d m b;obtain⟨t,j,u⟩:=vi b;rcases y:H.jT m with _|U;.grind
   simp[y]at h;obtain⟨rfl,rfl⟩:=h;obtain⟨es,ck⟩:=U;cases e with|map _ p l=>obtain⟨q,K,L,M,N⟩:=aog (P:=P) (ty:=D) i s j u l (f _) (sR y);exact⟨O,.tuple #[],q,K,aV.cw (aV.nil O) #[] rfl,L,M.up (λx _=>f x),N⟩
 . rename_i elem id W n I k b;obtain⟨t,j,u⟩:=vi b;rw[bN]at h;by_cases A:n=0;.subst A;simp at h;obtain⟨rfl,rfl⟩:=h;cases e;exact dE.read i s (v:=.tuple #[]) (by simp_all[Builtin.clear_,dA]) (aV.cw (aV.nil O) #[] rfl)
   . simp only[A,mO,bg]at h;obtain⟨z,B,h⟩:=acf h;rw[bN,ef]at h;by_cases X:z.length=k;.simp only[X,eu,aL,jE]at h;obtain⟨H1,G,T⟩:=h;obtain⟨rfl,rfl⟩:=j9 T;unfold mJ at B;obtain⟨a,Q,R⟩:=acf B;obtain⟨zv,z1,z2⟩:=Gt (O:=O) Q w;obtain⟨E,F⟩:=z2.cells R;cases e with|sl _ _ _ _ _ p ib kf l hl yG uE ho hr he om=>have Y:=hr ae;subst Y;obtain⟨q,g1,g2,g3,g4⟩:=NB (P:=P) i s l (f _) G (akV E n) (Rl F n);refine⟨O,.tuple #[],q,?_,aV.cw (aV.nil O) #[] rfl,g2,g3.up (λx _=>f x),g4⟩;simp_all[Builtin.clear_,dA]
     grind
 grind
theorem anl(y:ba H)(B:bA S O H w)(j:∀r,S r){E:al}{a:aD}{c:Array aB}(h:lf P H .delete ats a=J (r,H'))(n:aV O a c.toList):dE P S O H w (Builtin.delete_ ats E c) r H':=by match a,h,n with
 |[m,k],h,n=>
 obtain⟨u,v,rfl,A,z⟩:=aa6 n;simp only[lf]at h;split at h
 . rename_i R X I;obtain⟨t,M,N⟩:=vi I;rcases l:ql P R k with _|_;.grind
   simp only[l,aL]at h;split at h;.simp at h;obtain⟨rfl,rfl⟩:=h;cases A;have Y:=λe=>Mf (P:=P) (empty:=e) l z w;exact dE.read y B (v:=.tuple #[]) (by simp_all[Builtin.delete_,dA]) (aV.cw (aV.nil O) #[] rfl)
   . rename_i T;rcases D:H.jT T with _|U;.grind
     obtain⟨G,W⟩:=U;simp only[D,cU,jE]at h;obtain⟨q,L,b⟩:=h;cases A with|map _ p K=>
     obtain⟨F,o,s⟩:=aoV (P:=P) (ty:=E) y B M N K (j _) (sR D) z l L;rcases q with _|Q;.simp at b;obtain⟨rfl,rfl⟩:=b;obtain⟨d,f,g⟩:=s G rfl;exact⟨O,.tuple #[],F,o,aV.cw (aV.nil O) #[] rfl,d,f.up (λx _=>j x),g⟩
     obtain⟨i,e⟩:=Q;simp at b;obtain⟨rfl,rfl⟩:=b;obtain⟨d,f,g⟩:=s _ rfl;exact⟨O,.tuple #[],F,o,aV.cw (aV.nil O) #[] rfl,d,f.up (λx _=>j x),g⟩
   grind
 grind
theorem ang(i:ba H)(s:bA S O H w){b:Builtin}{ty:al}{cs:Array Bool}{a:aD}{c:Array aB}(d:(∀r,S r)\/(b=.len/\∀m o,a=[.map m]->H.jT m=J o->S (rootOf H m))\/b=.cap)(h:lf P H b ats a=J (r,H'))(v:aV O a c.toList):tc P S O H w (builtin b ats ty cs c) r H':=by cases b<;>simp only[builtin]<;>first|exact(anh i s (by rcases d with h|⟨h,_⟩|h<;>first|exact h|cases h) h v).next|exact(ank i s (by rcases d with h|⟨h,_⟩|h<;>first|exact h|cases h) h v).next|exact(e i s (by rcases d with h|⟨h,_⟩|h<;>first|exact h|cases h) h v).next|exact(anj i s (by rcases d with h|⟨h,_⟩|h<;>first|exact h|cases h) h v).next|exact(anl i s (by rcases d with h|⟨h,_⟩|h<;>first|exact h|cases h) h v).next|exact(anm i s (by rcases d with h|⟨_,h⟩|h<;>first|exactλm o _ _=>h _|exact h|cases h) h v).next|exact(ani i s h v).next|exact(U i s h v).next|exact(ann i s h v).next|exact(L i s h v).next|(exfalso;simp[lf]at h)
end
end Go.AM
namespace Go.AM
open Go
variable{r:AV}{H':Heap}{a x:aH}{t:al}
def J4(P:aM)(S:Nat->Prop)(m:Tr AV)(H:Heap)(o:aC):Prop:=ov o.op=V\/(match ey P m H o with|none=>∀r,S r|some l=>∀t,t∈l->S t.2)
section
variable{P:aM}{S:Nat->Prop}{O:aZ}{H:Heap}{w:aT}{tm:Tr AV}{ρ:aH->aB}
theorem ni{v:ah AV}(h:ff H v=J (.val r H')):v=J r/\H=H':=by cases v<;>grind[ff]
theorem bA.grow{n:Nat}(s:bA S O H w)(i:ba H)(h:H.next<=n):bA (AM.more S n) O H w:=⟨s.stat,λid p o b a c d=>s.obj id p o b (by
 rcases a with a|a;.omega
 .have:=qZ i (s.stat.lt i b);omega) c d⟩
theorem aJT{i o:Nat}{v:aD}(h:H.store i o v=J H'):H'.next=H.next:=by grind[Heap.store,xr]
theorem aJP{i o:Nat}{v:AV}(h:AM.storeVar P H t i o v=J H'):H'.next=H.next:=by
 unfold AM.storeVar at h;rcases z:bC P t with _|n;.grind
 cases c:v.cells<;>grind[aJT]
theorem ajI{c d:Type}{f:c->Sem d}:∀(l:List c)(r:List d),l.length=r.length->(∀(i:Nat)(a:c)(b:d),l[i]?=J a->r[i]?=J b->(f a).run P w=.ok b w)->(l.mapM f).run P w=.ok r w:=by intro l;induction l with|nil=>intro r h _;cases r<;>simp_all|cons a l g=>
 intro r h e;rcases r with _|⟨b,r⟩;.grind
 rw[List.mapM_cons,Sem.run_bind,e 0 a b rfl rfl];simp only[Result.andThen_ok];rw[Sem.run_bind,g r aj (λi a b j k=>e (i+1) a b aj aj)];rfl
theorem ajv{i r:Nat}(h:ua H i=J r):rootOf H i=r:=by grind[ua,qp]
theorem pX.next(i:ba H)(a:bA S O H w){s:Sem aB}(h:pX P O s r):tc P S O H w (do pure (.value (<-s))) r H:=(dE.xD i a h).next
theorem tc.here(i:ba H)(s:bA S O H w){v:aB}(h:VR O r v):tc P S O H w (pure (.value v)) r H:=⟨O,.value v,w,by rfl,h,ir.refl i s⟩
theorem aE{c d:Type}{x:ah c}{f:c->ah d}{b:d}(h:x.bind f=J b):∃a,x=J a/\f a=J b:=by cases x<;>simp_all
section one
variable(hi:ba H)(hs:bA S O H w)(hg:jc P O)(hr:Reads ρ)
include hi hs hg hr
theorem aeB(o:eX O tm ρ x)(h:El P tm H x=J (.val r H')):tc P S O H w (pure (.value (ρ x))) r H':=by unfold El at h;obtain⟨a,rfl⟩:=ni h;grind[tc.here,fL]
theorem asc{e:al}(o:eX O tm ρ x)(h:GN P tm H e x=J (.val r H')):dE P S O H w (Instr.box e (ρ x)) r H':=by unfold GN at h;obtain⟨v,d,h⟩:=aE h;simp only[jE]at h;obtain⟨s,u,c⟩:=h;obtain⟨rfl,rfl⟩:=eV.val.inj c;obtain⟨a,b⟩:=(fL hg hr o d).1.cells u;obtain⟨p,f,g,i,j,k,p6⟩:=QJ (P:=P) hi hs s .ex e _ a b;refine⟨_,.pointer (J ⟨p.aW,0,Z⟩),_,by simp_all[Instr.box,newVar],?_,p6⟩;have:=VR.ptr (O:=gH O H.next p) H.next 0 p (jK _ _ _);grind
omit hg hr in theorem asa{e:al}(h:GL P tm H e=J (.val r H')):dE P S O H w (Instr.alloc e V (.tuple #[])) r H':=by unfold GL at h;simp only[jE]at h;obtain⟨z,b,i⟩:=h;obtain⟨rfl,rfl⟩:=eV.val.inj i;have F:=b;unfold mJ at b;obtain⟨a,f,g⟩:=aE b;obtain⟨v,q,j⟩:=Gt (O:=O) f w;obtain⟨c,d⟩:=j.cells g;obtain⟨p,k,l,m,n,o,p6⟩:=QJ (P:=P) hi hs z .ex e _ c d;refine⟨_,.pointer (J ⟨p.aW,0,Z⟩),_,by simp_all[Instr.alloc,newVar],?_,p6⟩;have:=VR.ptr (O:=gH O H.next p) H.next 0 p (jK _ _ _);grind
theorem asp(c:eX O tm ρ a)(f:∀id o,bu P tm a=J (.ptr id o)->S (rootOf H id))(h:GU P tm H t a=J (.val r H')):dE P S O H w (Instr.loadAt t (ρ a)) r H':=by
 unfold GU at h;split at h;.rename_i id o b;obtain⟨e,rfl⟩:=ni h;have v:=(fL hg hr c b).1;generalize ρ a=d at v;cases v<;>grind[aht,dE.read,Instr.loadAt,Instr.sureAddr]
 grind
theorem asA(i:eX O tm ρ a)(m:eX O tm ρ x)(f:∀id o,bu P tm a=J (.ptr id o)->S (rootOf H id))(h:En P tm H t a x=J (.val r H')):tc P S O H w (do Instr.storeAt t (ρ a) (ρ x);pure .skip) r H':=by
 unfold En at h;split at h;.rename_i id o c;obtain⟨v,k,h⟩:=aE h;simp only[jE]at h;obtain⟨s,b,g⟩:=h;obtain⟨rfl,rfl⟩:=eV.val.inj g;have d:=(fL hg hr i c).1;generalize ρ a=u at d;cases d with|ptr _ _ p j=>obtain⟨q,y,e,l,n⟩:=aJQ (P:=P) hi hs j (f _ _ c) b (fL hg hr m k).1;exact⟨O,.skip,q,by simp_all[Instr.storeAt,Instr.sureAddr],rfl,e,l.grow e (Nat.le_of_eq (aJP b)),n⟩
 grind
theorem asx{c b:aH}(e:eX O tm ρ c)(g:eX O tm ρ a)(i:eX O tm ρ b)(h:CD P tm H c a b=J (.val r H')):tc P S O H w (do pure (.value (if<-asBool (ρ c)then ρ a else ρ b))) r H':=by
 unfold CD at h;split at h;.rename_i I;have v:=(fL hg hr e I).1;generalize ρ c=f at v;cases v;obtain⟨d,rfl⟩:=ni h;exact⟨O,.value (ρ a),w,by rfl,(fL hg hr g d).1,ir.refl hi hs⟩
 .rename_i I;have v:=(fL hg hr e I).1;generalize ρ c=f at v;cases v;obtain⟨d,rfl⟩:=ni h;exact⟨O,.value (ρ b),w,by rfl,(fL hg hr i d).1,ir.refl hi hs⟩
 grind
theorem MP{l:List (Nat×aH)}:∀{s:List (Nat×AV)},(∀x,x∈l->eX O tm ρ x.2)->cE (λ(p:Nat×aH)=>(bu P tm p.2).map λv=>(p.1,v)) l=J s->s.length=(l.map λp=>(p.1,ρ p.2)).length/\∀(i:Nat)(p:Nat×AV)(q:Nat×aB),s[i]?=J p->(l.map λp=>(p.1,ρ p.2))[i]?=J q->p.1=q.1/\VR O p.2 q.2:=by grind[Mu,jE,fL]
theorem asd{s:Array (Nat×aH)}(ho:∀x,x∈s.toList->eX O tm ρ x.2)(h:Eg P tm H t s=J (.val r H')):dE P S O H w (Instr.build t (s.map λ(i,x)=>(i,ρ x))) r H':=by
 unfold Eg at h;obtain⟨z,G,h⟩:=aE h;obtain⟨K,jS,h⟩:=aE h;obtain⟨L,M⟩:=MP hi hs hg hr ho jS;unfold mJ at G;obtain⟨a,X,hc⟩:=aE G;obtain⟨R,N,z2⟩:=Gt (O:=O) X w;obtain⟨A,B⟩:=z2.cells hc;have T:(s.map λ(i,x)=>(i,ρ x)).toList=s.toList.map λp=>(p.1,ρ p.2):=aO;split at h
 . rename_i e u;obtain⟨l,U,h⟩:=aE h;obtain⟨k,rfl⟩:=ni h;simp only[jE]at k;obtain⟨cells,m,rfl⟩:=k;obtain⟨q,y⟩:=Mu U;have j:(e.mapM λg=>(do pure (g.offset,<-sizeOf g.type):Sem (Nat×Nat))).run P w=.ok l.toArray w:=by have E:=ajI (P:=P) (w:=w) (f:=λ(g:Field)=>(do pure (g.offset,<-sizeOf g.type):Sem (Nat×Nat))) e.toList l q (λi g b m Y=>by obtain⟨c,Q,I⟩:=y i g m;rw[Y]at I;cases I;simp only[jE]at Q;obtain⟨n,hn,rfl⟩:=Q;simp[mf hn]);simp only[bind_pure_comp]at E;rw[Array.mapM_eq_mapM_toList];simp[E]
   simp only[bind_pure_comp]at j;obtain⟨d,d1,d2,d3,d4⟩:=UC (λi=>oW l i) (l[.]?) K (s.toList.map λp=>(p.1,ρ p.2)) z R.cells cells (λi x F=>by grind[xw]) L M A B m;refine dE.read hi hs (v:=.agg d) ?_ (d2.agg d3 d rfl);simp[Instr.build,N,dA u,j,d1]
 .rename_i n D u;obtain⟨o,W,h⟩:=aE h;obtain⟨k,rfl⟩:=ni h;simp only[jE]at k;obtain⟨cells,m,rfl⟩:=k;obtain⟨d,d1,d2,d3,d4⟩:=UC (λi=>J (jD i o,o)) (λi=>J (i*o,o)) K (s.toList.map λp=>(p.1,ρ p.2)) z R.cells cells (λi x F=>F) L M A B m;refine dE.read hi hs (v:=.agg d) ?_ (d2.agg d3 d rfl);simp[Instr.build,N,dA u,mf W,d1]
 grind
theorem akW{z:aD}{c:Array aB}(d:aV O z c.toList)(n:Nat):aV O (kU n z) ((Array.range (n*z.length)).map (c[.%c.size]!)).toList:=by
 have l:z.length=c.size:=by simpa using d.1
 refine⟨by simp[Jh],λi a v b h=>?_⟩;have hi:i<n*z.length:=by grind
 rw[ZM n z i hi]at b;have r:0<c.size:=by grind
 simp only[Array.toList_map,lE,Array.toList_range]at h;rw[List.getElem?_range hi]at h;simp only[iE,xU]at h;have m:i%c.size<c.size:=Nat.mod_lt _ r;rw[getElem!_pos c _ m]at h;refine d.2 (i%z.length) a v b ?_;grind
theorem ase{l:Nat}{s:Array (Nat×aH)}(N:∀x,x∈s.toList->eX O tm ρ x.2)(h:GQ P tm H t l s=J (.val r H')):dE P S O H w (Instr.buildSlice t l (s.map λ(i,x)=>(i,ρ x))) r H':=by
 unfold GQ at h;split at h
 . rename_i m R;obtain⟨n,L,h⟩:=aE h;rw[bN,du]at h;by_cases j:n=0\/¬l*n<=16777216;.grind
   . have q:n≠0:=λe=>j (.inl e);have K:l*n<=16777216:=Decidable.not_not.1 λe=>j (.inr e);have:(decide (n=0)||!decide (jD l n<=16777216))=C:=by grind
     rw[this]at h;simp only[bg]at h;obtain⟨X,U,h⟩:=aE h;obtain⟨Y,q2⟩:=MP hi hs hg hr N U;obtain⟨z,b,h⟩:=aE h;have A:(s.map λ(i,x)=>(i,ρ x)).toList=s.toList.map λp=>(p.1,ρ p.2):=aO;have y:∃(c:Array aB)(f:Array aB),((l*n=0->c=#[])/\(l*n≠0->∃v,(zeroValue m).run P w=.ok v w/\v.cells=c))/\f=(Array.range (l*n)).map (c[.%c.size]!)/\aV O (kU l z) f.toList/\(∀x,x∈kU l z->x.bj=V)/\(l=0\/z.length=n):=by
       by_cases g:l=0;.subst g;simp[aV.nil,Rk]
       . rw[bN,wS g]at b;simp only[bg]at b;have FB:=b;unfold mJ at b;obtain⟨a,E,uF⟩:=aE b;obtain⟨v,z1,z2⟩:=Gt (O:=O) E w;obtain⟨c1,B⟩:=z2.cells uF;rw[bN,bN,ef,wS g]at h;have W:z.length=n:=by grind
         have D:¬l*n=0:=λe=>(Nat.mul_eq_zero.1 e).elim g q;refine⟨v.cells,_,⟨λe=>absurd e D,λ_=>⟨v,z1,rfl⟩⟩,rfl,?_,Rl B l,.inr W⟩;grind[akW]
     obtain⟨c,f,k1,k2,k3,k4,k5⟩:=y;have F:(!(aw l 0||aw (eL z) n))=C:=by grind
     rw[F]at h;simp only[bg,jE]at h;obtain⟨cells,G,I⟩:=h;obtain⟨rfl,rfl⟩:=eV.val.inj I;obtain⟨d,d1,d2,d3,d4⟩:=UC (λi=>J (jD i n,n)) (λi=>J (i*n,n)) X (s.toList.map λp=>(p.1,ρ p.2)) (kU l z) f cells (λi x T=>T) Y q2 k3 k4 G;obtain⟨p,p1,p2,p3,u,p5,p6⟩:=QJ (P:=P) hi hs cells .ex m d d2 d3;have Ih:d.size=l*n:=by have h1:=d2.1;have h2:=k3.1;grind
     refine⟨_,.slice (J ⟨p.aW,0,Z⟩) l l,_,?_,?_,p6⟩;.have M:¬(2^24<l*n):=ae;rw[k2]at d1;unfold Instr.buildSlice;simp only[dA R,Sem.run_bind,Result.andThen_ok,mf L];grind[Sem.run_bind,Sem.run_pure,Result.andThen_ok]
     . have Q:gH O H.next p H.next=J p:=jK _ _ _;refine .sl H.next 0 l (J l) n p _ l Q (bo _) ae (λk o=>?_) (λo=>aj) (λ_=>aj) (Nat.pos_of_ne_zero q) ?_;.cases o;refine⟨rfl,?_⟩;rw[u];have:=d2.1;grind
       .rw[u];have:=d2.1;grind
 grind
end one
end
end Go.AM
namespace Go.VM
open Go Go.AM
abbrev aY:=Nat->ah (aD×al)
abbrev bY:=Nat->ah Nat
inductive DR(K:aY)(O:bY):DV->AV->Prop where|bool(b:Bool):DR K O (.bool b) (.bool b)|int(k:gZ)(n:Int):DR K O (.int k n) (.int k n)|str(s:List Nat):DR K O (.str s) (.str s)|nl:DR K O .nl .bc|ay(l:List DV)(e:al)(esz id off:Nat)(c:Option Nat)(cells:List AV)(h:K id=J (cells,e))(he:0<esz)(hb:off+l.length*esz<=cells.length)(hc:∀k,c=J k->l.length<=k)(hl:∀(i:Nat)(x:DV),l[i]?=J x->x.flat.length=esz/\∀y,y∈x.flat->y.bj=V)(g:∀(i:Nat)(x:DV)(j:Nat)(d:DV)(a:AV),l[i]?=J x->x.flat[j]?=J d->cells[off+i*esz+j]?=J a->DR K O d a):DR K O (.ay l e esz) (.sl id off l.length c esz)|ptr(id off i:Nat)(h:O id=J i):DR K O (.ptr id off) (.ptr i off)|jV:DR K O .jV .jV|map(r i:Nat)(h:O r=J i):DR K O (.map r) (.map i)|il:DR K O .il .il|func(f:bS)(l1 l2:List DV)(m1 m2:List AV)(h1:l1.length=m1.length)(h2:l2.length=m2.length)(g1:∀(i:Nat)(d:DV)(a:AV),l1[i]?=J d->m1[i]?=J a->DR K O d a)(g2:∀(i:Nat)(d:DV)(a:AV),l2[i]?=J d->m2[i]?=J a->DR K O d a):DR K O (.func f l1 l2) (.func f m1 m2)|dK(l i:Nat)(h:O l=J i):DR K O (.dK l) (.yield i)|nilFunc:DR K O .nilFunc .nilFunc|agg(l:List DV)(m:List AV)(h:l.length=m.length)(hs:∀d,d∈l->d.bj=V)(g:∀(i:Nat)(d:DV)(a:AV),l[i]?=J d->m[i]?=J a->DR K O d a):DR K O (.agg l) (.agg m)|jk(a:AV)(h:a.bj=V)(h2:a.cells=J [a]):DR K O .jk a
def bH(K:aY)(b:bY)(l:aA)(m:aD):Prop:=l.length=m.length/\∀(i:Nat)(d:DV)(a:AV),l[i]?=J d->m[i]?=J a->DR K b d a
def bl(K a:aY):Prop:=∀id x,K id=J x->a id=J x
def aU(a b:bY):Prop:=∀id x,a id=J x->b id=J x
theorem bl.refl(K:aY):bl K K:=λ_ _ h=>h
theorem aU.refl(a:bY):aU a a:=λ_ _ h=>h
theorem bl.trans{a b c:aY}(h:bl a b)(k:bl b c):bl a c:=λ_ _ e=>k _ _ (h _ _ e)
theorem aU.trans{a b c:bY}(h:aU a b)(k:aU b c):aU a c:=λ_ _ e=>k _ _ (h _ _ e)
section
variable{K K':aY}{O ψ:bY}
theorem DR.mono(v:bl K K')(g:aU O ψ){d:DV}{a:AV}(r:DR K O d a):DR K' ψ d a:=by induction r with|bool b=>exact .bool b|int k n=>exact .int k n|str s=>exact .str s|nl=>exact .nl|ay l e z id o c cells h B w A C _ t=>exact .ay l e z id o c cells (v _ _ h) B w A C λi x j d a q p u=>t i x j d a q p u|ptr id o i h=>exact .ptr id o i (g _ _ h)|jV=>exact .jV|map r i h=>exact .map r i (g _ _ h)|il=>exact .il|func f l1 l2 G H q p _ _ E F=>exact .func f l1 l2 G H q p (λi d a x y=>E i d a x y) (λi d a x y=>F i d a x y)|dK l i h=>exact .dK l i (g _ _ h)|nilFunc=>exact .nilFunc|agg l m h D _ t=>exact .agg l m h D λi d a x y=>t i d a x y|jk a h p=>exact .jk a h p
theorem bH.mono(b:bl K K')(h:aU O ψ){l:aA}{m:aD}(r:bH K O l m):bH K' ψ l m:=⟨r.1,λi d a x y=>(r.2 i d a x y).mono b h⟩
theorem bH.nil:bH K O [] []:=⟨rfl,λi d a h=>aj⟩
theorem bH.cons{d:DV}{a:AV}{l:aA}{m:aD}(h:DR K O d a)(t:bH K O l m):bH K O (d::l) (a::m):=by
 refine⟨by simp[t.1],λi x y b c=>?_⟩;rcases i with _|i;.grind
 exact t.2 i x y aj aj
theorem bH.cons_inv{d:DV}{l:aA}{m:aD}(h:bH K O (d::l) m):∃a t,m=a::t/\DR K O d a/\bH K O l t:=by
 rcases m with _|⟨a,t⟩;.have:=h.1;grind
 exact⟨a,t,rfl,h.2 0 d a rfl rfl,by have:=h.1;grind,λi x y b c=>h.2 (i+1) x y aj aj⟩
theorem bH.sT{m:aD}(h:bH K O [] m):m=[]:=by
 rcases m with _|⟨v,t⟩;.rfl
 have:=h.1;grind
theorem bH.append{l b:aA}{m c:aD}(h:bH K O l m)(k:bH K O b c):bH K O (l++b) (m++c):=by
 refine⟨by simp[h.1,k.1],λi d a x y=>?_⟩;by_cases hi:i<l.length;.rw[oF hi]at x;rw[oF (by rw[<-h.1];omega)]at y;exact h.2 i d a x y
 .rw[oG ae]at x;rw[oG (by rw[<-h.1];omega),<-h.1]at y;exact k.2 _ d a x y
theorem bH.take{l:aA}{m:aD}(h:bH K O l m)(n:Nat):bH K O (l.take n) (m.take n):=by
 refine⟨by simp[h.1],λi d a x y=>?_⟩;by_cases hi:i<n;.rw[Ew hi]at x y;exact h.2 i d a x y
 grind
theorem bH.drop{l:aA}{m:aD}(h:bH K O l m)(n:Nat):bH K O (l.drop n) (m.drop n):=by refine⟨by simp[h.1],λi d a x y=>?_⟩;rw[zO]at x y;exact h.2 _ d a x y
theorem bH.get{l:aA}{m:aD}(h:bH K O l m){i:Nat}{d:DV}(x:l[i]?=J d):∃a,m[i]?=J a/\DR K O d a:=by
 obtain⟨hi,_⟩:=List.getElem?_eq_some_iff.1 x;have c:i<m.length:=by rw[<-h.1];omega
 exact⟨m[i],eZ c,h.2 i d _ x (eZ c)⟩
theorem bH.Z'{l v:aA}{m w:aD}(h:bH K O l m)(k:bH K O v w)(o:Nat):bH K O (pR l o v) (gG m o w):=by rw[D3];unfold pR;rw[<-k.1];exact((h.take o).append k).append (h.drop _)
theorem bH.mem{l:aA}{m:aD}(h:bH K O l m){a:AV}(c:a∈m):∃d,d∈l/\DR K O d a:=by
 obtain⟨i,hi⟩:=List.mem_iff_getElem?.1 c;have b:i<l.length:=by rw[h.1];grind
 exact⟨l[i],G7 _,h.2 i _ a (eZ b) hi⟩
theorem DR.bj{d:DV}{a:AV}(h:DR K O d a)(b:d.bj=V):a.bj=V:=by cases h<;>first|rfl|assumption|simp[DV.bj]at b
theorem DR.cells{d:DV}{a:AV}(h:DR K O d a):∃m,a.cells=J m/\bH K O d.flat m/\(∀x,x∈d.flat->x.bj=V):=by cases h with|agg l m h y g=>exact⟨m,rfl,⟨h,g⟩,y⟩|jk a q j=>exact⟨_,j,bH.cons (.jk a q j) bH.nil,by simp[DV.flat,DV.bj]⟩|bool b=>exact⟨_,rfl,bH.cons (.bool b) bH.nil,by simp[DV.flat,DV.bj]⟩|int k n=>exact⟨_,rfl,bH.cons (.int k n) bH.nil,by simp[DV.flat,DV.bj]⟩|str s=>exact⟨_,rfl,bH.cons (.str s) bH.nil,by simp[DV.flat,DV.bj]⟩|nl=>exact⟨_,rfl,bH.cons .nl bH.nil,by simp[DV.flat,DV.bj]⟩|ay l e z id o c cells h v t u w g=>exact⟨_,rfl,bH.cons (.ay l e z id o c cells h v t u w g) bH.nil,by simp[DV.flat,DV.bj]⟩|ptr id o i h=>exact⟨_,rfl,bH.cons (.ptr id o i h) bH.nil,by simp[DV.flat,DV.bj]⟩|jV=>exact⟨_,rfl,bH.cons .jV bH.nil,by simp[DV.flat,DV.bj]⟩|map r i h=>exact⟨_,rfl,bH.cons (.map r i h) bH.nil,by simp[DV.flat,DV.bj]⟩|il=>exact⟨_,rfl,bH.cons .il bH.nil,by simp[DV.flat,DV.bj]⟩|func f l1 l2 A B p j g1 g2=>exact⟨_,rfl,bH.cons (.func f l1 l2 A B p j g1 g2) bH.nil,by simp[DV.flat,DV.bj]⟩|dK l i h=>exact⟨_,rfl,bH.cons (.dK l i h) bH.nil,by simp[DV.flat,DV.bj]⟩|nilFunc=>exact⟨_,rfl,bH.cons .nilFunc bH.nil,by simp[DV.flat,DV.bj]⟩
theorem bH.agg{l:aA}{m:aD}(h:bH K O l m)(s:∀d,d∈l->d.bj=V):DR K O (.agg l) (.agg m):=.agg l m h.1 s h.2
theorem DR.Ac{l:aA}{a:AV}(h:DR K O (.agg l) a):∃m,a=.agg m/\bH K O l m/\∀d,d∈l->d.bj=V:=by cases h with|agg l m h s g=>exact⟨m,rfl,⟨h,g⟩,s⟩
theorem ab6{a:AV}{d:DV}(h:Oj a=J d):DR K O d a/\d.bj=V:=by
 unfold Oj at h;split at h<;>simp at h<;>subst h;.exact⟨.bool _,rfl⟩
 .exact⟨.int _ _,rfl⟩
 .exact⟨.str _,rfl⟩
 .exact⟨.jV,rfl⟩
 .exact⟨.nl,rfl⟩
 .exact⟨.il,rfl⟩
 .exact⟨.nilFunc,rfl⟩
theorem ab7:∀{l:aD}{s:aA},BI l=J s->bH K O s l/\∀d,d∈s->d.bj=V:=by intro l;induction l with|nil=>simp[BI,bH.nil]|cons a l i=>intro s h;unfold BI at h;obtain⟨d,hd,h⟩:=aE h;obtain⟨t,b,h⟩:=aE h;grind[ab6,bH.cons]
theorem Hp{a:AV}{d:DV}(h:CM a=J d):DR K O d a:=by
 unfold CM at h;split at h
 . rename_i l;rcases m:BI l with _|s;.grind
   rw[m]at h;cases h;obtain⟨b,c⟩:=ab7 (K:=K) (O:=O) m;exact b.agg c
 grind[ab6]
end
section
variable{P:aM}{K:aY}{O:bY}
theorem aiG{t:al}{c:aA}{m:aD}{o:Nat}{d:DV}(h:lO P t c o=J d)(r:bH K O c m)(s:∀x,x∈c->x.bj=V):∃a,qo P t m o=J a/\DR K O d a:=by
 unfold lO at h;unfold qo;split at h
 . rename_i b;try rw[b]
   obtain⟨n,j,h⟩:=aE h;rw[du]at h;by_cases f:o+n<=c.length
   . simp only[f,eu,aL]at h;cases h;refine⟨.agg ((m.drop o).take n),?_,((r.drop o).take n).agg λx k=>s x (List.mem_of_mem_drop (List.mem_of_mem_take k))⟩;simp only[j,cU];have e:bV (im o n) (eL m)=V:=by rw[du,ef,<-r.1];exact lS f
     rw[e];simp[qx,qI]
   .simp[f]at h
 . rename_i b;try rw[b]
   obtain⟨a,g,i⟩:=r.get h;exact⟨a,by rw[xw];exact g,i⟩
 .simp at h
theorem as2{l:Nat->ah (Nat×Nat)}:∀(d:List (Nat×DV))(s:List (Nat×AV))(c G:aA)(m:aD),BT l d c=J G->bH K O c m->d.length=s.length->(∀(i:Nat)(p:Nat×DV)(q:Nat×AV),d[i]?=J p->s[i]?=J q->p.1=q.1/\DR K O p.2 q.2)->∃e,Ao l s m=J e/\bH K O G e/\((∀x,x∈c->x.bj=V)->∀x,x∈G->x.bj=V):=by intro d;induction d with
 |nil=>intro s c G m h r n f;cases s with|nil=>obtain rfl:=br (show J c=J G from h);exact⟨m,rfl,r,λh=>h⟩|cons q s=>grind
 |cons p d w=>intro s c G m h r n f;cases s with|nil=>grind|cons q s=>unfold BT at h;obtain⟨o,E,h⟩:=aE h;obtain⟨e1,e2⟩:=f 0 p q rfl rfl;obtain⟨v,D,u,t⟩:=e2.cells;cases k:(aw p.2.flat.length o.2&&bV (o.1+o.2) c.length)with|false=>grind|true=>
 rw[k]at h;simp only[aL]at h;have z:=r.Z' u o.1;obtain⟨e,A,g,j⟩:=w s _ G _ h z aj λi a b x y=>f (i+1) a b aj aj;refine⟨e,?_,g,λB=>j λx F=>?_⟩
 . show((l q.1).bind λo=>q.2.cells.bind λv=>bif aw (eL v) o.2&&bV (im o.1 o.2) (eL m)then J (gG m o.1 v)else Z).bind (Ao l s)=J e;rw[<-e1,E,cU,D,cU];have:(aw (eL v) o.2&&bV (im o.1 o.2) (eL m))=V:=by rw[ef,ef,<-u.1,<-r.1];omega
   grind
 grind[pR]
theorem eqFields{l:al->DV->DV->ah Bool}{i:al->AV->AV->ah Bool}(u:∀t x y b a c,l t x y=J b->DR K O x a->DR K O y c->i t a c=J b){j k:aA}{m n:aD}(A:bH K O j m)(B:bH K O k n)(F:∀x,x∈j->x.bj=V)(G:∀x,x∈k->x.bj=V):∀(s:List Field)(d b:Bool),oN (λd(f:Field)=>bif d then(bif f.name== "_"then J V else(lO P f.type j f.offset).bind λa=>(lO P f.type k f.offset).bind λb=>l f.type a b)else J C) s d=J b->oN (λd(f:Field)=>bif d then(bif f.name== "_"then J V else(qo P f.type m f.offset).bind λa=>(qo P f.type n f.offset).bind λb=>i f.type a b)else J C) s d=J b:=by intro s;induction s with|nil=>intro d b h;exact h|cons f s e=>intro d b h;change((bif d then(bif f.name== "_"then J V else(lO P f.type j f.offset).bind λa=>(lO P f.type k f.offset).bind λb=>l f.type a b)else J C).bind _)=J b at h;show((bif d then(bif f.name== "_"then J V else(qo P f.type m f.offset).bind λa=>(qo P f.type n f.offset).bind λb=>i f.type a b)else J C).bind _)=J b;cases d with|false=>exact e _ _ h|true=>simp only[aL]at h|-;cases o:(f.name== "_")with|true=>rw[o]at h;exact e _ _ h|false=>rw[o]at h;simp only[bg]at h|-;obtain⟨H,g,h⟩:=aE h;obtain⟨p,w,g⟩:=aE g;obtain⟨q,z,g⟩:=aE g;obtain⟨a,r,D⟩:=aiG w A F;obtain⟨c,v,E⟩:=aiG z B G;rw[r,v];simp only[cU];rw[u _ _ _ _ _ _ g D E];exact e _ _ h
theorem apA{ih:al->DV->DV->ah Bool}{ih':al->AV->AV->ah Bool}(u:∀t x y b a c,ih t x y=J b->DR K O x a->DR K O y c->ih' t a c=J b){t:al}{x y:DV}{b:Bool}{a c:AV}(h:Am P ih t x y=J b)(d:DR K O x a)(e:DR K O y c):HH P ih' t a c=J b:=by
 unfold Am at h;split at h<;>try(cases d;cases e;unfold HH;simp_all;done)
 .rename_i f k l g;obtain⟨m,rfl,r,s⟩:=d.Ac;obtain⟨n,rfl,i,j⟩:=e.Ac;unfold HH;rw[g];cases G:P.stoodInHeld t with|true=>simp_all|false=>rw[G]at h;simp only[bg]at h|-;exact eqFields u r i s j _ _ _ h
 simp_all
theorem T9:∀(n:Nat)(t:al)(x y:DV)(b:Bool)(a c:AV),kN P n t x y=J b->DR K O x a->DR K O y c->mQ P n t a c=J b:=by intro n;induction n with|zero=>intro t x y b a c h;exact absurd h (by show¬(Z=J b);simp)|succ n i=>intro t x y b a c h d e;exact apA (P:=P) (ih:=kN P n) (ih':=mQ P n) i h d e
theorem Uc{ih:al->DV->DV->ah Bool}{t:al}{x y:DV}{b:Bool}(h:Am P ih t x y=J b):x≠.jk/\y≠.jk:=by unfold Am at h;grind
theorem afp{t:al}{xo yo:aH}{x y:DV}{b:Bool}{a c:AV}(g:Lq P t x y=V)(h:kN P 50 t x y=J b)(d:DR K O x a)(e:DR K O y c):As P t xo yo a c=V:=by
 obtain⟨p,_⟩:=Uc (P:=P) (ih:=kN P 49) h;unfold As;split
 . rcases d with⟨l,m,f,i,k⟩|⟨_,j,_⟩
   . rcases e with⟨n,o,k1,k2,k3⟩|⟨_,j,_⟩;.exact g
     grind
   grind
 rfl
theorem amA{o:BinOp}{t:al}{xo yo:aH}{x y d:DV}{a c:AV}(h:nX P o t x y=J d)(e:DR K O x a)(f:DR K O y c):∃r,Ag P o t xo yo a c=J r/\∀(m:aY)(l:bY),DR m l d r:=by
 unfold nX at h;split at h;.grind
 . rename_i k w A z i j;cases e;cases f;split at h;.rename_i q;subst q;obtain⟨v,s,h⟩:=aE h;grind[Hp,Ag]
   grind
 .rename_i i j;cases e;cases f;obtain⟨v,s,h⟩:=aE h;grind[Hp,Ag]
 .rename_i i j;cases u:Lq P t x y with|false=>grind|true=>rw[u]at h;simp only[aL]at h;cases g:kN P 50 t x y with|none=>grind|some b=>
   rw[g]at h;cases h;obtain⟨nx,n⟩:=Uc (P:=P) (ih:=kN P 49) g;have p:=afp (xo:=xo) (yo:=yo) u g e f;have e2:=T9 50 t x y b a c g e f;refine⟨.bool b,?_,λ_ _=>.bool _⟩;unfold Ag;split;.grind
   .cases e<;>first|exact absurd rfl nx|(cases f<;>first|exact absurd rfl n|grind)
   .cases e<;>first|exact absurd rfl nx|(cases f<;>first|exact absurd rfl n|simp_all)
   all_goals simp_all
 .rename_i i j;cases u:Lq P t x y with|false=>simp_all|true=>rw[u]at h;simp only[aL]at h;cases g:kN P 50 t x y with|none=>simp_all|some b=>
   rw[g]at h;cases h;obtain⟨nx,n⟩:=Uc (P:=P) (ih:=kN P 49) g;have p:=afp (xo:=xo) (yo:=yo) u g e f;have e2:=T9 50 t x y b a c g e f;refine⟨.bool (!b),?_,λ_ _=>.bool _⟩;unfold Ag;split;.grind
   .cases e<;>first|exact absurd rfl nx|(cases f<;>first|exact absurd rfl n|grind)
   .cases e<;>first|exact absurd rfl nx|(cases f<;>first|exact absurd rfl n|simp_all)
   all_goals simp_all
 grind
theorem aKQ{o:UnOp}{x d:DV}{a:AV}(h:JH o x=J d)(c:DR K O x a):∃r,RW o a=J r/\∀(e:aY)(b:bY),DR e b d r:=by
 unfold JH at h;split at h;.cases c;cases h;exact⟨_,rfl,λ_ _=>.int _ _⟩
 .cases c;cases h;exact⟨_,rfl,λ_ _=>.bool _⟩
 grind
end
inductive Pk where|lb(s:Nat)|g(id:Nat)|sl(t:Nat)|tp(t j:Nat)|lc(s off:Nat)|gc(id off:Nat)deriving DecidableEq
abbrev aG:=Pk->ah (Nat×Bool)
variable{a:AV}{g:GH}{r t:Nat}{p:Pk}{sv:SV}{tm:Tr AV}{ω1:aG}{e:al}{lb:dX}
def ij(K:aY)(b:bY)(l:aA)(e o:Nat)(c:aD):Prop:=0<e/\o+l.length*e<=c.length/\(∀(i:Nat)(x:DV),l[i]?=J x->x.flat.length=e/\∀y,y∈x.flat->y.bj=V)/\∀(i:Nat)(x:DV)(j:Nat)(d:DV)(a:AV),l[i]?=J x->x.flat[j]?=J d->c[o+i*e+j]?=J a->DR K b d a
def G0(H:Heap)(i o l s r:Nat)(c:ah Nat)(e:aD):Prop:=(c=Z/\(H.bh r).2=i/\o+l*s=e.length)\/c=J l
structure BA(K:aY)(O:bY)(H:Heap)(r:Nat)(d:DV)(a:AV)(e:al):Prop where ex:∃l esz id off c cells fl,d=.ay l e esz/\a=.sl id off l.length c esz/\H.get id=J (.cells cells r fl e)/\fl.wr=V/\(H.bh r).1<=id/\(H.bh r).2=id/\ij K O l esz off cells/\G0 H id off l.length esz r c cells
structure Kg(H:Heap)(r:Nat)(a:AV)(e:al):Prop where ex:∃id off len c esz cells fl,a=.sl id off len c esz/\H.get id=J (.cells cells r fl e)/\fl.wr=V/\(H.bh r).1<=id/\(H.bh r).2=id/\G0 H id off len esz r c cells
def ak0(a:AV):Prop:=∃id o len e,a=.sl id o len (J len) e
section
variable(K:aY)(O:bY)(ω:aG)(H:Heap)
def cJ(p:Pk)(d:DV)(o:AM.AV):aX->Prop|.no=>DR K O d o|.any=>d=.nl/\o=.bc|.ty e=>DR K O d o/\(d=.nl\/∃r b,ω p=J (r,b)/\Kg H r o e)|.full _=>DR K O d o/\ak0 o|.ex e=>(d=.nl/\o=.bc)\/∃r,ω p=J (r,V)/\BA K O H r d o e
def pW(p:Nat->Pk)(b:LB)(i:Nat):Prop:=∃m f e,H.get i=J (.cells m i f e)/\f.wr=V/\(H.bh i).1<=i/\(H.bh i).2=i/\b.cells.length=m.length/\∀(o:Nat)(d:DV)(a:AV),b.cells[o]?=J d->m[o]?=J a->d.bj=V/\cJ K O ω H (p o) d a (fg b o)
def wF(x:pf)(y:ew):Prop:=DR K O x.1 y.1/\DR K O x.2.1 y.2.1/\x.2.2=y.2.2
def xV(m:Tr AV)(s:cT):Prop:=∀t sv,look s t=J sv->∃a,m.get t=J a/\(match sv with|.dv d .no=>DR K O d a|.dv d .any=>d=.nl/\a=.bc|.ev d=>∃id o cells e,a=.ptr id o/\K id=J (cells,e)/\o+d.flat.length<=cells.length/\(∀y,y∈d.flat->y.bj=V)/\bH K O d.flat ((cells.drop o).take d.flat.length)|.dd=>True|_=>False)
def Br(d:Nat)(o:GO)(i:Nat):Prop:=match o with|.box b=>pW K O ω H (.gc d) b i|.map e T=>∃f,H.get i=J (.map f T)/\e.length=f.length/\∀(k:Nat)(x:pf)(y:ew),e[k]?=J x->f[k]?=J y->wF K O x y|.loop r=>∃R:Bm,H.get i=J (.loop R)/\R.state=r.state/\R.pending=r.pending/\R.fn=r.fn/\R.n=r.n/\R.params=r.params/\R.assign=r.assign/\R.body=r.body/\xV K O R.tmps r.sl
def po(H:Heap):Prop:=∀id l r a e,H.get id=J (.cells l r a e)->∃b f,H.get r=J (.cells b r f e)
structure HR(lb:dX)(g:GH):Prop where
 inv:ba H
 di:∀id cells e,K id=J (cells,e)->∃root fl,H.get id=J (.cells cells root fl e)/\(H.bh root).1<=id
 inj:∀p q r b c,ω p=J (r,b)->ω q=J (r,c)->p=q
 clean:∀p r id x,ω p=J (r,V)->K id=J x->rootOf H id≠r
 cq:∀p r b,ω p=J (r,b)->r<H.next
 box:∀s b,look lb s=J b->∃i,ω (.lb s)=J (i,V)/\pW K O ω H (.lc s) b i
 kj:∀id o,g.get id=J o->∃i,O id=J i/\ω (.g id)=J (i,V)/\Br K O ω H id o i
 oQ:∀id,g.next<=id->O id=Z
 iJ:po H
def mL(h:Tr AV)(t:Nat)(v:SV)(a:AV):Prop:=match v with|.dv d o=>cJ K O ω H (.sl t) d a o|.tp l=>∃m,a=.cw m/\l.length=m.length/\∀(j:Nat)(x:DV×aX)(y:AV),l[j]?=J x->m[j]?=J y->cJ K O ω H (.tp t j) x.1 y x.2|.lp s f=>∀i b,ω (.lb s)=J (i,b)->a=.ptr i f|.ev d=>∃id f cells e,a=.ptr id f/\K id=J (cells,e)/\f+d.flat.length<=cells.length/\(∀y,y∈d.flat->y.bj=V)/\bH K O d.flat ((cells.drop f).take d.flat.length)|.sr s=>h.get s=J a|.se s i f=>∃id g len c z,h.get s=J (.sl id g len c z)/\a=.ptr id (g+i*z+f)|.gr id f=>∃i m root k e,O id=J i/\H.get i=J (.cells m root k e)/\m[f]?=J a|.hd n=>nN a=J n|.dd=>True
def ch(m:Tr AV)(s:cT):Prop:=∀t sv,look s t=J sv->∃a,m.get t=J a/\(sv≠.dd->a≠.top)/\mL K O ω H m t sv a
end
structure bM(S:Nat->Prop)(H H':Heap):Prop where
 next:H.next<=H'.next
 get:∀id,id<H.next->¬S (rootOf H id)->H'.get id=H.get id
 dh:∀r,r<H.next->¬S r->H'.bh r=H.bh r
 root:∀id,id<H.next->rootOf H' id=rootOf H id
def dH(a:aG)(r:Nat):Prop:=∃p b,a p=J (r,b)
def pg(b:aG)(H:Heap)(K a:aY):Prop:=bl K a/\∀j x,a j=J x->K j=J x\/dH b (rootOf H j)
theorem pg.refl(a:aG)(H:Heap)(K:aY):pg a H K K:=⟨bl.refl K,λ_ _ h=>.inl h⟩
def ta(c:aG)(H a:Heap)(K b:aY):Prop:=∀j x,b j=J x->j<a.next/\(K j=J x\/dH c (rootOf a j)\/H.next<=rootOf a j)
theorem bM.refl(S:Nat->Prop)(H:Heap):bM S H H:=⟨bo _,λ_ _ _=>rfl,λ_ _ _=>rfl,λ_ _=>rfl⟩
section
variable{K K':aY}{O ψ:bY}{ω ω':aG}{H H':Heap}{S:Nat->Prop}
theorem ij.mono(m:bl K K')(b:aU O ψ){l:aA}{e o:Nat}{c:aD}(h:ij K O l e o c):ij K' ψ l e o c:=⟨h.1,h.2.1,h.2.2.1,λi x j d a f g k=>(h.2.2.2 i x j d a f g k).mono m b⟩
theorem mF{H:Heap}{i:Nat}{l f e}(h:H.get i=J (.cells l r f e)):rootOf H i=r:=by grind[rootOf]
theorem BA.keep(i:ba H)(k:bM S H H')(q:bl K K')(b:aU O ψ){d:DV}(t:¬S r)(h:BA K O H r d a e):BA K' ψ H' r d a e:=by
 obtain⟨l,s,id,o,c,cells,g,j,m,f,n,u,v,p,w⟩:=h.ex;have hid:=i.get _ _ f;have F:r<H.next:=by have:=(i.root _ _ _ _ _ f).1;omega
 have x:=k.dh r F t;refine⟨l,s,id,o,c,cells,g,j,m,?_,n,aj,aj,p.mono q b,?_⟩;.rw[k.get id hid (by grind[mF])];omega
 grind[G0]
theorem Kg.keep(i:ba H)(k:bM S H H')(j:¬S r)(h:Kg H r a e):Kg H' r a e:=by
 obtain⟨id,o,len,c,s,cells,f,d,b,g,l,n,m⟩:=h.ex;have hid:=i.get _ _ b;have F:r<H.next:=by have:=(i.root _ _ _ _ _ b).1;omega
 have p:=k.dh r F j;refine⟨id,o,len,c,s,cells,f,d,?_,g,aj,aj,?_⟩;.rw[k.get id hid (by grind[mF])];omega
 grind[G0]
theorem cJ.keep(m:ba H)(k:bM S H H')(f:bl K K')(c:aU O ψ){q:Pk}{d:DV}{o:aX}(n:∀r b,ω p=J (r,b)->ω' q=J (r,b)/\¬S r)(h:cJ K O ω H p d a o):cJ K' ψ ω' H' q d a o:=by cases o with|no=>exact DR.mono f c h|any=>exact h|full e=>exact⟨DR.mono f c h.1,h.2⟩|ty e=>refine⟨DR.mono f c h.1,h.2.imp id ?_⟩;rintro⟨r,b,g,i⟩;obtain⟨j,l⟩:=n r b g;exact⟨r,b,j,i.keep m k l⟩|ex e=>refine Or.imp id ?_ h;rintro⟨r,g,i⟩;obtain⟨j,l⟩:=n r V g;exact⟨r,j,i.keep m k f c l⟩
theorem pW.keep(q:ba H)(k:bM S H H')(z:bl K K')(g:aU O ψ){p:Nat->Pk}{b:LB}{i:Nat}(l:¬S i)(A:∀o r c,ω (p o)=J (r,c)->ω' (p o)=J (r,c)/\¬S r)(h:pW K O ω H p b i):pW K' ψ ω' H' p b i:=by obtain⟨m,s,e,f,t,u,v,w,j⟩:=h;have hid:=q.get _ _ f;have n:=k.dh i hid l;refine⟨m,s,e,?_,t,by rw[n];exact u,by rw[n];exact v,w,λo d a x y=>⟨(j o d a x y).1,(j o d a x y).2.keep q k z g (A o)⟩⟩;rw[k.get i hid (by rw[mF f];exact l)];exact f
theorem xV.mono(d:bl K K')(b:aU O ψ){s:cT}(h:xV K O tm s):xV K' ψ tm s:=by
 intro t sv l;obtain⟨a,f,c⟩:=h t sv l;refine⟨a,f,?_⟩;split at c;.grind[DR.mono]
 .omega
 .obtain⟨id,o,cells,e,g1,g2,g3,g4,g5⟩:=c;exact⟨id,o,cells,e,g1,d _ _ g2,g3,g4,g5.mono d b⟩
 all_goals omega
theorem Br.keep(p:ba H)(k:bM S H H')(g:bl K K')(d:aU O ψ){l:Nat}{o:GO}{i:Nat}(A:¬S i)(B:∀f r c,ω (.gc l f)=J (r,c)->ω' (.gc l f)=J (r,c)/\¬S r)(h:Br K O ω H l o i):Br K' ψ ω' H' l o i:=by
 rcases o with b|⟨D,T⟩|r;.exact pW.keep p k g d A B h
 .obtain⟨s,m,n,e⟩:=h;refine⟨s,?_,n,λj x y a b=>⟨(e j x y a b).1.mono g d,(e j x y a b).2.1.mono g d,(e j x y a b).2.2⟩⟩;rw[k.get i (p.get _ _ m) (by grind[rootOf])];omega
 obtain⟨R,m,n,e,q,t,u,v,w,z⟩:=h;refine⟨R,?_,n,e,q,t,u,v,w,z.mono g d⟩;rw[k.get i (p.get _ _ m) (by grind[rootOf])];omega
theorem mC{a:Type}(l:List (Nat×a))(n:Nat)(x:a)(m:Nat):look (put l n x) m=if m=n then J x else look l m:=by induction l<;>grind[bN,look,put]
theorem qT{a b:Type}(l:List (Nat×a))(f:a->b)(m:Nat):look (l.map λx=>(x.1,f x.2)) m=(look l m).map f:=by induction l<;>grind[look]
theorem mL.keep(w:ba H)(k:bM S H H')(z:bl K K')(g:aU O ψ){q:Tr AV}(D:∀p r b,(p=.sl t\/∃j,p=.tp t j)->ω p=J (r,b)->ω' p=J (r,b)/\¬S r)(G:∀s f i b,sv=.lp s f->ω' (.lb s)=J (i,b)->ω (.lb s)=J (i,b))(I:∀s,(sv=.sr s\/∃i f,sv=.se s i f)->q.get s=tm.get s)(F:∀id f i,sv=.gr id f->O id=J i->¬S (rootOf H i))(h:mL K O ω H tm t sv a):mL K' ψ ω' H' q t sv a:=by
 rcases sv with⟨d,o⟩|l|⟨s,f⟩|d|s|⟨s,i,f⟩|⟨id,f⟩|n|_;.exact cJ.keep w k z g (λr b=>D _ r b (.inl rfl)) h
 .obtain⟨m,u,v,B⟩:=h;exact⟨m,u,v,λj x y a b=>cJ.keep w k z g (λr b=>D _ r b (.inr ⟨j,rfl⟩)) (B j x y a b)⟩
 .exactλi b w=>h i b (G s f i b rfl w)
 .obtain⟨id,f,cells,e,g1,g2,g3,g4,g5⟩:=h;exact⟨id,f,cells,e,g1,z _ _ g2,g3,g4,g5.mono z g⟩
 .show q.get s=J a;rw[I s (.inl rfl)];exact h
 .obtain⟨id,L,len,c,A,u,v⟩:=h;exact⟨id,L,len,c,A,aj,v⟩
 .obtain⟨i,m,root,E,e,u,v,B⟩:=h;refine⟨i,m,root,E,e,g _ _ u,?_,B⟩;rw[k.get i (w.get _ _ v) (F id f i rfl u)];omega
 .exact h
 trivial
end
section
variable{P:aM}{K K':aY}{O ψ:bY}{ω ω':aG}{H H':Heap}{S:Nat->Prop}
theorem DR.qU{d:DV}(h:DR K O d a):a≠.top:=by intro e;obtain⟨m,b,_⟩:=h.cells;grind[AV.cells]
theorem cJ.qU{d:DV}{o:aX}(h:cJ K O ω H p d a o):a≠.top:=by cases o with|no=>exact DR.qU h|any=>have:=h.2;grind|full e=>exact DR.qU h.1|ty e=>exact DR.qU h.1|ex e=>
 rcases h with h|⟨r,_,h⟩;.grind
 .obtain⟨l,s,id,f,c,cells,b,_,g,_⟩:=h.ex;grind
theorem xJ{sl:cT}{d:Nat}(z:ba H)(E:ch K O ω H tm sl)(k:bM S H H')(v:bl K K')(f:aU O ψ)(D:∀p r b,(∀j,p≠.tp d j)->p≠.sl d->((∃t,p=.sl t)\/∃t j,p=.tp t j)->ω p=J (r,b)->ω' p=J (r,b)/\¬S r)(B:∀s i b,ω' (.lb s)=J (i,b)->ω (.lb s)=J (i,b))(w:∀id i,O id=J i->¬S (rootOf H i))(M:sv≠.dd->a≠.top)(N:mL K' ψ ω' H' (tm.ins d a) d sv a):ch K' ψ ω' H' (tm.ins d a) (put (iG sl d) d sv):=by
 intro t G h;rw[mC]at h;by_cases e:t=d;.grind[Tr.lL]
 .rw[if_neg e]at h;unfold iG at h;rw[qT sl (pJ d)]at h;cases l:look sl t with|none=>grind|some A=>
 rw[l]at h;obtain⟨c,I,q,u⟩:=E t A l;have g:(tm.ins d a).get t=J c:=by grind[Tr.jF]
 by_cases hd:G=.dd;.subst hd;exact⟨c,g,λx=>absurd rfl x,trivial⟩
 . have F:A=G/\∀s,(A=.sr s\/∃i o,A=.se s i o)->s≠d:=by have n:pJ d A=G:=br h;cases A with|sr s=>grind[pJ,bN]|se s i o=>grind[pJ,bN]|_=>exact⟨n,λP x=>aP⟩
   obtain⟨rfl,m⟩:=F;refine⟨c,g,q,u.keep z k v f (λp r b L=>D p r b ?_ ?_ ?_) (λs o i b _=>B s i b) (λs y=>Tr.jF _ _ (λx=>m s y x.symm)) (λid o i _=>w id i)⟩;all_goals grind
theorem aH2{s:cT}{d:Nat}{x:DV}(i:ba H)(c:ch K O ω H tm s)(b:DR K O x a):ch K O ω H (tm.ins d a) (put (iG s d) d (.dv x .no)):=xJ (S:=λ_=>False) i c (bM.refl _ _) (bl.refl _) (aU.refl _) (λ_ _ _ _ _ _ h=>⟨h,id⟩) (λ_ _ _ h=>h) (λ_ _ _=>id) (λ_=>b.qU) b
def dD(P:aM)(K:aY)(b:bY)(a:Nat->ah aA):Prop:=(∀g l,a g=J l->g<P.globals.size/\(∀y,y∈l->y.bj=V)/\∃cells e,K g=J (cells,e)/\bH K b l cells)/\∀(g:Nat)(x:aD×al),gl[g]?=J x->K g=J x
theorem dD.mono{q:Nat->ah aA}(a:bl K K')(b:aU O ψ)(h:dD P K O q):dD P K' ψ q:=⟨λg l j=>let⟨c,d,cells,e,f,i⟩:=h.1 g l j
 ⟨c,d,cells,e,a _ _ f,i.mono a b⟩,λg x k=>a _ _ (h.2 g x k)⟩
theorem aiz(h:tm.get t=J a)(b:a≠.top):AM.bu P tm (.tmp t)=J a:=by show(match(tm.get t).getD fR with|.top=>Z|v=>J v)=J a;grind
theorem qV{q:Nat->ah aA}(n:dD P K O q){s:St}(o:ch K O ω H tm s.sl){x:aH}(h:cP q s x=J sv):∃a,AM.bu P tm x=J a/\a≠.top/\((∃t,x=.tmp t/\look s.sl t=J sv/\tm.get t=J a/\mL K O ω H tm t sv a)\/((∀t,x≠.tmp t)/\((∃d,sv=.dv d (tW d)/\DR K O d a)\/(∃d f,x=.func f/\d=.func f [] []/\sv=.dv d .no/\DR K O d a)\/∃g l cells e,sv=.ev (.agg l)/\a=.ptr g 0/\K g=J (cells,e)/\(∀y,y∈l->y.bj=V)/\bH K O l cells))):=by
 rcases x with t|v|g|f
 . have h:(match look s.sl t with|some .dd=>Z|r=>r)=J sv:=h;split at h;.grind
   .rename_i p;obtain⟨a,j,b,c⟩:=o t sv h;simp_all[aiz]
 . have h:((xx v).bind λa=>(CM a).map λd=>SV.dv d (tW d))=J sv:=h;obtain⟨a,m,h⟩:=aE h;rcases hd:CM a with _|d;.grind
   rw[hd]at h;cases h;have hr:=Hp (K:=K) (O:=O) hd;exact⟨a,m,hr.qU,.inr ⟨aO,.inl ⟨d,rfl,hr⟩⟩⟩
 . have h:(q g).map (λl=>SV.ev (.agg l))=J sv:=h;rcases i:q g with _|l;.grind
   rw[i]at h;cases h;obtain⟨j,b,cells,e,c,k⟩:=n.1 g l i;refine⟨.ptr g 0,?_,aO,.inr ⟨aO,.inr (.inr ⟨g,l,cells,e,rfl,rfl,c,b,k⟩)⟩⟩;show(bif cM g P.globals.size then J (AV.ptr g 0)else Z)=_;grind[fB]
 obtain rfl:=br (show J (SV.dv (.func f [] []) .no)=J sv from h);refine⟨.func f [] [],rfl,aO,.inr ⟨aO,.inr (.inl ⟨_,f,rfl,rfl,rfl,?_⟩)⟩⟩;exact .func f [] [] [] [] rfl rfl aO aO
def aG.set(a:aG)(p:Pk)(v:ah (Nat×Bool)):aG:=λq=>if q=p then v else a q
theorem aG.nQ(a:aG)(p:Pk)(v:ah (Nat×Bool)):a.set p v p=v:=by simp[aG.set]
theorem aG.lA(a:aG){q:Pk}(v:ah (Nat×Bool))(h:q≠p):a.set p v q=a q:=by grind[aG.set]
def Pk.slot:Pk->Prop|.sl _|.tp _ _=>True|_=>False
theorem HR.uX(h:HR K O ω H lb g)(j:bl K K')(A:∀q,¬q.slot->ω' q=ω q)(t:∀id cells e,K' id=J (cells,e)->∃root u,H.get id=J (.cells cells root u e)/\(H.bh root).1<=id)(n:∀p q r b c,ω' p=J (r,b)->ω' q=J (r,c)->p=q)(l:∀p r id x,ω' p=J (r,V)->K' id=J x->rootOf H id≠r)(m:∀p r b,ω' p=J (r,b)->r<H.next):HR K' O ω' H lb g where
 inv:=h.inv
 di:=t
 inj:=n
 clean:=l
 cq:=m
 box:=λs b w=>by obtain⟨i,a,d⟩:=h.box s b w;exact⟨i,by rw[A _ (by simp[Pk.slot])];exact a,d.keep (S:=λ_=>False) h.inv (bM.refl _ _) j (aU.refl _) id λf r c x=>⟨by rw[A _ (by simp[Pk.slot])];exact x,id⟩⟩
 kj:=λk o y=>by obtain⟨i,a,d,v⟩:=h.kj k o y;exact⟨i,a,by rw[A _ (by simp[Pk.slot])];exact d,v.keep (S:=λ_=>False) h.inv (bM.refl _ _) j (aU.refl _) id λf r c x=>⟨by rw[A _ (by simp[Pk.slot])];exact x,id⟩⟩
 oQ:=h.oQ
 iJ:=h.iJ
def aY.add(K:aY)(d:Nat)(x:aD×al):aY:=λi=>if i=d then J x else K i
theorem aY.CH{d:Nat}{x:aD×al}(h:K d=Z):bl K (K.add d x):=λi y a=>by grind[aY.add]
theorem BA.di(h:HR K O ω H lb g){d:DV}(E:ω p=J (r,V))(D:BA K O H r d a e):∃id cells,K id=Z/\rootOf H id=r/\(∃f,H.get id=J (.cells cells r f e))/\(H.bh r).1<=id/\DR (K.add id (cells,e)) O d a/\Kg H r a e:=by
 obtain⟨l,s,id,o,c,cells,f,y,n,m,z,q,A,b,t⟩:=D.ex;have w:=mF m;have v:K id=Z:=by
  rcases u:K id with _|x;.rfl
  exact absurd w (h.clean p r id x E u)
 have X:bl K (K.add id (cells,e)):=aY.CH v;refine⟨id,cells,v,w,⟨f,m⟩,q,?_,⟨id,o,l.length,c,s,cells,f,n,m,z,q,A,t⟩⟩;subst y;subst n;refine .ay l e s id o c cells (by simp[aY.add]) b.1 b.2.1 ?_ b.2.2.1 λi x j d a x1 x2 x3=>(b.2.2.2 i x j d a x1 x2 x3).mono X (aU.refl _);intro k u;rcases t with⟨B,_⟩|B<;>grind
def sQ(H:Heap):aY:=λid=>match H.get id with|some (.cells cells _ _ e)=>J (cells,e)|_=>Z
theorem VX{i:Nat}{c:aD}{r f e}(h:H.get i=J (.cells c r f e)):sQ H i=J (c,e):=by grind[sQ]
theorem HR.gN(h:HR K O ω H lb g)(k:bM S H H'){a:aG}:ta a H H' K K:=λj x b=>by obtain⟨cells,e⟩:=x;obtain⟨r,f,c,_⟩:=h.di j cells e b;exact⟨fj (h.inv.get _ _ c) k.next,.inl b⟩
theorem HR.sub(h:HR K O ω H lb g):bl K (sQ H):=λid x a=>by obtain⟨cells,e⟩:=x;obtain⟨r,f,b,_⟩:=h.di id cells e a;grind[VX]
theorem cJ.look(h:HR K O ω H lb g){d:DV}{o:aX}(b:cJ K O ω H p d a o):DR (sQ H) O d a:=by cases o with|no=>exact DR.mono h.sub (aU.refl _) b|any=>obtain⟨rfl,rfl⟩:=b;exact .nl|full e=>exact DR.mono h.sub (aU.refl _) b.1|ty e=>exact DR.mono h.sub (aU.refl _) b.1|ex e=>
 rcases b with⟨rfl,rfl⟩|⟨r,f,j⟩;.exact .nl
 . obtain⟨id,cells,n,_,⟨l,m⟩,_,k,_⟩:=j.di h f;refine k.mono (λi x c=>?_) (aU.refl _);unfold aY.add at c;by_cases e:i=id;.grind[VX]
   .rw[if_neg e]at c;exact h.sub i x c
theorem cJ.share(h:HR K O ω H lb g)(S:p.slot){d:DV}{o:aX}(f:cJ K O ω H p d a o):∃K' ω',pg ω H K K'/\HR K' O ω' H lb g/\(∀q,q≠p->ω' q=ω q)/\(∀q r b,ω' q=J (r,b)->∃n,ω q=J (r,n))/\cJ K' O ω' H p d a (rf o)/\DR K' O d a:=by cases o with|no=>exact⟨K,ω,pg.refl _ _ _,h,λ_ _=>rfl,λ_ _ b x=>⟨b,x⟩,f,f⟩|any=>obtain⟨rfl,rfl⟩:=f;exact⟨K,ω,pg.refl _ _ _,h,λ_ _=>rfl,λ_ _ b x=>⟨b,x⟩,⟨rfl,rfl⟩,.nl⟩|full e=>exact⟨K,ω,pg.refl _ _ _,h,λ_ _=>rfl,λ_ _ b x=>⟨b,x⟩,f,f.1⟩|ty e=>exact⟨K,ω,pg.refl _ _ _,h,λ_ _=>rfl,λ_ _ b x=>⟨b,x⟩,f,f.1⟩|ex e=>
 rcases f with⟨rfl,rfl⟩|⟨r,s,A⟩;.exact⟨K,ω,pg.refl _ _ _,h,λ_ _=>rfl,λ_ _ b x=>⟨b,x⟩,⟨.nl,.inl rfl⟩,.nl⟩
 . obtain⟨id,cells,F,G,⟨N,P⟩,E,u,B⟩:=A.di h s;have X:bl K (K.add id (cells,e)):=aY.CH F;refine⟨K.add id (cells,e),ω.set p (J (r,C)),⟨X,λj x D=>?_⟩,h.uX X (λq t=>aG.lA _ _ λx=>t (x▸S)) ?_ ?_ ?_ ?_,λq t=>aG.lA _ _ t,?_,⟨u,.inr ⟨r,C,aG.nQ _ _ _,B⟩⟩,u⟩
   . unfold aY.add at D;by_cases e1:j=id;.subst e1;exact .inr ⟨p,V,aj⟩
     grind
   . intro i v w hi;unfold aY.add at hi;by_cases x:i=id;.grind
     .rw[if_neg x]at hi;exact h.di i v w hi
   . intro l I r1 b c x y;have back:∀z b,ω.set p (J (r,C)) z=J (r1,b)->∃n,ω z=J (r1,n):=by grind[aG.nQ,aG.lA]
     obtain⟨L,k1⟩:=back l b x;obtain⟨M,k2⟩:=back I c y;exact h.inj _ _ _ _ _ k1 k2
   . intro l r1 i x k hi;have m:l≠p:=λe=>by grind[aG.nQ]
     rw[aG.lA _ _ m]at k;unfold aY.add at hi;by_cases y:i=id;.subst y;rw[G];intro e;subst e;exact m (h.inj _ _ _ _ _ k s)
     .rw[if_neg y]at hi;exact h.clean l r1 i x k hi
   . intro l r1 b k;by_cases e:l=p;.subst e;rw[aG.nQ]at k;obtain⟨rfl,_⟩:=j9 (br k);exact h.cq _ _ _ s
     .rw[aG.lA _ _ e]at k;exact h.cq _ _ _ k
   grind[aG.nQ,aG.lA]
end
def gY(K:aY)(g:bY)(f:aG)(H:Heap)(s:St)(t:Tr AV)(c:Heap):Prop:=∃d e a,bl K d/\ta f H c K d/\aU g e/\HR d e a c s.lb s.g/\ch d e a c t s.sl/\bM (dH f) H c/\∀p r b,a p=J (r,b)->dH f r\/H.next<=r
section
variable{P:aM}{K K':aY}{O ψ:bY}{ω ω':aG}{H H':Heap}{S:Nat->Prop}
theorem qZ(a:ba H){i:Nat}(h:i<H.next):rootOf H i<H.next:=by
 unfold rootOf;split;.rename_i g;have:=(a.root _ _ _ _ _ g).1;omega
 omega
theorem bM.trans{f:aG}{H1 g:Heap}(j:ba H)(a:bM (dH f) H H1)(d:∀p r b,ω1 p=J (r,b)->dH f r\/H.next<=r)(b:bM (dH ω1) H1 g):bM (dH f) H g where
 next:=gv a.next b.next
 get:=λid h n=>by
  have i:=a.get id h n;rw[<-i];refine b.get id (fj h a.next) λ⟨p,c,e⟩=>?_;have hr:rootOf H1 id=rootOf H id:=by unfold rootOf;rw[i]
  rw[hr]at e;rcases d _ _ _ e with x|x;.exact n x
  .have:=qZ j h;omega
 dh:=λr h n=>by
  rw[<-a.dh r h n];refine b.dh r (fj h a.next) λ⟨p,c,e⟩=>?_;rcases d _ _ _ e with x|x;.exact n x
  .omega
 root:=λid h=>by rw[b.root id (fj h a.next),a.root id h]
theorem gY.trans{s:St}{B:Tr AV}{H1 i:Heap}{K1:aY}{φ1:bY}(E:ba H)(D:bl K K1)(I:ta ω H H1 K K1)(a:aU O φ1)(k:bM (dH ω) H H1)(e:∀p r b,ω1 p=J (r,b)->dH ω r\/H.next<=r)(b:gY K1 φ1 ω1 H1 s B i):gY K O ω H s B i:=by
 obtain⟨m,f,g,o,n,t,u,v,l,w⟩:=b;refine⟨m,f,g,D.trans o,λj x F=>?_,a.trans t,u,v,k.trans E e l,λp r c x=>?_⟩
 . obtain⟨z,h⟩:=n j x F;refine⟨z,?_⟩;rcases h with h|⟨p,c,h⟩|h;.obtain⟨A,G⟩:=I j x h;rw[l.root j A];omega
   .grind
   .exact .inr (.inr (gv k.next h))
 . rcases w p r c x with⟨q,d,y⟩|y;.grind
   .exact .inr (gv k.next y)
theorem pg.gN{a:aY}(e:pg ω H K a)(b:HR a O ω1 H lb g):ta ω H H K a:=λj x h=>by obtain⟨cells,t⟩:=x;obtain⟨r,f,c,_⟩:=b.di j cells t h;exact⟨b.inv.get _ _ c,(e.2 j _ h).imp_right .inl⟩
theorem qm{q:Nat->ah aA}(r:dD P K O q){s:St}(c:HR K O ω H s.lb s.g)(u:ch K O ω H tm s.sl){x:aH}{d:DV}(h:bp q s x=J d):∃a,AM.bu P tm x=J a/\a≠.top/\DR (sQ H) O d a:=by unfold bp at h;obtain⟨sv,j,k⟩:=aE h;obtain⟨a,m,n,p⟩:=qV r u j;refine⟨a,m,n,?_⟩;cases sv with
 |dv i o=>
 obtain rfl:=br (show J i=J d from k);rcases p with⟨t,_,_,_,b⟩|⟨_,⟨d2,e,b⟩|⟨d2,f,_,e1,e2,b⟩|⟨g,l,cells,e,e1,_⟩⟩;.exact cJ.look c b
 .obtain⟨rfl,_⟩:=SV.dv.inj e;exact b.mono c.sub (aU.refl _)
 .obtain⟨rfl,_⟩:=SV.dv.inj e2;exact b.mono c.sub (aU.refl _)
 grind|_=>grind[CV]
theorem DT{d:Nat}(h:Gn d sv=C):∀s,(sv=.sr s\/∃i o,sv=.se s i o)->s≠d:=by intro s a e;subst e;rcases a with rfl|⟨i,o,rfl⟩<;>simp[Gn]at h
theorem zg{a s:St}{d:ah Tmp}(h:aJ a d sv=J s):(d=Z/\s=a)\/∃t,d=J t/\t<a.n/\Gn t sv=C/\s={a with sl:=put (iG a.sl t) t sv}:=by cases d<;>grind[aJ,fB]
def iz(t:Tr AV)(d:ah Tmp)(v:AV):Tr AV:=match d with|some d=>t.ins d v|none=>t
theorem Jv{l:cT}{d:Nat}(n:ba H)(u:ch K O ω H tm l)(m:bl K K')(q:∀p r b,(∀j,p≠.tp d j)->p≠.sl d->p.slot->ω p=J (r,b)->ω' p=J (r,b))(y:∀s,ω' (.lb s)=ω (.lb s))(w:tm.get d=J a)(z:sv≠.dd->a≠.top)(A:mL K' O ω' H tm d sv a):ch K' O ω' H tm (put l d sv):=by
 intro t G h;rw[mC]at h;by_cases e:t=d;.grind
 . rw[if_neg e]at h;obtain⟨c,f,g,k⟩:=u t G h;refine⟨c,f,g,k.keep (S:=λ_=>False) n (bM.refl _ _) m (aU.refl _) (λp r b o x=>⟨q p r b ?_ ?_ ?_ x,id⟩) (λs v i b _ x=>aj) (λ_ _=>rfl) (λ_ _ _ _ _=>id)⟩;.grind
   .grind
   .rcases o with rfl|⟨B,rfl⟩<;>exact trivial
def jN(s:St)(x:aH):Prop:=∀t d e,x=.tmp t->look s.sl t=J (.dv d (.ex e))->d=.nl
theorem Z3{c:St}(u:HR K O ω H c.lb c.g)(w:ch K O ω H tm c.sl)(x:aH):∃K' ω',pg ω H K K'/\HR K' O ω' H (aQ share c x).lb (aQ share c x).g/\ch K' O ω' H tm (aQ share c x).sl/\(∀q r b,ω' q=J (r,b)->∃j,ω q=J (r,j))/\jN (aQ share c x) x/\(aQ share c x).n=c.n/\(aQ share c x).fn=c.fn/\(∀y,jN c y->jN (aQ share c x) y):=by
 have i:∀(m:aQ share c x=c)(g:jN c x),∃K' ω',pg ω H K K'/\HR K' O ω' H (aQ share c x).lb (aQ share c x).g/\ch K' O ω' H tm (aQ share c x).sl/\(∀q r b,ω' q=J (r,b)->∃j,ω q=J (r,j))/\jN (aQ share c x) x/\(aQ share c x).n=c.n/\(aQ share c x).fn=c.fn/\(∀y,jN c y->jN (aQ share c x) y):=by grind[pg.refl]
 cases x with
 |tmp t=>cases D:look c.sl t with|none=>refine i (by grind[aQ]) λv d e m g=>?_;grind|some sv=>
 have e1:aQ share c (.tmp t)={c with sl:=put c.sl t (share sv)}:=by grind[aQ]
 obtain⟨a,g1,g2,g3⟩:=w t sv D;have f:∀y,jN c y->(∀d e,share sv≠.dv d (.ex e))->jN {c with sl:=put c.sl t (share sv)} y:=by
  intro y k n v d e m g;rw[show({c with sl:=put c.sl t (share sv)}:St).sl=put c.sl t (share sv)from rfl,mC]at g;by_cases B:v=t;.grind
  .rw[if_neg B]at g;exact k v d e m g
 have self:(∀d e,share sv≠.dv d (.ex e))->jN {c with sl:=put c.sl t (share sv)} (.tmp t):=by intro n v d e m g;grind[mC]
 have keep:(n:share sv=sv\/share sv=.dd)->(∀d e,share sv≠.dv d (.ex e))->∃K' ω',pg ω H K K'/\HR K' O ω' H (aQ share c (.tmp t)).lb (aQ share c (.tmp t)).g/\ch K' O ω' H tm (aQ share c (.tmp t)).sl/\(∀q r b,ω' q=J (r,b)->∃j,ω q=J (r,j))/\jN (aQ share c (.tmp t)) (.tmp t)/\(aQ share c (.tmp t)).n=c.n/\(aQ share c (.tmp t)).fn=c.fn/\(∀y,jN c y->jN (aQ share c (.tmp t)) y):=by
  intro n F;rw[e1];refine⟨K,ω,pg.refl _ _ _,u,Jv u.inv w (bl.refl _) (λ_ _ _ _ _ _ h=>h) (λ_=>rfl) g1 (λh=>g2 ?_) ?_,λq r b h=>⟨b,h⟩,self F,rfl,rfl,λy k=>f y k F⟩;.grind
  . rcases n with n|n;.grind
    .rw[n];exact trivial
 cases sv with|dv d o=>
  obtain⟨K',ω',A,E,G,I,L,M⟩:=cJ.share u (p:=.sl t) trivial g3;have n:∀z e,share (.dv d o)≠.dv z (.ex e):=by intro z e h;have:rf o=.ex e:=(SV.dv.inj h).2;cases o<;>simp[rf]at this
  rw[e1];refine⟨K',ω',A,E,Jv u.inv w A.1 (λp r b _ g _ h=>aP) (λs=>G _ aO) g1 (λ_=>M.qU) L,I,self n,rfl,rfl,λy k=>f y k n⟩|tp l=>grind[share]|_=>grind[share]
 |_=>exact i rfl (λt d e h=>aP)
theorem BF{M s:St}{d:ah Tmp}{x:DV}(c:HR K O ω H M.lb M.g)(f:ch K O ω H tm M.sl)(h:aJ M d (.dv x .no)=J s)(g:DR K O x a):gY K O ω H s (iz tm d a) H:=by
 rcases zg h with⟨rfl,rfl⟩|⟨t,rfl,i,_,rfl⟩;.exact⟨K,O,ω,bl.refl _,c.gN (bM.refl (λ_=>False) _),aU.refl _,c,f,bM.refl _ _,λp r b e=>.inl ⟨p,b,e⟩⟩
 .exact⟨K,O,ω,bl.refl _,c.gN (bM.refl (λ_=>False) _),aU.refl _,c,aH2 c.inv f g,bM.refl _ _,λp r b e=>.inl ⟨p,b,e⟩⟩
def uf(t d:Nat):Pk->ah Pk|.sl x=>if x=d then J (.sl t)else if x=t then Z else J (.sl x)|.tp x j=>if x=d then J (.tp t j)else if x=t then Z else J (.tp x j)|p=>J p
def pS(t:Nat):Pk->ah Pk|.sl x=>if x=t then Z else J (.sl x)|.tp x j=>if x=t then Z else J (.tp x j)|p=>J p
def aG.of(a:aG)(s:Pk->ah Pk):aG:=λp=>(s p).bind a
structure Src(src:Pk->ah Pk):Prop where
 inj:∀p q x,src p=J x->src q=J x->p=q
 base:∀p,¬p.slot->src p=J p
theorem aj1(t d:Nat):Src (uf t d)where
 inj:=λp q x a b=>by
  cases p<;>cases q<;>simp only[uf]at a b;all_goals(try split at a)<;>(try split at a)<;>(try split at b)<;>(try split at b)<;>simp_all
  all_goals(subst a;simp_all)
 base:=λp h=>by cases p<;>simp_all[Pk.slot,uf]
theorem aab(t:Nat):Src (pS t)where
 inj:=λp q x a b=>by
  cases p<;>cases q<;>simp only[pS]at a b;all_goals(try split at a)<;>(try split at b)<;>simp_all
  all_goals(subst a;simp_all)
 base:=λp h=>by cases p<;>simp_all[Pk.slot,pS]
theorem aG.jC{s:Pk->ah Pk}{b:Bool}(h:ω.of s p=J (r,b)):∃q,s p=J q/\ω q=J (r,b):=aE h
theorem HR.of(h:HR K O ω H lb g){s:Pk->ah Pk}(e:Src s):HR K O (ω.of s) H lb g:=by
 refine h.uX (bl.refl _) (λq l=>by unfold aG.of;rw[e.base q l];rfl) h.di ?_ ?_ ?_;.intro p q r b c x y;obtain⟨f,i,a⟩:=aG.jC x;obtain⟨q0,j,k⟩:=aG.jC y;have:=h.inj _ _ _ _ _ a k;subst this;exact e.inj _ _ _ i j
 .intro p r id x d m;obtain⟨f,_,a⟩:=aG.jC d;exact h.clean _ _ _ _ a m
 .intro p r b d;obtain⟨f,_,a⟩:=aG.jC d;exact h.cq _ _ _ a
theorem mL.aBt{g:Tr AV}{d:Nat}(h:mL K O ω H tm t sv a)(v:ω' (.sl d)=ω (.sl t))(w:∀j,ω' (.tp d j)=ω (.tp t j))(D:∀s,ω' (.lb s)=ω (.lb s))(A:∀s,(sv=.sr s\/∃i f,sv=.se s i f)->g.get s=tm.get s):mL K O ω' H g d sv a:=by
 have u:∀{p q:Pk}{x:DV}{y:AV}{o:aX},ω' q=ω p->cJ K O ω H p x y o->cJ K O ω' H q x y o:=by intro p q x y o E k;cases o with|no=>exact k|any=>exact k|full e=>exact k|ty e=>exact⟨k.1,k.2.imp id λ⟨r,b,x1,x2⟩=>⟨r,b,aj,x2⟩⟩|ex e=>exact Or.imp id (λ⟨r,x1,x2⟩=>⟨r,aj,x2⟩) k
 rcases sv with⟨x,o⟩|l|⟨s,f⟩|x|s|⟨s,i,f⟩|⟨id,f⟩|n|_;.exact u v h
 .obtain⟨m,g1,g2,g3⟩:=h;exact⟨m,g1,g2,λj x y a b=>u (w j) (g3 j x y a b)⟩
 .exactλi b hi=>h i b aj
 .exact h
 .show g.get s=J a;rw[A s (.inl rfl)];exact h
 .obtain⟨id,B,len,c,z,g1,g2⟩:=h;exact⟨id,B,len,c,z,aj,g2⟩
 .exact h
 .exact h
 trivial
theorem az9(h:mL K O ω H tm t sv a):mL K O (ω.of (pS t)) H tm t (leave sv) a:=by
 rcases sv with⟨x,o⟩|l|⟨s,f⟩|x|s|⟨s,i,f⟩|⟨id,f⟩|n|_;.cases o with|no=>exact h|any=>obtain⟨rfl,rfl⟩:=h;exact .nl|full e=>exact h.1|ty e=>exact h.1|ex e=>
  rcases h with⟨rfl,rfl⟩|⟨r,_,d⟩;.exact .jk _ rfl rfl
  .obtain⟨l,z,id,f,c,cells,g,j,d,_⟩:=d.ex;subst d;exact .jk _ rfl rfl
 .trivial
 .exactλi b hi=>h i b (by grind[aG.jC,pS])
 .exact h
 .exact h
 .exact h
 .exact h
 .exact h
 trivial
theorem RG{c:St}(f:HR K O ω H c.lb c.g)(g:ch K O ω H tm c.sl)(l:look c.sl t=J sv)(d:tm.get t=J a)(y:a≠.top)(v:mL K O ω H tm t sv a):ch K O (ω.of (pS t)) H tm (put c.sl t (leave sv)):=by
 refine Jv f.inv g (bl.refl _) (λp r b i k e h=>?_) (λs=>rfl) d (λ_=>y) (az9 v);cases p<;>simp only[Pk.slot]at e;.rename_i x;show(pS t (.sl x)).bind ω=_;grind[pS]
 .rename_i x j;show(pS t (.tp x j)).bind ω=_;grind[pS]
theorem ahK{c:St}{d:Nat}(g:HR K O ω H c.lb c.g)(k:ch K O ω H tm c.sl)(z:look c.sl t=J sv)(m:tm.get t=J a)(B:sv≠.dd)(y:a≠.top)(v:mL K O ω H tm t sv a)(L:∀s,(sv=.sr s\/∃i o,sv=.se s i o)->s≠d):∃ω',HR K O ω' H c.lb c.g/\ch K O ω' H (tm.ins d a) (put (iG (put c.sl t (leave sv)) d) d sv)/\∀p r b,ω' p=J (r,b)->∃q,ω q=J (r,b):=by
 refine⟨ω.of (uf t d),g.of (aj1 t d),?_,λp r b h=>let⟨q,_,f⟩:=aG.jC h;⟨q,f⟩⟩;have n:=RG g k z m y v;refine xJ (S:=λ_=>False) (sl:=put c.sl t (leave sv)) g.inv n (bM.refl _ _) (bl.refl _) (aU.refl _) (λp r b f u w h=>⟨?_,id⟩) (λs i b h=>h) (λ_ _ _=>id) (λ_=>y) ?_
 . obtain⟨q,g1,g2⟩:=aG.jC h;rcases w with⟨x,rfl⟩|⟨x,j,rfl⟩
   . simp only[pS]at g1;split at g1;.grind
     .cases g1;rename_i A;have l:x≠d:=λe=>u aj;show(uf t d (.sl x)).bind ω=_;grind[uf]
   . simp only[pS]at g1;split at g1;.grind
     .cases g1;rename_i A;have l:x≠d:=λe=>f j aj;show(uf t d (.tp x j)).bind ω=_;grind[uf]
 .refine v.aBt (by show(uf t d (.sl d)).bind ω=_;simp[uf]) (λj=>by show(uf t d (.tp d j)).bind ω=_;simp[uf]) (λs=>rfl) λs k=>Tr.jF _ _ (λe=>L s k e.symm)
end
end Go.VM
namespace Go.AM
open Go
variable{r:AV}{H':Heap}{x:aH}{t:al}
section
variable{P:aM}{S:Nat->Prop}{O:aZ}{H:Heap}{w:aT}{tm:Tr AV}{ρ:aH->aB}
variable(hi:ba H)(hs:bA S O H w)(hg:jc P O)(hr:Reads ρ)
include hi hs hg hr
theorem ass{q:ah aH}(h:GW P tm H t q=J (.val r H'))(o:∀x,q=J x->eX O tm ρ x):dE P S O H w (Instr.makeMap t (q.map ρ)) r H':=by
 unfold GW at h;obtain⟨e,a,b⟩:=Mx (P:=P) hi hs (.map [] 0) _ rfl ⟨rfl,#[],xF w _,⟨rfl,aO⟩⟩;have fin:∀(s:Sem _),s.run P w=.ok _ _->dE P S O H w s _ _:=λs d=>⟨_,_,_,d,.map _ _ a,b⟩;rcases q with _|x;.simp_all[Instr.makeMap]
 simp only at h;split at h;.rename_i f g k n u c;have v:=(fL hg hr (o x rfl) c).1;simp only[iE];generalize ρ x=i at v;cases v;simp_all[Instr.makeMap,dA,asInt,asIntOf]
 grind
theorem asr{f:bS}{s c:Array aH}(o:∀x,x∈s.toList->eX O tm ρ x)(A:∀x,x∈c.toList->eX O tm ρ x)(h:GV P tm H f s c=J (.val r H')):dE P S O H w (Instr.makeFunc (.func f) (s.map ρ) (c.map ρ)) r H':=by obtain⟨a,k,h⟩:=aE h;obtain⟨b,l,h⟩:=aE h;obtain⟨j,rfl⟩:=ni h;cases j;have e:=ML hg hr o k;have g:=ML hg hr A l;refine dE.read hi hs (by rfl) ?_;exact .func f a b _ _ (by simpa using e.1) (by simpa using g.1) (λi x v d m=>e.2 i x v d aj) (λi x v d m=>g.2 i x v d aj)
theorem asw{o:aC}(j:o.op=.nilCheck x)(b:eX O tm ρ x)(h:Em P tm H x=J (.val r H')):tc P S O H w (execOp ρ o) r H':=by
 unfold Em at h;split at h;iterate 3·rename_i c;obtain⟨a,rfl⟩:=ni h;cases a;have v:=(fL hg hr b c).1;refine⟨O,.value _,w,?_,v,ir.refl hi hs⟩;simp only[execOp,j];generalize ρ x=d at v;cases v;rfl
 grind
theorem asb{p:BinOp}{y:aH}(m:eX O tm ρ x)(o:eX O tm ρ y)(h:GM P tm H p t x y=J (.val r H')):dE P S O H w (do eqGuard p t x y (ρ x) (ρ y);binOp p t (ρ x) (ρ y)) r H':=by obtain⟨a,f,h⟩:=aE h;obtain⟨b,g,h⟩:=aE h;obtain⟨e,rfl⟩:=ni h;obtain⟨c,d⟩:=fL hg hr m f;obtain⟨l,i⟩:=fL hg hr o g;obtain⟨z,j,k⟩:=amz e c l d i;simp_all[dE.read]
theorem asB{o:UnOp}(m:eX O tm ρ x)(h:GX P tm H o x=J (.val r H')):dE P S O H w (Op.unary o (ρ x)) r H':=by obtain⟨a,c,h⟩:=aE h;obtain⟨b,rfl⟩:=ni h;grind[dE.xD,aKP,fL]
theorem S6{q:ah aH}{b:ah AV}(h:(match q with|some x=>(bu P tm x).map J|none=>J Z)=J b)(o:∀x,q=J x->eX O tm ρ x):qy O b (q.map ρ):=by
 rcases q with _|x;.cases h;trivial
 simp only[jE]at h;obtain⟨v,a,rfl⟩:=h;exact(fL hg hr (o x rfl) a).1
theorem asz{b c d:ah aH}(W:eX O tm ρ x)(I:∀y,b=J y->eX O tm ρ y)(a:∀y,c=J y->eX O tm ρ y)(F:∀y,d=J y->eX O tm ρ y)(g:∀id o,bu P tm x=J (.ptr id o)->S (rootOf H id))(h:NX P tm H t x b c d=J (.val r H')):dE P S O H w (Instr.sliceAt t (ρ x) (b.map ρ) (c.map ρ) (d.map ρ)) r H':=by obtain⟨v,n,h⟩:=aE h;obtain⟨l,i,h⟩:=aE h;obtain⟨u,k,h⟩:=aE h;obtain⟨m,j,h⟩:=aE h;obtain⟨f,rfl⟩:=ni h;obtain⟨z,p,q⟩:=aHU hs f (fL hg hr W n).1 (S6 hi hs hg hr i I) (S6 hi hs hg hr k a) (S6 hi hs hg hr j F) (λid o e=>g id o aj);grind[dE.read]
theorem asm{s:al}{f:Nat}(m:eX O tm ρ x)(h:Ei P tm H s x f=J (.val r H')):dE P S O H w (Instr.fieldAt s (ρ x) f) r H':=by
 unfold Ei at h;split at h
 . obtain⟨d,b,h⟩:=aE h;obtain⟨n,c,h⟩:=aE h;split at h;.obtain⟨a,rfl⟩:=ni h;grind[dE.xD,asW,fL]
   grind
 grind
theorem asl{f:Nat}(m:eX O tm ρ x)(h:GS P tm H t x f=J (.val r H')):dE P S O H w (Instr.field t (ρ x) f) r H':=by
 unfold GS at h;split at h
 . obtain⟨d,b,h⟩:=aE h;split at h;.obtain⟨a,rfl⟩:=ni h;grind[dE.xD,asY,fL]
   grind
 grind
theorem aso{i:aH}(m:eX O tm ρ x)(L:eX O tm ρ i)(h:CA P tm H t x i=J (.val r H')):dE P S O H w (Instr.indexAt t (ρ x) (ρ i)) r H':=by
 unfold CA at h;split at h
 . rename_i k n a;have K:=IH (fL hg hr L a).1;split at h
   . rename_i len e id o u j;obtain⟨z,f,h⟩:=aE h;rw[fB]at h;by_cases b:n<len;.simp only[b,eu,aL]at h;obtain⟨d,rfl⟩:=ni h;grind[dE.xD,axM,fL]
     grind
   . rename_i e id o len c s u j;obtain⟨z,f,h⟩:=aE h;rw[fB,bN]at h;by_cases b:n<len
     . by_cases g:z=s;.subst g;simp only[b,eu,zC,aL]at h;obtain⟨d,rfl⟩:=ni h;grind[dE.xD,axO,fL]
       grind
     grind
   grind
 grind
theorem asn{i:aH}(m:eX O tm ρ x)(L:eX O tm ρ i)(h:Ej P tm H t x i=J (.val r H')):dE P S O H w (Instr.index t (ρ x) (ρ i)) r H':=by
 unfold Ej at h;split at h
 . rename_i k n c;have s:=IH (fL hg hr L c).1;split at h;.obtain⟨a,rfl⟩:=ni h;grind[jE,dE.xD,axQ,fL]
   grind
 grind
theorem asj{i:Nat}(m:eX O tm ρ x)(h:JW P tm H x i=J (.val r H')):dE P S O H w (Instr.extract (ρ x) i) r H':=by
 unfold JW at h;split at h;.obtain⟨a,rfl⟩:=ni h;grind[dE.xD,asQ,fL]
 grind
end
end Go.AM
namespace Go.AM
open Go
variable{r:AV}{H':Heap}{m x:aH}{t:al}
section
variable{P:aM}{S:Nat->Prop}{O:aZ}{H:Heap}{w:aT}{tm:Tr AV}{ρ:aH->aB}
variable(hi:ba H)(hs:bA S O H w)(hg:jc P O)(hr:Reads ρ)
include hi hs hg hr
theorem asf{s d:al}(m:eX O tm ρ x)(h:GR P tm H s d x=J (.val r H')):dE P S O H w (convert s d (ρ x)) r H':=by
 obtain⟨v,a,h⟩:=aE h;have X:=(fL hg hr m a).1;split at h;.obtain⟨b,rfl⟩:=ni h;grind[dE.xD,aoA]
 all_goals grind[aoB]
theorem ast{l c:aH}(Y:eX O tm ρ l)(VA:eX O tm ρ c)(h:JX P tm H t l c=J (.val r H')):dE P S O H w (Instr.makeSlice t (ρ l) (ρ c)) r H':=by
 unfold JX at h;split at h
 . rename_i m G;split at h
   . rename_i i kl b kc cn B hl hc;have qM:=IH (fL hg hr Y hl).1;have X:=IH (fL hg hr VA hc).1;rw[bN,du,du,du,bN]at h;by_cases lU:i.size≠0/\b<=cn/\cn*i.bytes<=bF/\cn<=bF
     . obtain⟨o,q,D,E⟩:=lU;have e3:decide (jD cn _<=bF)=V:=lS D;rw[wS o,lS q,e3,lS E]at h;obtain⟨z,K,h⟩:=aE h;have y:∃(j:Array _)(s:Array _),((cn*i.size=0->j=#[])/\(cn*i.size≠0->∃v,(zeroValue m).run P w=.ok v w/\v.cells=j))/\s=(Array.range (cn*i.size)).map (j[.%j.size]!)/\aV O (kU cn z) s.toList/\(∀x,x∈kU cn z->x.bj=V)/\(cn=0\/z.length=i.size):=by
         by_cases W:cn=0;.simp_all[aV.nil,Rk]
         . simp only[W,mO,bg]at K;obtain⟨a,ha,uF⟩:=aE K;obtain⟨v,u,A⟩:=Gt (O:=O) ha w;obtain⟨c1,c2⟩:=A.cells uF;rw[bN,ef,wS W]at h;have oo:z.length=i.size:=by grind
           have cA:=λe=>(Nat.mul_eq_zero.1 e).elim W o;refine⟨_,_,⟨λe=>absurd e cA,λ_=>⟨v,u,rfl⟩⟩,rfl,?_,Rl c2 cn,.inr oo⟩;grind[akW]
       obtain⟨j,s,k1,k2,k3,k4,k5⟩:=y;have U:(decide (cn=0)||aw (eL z) i.size)=V:=by grind
       rw[U]at h;obtain⟨rfl,rfl⟩:=eV.val.inj (br h);obtain⟨p,p1,p2,p3,p4,R,p6⟩:=QJ hi hs _ _ _ s k3 k4;have Fe:s.size=cn*i.size:=aj;have I:bC P m=J i.size:=by grind[bC]
       have F:(kU cn z).length=cn*i.size:=by have:=k3.1;grind
       refine⟨_,.slice (J ⟨p.aW,0,Z⟩) b cn,_,?_,?_,p6⟩
       . rw[qM,X];have tH:cn<=1099511627776:=E;have VN:cn*i.bytes<=1099511627776:=D;have wr:∀n:Nat,n<=1099511627776->IntKind.i64.wrap (dI n)=dI n:=λn hn=>by rw[<-Ef];show(bif cM n 9223372036854775808 then dI n else _)=_;grind[fB]
         have w1:=wr cn tH;have w2:=wr b ae;have L:¬((cn:Int)<0):=ae;have M:¬((b:Int)<0):=ae;have N:¬((cn:Int)<(b:Int)):=ae;have Q:¬((281474976710656:Int)<(i.bytes:Int)*(cn:Int)):=by grind
         have d:IntKind.i64.wrap (cn:Int)=(cn:Int):=w1;have g:IntKind.i64.wrap (b:Int)=(b:Int):=w2;unfold Instr.makeSlice;by_cases e:cn*i.size=0;.have:=k1.1 e;subst this;simp[dA G,asInt,asIntOf,Cp B,d,g,L,M,N,Q,askRoom,mf I];have T:cn=0:=(Nat.mul_eq_zero.1 e).resolve_right o;subst T;have W:s=#[]:=aj;subst W;have e0:∀f:Nat->aB,Array.map f (Array.range 0)=#[]:=λf=>aO;rw[Nat.zero_mul,if_pos rfl,e0,R];rfl
         .obtain⟨v,u,A⟩:=k1.2 e;subst A;have T:cn≠0:=λe'=>e aj;have om:¬(cn=0\/i.size=0):=ae;simp[dA G,asInt,asIntOf,Cp B,d,g,L,M,N,Q,askRoom,mf I,u,<-k2,R];omega
       .have hp:gH O H.next p H.next=J p:=jK _ _ _;have aNb:b*i.size<=cn*i.size:=ml _ q;refine .sl H.next 0 b (J cn) i.size p _ cn hp q ae (λk hk=>?_) (λhk=>ae) (λ_=>aj) (Nat.pos_of_ne_zero o) ?_<;>grind
     grind
   grind
 grind
theorem asq{k:aH}{e:Bool}(W:eX O tm ρ x)(Y:eX O tm ρ k)(y:∀m d,bu P tm x=J (.map m)->H.jT m=J d->S (rootOf H m))(h:CB P tm H t x k e=J (.val r H')):dE P S O H w (Instr.lookup t (ρ x) (ρ k) e) r H':=by
 unfold CB at h;split at h
 . rename_i i n u;obtain⟨s,o,h⟩:=aE h;obtain⟨v,D,h⟩:=aE h;rcases b:ql P i v with _|_;.grind
   simp only[b,aL]at h;have f:AR P i n s v e=J r/\H=H':=by
    unfold AR;obtain⟨q,M,h⟩:=aE h;rcases q with _|Q;.obtain⟨z,N,h⟩:=aE h;grind[ni]
    grind[ni]
   obtain⟨l,rfl⟩:=f;have I:=(fL hg hr Y D).1;split at o;.rename_i a;cases o;have X:=(fL hg hr W a).1;generalize ρ x=F at X;cases X;obtain⟨z,G,K⟩:=Wl (w:=w) u (.inr ⟨rfl,rfl⟩) ⟨rfl,aO⟩ I b l;grind[dE.read]
   .rename_i m a;simp only[jE]at o;obtain⟨d,g,rfl⟩:=o;obtain⟨s,c⟩:=d;have X:=(fL hg hr W a).1;generalize ρ x=F at X;cases X with|map _ p E=>obtain⟨j,A,B,L⟩:=AT hs E (y m _ a g) (sR g);obtain⟨z,G,K⟩:=Wl u (.inl ⟨_,c,rfl,A⟩) B I b l;grind[dE.read]
   grind
 grind
theorem aeA{k:aH}(j:∀r,S r)(F:eX O tm ρ m)(Y:eX O tm ρ k)(W:eX O tm ρ x)(h:Ek P tm H t m k x=J (.val r H')):tc P S O H w (do Instr.mapUpdate t (ρ m) (ρ k) (ρ x);pure .skip) r H':=by
 unfold Ek at h;split at h
 . rename_i D K E y o;obtain⟨G,B,h⟩:=aE h;obtain⟨v,n,h⟩:=aE h;obtain⟨M,z,h⟩:=aE h;rcases f:ql P D v with _|_;.grind
   simp only[f,aL]at h;obtain⟨q,u,h⟩:=aE h;have L:=(fL hg hr F o).1;generalize ρ m=I at L;cases L with|map _ p s=>
   rcases aK0 hi hs y s (j _) (sR B) (fL hg hr Y n).1 f (fL hg hr W z).1 u with⟨rfl,d,g,a,b,c⟩|⟨i,e,rfl,l⟩;.obtain⟨rfl,rfl⟩:=eV.val.inj (br h);exact⟨O,.skip,d,aP,rfl,a,b.up aP,c⟩
   . rcases A:sameKey e.1 v with _|_;.grind
     simp only[A,aL]at h;obtain⟨rfl,rfl⟩:=eV.val.inj (br h);obtain⟨d,g,a,b,c⟩:=l A;exact⟨O,.skip,d,aP,rfl,a,b.up aP,c⟩
 grind
theorem asu{k:aH}(B:∀r y,bu P tm m=J (.map r)->H.jT r=J y->S (rootOf H r))(F:eX O tm ρ m)(Y:eX O tm ρ k)(h:JY P tm H t m k=J (.val r H')):dE P S O H w (Instr.mapEntry t (ρ m) (ρ k)) r H':=by
 unfold JY at h;split at h
 . rename_i M R x I n;obtain⟨y,s,h⟩:=aE h;obtain⟨v,D,h⟩:=aE h;rcases l:ql P M v with _|_;.grind
   simp only[l,aL]at h;obtain⟨q,G,h⟩:=aE h;have L:=(fL hg hr F n).1;generalize ρ m=Q at L;cases L with|map _ p E=>
   have N:∀o,(H.put x x o).next=H.next:=λo=>rfl;rcases apr hi hs I E (B _ _ n s) (sR s) (fL hg hr Y D).1 l G with⟨rfl,g⟩|⟨i,e,rfl,g⟩;.simp only[jE]at h;obtain⟨z,K,h⟩:=h;obtain⟨rfl,rfl⟩:=eV.val.inj h;obtain⟨u,j,c,b,a,d,f⟩:=g z K;exact⟨O,u,j,c,b,a,d.grow a aP,f⟩
   . rcases A:sameKey e.1 v with _|_;.grind
     simp only[A,aL]at h;obtain⟨rfl,rfl⟩:=eV.val.inj (br h);obtain⟨u,j,c,b,a,d,f⟩:=g A;exact⟨O,u,j,c,b,a,d.grow a aP,f⟩
 grind
theorem asi{s:aH}(e:∀r,S r)(F:eX O tm ρ m)(y:eX O tm ρ s)(W:eX O tm ρ x)(h:Sm P tm H m s x=J (.val r H')):tc P S O H w (do Instr.entryStore t (ρ m) (ρ s) (ρ x);pure .skip) r H':=by
 unfold Sm at h;split at h;.rename_i A k b g f;obtain⟨B,n,h⟩:=aE h;obtain⟨E,l,h⟩:=aE h;simp only[jE]at h;obtain⟨u,i,h⟩:=h;obtain⟨rfl,rfl⟩:=eV.val.inj h;have v:=(fL hg hr F g).1;have z:=IH (fL hg hr y f).1;generalize ρ m=D at v;cases v with|map _ p j=>obtain⟨o,q,a,c,d⟩:=apo (P:=P) (t:=t) (kk:=k) hi hs j (e _) (sR n) (fL hg hr W l).1 i;exact⟨O,.skip,o,aP,rfl,a,c.up aP,d⟩
 grind
theorem asy(i:∀r,S r)(W:eX O tm ρ x)(h:Sp P tm H t x=J (.val r H')):dE P S O H w (Instr.range t (ρ x)) r H':=by
 unfold Sp at h;split at h;.rename_i l n d e;obtain⟨rfl,rfl⟩:=eV.val.inj (br h);obtain⟨u,g,f,a,b,c⟩:=aFc hi hs d (fL hg hr W e).1;exact⟨g,u,f,a,b,c⟩
 .rename_i l n m d e;simp only[jE]at h;obtain⟨o,k,h⟩:=h;obtain⟨rfl,rfl⟩:=eV.val.inj h;have v:=(fL hg hr W e).1;generalize ρ x=q at v;cases v with|map _ p j=>obtain⟨u,g,f,a,b,c⟩:=aFb hi hs d j (i _) (sR k);exact⟨g,u,f,a,b,c⟩
 grind
end
end Go.AM
namespace Go.AM
open Go
variable{r:AV}{H':Heap}
section
variable{P:aM}{S:Nat->Prop}{O:aZ}{H:Heap}{w:aT}{tm:Tr AV}{ρ:aH->aB}
theorem bA.eqw{a:aT}(s:bA S O H w)(h:a=w\/a=w.drew):bA S O H a:=by
 rcases h with rfl|rfl;.omega
 .exact s.drew
theorem ir.eqw{a:aT}(i:ba H)(s:bA S O H w)(h:a=w\/a=w.drew):ir S O H w O H a:=by
 rcases h with rfl|rfl;.grind[ir.refl]
 .exact ir.drew (ir.refl i s.drew)
section one
variable(hi:ba H)(hs:bA S O H w)(hg:jc P O)(hr:Reads ρ)
include hi hs hg hr
theorem asv{i:aH}{y:al}(f:∀r,S r)(D:eX O tm ρ i)(h:Sn P tm H i=J (.val r H')):dE P S O H w (Instr.next (ρ i) C y) r H':=by
 unfold Sn at h;split at h;.rename_i id hit;have v:=(fL hg hr D hit).1;generalize ρ i=N at v;cases v with|ptr _ _ p j=>
  split at h;.rename_i d;obtain⟨n,rfl⟩:=ni h;obtain⟨u,a,b⟩:=aBK (P:=P) (ty:=y) hs j (f _) d;grind[dE.read]
  . rename_i m s seen t d;obtain⟨G,F,h⟩:=aE h;obtain⟨A,c⟩:=G;generalize o:(aw c _&&(aw _ _&&iw _ A))=cond at h;rcases cond with _|_;.grind
    simp only[bN,iC,mw,rI,um,fB]at o;obtain⟨rfl,rfl,U⟩:=o;have L:=sR F;have B:∃q,O m=J q:=by obtain⟨_,Q,_,M⟩:=MM hs j (f _) d rfl;grind
    obtain⟨q,E⟩:=B;obtain⟨I,K⟩:=aBI (P:=P) (A:=y) hi hs j (f _) d E (f _) L U;split at h;.rename_i l;obtain⟨n,rfl⟩:=ni h;cases n;obtain⟨u,k,a,b,g⟩:=I l;exact⟨O,u,k,a,b,ir.eqw hi hs g⟩
    .rename_i e l;obtain⟨rfl,rfl⟩:=eV.val.inj (br h);obtain⟨u,k,a,b,g,x,z⟩:=K e l;exact⟨O,u,k,a,b,g,x.up aj,z⟩
    grind
  grind
 grind
theorem ash{i:aH}(d:∀r,S r)(o:eX O tm ρ i)(h:Sk P tm H i=J (.val r H')):dE P S O H w (Instr.entry (ρ i)) r H':=by
 unfold Sk at h;split at h;.rename_i id hit;have v:=(fL hg hr o hit).1;generalize ρ i=E at v;cases v with|ptr _ _ p k=>
  split at h
  . rename_i m a seen D f;obtain⟨x,t,h⟩:=aE h;obtain⟨b,c⟩:=x;rw[bN]at h;by_cases g:c=D
    . simp only[g,eu,aL]at h;rcases seen with _|⟨s,seen⟩;.grind
      cases seen with|cons=>grind|nil=>
      rcases b with _|⟨e,b⟩;.grind
      cases b with|cons=>grind|nil=>
      simp only[bN]at h;by_cases j:e.2.2=s
      . simp only[j,eu,aL]at h;obtain⟨A,rfl⟩:=ni h;subst g;have l:∃q,O m=J q:=by obtain⟨_,F,_,B⟩:=MM hs k (d _) f rfl;grind
        obtain⟨q,n⟩:=l;obtain⟨u,y,z⟩:=aJJ (P:=P) hs k (d _) f n (d _) (sR t) j;grind[dE.read]
      grind
    grind
  grind
 grind
theorem Ar{o:aC}(f:J4 P S tm H o)(q:ov o.op=C)(n:ey P tm H o=Z):∀r,S r:=by rcases f with h|h<;>grind
theorem H8{o:aC}{l:List (Touch×Nat)}(f:J4 P S tm H o)(q:ov o.op=C)(n:ey P tm H o=J l):∀t,t∈l->S t.2:=by rcases f with h|h<;>grind
end one
theorem Np{m:Nat}{o:List ew×Nat}(h:H.jT m=J o):rootOf H m=m:=by exact yY (sR h) rfl
set_option maxHeartbeats 4000000 in theorem aeC(j:ba H)(p:bA S O H w)(u:jc P O)(z:Reads ρ){ak:bZ}{G:aC}(g:∀x,x∈G.op.operands.toList->eX O tm ρ x)(A:J4 P S tm H G)(hc:∀c,G.op=.call c->∃b,c.callee=.builtin b)(h:dV P ak tm H G=J (.val r H')):tc P S O H w (execOp ρ G) r H':=by
 have h0:=h;obtain⟨od,op,W,QU,oa,og⟩:=G;simp only[dV]at h;cases op<;>(try simp only at h)<;>(try simp only[execOp]);case move x=>exact aeB j p u z (g x (by simp[eB])) h
 case assign x=>exact aeB j p u z (g x (by simp[eB])) h
 case pick c a b=>exact asx j p u z (g c (by simp[eB])) (g a (by simp[eB])) (g b (by simp[eB])) h
 case alloc e=>exact(asa j p h).next
 case box e x=>exact(asc j p u z (g x (by simp[eB])) h).next
 case build t ps=>exact(asd j p u z (λx F=>g _ (by grind[eB])) h).next
 case buildSlice t n ps=>exact(ase j p u z (λx F=>g _ (by grind[eB])) h).next
 case load t a=>
  refine(asp j p u z (g a (by simp[eB])) (λid K D=>?_) h).next;rcases Fw:ua H id with _|q;.exact Ar j p u z A rfl (by grind[ey]) _
  have:=H8 j p u z A rfl (l:=[(.rd,q)]) (by grind[ey]) (.rd,q) aO;grind[ajv]
 case store t a x=>
  refine asA j p u z (g a (by simp[eB])) (g x (by simp[eB])) (λid K D=>?_) h;rcases Fw:ua H id with _|q;.exact Ar j p u z A rfl (by grind[ey]) _
  have:=H8 j p u z A rfl (l:=[(.wr,q)]) (by grind[ey]) (.wr,q) aO;grind[ajv]
 case nilCheck x=>exact asw (o:=⟨od,_,W,QU,oa,og⟩) j p u z rfl (g x (by simp[eB])) h
 case binOp op t x y yt=>exact(asb j p u z (g x (by simp[eB])) (g y (by simp[eB])) h).next
 case unOp op t x=>exact(asB j p u z (g x (by simp[eB])) h).next
 case convert s d x=>exact(asf j p u z (g x (by simp[eB])) h).next
 case makeFunc f a b=>cases f with|func f=>exact(asr j p u z (λx F=>g x (by grind[eB])) (λx F=>g x (by grind[eB])) h).next|_=>grind
 case makeMap t q=>exact(ass j p u z h (λx F=>g x (by grind[eB]))).next
 case makeSlice t l c=>exact(ast j p u z (g l (by simp[eB])) (g c (by simp[eB])) h).next
 case slice t x lo ct mx=>refine(asz j p u z (g x (by simp[eB])) (λy hy=>g y (by grind[eB])) (λy hy=>g y (by grind[eB])) (λy hy=>g y (by grind[eB])) (λid K F=>?_) h).next;exact Ar j p u z A rfl (by grind[ey]) _
 case fieldAddr s x f=>exact(asm j p u z (g x (by simp[eB])) h).next
 case field s x f=>exact(asl j p u z (g x (by simp[eB])) h).next
 case indexAddr t x i=>exact(aso j p u z (g x (by simp[eB])) (g i (by simp[eB])) h).next
 case index t x i=>exact(asn j p u z (g x (by simp[eB])) (g i (by simp[eB])) h).next
 case lookup t x k ok=>
  have E:∃B,bu P tm k=J B:=by cases E:bu P tm k with|some B=>grind|none=>simp only[CB]at h;split at h<;>simp_all
  obtain⟨B,E⟩:=E;refine(asq j p u z (g x (by simp[eB])) (g k (by simp[eB])) (λm L Y I=>?_) h).next;rw[Np I];cases ok with|true=>exact H8 j p u z A rfl (l:=[(.rd,m)]) (by grind[ey]) (.rd,m) aO|false=>exact H8 j p u z A rfl (l:=[(bif Gv P t B then .look t B else .rd,m)]) (by grind[ey]) (bif Gv P t B then .look t B else .rd,m) aO
 case mapUpdate t m k x=>exact aeA j p u z (Ar j p u z A rfl rfl) (g m (by simp[eB])) (g k (by simp[eB])) (g x (by simp[eB])) h
 case insert t m k x=>exact aeA j p u z (Ar j p u z A rfl rfl) (g m (by simp[eB])) (g k (by simp[eB])) (g x (by simp[eB])) h
 case mapEntry t m k=>
  have E:∃B,bu P tm k=J B:=by cases E:bu P tm k with|some B=>grind|none=>simp only[JY]at h;split at h<;>simp_all
  obtain⟨B,E⟩:=E;refine(asu j p u z (λr L Y I=>?_) (g m (by simp[eB])) (g k (by simp[eB])) h).next;rw[Np I];exact H8 j p u z A rfl (l:=[(.entry t B,r)]) (by grind[ey]) (.entry t B,r) aO
 case entryStore t m s x=>exact asi j p u z (Ar j p u z A rfl rfl) (g m (by simp[eB])) (g s (by simp[eB])) (g x (by simp[eB])) h
 case range t x=>exact(asy j p u z (Ar j p u z A rfl rfl) (g x (by simp[eB])) h).next
 case next T R=>
  cases R;case true=>grind
  exact(asv j p u z (Ar j p u z A rfl rfl) (g T (by simp[eB])) h).next
 case entry T=>exact(ash j p u z (Ar j p u z A rfl rfl) (g T (by simp[eB])) h).next
 case extract t i=>exact(asj j p u z (g t (by simp[eB])) h).next
 case call c=>
  obtain⟨b,X⟩:=hc c rfl;obtain⟨callee,args,N⟩:=c;subst X;obtain⟨d,hd,h⟩:=aE h;obtain⟨M,D,hd⟩:=aE hd;cases hd;have Ds:=ML u z (λx F=>g x (by grind[eB,Call.operands])) D;have Q:aV O M (args.map ρ).toList:=aP;have U:lf P H b N M=J (r,H'):=by simp_all[vU]
  have hS:(∀r,S r)\/(b=.len/\∀m L,M=[.map m]->H.jT m=J L->S (rootOf H m))\/b=.cap:=by
   cases b;case len=>
    right;left;refine⟨rfl,λm L Y I=>?_⟩;rw[Np I];rcases hl:args.toList with _|⟨x,t⟩;.grind[QE]
    rw[hl,QD]at D;obtain⟨v,hv,D⟩:=aE D;obtain⟨t',ht,D⟩:=aE D;have htn:t=[]:=by have:=(Mu ht).1;grind
    exact H8 j p u z A rfl (l:=[(.rd,m)]) (by grind[ey]) (.rd,m) aO
   case cap=>grind
   all_goals exact .inl (Ar j p u z A rfl rfl)
  have X:=λaa=>ang (ty:=W) (cs:=aa) j p hS U Q;change tc P S O H w (builtin b _ W _ _) r H';grind
 all_goals grind
end
end Go.AM
namespace Go.AM
open Go
variable{v:AV}{ops:Array aC}{H H':Heap}{cs:List cZ}{S:Nat->Prop}{rec:Rec}{tm:Tr AV}{P:aM}{w:aT}{O ψ:aZ}{F:cZ}
def gR:Nat->Prop:=λ_=>True
def fZ(d:aZ)(H:Heap)(w:aT)(c:aZ)(a:Heap)(b:aT):Prop:=ba a/\bA gR c a b/\Fr d H w c a b
def zW(a:aZ):ah Nat->ah Nat->Prop|none,Z=>True|some l,J b=>∃p,a l=J p/\b=p.aW|_,_=>False
structure jb(O:aZ)(fr:cu)(F:cZ)(todo:List Item):Prop where
 fn:F.fn=fr.fn
 tmps:rF O fr.n fr.tmps F.tmps
 todo:fr.mode=.run->F.todo=todo
 defers:zH O fr.defers F.defers
 mode:F.mode=fr.mode
 kind:F.kind=.normal
 round:zW O fr.roundOf F.roundOf
theorem zW.mono(h:Ext O ψ){a b:ah Nat}(r:zW O a b):zW ψ a b:=by cases a<;>cases b<;>simp only[zW]at r|-;obtain⟨p,c,d⟩:=r;exact⟨p,h _ _ c,d⟩
theorem jb.mono(h:Ext O ψ){f:cu}{k:List Item}(r:jb O f F k):jb ψ f F k:=⟨r.fn,r.tmps.mono h,r.todo,r.defers.mono h,r.mode,r.kind,r.round.mono h⟩
theorem bA.SS{n:Nat}(h:bA (AM.more S n) O H w)(a:∀r,S r):bA gR O H w:=h.up λr _=>.inl (a r)
theorem ir.SS{a:aT}(h:ir S O H w ψ H' a)(b:∀r,S r):fZ O H w ψ H' a:=⟨h.1,h.2.1.SS b,h.2.2⟩
theorem fZ.refl(h:ba H)(s:bA gR O H w):fZ O H w O H w:=⟨h,s,Fr.refl O H w⟩
theorem fZ.trans{d:aZ}{H1 a:Heap}{b c:aT}(i:ba H)(s:bA gR O H w)(h:fZ O H w ψ H1 b)(k:fZ ψ H1 b d a c):fZ O H w d a c:=⟨k.1,k.2.1,h.2.2.trans k.2.2 (λid p e=>s.stat.lt i e) (λid p e=>h.2.1.stat.lt h.1 e)⟩
def kI(P:aM)(d:aZ)(H:Heap)(w:aT)(f:cu)(F:cZ)(s:List cZ):Out->Prop|.ret v H'=>∃ψ b u,fZ d H w ψ H' b/\VR ψ v u/\(f.roundOf=Z->∃a,Steps P (eT F s w) (eT a s b)/\a.fn=F.fn/\a.mode=.returning/\a.defers=[]/\a.kind=.normal/\∃fn,P.funcs[a.fn]?=J fn/\(results fn a.tmps).run P b=.ok u b)/\(f.roundOf≠Z->∀c rest,s=c::rest->Steps P (eT F s w) (eT (c.finish u) rest b))
def nw(P:aM)(r:Rec):Prop:=∀(fr:cu)(H:Heap)(out:Out),r fr H=J out->∀(O:aZ)(w:aT)(F:cZ)(cs:List cZ),ba H->bA gR O H w->jc P O->jb O fr F fr.todo->kI P O H w fr F cs out
theorem kI.after{d:Heap}{b:aT}{f fr1:cu}{a:cZ}{o:Out}(p:ba H)(s:bA gR O H w)(q:fZ O H w ψ d b)(G:Steps P (eT F cs w) (eT a cs b))(r:fr1.roundOf=f.roundOf)(A:a.fn=F.fn)(h:kI P ψ d b fr1 a cs o):kI P O H w f F cs o:=by obtain⟨v,t,u,i,j,k,x⟩:=h;refine⟨v,t,u,q.trans p s i,j,λn=>?_,λn c rest e=>G.trans aP⟩;obtain⟨g,l,y,m⟩:=k (r.trans n);exact⟨g,G.trans l,aP,m⟩
theorem kI.back{f:cu}{c:cZ}{r:List cZ}(h:kI P O H w f F (c::r) (.ret v H')):∃ψ a u,fZ O H w ψ H' a/\VR ψ v u/\Steps P (eT F (c::r) w) (eT (c.finish u) r a):=by
 obtain⟨ψ,a,u,b,d,e,p⟩:=h;refine⟨ψ,a,u,b,d,?_⟩;by_cases n:f.roundOf=Z;.obtain⟨o,g,q,i,j,k,fn,l,m⟩:=e n;exact g.trans (Steps.one (step_leave_returned ⟨i,j,k,fn,l,m⟩))
 grind
section
variable{P:aM}{O:aZ}{H:Heap}{w:aT}
theorem rF.set{n:Nat}{t:Tr AV}{c:Array aB}(h:rF O n t c){d:Nat}{a:AV}{v:aB}(e:VR O a v)(b:d<n):rF O n (t.ins d a) (c.setIfInBounds d v):=by
 refine⟨by simp[h.1],λi=>?_⟩;by_cases hi:d=i
 . subst hi;rw[Tr.lL];have:d<c.size:=by rw[h.1];omega
   simp_all
 .rw[Tr.jF _ _ hi];have:=h.2 i;simp_all
theorem JI:VR O fR undef:=aV.cw (aV.nil O) #[] rfl
theorem Pj{f b:cu}{i:Nat}{r:an}{k:List Item}{o:aC}{u:aB}(g:ops[i]?=J o)(m:f.mode=.run)(h:sW f o.dst v=J b)(a:jb O f F (.inRegion ops (i::r)::k))(c:VR O v u):jb O b (F.finish u) (.inRegion ops r::k)/\b.mode=.run/\b.todo=f.todo/\b.roundOf=f.roundOf/\(F.finish u).fn=F.fn:=by
 have t:=a.todo m;rw[D1]at h;rcases hd:o.dst with _|d
 . rw[hd]at h;cases h;have e:F.finish u={F with todo:=.inRegion ops r::k}:=by grind[Frame.finish]
   rw[e];exact⟨⟨a.fn,a.tmps,λ_=>rfl,a.defers,a.mode,a.kind,a.round⟩,m,rfl,rfl,rfl⟩
 rw[hd]at h;simp only[fB]at h;by_cases X:d<f.n
 . simp only[X,eu,aL]at h;cases h;have e:F.finish u={F with tmps:=F.tmps.setIfInBounds d u,todo:=.inRegion ops r::k}:=by grind[Frame.finish]
   rw[e];exact⟨⟨a.fn,a.tmps.set c X,λ_=>rfl,a.defers,a.mode,a.kind,a.round⟩,m,rfl,rfl,rfl⟩
 grind
theorem JO{o:aC}{b:Bool}{c:Array aB}(h:wC ops tm o=J b)(g:∀j w d,o.guard=J (j,w)->(ops[j]?).bind (·.dst)=J d->VR O ((tm.get d).getD fR) (c.getD d undef)):Region.wanted o (yielded ops c)=b:=by
 unfold wC at h;unfold Region.wanted;rcases u:o.guard with _|i;.grind
 obtain⟨j,w⟩:=i;rw[u]at h;simp only at h|-;unfold yielded;rcases hd:(ops[j]?).bind _ with _|d;.grind
 rw[hd]at h;have e:=g j _ d u hd;simp only[cU,GY]at h e|-;rcases t:tm.get d with _|a
 . rw[t]at h e;obtain rfl:C=b:=aj;rcases f:c[d]? with _|v;.rfl
   rw[f]at e;cases v<;>simp;cases e
 rw[t]at h e;rcases f:c[d]? with _|v;.rw[f]at e;cases a<;>simp at h e<;>first|(cases e;done)|grind|skip
 rw[f]at e;cases a<;>simp at h;all_goals(subst h;cases e<;>simp)
theorem aFZ{j:aH->aB}{c:Call}{ty:al}{d:Ss}(k:jc P O)(r:Reads j)(o:∀x,x∈c.operands.toList->eX O tm j x)(h:A6 P tm c=J d):∃e,(∀w:aT,(resolve j c ty).run P w=.ok e w)/\akZ O d e:=by obtain⟨S,m,h⟩:=aE h;obtain⟨callee,args,s⟩:=c;cases callee with|builtin b=>cases h;have D:=ML k r (λx B=>o x (by grind[Call.operands])) m;exact⟨_,λw=>rfl,.builtin b _ _ _,aP⟩|invoke=>grind|value f=>
 have D:=ML k r (λx B=>o x (by grind[Call.operands])) m;obtain⟨F,u,h⟩:=aE h;have A:=(fL k r (o f (by simp[Call.operands])) u).1;split at h;.rename_i g first t;cases h;simp only[resolve];generalize j f=q at A;cases A with|func _ _ _ E n G H g1 g2=>refine⟨_,λw=>by rfl,.fn g _ n ⟨ae,λi a v x y=>g2 i a v x aj⟩,?_⟩;have Q:aV O _ _:=⟨ae,λi a v x y=>g1 i a v x aj⟩;simp only[lQ];rw[Array.toList_append];exact Q.append aP
 .rename_i l;cases h;simp only[resolve];generalize j f=q at A;cases A with|yield _ p z=>exact⟨_,λw=>by rfl,.yield l p z,aP⟩
 grind
theorem amn:∀(l:aD)(t:Tr AV)(k:Nat),(fV (λ(p:Tr AV×Nat)a=>(p.1.ins p.2 a,eU p.2)) l (t,k)).2=k+l.length/\∀i,((fV (λ(p:Tr AV×Nat)a=>(p.1.ins p.2 a,eU p.2)) l (t,k)).1.get i)=if k<=i/\i<k+l.length then l[i-k]? else t.get i:=by intro l;induction l with|nil=>grind[pA]|cons a l c=>
 intro t k;rw[pA]at*;simp only[xS];obtain⟨h,b⟩:=c (t.ins k a) (eU k);rw[pA]at h b;refine⟨by rw[h];simp;omega,λi=>?_⟩;rw[b i];by_cases hi:k+1<=i/\i<k+1+l.length;.rw[if_pos hi,if_pos (by simp;omega)];have:i-k=(i-(k+1))+1:=ae;rw[this,J6]
 grind[Tr.lL,Tr.jF]
theorem KZ{f:bS}{a:aD}{d:Array aB}{r:cu}(h:wT P f a=J r)(c:aV O a d.toList):jb O r (Frame.enter P f d .normal) r.todo/\r.mode=.run/\r.roundOf=Z/\∃fn b,P.funcs[f]?=J fn/\fn.body=J b:=by
 obtain⟨fn,e,h⟩:=aE h;obtain⟨b,k,h⟩:=aE h;rw[du,ef]at h;by_cases l:a.length<=fn.ntmps
 . simp only[l,eu,aL]at h;cases h;refine⟨⟨rfl,⟨?_,λi=>?_⟩,λ_=>by grind[Frame.enter],trivial,rfl,rfl,trivial⟩,rfl,rfl,fn,b,e,k⟩;.have:=c.1;grind[Frame.enter]
   . obtain⟨_,j⟩:=amn _ _ 0;rw[j i,Tr.get_nil];have m:=c.1;simp at m;simp only[Frame.enter,e,GY];by_cases hi:i<a.length;.have g:=eZ hi;obtain⟨v,D,u⟩:=c.get g;grind
     grind[JI]
 grind
def rA(P:aM):Prop:=∀(f:Nat)(fn:Func),P.funcs[f]?=J fn->fn.body.isSome=V->fn.name≠ "runtime.NumGoroutine"
theorem Kz(c:rA P){f:bS}{n:Func}{b:bz}(h:P.funcs[f]?=J n)(d:n.body=J b)(a:Array aB)(w:aT):(callFunc f a).run P w=.ok (.enter f a) w:=by have:=c f n h aj;simp_all[callFunc]
end
def zL(x:ah eV):Prop:=∀r,x=J r->∃v H,r=.val v H
theorem ayf:zL Z:=λr h=>aj
theorem ayh(v:AV)(H:Heap):zL (J (.val v H)):=λr h=>⟨v,H,(br h).symm⟩
theorem ayg(H:Heap)(v:ah AV):zL (ff H v):=λr h=>by unfold ff at h;cases v<;>grind
theorem ayc{b:Type}(x:ah b)(f:b->ah eV)(h:∀a,zL (f a)):zL (x.bind f):=λr hr=>by obtain⟨a,_,c⟩:=aE hr;exact h a r c
theorem aye{b:Type}(x:ah b)(f:b->eV)(h:∀a,∃v H,f a=.val v H):zL (x.map f):=λr hr=>by simp only[jE]at hr;obtain⟨a,_,rfl⟩:=hr;simp_all
theorem ayd(c:Bool)(a b:ah eV)(h:zL a)(d:zL b):zL (bif c then a else b):=aj
theorem Uz{k:bZ}{o:aC}(h:∀c,o.op≠.call c):zL (dV P k tm H o):=by unfold dV;split<;>first
 |exact absurd ‹_› (h _)
 | (try simp only[El,CD,GL,GN,Eg,GQ,GU,En,Em,GM,GX,GR,GV,GW,JX,NX,Ei,GS,CA,Ej,CB,Ek,JY,Sm,Sp,Sn,Sk,JW]
    repeat' first|exact ayf|exact ayh _ _|exact ayg _ _|(apply aye;grind)|(apply ayc;intro a)|apply ayd|(dsimp only;done)|split)
def kJ(P:aM)(k:bZ):Prop:=∀(f:bS)(args:aD)(H:Heap)(v:AV)(H':Heap),k f args H=J (J (v,H'))->∀(O:aZ)(w:aT)(a:Array aB)(c:cZ)(cs:List cZ),ba H->bA gR O H w->jc P O->aV O args a.toList->∃ψ b u,fZ O H w ψ H' b/\VR ψ v u/\((callFunc f a).run P w=.ok (.value u) b\/((callFunc f a).run P w=.ok (.enter f a) w/\Steps P (eT (Frame.enter P f a .normal) (c::cs) w) (eT (c.finish u) cs b)))
section
variable{P:aM}{O:aZ}{H:Heap}{w:aT}
theorem Frame.reads(F:cZ):Reads F.eval:=⟨λ_=>rfl,λ_=>rfl,λ_=>rfl⟩
theorem GA{i:Nat}{r:an}{k:List Item}{o:aC}(m:F.mode=.run)(g:F.todo=.inRegion ops (i::r)::k)(d:ops[i]?=J o)(j:Region.wanted o (yielded ops F.tmps)=V)(h:∀c,o.op≠.defer c){n:Next}{w':aT}(x:(execOp F.eval o).run P w=.ok n w'):(∀v,n=.value v->step P (eT F cs w)=.next (eT (F.finish v) cs w'))/\(n=.skip->step P (eT F cs w)=.next (eT (F.finish undef) cs w'))/\(∀f args,n=.enter f args->step P (eT F cs w)=.next (eT (Frame.enter P f args .normal) (F::cs) w'))/\(∀l f t a body,n=.round l f t a body->step P (eT F cs w)=.next (eT (Frame.round l f t a body .normal) (F::cs) w')):=by
 have b:stepG P V {frame:=F,callers:=cs,status:=.running,dying:=Z} w=stepG.apply P V F cs Z (execOp F.eval o) w:=by grind[stepG,stepG.oper,ug,Frame.oper?]
 refine⟨λv e=>?_,λe=>?_,λf args e=>?_,λl f t a body e=>?_⟩<;>subst e<;>exact step_lone_go (by simp_all[stepG.apply])
theorem atG(h:∀r,S r)(t:Tr AV)(H:Heap)(o:aC):J4 P S t H o:=by right;grind
theorem aDP:∀(s:List Tmp)(S:aD)(b:List aB)(n:Nat)(t:Tr AV)(c:Array aB),aV O S b->s.length=S.length->rF O n t c->rF O n (fV (λt(p:Tmp×AV)=>bif cM p.1 n then t.ins p.1 p.2 else t) (List.zip s S) t) ((List.zip s b).foldl (λm(x:Tmp×aB)=>m.setIfInBounds x.1 x.2) c):=by intro s;induction s with|nil=>simp[pA]|cons p s o=>intro S b n t c f l d;cases S with|nil=>grind|cons a S=>
 obtain⟨v,g,rfl,e,i⟩:=f.cons_inv;rw[pA];simp only[List.zip_cons_cons,xS];have k:rF O n (bif cM p n then t.ins p a else t) (c.setIfInBounds p v):=by
  rw[fB];by_cases h:p<n;.simp only[h,eu,aL];exact d.set e h
  . simp only[h,mO,bg];have:c.setIfInBounds p v=c:=by have j:=d.1;grind
    grind
 grind[pA]
theorem aK6{i:Nat}{e:an}{k:List Item}{o:aC}(m:F.mode=.run)(t:F.todo=.inRegion ops (i::e)::k)(q:ops[i]?=J o)(s:Region.wanted o (yielded ops F.tmps)=V)(l:∀c,o.op≠.defer c)(h:tc P gR O H w (execOp F.eval o) v H'):∃ψ a u,fZ O H w ψ H' a/\VR ψ v u/\Steps P (eT F cs w) (eT (F.finish u) cs a):=by obtain⟨ψ,n,a,j,b,d⟩:=h;obtain⟨f,g,_⟩:=GA m t q s l j;have p:fZ O H w ψ H' a:=⟨d.1,d.2.1.up (λr _=>.inl trivial),d.2.2⟩;cases n with|value u=>exact⟨ψ,a,u,p,b,Steps.one (f u rfl)⟩|skip=>subst b;exact⟨ψ,a,_,p,JI,Steps.one (g rfl)⟩|_=>simp only[Ey]at b
set_option maxHeartbeats 1600000 in theorem WZ{ak:bZ}(dC:nw P rec)(oT:kJ P ak)(hn:rA P){i:Nat}{I:an}{k:List Item}{o:aC}(Q:ba H)(B:bA gR O H w)(y:jc P O)(z:F.mode=.run)(D:F.todo=.inRegion ops (i::I)::k)(A:ops[i]?=J o)(E:Region.wanted o (yielded ops F.tmps)=V)(vM:∀x,x∈o.op.operands.toList->eX O tm F.eval x)(h:fP P ak rec tm H o=J (.val v H')):∃ψ K u,fZ O H w ψ H' K/\VR ψ v u/\Steps P (eT F cs w) (eT (F.finish u) cs K):=by
 have hr:=Frame.reads F;unfold fP at h;obtain⟨x,a,h⟩:=aE h;have hd:∀c,o.op≠.defer c:=λc e=>by grind[dV]
 by_cases AJ:(∃v H',x=.val v H')/\∀c,o.op=.call c->∃b,c.callee=.builtin b;.obtain⟨⟨v,H',rfl⟩,hb⟩:=AJ;obtain⟨rfl,rfl⟩:=Ez.val.inj (br h);exact aK6 z D A E hd (aeC Q B y hr vM (atG (λ_=>trivial) _ _ _) hb a)
 by_cases fW:∃c,o.op=.call c
 . obtain⟨c,hc⟩:=fW;obtain⟨callee,args,T⟩:=c;have yI:=a;simp only[dV,hc,Eh]at a;obtain⟨d,G,a⟩:=aE a;have U:∀x,x∈(Call.operands ⟨callee,args,T⟩).toList->eX O tm F.eval x:=λx a=>vM x (by rw[hc];exact a);obtain⟨e,he,PG⟩:=aFZ (ty:=o.type) y hr U G;obtain⟨dt,N⟩:=d;obtain⟨et,n⟩:=e;have S:=PG.args;have W:=PG.target;have M:(execOp F.eval o).run P w=(invoke et n).run P w:=by simp_all[execOp]
   cases W with
   |builtin b ts t css=>simp only[vU,jE]at a;obtain⟨aS,ha,G⟩:=aE G;cases callee with|builtin b'=>grind|invoke=>grind|value f=>obtain⟨fv,hf,G⟩:=aE G;grind
   |fn g j s gM=>
   simp only[vU]at a;have nH:aV O (cQ N j) (n++s).toList:=by rw[lQ,Array.toList_append];exact S.append gM
   have hinv:(invoke (.fn (.func g) _) n).run P w=(callFunc g (n++s)).run P w:=rfl;unfold yd at a;split at a
   . rename_i rp PZ;rcases rp with _|vh;.grind
     obtain⟨v,H'⟩:=vh;obtain⟨ψ,K,u,p1,p2,Y⟩:=oT g _ H v H' PZ O w _ F cs Q B y nH;rcases Y with Y|⟨Y,p4⟩;.obtain⟨a1,_⟩:=GA (cs:=cs) z D A E hd (by rw[M,hinv];omega);grind[Steps.one]
     .obtain⟨_,_,a3,_⟩:=GA (cs:=cs) z D A E hd (by rw[M,hinv];omega);grind[Steps.head]
   .simp only[jE]at a;obtain⟨fC,yr,rfl⟩:=a;obtain⟨⟨v',H1⟩,yF,h⟩:=aE h;obtain⟨e1,e4,e7,fn,b,e5,e6⟩:=KZ yr nH;obtain⟨_,_,a3,_⟩:=GA (cs:=cs) z D A E hd (by rw[M,hinv];exact Kz hn e5 e6 _ w);obtain⟨ψ,K,u,q1,q2,q3⟩:=kI.back (dC _ H _ yF O w _ (F::cs) Q B y e1);grind[Steps.head]|yield l p hp=>
   simp only[vU]at a;split at a
   . rename_i lp oc;rw[bN,ef,ef]at a;by_cases q:N.length=lp.params.length
     . simp only[q,eu,aL]at a;cases a;obtain⟨⟨v',H1⟩,yF,h⟩:=aE h;obtain⟨hb0,R,hR,L⟩:=B.obj l p _ hp trivial (by intro l' r fl e Dd;grind) oc;have aNh:=L.params;have fI:n.size=R.params.size:=by have h1:=S.1;grind
       have hinv:(invoke (.fn (.yield p.aW) #[]) n).run P w=.ok (.round p.aW R.fn ((R.params.zip n).foldl (λm(x:Tmp×aB)=>m.setIfInBounds x.1 x.2) R.tmps) R.assign R.body) w:=by have dS:(getObj _).run P w=.ok _ w:=yZ hR aO;simp[invoke,Instr.yield,Instr.getLoop,dS,fI]
       obtain⟨_,_,_,a4⟩:=GA (cs:=cs) z D A E hd (by rw[M];omega);have X:rF O lp.n (fV (λt(p:Tmp×AV)=>bif cM p.1 lp.n then t.ins p.1 p.2 else t) (List.zip lp.params N) lp.tmps) ((R.params.zip n).foldl (λm(x:Tmp×aB)=>m.setIfInBounds x.1 x.2) R.tmps):=by have:=aDP _ N _ _ _ _ S q.symm L.tmps;grind[Array.toList_zip]
       obtain⟨ψ,K,u,q1,q2,q3⟩:=kI.back (dC _ H _ yF O w (Frame.round p.aW R.fn ((R.params.zip n).foldl (λm(x:Tmp×aB)=>m.setIfInBounds x.1 x.2) R.tmps) R.assign R.body .normal) (F::cs) Q B y ⟨L.fn,X,λ_=>by simp[Frame.round,L.assign,L.body],trivial,rfl,rfl,⟨p,hp,rfl⟩⟩);grind[Steps.head]
     grind
   grind
 .obtain⟨v,H',rfl⟩:=Uz (λc e=>fW ⟨c,e⟩) x a;grind
end
structure ka(fr fC:cu):Prop where
 mode:fC.mode=.run
 todo:fC.todo=fr.todo
 round:fC.roundOf=fr.roundOf
theorem ka.trans{a b c:cu}(h:ka a b)(k:ka b c):ka a c:=⟨k.mode,k.todo.trans h.todo,k.round.trans h.round⟩
section
variable{P:aM}{O:aZ}{H:Heap}{w:aT}
theorem aHq{f a:cu}{d:ah Tmp}(h:sW f d v=J a)(m:f.mode=.run):ka f a/\a.defers=f.defers/\a.n=f.n/\a.fn=f.fn:=by
 rw[D1]at h;rcases d with _|d;.cases h;exact⟨⟨m,rfl,rfl⟩,rfl,rfl,rfl⟩
 simp only[fB]at h;by_cases b:d<f.n;.simp only[b,eu,aL]at h;cases h;exact⟨⟨m,rfl,rfl⟩,rfl,rfl,rfl⟩
 grind
theorem jb.run{f:cu}{k:List Item}(h:jb O f F k)(m:f.mode=.run):F.mode=.run:=h.mode.trans m
theorem jb.aB3{f:cu}{k:List Item}(h:jb O f F k)(r:f.roundOf=Z):F.roundOf=Z:=by have:=h.round;grind[zW]
def Kb(P:aM)(d:aZ)(H:Heap)(w:aT)(r:cu)(F:cZ)(c:List cZ)(t:List Item):Bz->Prop|.next f H'=>∃ψ b a,Steps P (eT F c w) (eT a c b)/\fZ d H w ψ H' b/\jb ψ f a t/\ka r f/\a.fn=F.fn
theorem RC{f b:cu}{i:Nat}{r:an}{k:List Item}{o:aC}(l:ba H)(s:bA gR O H w)(n:ops[i]?=J o)(m:f.mode=.run)(a:jb O f F (.inRegion ops (i::r)::k))(p:Region.wanted o (yielded ops F.tmps)=C)(h:sW f o.dst fR=J b):Kb P O H w f F cs (.inRegion ops r::k) (.next b H):=by obtain⟨c,d,e,g,j⟩:=Pj n m h a JI;have t:=a.run m;have q:=a.todo m;exact⟨O,w,_,Steps.one (step_lone_go (by simp_all[stepG,ug])),fZ.refl l s,c,⟨d,e,g⟩,j⟩
theorem ao3{c:bZ}(B:nw P rec)(T:kJ P c)(K:rA P){f:cu}{i:Nat}{s:an}{k:List Item}{o:aC}{r:Bz}(I:ba H)(L:bA gR O H w)(G:jc P O)(g:ops[i]?=J o)(m:f.mode=.run)(a:jb O f F (.inRegion ops (i::s)::k))(h:BQ P c rec ops f H o=J r):Kb P O H w f F cs (.inRegion ops s::k) r:=by
 rw[KS]at h;obtain⟨b,E,h⟩:=aE h;have M:=JO E (λj n d _ _=>a.tmps.2 d);rcases b with _|_;.grind[jE,RC]
 obtain⟨⟨v,H'⟩,N,h⟩:=aE h;obtain⟨ψ,R,u,q,Q,q3⟩:=WZ B T K I L G (a.run m) (a.todo m) g M (λy _ t e=>by subst e;exact a.tmps.2 t) N;simp only[jE]at h;obtain⟨S,D,rfl⟩:=h;obtain⟨l,p,x,z,A⟩:=Pj g m D (a.mono q.2.2.ext) Q;exact⟨ψ,R,_,q3,q,l,⟨p,x,z⟩,A⟩
theorem aGm{b:bZ}(j:nw P rec)(T:kJ P b)(t:rA P){k:List Item}:∀(l:List aC)(i:Nat),ops.toList.drop i=l->∀(fr:cu)(H:Heap)(r:Bz),Ba P b rec ops l fr H=J r->∀(O:aZ)(w:aT)(F:cZ)(cs:List cZ),ba H->bA gR O H w->jc P O->fr.mode=.run->jb O fr F (.inRegion ops (List.range' i l.length)::k)->Kb P O H w fr F cs (.inRegion ops []::k) r:=by intro l;induction l with|nil=>intro i _ fr H r h O w F cs hi s g m a;cases h;exact⟨O,w,F,Steps.refl P _,fZ.refl hi s,a,⟨m,rfl,rfl⟩,rfl⟩|cons o l v=>
 intro i M fr H r h O w F cs hi s g m a;have u:ops[i]?=J o:=by have:(ops.toList.drop i)[0]?=J o:=aj;grind
 have y:ops.toList.drop (i+1)=l:=by have:(ops.toList.drop i).drop 1=l:=aj;grind[Et]
 obtain⟨⟨n,f⟩,x,q⟩:=aE h;obtain⟨ψ,I,d,E,p,f1,c,A⟩:=ao3 j T t hi s g u m a x;have:=v _ y _ f r q ψ I d cs p.1 p.2.1 (g.mono p.2.2.ext) c.mode f1;obtain⟨L,K,e,G,D,f2,z,B⟩:=this;exact⟨L,K,e,E.trans G,p.trans hi s D,f2,c.trans z,B.trans A⟩
end
end Go.AM
namespace Go.VM
open Go Go.AM
variable{a:AV}{sv:SV}{x:aH}{dst:ah Tmp}
structure wK(ω:aG)(k:Kd)(app:Bool)(H H':Heap):Prop where
 bn:H'.bn=H.bn
 wl:k≠.wr->∀r,r∈H'.bK->r∈H.bK
 gl:k≠.wr->app=C->∀r,r∈H'.cK->r∈H.cK
 wall:∀r,r∈H'.bK->r∈H.bK\/(r<H.bn/\dH ω r)aff:∀r,r∈H'.cK->r∈H.cK\/(r<H.bn/\dH ω r)
theorem wK.refl{b:aG}(k:Kd)(a:Bool)(H:Heap):wK b k a H H:=⟨rfl,λ_ _ h=>h,λ_ _ _ h=>h,λ_ h=>.inl h,λ_ h=>.inl h⟩
section
variable{P:aM}{ak:bZ}{rec:Rec}{cf:cj}{K K':aY}{O ψ:bY}{ω ω':aG}{H H':Heap}
def eW(P:aM)(k:bZ)(r:Rec)(f:cj)(K:aY)(b:bY)(a:aG)(H:Heap)(c t s:St)(m:Tr AV)(o:aC):Prop:=∃v H',fP P k r m H o=J (.val v H')/\(∀d,o.dst=J d->d<t.n)/\gY K b a H s (iz m o.dst v) H'/\s.n=t.n/\s.fn=t.fn/\wK a (kindOf f c o.op) (isApp o.op) H H'
theorem qq{a s:St}{d:ah Tmp}(h:aJ a d sv=J s):(∀t,d=J t->t<a.n)/\s.n=a.n/\s.fn=a.fn/\s.lb=a.lb/\s.g=a.g:=by grind[zg]
theorem u6{c s t:St}{m:Tr AV}{o:aC}{x:DV}(f:HR K O ω H s.lb s.g)(g:ch K O ω H m s.sl)(j:dV P ak m H o=J (.val a H))(h:aJ s o.dst (.dv x .no)=J t)(i:DR K O x a):eW P ak rec cf K O ω H c s t m o:=by obtain⟨b,d,e,_⟩:=qq h;exact⟨a,H,by grind[fP],b,BF f g h i,d,e,wK.refl _ _ _⟩
variable{aq:Nat->ah aA}{gs cr:an}{fk:bS->Nat}{later:List aC}{cB M st':St}{tm:Tr AV}{o:aC}
theorem amO(g:dD P K O aq)(c:HR K O ω H M.lb M.g)(s:ch K O ω H tm M.sl){p:BinOp}{t u:al}{y:aH}(j:o.op=.binOp p t x y u)(h:dM P aq fk gs cr later M o=J st'):eW P ak rec cf K O ω H cB M st' tm o:=by unfold dM at h;rw[j]at h;obtain⟨a,f,h⟩:=aE h;obtain⟨b,i,h⟩:=aE h;obtain⟨v,k,h⟩:=aE h;obtain⟨l,m,n,d⟩:=qm g c s f;obtain⟨q,w,z,e⟩:=qm g c s i;obtain⟨r,r1,r2⟩:=amA (xo:=x) (yo:=y) k d e;refine u6 c s ?_ h (r2 _ _);simp_all[dV,GM,ff]
theorem aKT(g:dD P K O aq)(b:HR K O ω H M.lb M.g)(s:ch K O ω H tm M.sl){p:UnOp}{t:al}(e:o.op=.unOp p t x)(h:dM P aq fk gs cr later M o=J st'):eW P ak rec cf K O ω H cB M st' tm o:=by unfold dM at h;rw[e]at h;obtain⟨a,d,h⟩:=aE h;obtain⟨v,f,h⟩:=aE h;obtain⟨i,j,k,c⟩:=qm g b s d;obtain⟨r,r1,r2⟩:=aKQ f c;refine u6 b s ?_ h (r2 _ _);simp_all[dV,GX,ff]
theorem sU(q:dD P K O aq)(w:ch K O ω H tm M.sl){d:DV}(v:jN M x)(h:bp aq M x=J d):∃a,AM.bu P tm x=J a/\a≠.top/\DR K O d a:=by obtain⟨sv,j,k⟩:=aE h;obtain⟨a,m,n,p⟩:=qV q w j;refine⟨a,m,n,?_⟩;cases sv with
 |dv i o=>
 obtain rfl:=br (show J i=J d from k);rcases p with⟨t,rfl,u,_,b⟩|⟨_,⟨d2,e,b⟩|⟨d2,f,_,e1,e2,b⟩|⟨g,l,cells,e,e1,_⟩⟩;.cases o with|no=>exact b|any=>obtain⟨rfl,rfl⟩:=b;exact .nl|full e=>exact b.1|ty e=>exact b.1|ex e=>
  have hd:=v t i e rfl u;subst hd;rcases b with⟨_,rfl⟩|⟨r,_,b⟩;.exact .nl
  .obtain⟨l,s,id,y,c,cells,z,e1,_⟩:=b.ex;grind
 all_goals grind|_=>grind[CV]
theorem Wp(g:dD P K O aq)(b:ch K O ω H tm M.sl):∀(l:List aH)(s:aA),(∀x,x∈l->jN M x)->cE (bp aq M) l=J s->∃m,cE (AM.bu P tm) l=J m/\bH K O s m:=by intro l;induction l with|nil=>intro s _ h;obtain rfl:=br (show J []=J s from h);exact⟨[],rfl,bH.nil⟩|cons x l i=>intro s n h;have a:=h;obtain⟨d,hd,a⟩:=aE a;obtain⟨t,c,a⟩:=aE a;grind[sU,eQ,bH.cons,cE]
theorem aug(g:dD P K O aq)(p:HR K O ω H M.lb M.g)(s:ch K O ω H tm M.sl){f:bS}{i c:Array aH}(q:o.op=.makeFunc (.func f) i c)(n:∀x,x∈o.op.operands.toList->jN M x)(h:dM P aq fk gs cr later M o=J st'):eW P ak rec cf K O ω H cB M st' tm o:=by have U:∀x,x∈i.toList->jN M x:=λx r=>n x (by grind[eB]);have F:∀x,x∈c.toList->jN M x:=λx r=>n x (by grind[eB]);unfold dM at h;rw[q]at h;obtain⟨a,l,h⟩:=aE h;obtain⟨b,m,h⟩:=aE h;obtain⟨j,t,d⟩:=Wp g s _ _ U l;obtain⟨k,u,e⟩:=Wp g s _ _ F m;refine u6 p s ?_ h (.func f a b j k d.1 e.1 d.2 e.2);simp_all[dV,GV,ff]
end
section
variable{P:aM}{ak:bZ}{rec:Rec}{cf:cj}{K K':aY}{O ψ:bY}{ω ω':aG}{H H':Heap}
variable{aq:Nat->ah aA}{gs cr:an}{fk:bS->Nat}{later:List aC}{cB M st':St}{tm:Tr AV}{o:aC}
theorem Ab(c:HR K O ω H M.lb M.g)(s:ch K O ω H tm M.sl)(h:aJ M dst sv=J st')(f:a≠.top)(v:∀d,dst=J d->Gn d sv=C->mL K O ω H (tm.ins d a) d sv a):gY K O ω H st' (iz tm dst a) H:=by
 rcases zg h with⟨rfl,rfl⟩|⟨t,rfl,_,hr,rfl⟩;.exact⟨K,O,ω,bl.refl _,c.gN (bM.refl (λ_=>False) _),aU.refl _,c,s,bM.refl _ _,λp r b e=>.inl ⟨p,b,e⟩⟩
 .exact⟨K,O,ω,bl.refl _,c.gN (bM.refl (λ_=>False) _),aU.refl _,c,xJ c.inv s (bM.refl _ _) (bl.refl _) (aU.refl _) (λ_ _ _ _ _ _ h=>⟨h,id⟩) aP aP (λ_=>f) (v t rfl hr),bM.refl _ _,λp r b e=>.inl ⟨p,b,e⟩⟩
def free:SV->Prop|.dv _ .no|.dv _ .any|.lp ..|.ev _|.sr _|.se ..|.gr ..|.hd _=>True|_=>False
theorem mL.copy{t d:Nat}(b:free sv)(h:mL K O ω H tm t sv a)(r:Gn d sv=C):mL K O ω H (tm.ins d a) d sv a:=by
 have A:=DT r;rcases sv with⟨x,o⟩|l|⟨s,f⟩|x|s|⟨s,i,f⟩|⟨id,f⟩|n|_;.cases o<;>first|exact h|exact b.elim
 .exact b.elim
 .exact h
 .exact h
 .show(tm.ins d a).get s=J a;rw[Tr.jF _ _ aj];exact h
 .obtain⟨id,g,len,c,e,g1,g2⟩:=h;exact⟨id,g,len,c,_,by grind[Tr.jF],g2⟩
 .exact h
 .exact h
 exact b.elim
theorem abF(n:dD P K O aq)(o:HR K O ω H M.lb M.g)(s:ch K O ω H tm M.sl)(p:cP aq M x=J sv)(i:free sv)(h:aJ M dst sv=J st'):∃a,AM.bu P tm x=J a/\gY K O ω H st' (iz tm dst a) H:=by
 obtain⟨a,j,k,m⟩:=qV n s p;refine⟨a,j,Ab o s h k λd _ hr=>?_⟩;rcases m with⟨t,_,_,_,b⟩|⟨_,⟨q,rfl,b⟩|⟨q,f,_,_,rfl,b⟩|⟨g,l,cells,e,rfl,rfl,b,r,c⟩⟩;.exact b.copy i hr
 . unfold tW at i|-;split;.cases b;exact⟨rfl,rfl⟩
   .exact b
 .exact b
 .exact⟨g,0,_,e,by rfl,b,by simp[DV.flat];rw[c.1];omega,by grind[DV.flat],by show bH K O l ((cells.drop 0).take l.length);rw[wJ,c.1,List.take_length];omega⟩
theorem abH(u:dD P K O aq)(c:HR K O ω H M.lb M.g)(s:ch K O ω H tm M.sl)(k:cP aq M x=J sv)(h:aJ (aQ leave M x) dst sv=J st'):∃a,AM.bu P tm x=J a/\gY K O ω H st' (iz tm dst a) H:=by
 obtain⟨a,m,n,i⟩:=qV u s k;rcases i with⟨t,rfl,v,S,o⟩|⟨D,i⟩
 . have A:sv≠.dd:=by intro e;have L:(match look M.sl t with|some .dd=>Z|r=>r)=J _:=k;grind
   have e1:aQ leave M (.tmp t)={M with sl:=put M.sl t (leave sv)}:=by grind[aQ]
   rw[e1]at h;rcases zg h with⟨rfl,rfl⟩|⟨d,rfl,_,hr,rfl⟩;.refine⟨a,m,K,O,_,bl.refl _,c.gN (bM.refl (λ_=>False) _),aU.refl _,c.of (aab t),?_,bM.refl _ _,λp r b j=>let⟨q,_,h⟩:=aG.jC j;.inl ⟨q,b,h⟩⟩;exact RG c s v S n o
   .obtain⟨ω',w,y,z⟩:=ahK c s v S A n o (DT hr);exact⟨a,m,K,O,_,bl.refl _,c.gN (bM.refl (λ_=>False) _),aU.refl _,w,y,bM.refl _ _,λp r b j=>let⟨q,h⟩:=z p r b j;.inl ⟨q,b,h⟩⟩
 . have e1:aQ leave M x=M:=by cases x<;>first|rfl|grind
   rw[e1]at h;refine abF u c s k ?_ h;rcases i with⟨B,rfl,_⟩|⟨B,f,_,_,rfl,_⟩|⟨g,l,cells,e,rfl,_⟩;.unfold tW;split<;>trivial
   .trivial
   .trivial
theorem ahM(b:o.op=.move x\/o.op=.assign x)(h:AM.bu P tm x=J a):dV P ak tm H o=J (.val a H):=by unfold dV;simp only[El];rcases b with b|b<;>rw[b]<;>simp only[h,ff,iE]
theorem amt(g:dD P K O aq)(c:HR K O ω H M.lb M.g)(s:ch K O ω H tm M.sl)(e:o.op=.assign x)(h:dM P aq fk gs cr later M o=J st'):eW P ak rec cf K O ω H cB M st' tm o:=by
 unfold dM at h;rw[e]at h;obtain⟨sv,f,h⟩:=aE h;obtain⟨a,i,b⟩:=abH g c s f h;obtain⟨f1,f2,f3,_⟩:=qq h;have n:(aQ leave M x).n=M.n/\(aQ leave M x).fn=M.fn:=by unfold aQ;grind
 exact⟨a,H,by simp_all[fP,ahM],λd hd=>aj,b,ae,aj,wK.refl _ _ _⟩
end
end Go.VM
