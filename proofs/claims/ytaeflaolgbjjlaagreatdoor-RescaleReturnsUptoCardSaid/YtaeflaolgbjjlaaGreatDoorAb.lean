/- Proved: the operations of the abstract machine answer as the model does (a part of the proof of RescaleReturnsUptoCardSaid, whose theorem stands in the last text), under the relation between heaps that is defined here. -/
import Derived.Test.YtaeflaolgbjjlaaGreatDoorAa
open Option renaming some->J,none->Z
open Bool renaming true->V,false->C
open Go renaming TypeId->an,Oper->aB,Value->aC,Program->aG,Operand->aK,World->aW,Code->bF,FuncId->bV,Frame->dh,lone->fc,IntKind->fN,MapEntry->kJ
open Go.Builtin renaming firstCells->oq,append_->sP,copy_->yW
open Go.Op renaming operands->eJ
open Go.stepG renaming exec->tJ
open Int renaming ofNat->di
open Nat renaming beq->aw,ble->br,blt->cm,succ->fg,add->gW,mul->iR
open UInt8 renaming toNat->ka
noncomputable section
set_option linter.all false
namespace Go.AM
open Go
variable{r x:AV}{ats:Array an}{H':Heap}{es:List eF}{a m:Nat}{p:Pl}{s:Sem aC}{sv v:aC}{z:aJ}{e elem t:an}
section
variable{P:aG}{S:Nat->Prop}{φ:bc}{H:Heap}{w:aW}
theorem L7(s:bM S φ H w){r:Nat}{o:b9}(b:φ r=J p)(a:S (rootOf H r))(g:H.get r=J o)(c:o.eu=C):lY φ w o p:=s.obj r p o b a (λl d f e h=>by grind[b9.eu]) g
theorem aAR(s:bM S φ H w){ty:an}{r c:Nat}{l:aD}(f:φ r=J p)(e:S (rootOf H r))(g:H.get r=J (.mapIter Z a l c)):∃u,(Instr.next (.pointer (J ⟨p.aY,p.base+0,Z⟩)) C ty).run P w=.ok u w/\VR φ (.cM [.bool C]) u:=by obtain⟨h,m,b,d⟩:=L7 s f e g rfl;have j:m=Z:=d;subst j;refine⟨.tuple #[.bool C],?_,aiZ (.bool C)⟩;rw[h];simp[Instr.next,yD b]
theorem ay2{n:aD}:∀(es:List eF)(c:List kJ),mZ φ es c->mZ φ (C3 n es) (c.filter λe=>!(n.toArray.contains e.born)):=by intro es;induction es with
 | nil => intro c h;have:c=[]:=by have:=h.1;grind
          subst this;exact h|cons e es k=>
   intro c h;rcases c with _|⟨m,c⟩;.have:=h.1;grind
   have f:=h.2 0 e m rfl rfl;have z:mZ φ es c:=⟨by have:=h.1;grind,λj a b g d=>h.2 (j+1) a b ai ai⟩;have l:C3 n (e::es)=bif kY (λs=>!(aw s e.2.2)) n then e::C3 n es else C3 n es:=rfl;have u:kY (λs=>!(aw s e.2.2)) n=!(n.toArray.contains m.born):=by rw[qf,f.2.2,List.contains_toArray,List.contains_eq_any_beq,List.all_eq_not_any_not];grind[bE]
   rw[l,u,tN];rcases d:(!(n.toArray.contains m.born))with _|_;.grind
   simp only[aR,if_true];have:=k c z;refine⟨by simp[this.1],λi a b g d=>?_⟩;rcases i with _|i;.grind
   exact this.2 i a b ai ai
theorem ay4{a:Array kJ}{seen:aD}{c:Nat}(h:mZ φ es a.toList)(k:∀e,e∈es->e.2.2<c):(∀m,m∈a->m.born<c)/\mZ φ (C3 seen es) (a.filter λe=>!(seen.toArray.contains e.born)).toList:=by
 refine⟨λm d=>?_,by grind[ay2]⟩;obtain⟨i,f⟩:=Array.mem_iff_getElem?.1 d;have H:a.toList[i]?=J m:=ai;have b:i<es.length:=by rw[h.1];grind
 have:=h.2 i _ m (dD b) H;rw[this.2.2];grind
theorem aAP(F:bg H)(j:bM S φ H w){ty:an}{r c:Nat}{s:aD}{q:Pl}(t:φ r=J p)(B:S (rootOf H r))(n:H.get r=J (.mapIter (J m) c s c))(i:φ m=J q)(T:S (rootOf H m))(M:H.get m=J (.map es c))(I:∀e,e∈es->e.2.2<c):(C3 s es=[]->∃u d,(Instr.next (.pointer (J ⟨p.aY,p.base+0,Z⟩)) C ty).run P w=.ok u d/\VR φ (.cM [.bool C]) u/\(d=w\/d=w.drew))/\(∀e,C3 s es=[e]->∃u d,(Instr.next (.pointer (J ⟨p.aY,p.base+0,Z⟩)) C ty).run P w=.ok u d/\VR φ (.cM [.bool V,e.1,e.2.1]) u/\bg (H.put r r (.mapIter (J m) c (dF s [e.2.2]) c))/\bM S φ (H.put r r (.mapIter (J m) c (dF s [e.2.2]) c)) d/\Fr φ H w φ (H.put r r (.mapIter (J m) c (dF s [e.2.2]) c)) d):=by
 obtain⟨f,W,g,z⟩:=L7 j t B n rfl;obtain⟨L,E,rfl⟩:=z;rw[i]at E;obtain rfl:q=L:=ai;obtain⟨a,k,D,R⟩:=Ad j i T M;obtain⟨f1,f2⟩:=ay4 (seen:=s) D I;have N:¬((!s.toArray.isEmpty&&!a.isEmpty&&a.all λe=>decide (e.born>=c))=V):=by
   intro o;simp only[gD]at o;obtain⟨⟨_,g2⟩,g3⟩:=o;have Q:a.size≠0:=by grind
   have Y:a[0]'ab∈a:=Array.getElem_mem _;grind
 obtain⟨left,K⟩:∃left,left=a.filter λe=>!(s.toArray.contains e.born):=⟨_,rfl⟩;rw[<-K]at f2;have G:∀m,m∈left->m.born<c:=λm U=>f1 m ai;have h:(left.filter λe=>decide (e.born<c))=left:=by grind[Array.filter_eq_self]
 have y:(left.filter λe=>decide (e.born>=c))=#[]:=by grind[Array.filter_eq_empty_iff]
 have O:(!s.toArray.isEmpty&&!a.isEmpty&&a.all λe=>decide (e.born>=c))=C:=ai;constructor
 . intro l;rw[l]at f2;have A:left=#[]:=by have:=f2.1;grind
   refine⟨.tuple #[.bool C],w,?_,aiZ (.bool C),.inl rfl⟩;rw[f];simp only[Instr.next,iZ,Sem.run_bind,yD g aO,Result.andThen_ok,uF k,O,<-K,A];simp[Question.forced]
 . intro e l;rw[l]at f2;obtain⟨x,v⟩:∃x,left=#[x]:=by have:=f2.1;grind[Array.size_eq_one_iff]
   have b:vW φ e x:=f2.2 0 e x rfl ai;refine⟨.tuple #[.bool V,x.key,x.val],World.eU w p.aY (.mapIter (J q.aY) c (s.toArray.push x.born) c),?_,aKj (.bool V) b.1 b.2.1,QC F j _ t n rfl rfl ⟨f,J q.aY,?_,q,i,rfl⟩⟩;.rw[f];rw[v]at h y;simp only[Instr.next,iZ,Sem.run_bind,yD g aO,Result.andThen_ok,uF k,O,<-K,v,h,y];simp[Question.forced,I5 g]
   .rw[kZ,<-b.2.2];grind[QW]
theorem aJl(g:bM S φ H w){r c s:Nat}{e:eF}{q:Pl}(n:φ r=J p)(k:S (rootOf H r))(l:H.get r=J (.mapIter (J m) a [s] c))(f:φ m=J q)(T:S (rootOf H m))(K:H.get m=J (.map [e] c))(t:e.2.2=s):∃u,(Instr.entry (.pointer (J ⟨p.aY,p.base+0,Z⟩))).run P w=.ok u w/\VR φ (.cM [e.1,e.2.1]) u:=by
 obtain⟨i,D,y,j⟩:=L7 g n k l rfl;obtain⟨v,E,rfl⟩:=j;rw[f]at E;obtain rfl:q=v:=ai;obtain⟨b,z,d,A⟩:=Ad g f T K;obtain⟨x,o⟩:∃x,b=#[x]:=by have:=d.1;grind[Array.size_eq_one_iff]
 subst o;have h:vW φ e x:=d.2 0 e x rfl rfl;refine⟨.tuple #[x.key,x.val],?_,M0 h.1 h.2.1⟩;rw[i];have B:(x.born==s)=V:=by rw[h.2.2,t];simp
 simp_all[Instr.entry,yD]
theorem azf{y:an}{s:aD}(a:ats[0]?=J t)(u:P.underlying t=J .string)(h:VR φ (.str s) v):oV P φ (Builtin.len_ ats y #[v]) (hJ (eM s)):=by cases h with|str _ b e=>refine⟨goInt b.size,λw=>by simp_all[Builtin.len_,dC],?_⟩;rw[dS,<-MJ e];exact .int _ _
theorem aza{n:Nat}(h:nv x=J n)(a:VR φ x v):∃b c,v=.slice b n c:=by cases a<;>simp_all[nv]
theorem aze{y:an}{n:Nat}(d:ats[0]?=J t)(u:P.underlying t=J (.slice e))(h:nv x=J n)(a:VR φ x v):oV P φ (Builtin.len_ ats y #[v]) (hJ n):=by obtain⟨b,c,rfl⟩:=aza h a;exact⟨goInt n,λw=>by simp_all[Builtin.len_,dC],.int _ _⟩
theorem azb(s:bM S φ H w){ty k v:an}{r c:Nat}(h:ats[0]?=J t)(i:P.underlying t=J (.map k v))(f:φ r=J p)(b:S (rootOf H r))(g:H.get r=J (.map es c)):∃u,(Builtin.len_ ats ty #[.map (J p.aY)]).run P w=.ok u w/\VR φ (hJ (eM es)) u:=by obtain⟨a,d,e,j⟩:=Ad s f b g;refine⟨goInt a.size,by simp[Builtin.len_,h,dC i,uF d],?_⟩;have:=e.1;simp at this;rw[dS,this];exact .int _ _
theorem amy{y:an}{i o l c s:Nat}(d:ats[0]?=J t)(u:P.underlying t=J (.slice e))(b:VR φ (.sl i o l (J c) s) v):oV P φ (Builtin.cap_ ats y #[v]) (hJ c):=by cases b with|sl _ _ _ _ _ p g a m j q h k hr f n=>obtain⟨rfl,_⟩:=h c rfl;exact⟨goInt a,λw=>by simp_all[Builtin.cap_,dC],.int _ _⟩
theorem amx{y:an}(a:ats[0]?=J t)(u:P.underlying t=J (.slice e))(h:VR φ .bC v):oV P φ (Builtin.cap_ ats y #[v]) (hJ 0):=by cases h;exact⟨goInt 0,λw=>by simp_all[Builtin.cap_,dC],.int _ _⟩
theorem amV(k:bg H)(s:bM S φ H w){ty:an}{d:TypeDesc}{r c:Nat}(f:ats[0]?=J t)(u:P.underlying t=J d)(b:φ r=J p)(i:S (rootOf H r))(g:H.get r=J (.map es c)):∃a,(Builtin.clear_ ats ty #[.map (J p.aY)]).run P w=.ok (.tuple #[]) a/\bg (H.put r r (.map [] c))/\bM S φ (H.put r r (.map [] c)) a/\Fr φ H w φ (H.put r r (.map [] c)) a:=by obtain⟨e,h,l,j⟩:=Ad s b i g;exact⟨_,by simp[Builtin.clear_,f,dC u,uF h,Dm h],Dh k s #[] b g j ⟨rfl,aO⟩⟩
end
def dz(P:aG)(S:Nat->Prop)(d:bc)(H:Heap)(w:aW)(s:Sem aC)(r:AV)(c:Heap):Prop:=∃b v a,s.run P w=.ok v a/\VR b r v/\hQ S d H w b c a
section
variable{P:aG}{S:Nat->Prop}{φ:bc}{H:Heap}{w:aW}
theorem dz.vy(i:bg H)(c:bM S φ H w)(h:oV P φ s r):dz P S φ H w s r H:=by obtain⟨v,a,b⟩:=h;exact⟨φ,v,w,a w,b,hQ.refl i c⟩
theorem dz.read(i:bg H)(b:bM S φ H w)(h:s.run P w=.ok v w)(a:VR φ r v):dz P S φ H w s r H:=⟨φ,v,w,h,a,hQ.refl i b⟩
theorem azA{i o n:Nat}{l:aJ}(h:H.load i o n=J l):l.length=n:=by cases c:H.cellsOf i<;>grind[Heap.load,dg,dS,pI,ql]
theorem UI{n:Nat}(h:qA x=J n)(a:VR φ x v):∀w:aW,(Builtin.lenOf v).run P w=.ok n w:=by cases a<;>simp_all[qA,nv,Builtin.lenOf,dS,MJ]
theorem arn{b:ByteArray}{s:aD}(e:b.data.toList.map ka=s)(n:Nat):ba φ (ym (λ(b:Nat)=>AV.int .u8 (.ofNat b)) (vL n s)) ((b.extract 0 n).data.map λb=>Value.int .u8 b.toNat).toList:=by
 rw[Ac,pI,<-e];have hd:(b.extract 0 n).data.toList=b.data.toList.take n:=by simp_all
 rw[Array.toList_map,hd];refine⟨aO,λi a v h d=>?_⟩;rw[jo]at h d;rw[<-List.map_take,jo]at h;rcases x:(b.data.toList.take n)[i]? with _|c;.grind
 simp[x]at h d;subst h;subst d;exact .int _ _
theorem Tm(q:bM S φ H w)(l:∀r,S r){z n:Nat}{a:aJ}(h:qo H z n x=J a)(f:VR φ x v)(d:qA x=J m)(G:n<=m):∃j:Array aC,(oq z n v).run P w=.ok j w/\ba φ a j.toList/\(∀x,x∈a->x.aV=V)/\a.length=n*z:=by
 cases x<;>simp[qo]at h;case bC=>simp[qA,nv]at d;subst d;subst h;cases f;simp_all[oq,ba.nil]
 case str s=>simp[qA]at d;subst d;cases f with|str _ b e=>
  rw[bE]at h;by_cases g:z=1
  . subst g;simp at h;subst h;refine⟨_,by rfl,arn e n,?_,?_⟩;.intro x i;rw[Ac]at i;obtain⟨c,_,rfl⟩:=List.mem_map.1 i;rfl
    grind[Ac,pI,dS]
  grind
 case sl id t len k e=>simp[qA,nv]at d;subst d;cases f with|sl _ _ _ _ _ p T M o F L E I hr g N=>
  rw[bE]at h;by_cases U:n=0;.simp_all[oq,loadCells,loadCellsFrom,ba.nil]
  . simp only[U,kM,bS,bE]at h;by_cases K:e=z;.subst K;simp only[dM,aR]at h;have u:=hr ab;subst u;obtain⟨y,A,B,D⟩:=afO (P:=P) q o (l _) h;grind[oq,azA]
    grind
theorem ZM{i:TypeInfo}(h:lV P elem=J z)(c:P.info? elem=J i):∃b,i.zero=J b/\ba φ z b.cells.toList/\(∀x,x∈z->x.aV=V):=by
 unfold lV yT at h;rw[c]at h;rcases U:i.zero with _|v;.grind
 simp only[U,cQ]at h;rcases o:wU v with _|a;.grind
 simp only[o,cQ]at h;obtain⟨d,e⟩:=(Vl (φ:=φ) o).cells h;grind
theorem uI{k:Nat}{d:TypeDesc}(h:ats[k]?.bind P.underlying=J d):∃t,ats[k]?=J t/\P.underlying t=J d:=ai
theorem akN(hi:bg H)(q:bM S φ H w)(c:∀r,S r){ty:an}{d:TypeDesc}{i:TypeInfo}{a:aJ}{s:AV}{n:Nat}{v:aC}(h0:ats[0]?.bind P.underlying=J (.slice elem))(N:P.info? elem=J i)(hz:lV P elem=J z)(kh:z.length=i.size)(h1:ats[1]?.bind P.underlying=J d)(D:∀k,d≠.int k)(g:qA x=J n)(f:qo H i.size n x=J a)(h:nd H elem i.size i.bytes s a n=J (r,H'))(jf:VR φ s sv)(j:VR φ x v):dz P S φ H w (sP ats ty #[sv,v]) r H':=by
 obtain⟨st,B,y⟩:=uI h0;obtain⟨xt,E,A⟩:=uI h1;obtain⟨zv,M,G,Lk⟩:=ZM (φ:=φ) hz N;have fH:aZ P elem=J i.size:=by grind[aZ]
 obtain⟨xs,f1,f2,f3,f4⟩:=Tm (P:=P) q c f j g (bJ _);obtain⟨xs',R,W,X,Y⟩:=Tm (P:=P) q.drew c f j g (bJ _);have I:(oq i.size n v).run P w.drew=.ok xs w.drew:=by
  cases x<;>simp[qo]at f;case bC=>cases j;simp_all[oq]
  case str=>cases j;simp_all[oq]
  case sl id u len Q e=>cases j with|sl _ _ _ _ _ p gT jT hp hl ht hc ho hr he oH=>
  have l:len=n:=by grind[qA,nv]
  subst l;by_cases iU:len=0;.simp_all[oq,loadCells,loadCellsFrom]
  . rw[bE]at f;simp only[iU,kM,bS,bE]at f;by_cases K:e=i.size
    . simp only[K,dM,aR]at f;obtain⟨m,hm⟩:∃m,H.cellsOf id=J m:=by unfold Heap.load at f;cases hc:H.cellsOf id<;>simp_all
      obtain⟨rr,fl,ee,hg,F⟩:=JV hm;obtain⟨ix,uk⟩:=Cg q hp (c _) hg F;have t:u+len*i.size<=m.length:=ai;obtain⟨cs,fz,e1,g1,g2,g3,g4⟩:=ix.slice uk t;have tf:=hr ab;subst tf;have a1:=I3 (P:=P) g1 g2;have a2:=I3 (P:=P) (w:=w.drew) g1 g2;grind[oq]
    grind
 have O:zv.cells.size=i.size:=by rw[<-kh];simpa using G.1.symm
 refine aai hi q c O h jf f2 f3 f4 ?_ ?_;.intro b T iY w' cV L U mM O0;subst cV;exact aid B y fH E A D (UI g j w) f1 L U
 .intro b T iY old cV L o oJ qt;subst cV;exact run_append_grow B y N M E A D (UI g j w) I L o oJ qt
theorem akQ(t:bg H)(u:bM S φ H w)(q:∀r,S r){Q:an}{k:fN}{i:TypeInfo}{s:AV}{n:Nat}{x:aC}(m:ats[0]?.bind P.underlying=J (.slice elem))(N:P.info? elem=J i)(y:lV P elem=J z)(D:z.length=i.size)(p:ats[1]?.bind P.underlying=J (.int k))(h:nd H elem i.size i.bytes s (jA n z) n=J (r,H'))(A:VR φ s sv)(B:VR φ (.int .i64 (.ofNat n)) x):dz P S φ H w (sP ats Q #[sv,x]) r H':=by
 obtain⟨st,d,L⟩:=uI m;obtain⟨X,E,j⟩:=uI p;obtain⟨R,c,a,g⟩:=ZM (φ:=φ) y N;have f:=Im B;subst f;have v:R.cells.size=i.size:=by rw[<-D];simpa using a.1.symm
 have K:i.size≠0:=by intro e;simp_all[nd]
 refine aai t u q v h A (ajp a n) (QG g n) (by grind[FJ]) ?_ ?_;.intro b T Y W cV l U M O;subst cV;exact aGU d L N c E j M O l K U
 .intro b T Y G cV l o F I;subst cV;exact aie d L N c E j l K o F I
def SG(H:Heap)(n:Nat)(c:aJ):AV->ah (AV×Heap)|.sl id o _ _ _=>bif aw n 0 then J (hJ 0,H)else(H.store id o c).map λH=>(hJ n,H)|_=>J (hJ n,H)
theorem anl(g:bg H)(b:bM S φ H w)(f:∀r,S r){R:an}{z c n:Nat}{d s:AV}{l:aJ}{v:aC}(D:ats[0]?.bind P.underlying=J (.slice elem))(k:aZ P elem=J z)(m:qA s=J a)(F:nv d=J c)(K:n=Nat.min a c)(G:qo H z n s=J l)(x:VR φ d v)(q:VR φ s sv)(h:SG H n l d=J (r,H')):dz P S φ H w (yW ats R #[v,sv]) r H':=by obtain⟨W,O,u⟩:=uI D;have j:n<=a:=ai;have L:n<=c:=ai;obtain⟨y,f1,f2,f3,f4⟩:=Tm (P:=P) b f G q m j;have o:=UI (P:=P) m q w;cases d with
 |bC=>
 obtain rfl:c=0:=by grind[nv]
 cases x;have i:n=0:=ab;subst i;have t:Nat.min a 0=0:=aO;simp[SG]at h;obtain⟨rfl,rfl⟩:=h;refine⟨φ,goInt 0,w,?_,.int _ _,hQ.refl g b⟩;simp[yW,O,dC u,o,lR k,f1]|sl id N len A e=>
 obtain rfl:c=len:=by grind[nv]
 cases x with|sl _ _ _ _ _ p X jT M jX ht xX ho hr he oH=>
 have t:min a c=n:=K.symm;simp only[SG,bE]at h;by_cases i:n=0
 . simp[i]at h;obtain⟨rfl,rfl⟩:=h;refine⟨φ,goInt n,w,?_,by rw[i];exact .int _ _,hQ.refl g b⟩;have E:y=#[]:=by
    have Y:y.size=0:=by have:=f2.1;grind
    grind
   subst E;simp[yW,O,dC u,o,lR k,t,f1,storeCells]
 .simp only[i,kM,bS,ja]at h;obtain⟨U,B,I⟩:=h;obtain⟨rfl,rfl⟩:=il I;have Q:=hr ab;subst Q;obtain⟨T,g1,g2,g3,g4⟩:=MR (P:=P) g b M (f _) B f2 f3;refine⟨φ,goInt n,T,?_,.int _ _,g2,g3.up (λr _=>f r),g4⟩;simp_all[yW,dC,lR]
 |_=>simp[nv]at F
theorem adl{f:aC->aC->Sem aC}{g:AV->AV->ah AV}(a:∀{x y r:AV}{u v:aC},g x y=J r->VR φ x u->VR φ y v->oV P φ (f u v) r):∀(l:aJ)(s:List aC)(x r:AV)(u:aC),nL g l x=J r->ba φ l s->VR φ x u->oV P φ (s.foldlM f u) r:=by intro l;induction l with|nil=>intro s x r u h b c;obtain rfl:=b.rG;rw[Hu]at h;simp at h;subst h;exact⟨u,λw=>by rfl,c⟩|cons y l n=>
 intro s x r u h b c;obtain⟨v,t,rfl,k,j⟩:=b.cons_inv;rw[Ht]at h;rcases d:g x y with _|m;.grind
 simp only[d,cQ]at h;obtain⟨o,q,e⟩:=a d c k;obtain⟨p,z,i⟩:=n t m r o h j e;exact⟨p,λw=>aT,i⟩
theorem az9{y:AV}{u:aC}(h:(match x,y with|.int k a,.int _ b=>J (AV.int k (bif aA a b then b else a))|_,_=>Z)=J r)(c:VR φ x u)(d:VR φ y v):oV P φ (Builtin.max2 u v) r:=by cases x<;>cases y<;>simp at h;subst h;cases c;cases d;rename_i k a e b;refine⟨_,λw=>by rfl,?_⟩;rw[Iz];by_cases H:a<b<;>simp[H]<;>exact .int _ _
theorem aAd{y:AV}{u:aC}(h:(match x,y with|.int k a,.int _ b=>J (AV.int k (bif aA b a then b else a))|_,_=>Z)=J r)(c:VR φ x u)(d:VR φ y v):oV P φ (Builtin.min2 u v) r:=by cases x<;>cases y<;>simp at h;subst h;cases c;cases d;rename_i k a e b;refine⟨_,λw=>by rfl,?_⟩;rw[Iz];by_cases H:b<a<;>simp[H]<;>exact .int _ _
theorem ani{r s:an}{d:TypeDesc}{k a:fN}{n:Int}(c:P.underlying r=J d)(b:P.underlying s=J (.int k))(h:VR φ (.int a n) v):oV P φ (convert r s v) (.int k (dI k n)):=by cases h;exact⟨.int k (k.wrap n),λw=>by simp_all[convert,dC,Conv.intToInt],by rw[BY];exact .int _ _⟩
theorem asG{b I n:Nat}{cs:Array aC}(h:w.heap[b]?=J (.cells cs e (0,0)))(a:n≠0):w.freeze ⟨b,I,Z⟩ n=World.eU w b (.cells cs e (I,I+n)):=by have c:b<w.heap.size:=(Array.getElem?_eq_some_iff.1 h).1;unfold World.freeze World.eU;rw[if_neg a];congr 1;grind
theorem anj(G:bg H)(L:bM S φ H w){o t:an}{d:TypeDesc}{s:aD}(B:P.underlying o=J d)(y:P.underlying t=J (.slice e))(O:P.underlying e=J (.int .u8))(g:VR φ (.str s) v):dz P S φ H w (convert o t v) (.sl H.next 0 (eM s) Z 1) (H.cP (ym (λ(b:Nat)=>AV.int .u8 (.ofNat b)) s) .ro e):=by cases g with|str _ b D=>
 have F:b.size=s.length:=MJ D;obtain⟨p,W⟩:∃p,p=(Question.appendCap b.size 0 e).cut (w.tape w.drawn (.appendCap b.size 0 e)):=⟨_,rfl⟩;have K:b.size<=p:=by grind[SI]
 obtain⟨f,Y⟩:∃f:Array aC,f=(b.data.map λb=>Value.int .u8 b.toNat)++Array.replicate (p-b.size) (.int .u8 0):=⟨_,rfl⟩;have z:f.size=p:=by grind
 have u:ba φ (ym (λ(b:Nat)=>AV.int .u8 (.ofNat b)) s) (b.data.map λb=>Value.int .u8 b.toNat).toList:=by
   rw[Ac,<-D];refine⟨aO,λi a v j g=>?_⟩;rw[Array.toList_map,jo]at g;rw[jo,jo]at j;rcases m:b.data.toList[i]? with _|c;.grind
   simp[m]at j;rw[m]at g;simp at g;subst j;subst g;exact .int _ _
 have N:(ym (λ(b:Nat)=>AV.int .u8 (.ofNat b)) s).length=s.length:=by simp[Ac]
 have M:=JJ G L.drew (.cells (ym (λ(b:Nat)=>AV.int .u8 (.ofNat b)) s) H.next .ro e) (.cells f e (f.size,f.size+1)) ⟨w.heap.size,0,p,s.length⟩ rfl (λl r R Q h=>ai) (by
    refine⟨f,(f.size,f.size+1),_,wX w.drew _,z,?_,?_,?_,λh=>absurd rfl h,λh=>ai⟩;.grind
    .intro i a j;obtain⟨v,q,E⟩:=u.get j;grind
    .intro x m;rw[Ac]at m;obtain⟨c,_,rfl⟩:=List.mem_map.1 m;rfl);refine⟨_,.slice (J ⟨w.heap.size,0,Z⟩) b.size p,World.push w.drew (.cells f e (f.size,f.size+1)),?_,?_,hQ.drew M⟩
 . have A:(w.drew.alloc (.cells f e)).shape? w.heap.size=J (e,f.size):=YU (w:=World.push w.drew (.cells f e)) (wX w.drew _);have T:(w.drew.alloc (.cells f e)).freeze ⟨w.heap.size,f.size,Z⟩ 1=World.push w.drew (.cells f e (f.size,f.size+1)):=by
    have q:=asG (w:=World.push w.drew (.cells f e)) (b:=w.heap.size) (I:=f.size) (n:=1) (cs:=f) (e:=e) (wX w.drew _) ab;have E:World.eU (World.push w.drew (.cells f e)) w.heap.size (.cells f e (f.size,f.size+1))=World.push w.drew (.cells f e (f.size,f.size+1)):=by have y:w.drew.heap=w.heap:=rfl;unfold World.eU World.push;simp only[y];congr 1;grind
    exact q.trans E
   simp[convert,dC B,dC y,dC O,Conv.stringToBytes,newRow,newObj,markStringish,shape,Sem.run,Question.forced,<-W,<-Y,A,freeze];omega
 .have q:fp φ H.next ⟨w.heap.size,0,p,s.length⟩ H.next=J ⟨w.heap.size,0,p,s.length⟩:=jD _ _ _;rw[F,dS];refine .sl H.next 0 s.length Z 1 _ _ p q ab ?_ (λk U=>ai) (λ_=>?_) (λ_=>rfl) ab ?_<;>grind
theorem ZD{a:AV}{c:Array aC}(h:ba φ [a] c.toList):∃u,c=#[u]/\VR φ a u:=by obtain⟨u,t,d,e,b⟩:=h.cons_inv;have:=b.rG;grind
theorem ZE{a b:AV}{c:Array aC}(h:ba φ [a,b] c.toList):∃u v,c=#[u,v]/\VR φ a u/\VR φ b v:=by obtain⟨u,t,f,g,d⟩:=h.cons_inv;obtain⟨v,k,i,j,e⟩:=d.cons_inv;have:=e.rG;grind
def DQ(a:bc)(r:AV):Next->Prop|.value v=>VR a r v|.skip=>r=fo|_=>False
def aC1:Next->aC|.value v=>v|_=>undef
theorem DQ.val{n:Next}(h:DQ φ r n):VR φ r (aC1 n):=by
 cases n<;>simp only[DQ]at h;.exact h
 .subst h;exact ba.cM (ba.nil φ) #[] rfl
def sT(P:aG)(S:Nat->Prop)(d:bc)(H:Heap)(w:aW)(s:Sem Next)(r:AV)(c:Heap):Prop:=∃b n a,s.run P w=.ok n a/\DQ b r n/\hQ S d H w b c a
theorem dz.next(h:dz P S φ H w s r H'):sT P S φ H w (do pure (.value (<-s))) r H':=by obtain⟨d,v,c,e,a,b⟩:=h;exact⟨d,.value v,c,aT,a,b⟩
theorem aaG{c d:Type}{x:ah c}{f:c->ah d}{b:d}(h:x.bind f=J b):∃a,x=J a/\f a=J b:=by cases x<;>simp_all
theorem al0(p:bg H)(q:bM S φ H w)(m:∀r,S r){t:an}{a:aJ}{c:Array aC}(h:im P H .append ats a=J (r,H'))(b:ba φ a c.toList):dz P S φ H w (sP ats t c) r H':=by match a,h,b with
 |[s,x],h,b=>
 obtain⟨u,v,rfl,y,A⟩:=ZE b;simp only[im]at h;split at h
 . rename_i elem l;split at h
   . rename_i i N;rcases g:lV P elem with _|z;.grind
     simp only[g,cQ,bE,dS]at h;by_cases j:z.length=i.size
     . simp only[j,dM,aR]at h;split at h;.rename_i k e;split at h<;>grind[akQ]
       . rename_i d B e;rcases f:qA x with _|n;.grind
         simp only[f,cQ]at h;cases o:qo H i.size n x<;>grind[akN]
       grind
     grind
   grind
 grind
theorem al3(m:bg H)(o:bM S φ H w)(l:∀r,S r){t:an}{g:aJ}{c:Array aC}(h:im P H .copy ats g=J (r,H'))(b:ba φ g c.toList):dz P S φ H w (yW ats t c) r H':=by match g,h,b with
 |[d,s],h,b=>
 obtain⟨u,v,rfl,hd,p⟩:=ZE b;simp only[im]at h;split at h
 . rename_i elem k;rcases z:aZ P elem with _|e;.grind
   rcases f:qA s with _|a;.grind
   rcases i:nv d with _|n;.grind
   simp only[z,f,i,cQ]at h;rcases j:qo H e (Nat.min a n) s with _|cells;.grind
   simp only[j,cQ]at h;exact anl m o l k z f i rfl j hd p (by cases d<;>exact h)
 grind
theorem al5(j:bg H)(s:bM S φ H w){y:an}{g:aJ}{c:Array aC}(i:∀m o,g=[.map m]->H.jL m=J o->S (rootOf H m))(h:im P H .len ats g=J (r,H'))(l:ba φ g c.toList):dz P S φ H w (Builtin.len_ ats y c) r H':=by match g,h,l,i with
 |[x],h,l,i=>
 obtain⟨v,rfl,q⟩:=ZD l;simp only[im]at h;split at h;.rename_i n e b;obtain⟨t,d,f⟩:=uI b;simp at h;obtain⟨rfl,rfl⟩:=h;exact dz.read j s (v:=goInt n) (by simp_all[Builtin.len_,dC]) (.int _ _)
 . rename_i a b;obtain⟨t,d,f⟩:=uI b;split at h;.rename_i n e A;simp at h;obtain⟨rfl,rfl⟩:=h;exact dz.read j s (v:=goInt n) (by simp_all[Builtin.len_,dC]) (.int _ _)
   grind
 .grind[dz.vy,azf]
 .rename_i e b;obtain⟨t,d,f⟩:=uI b;cases F:nv x<;>grind[dz.vy,aze]
 . rename_i G I b;obtain⟨t,d,f⟩:=uI b;split at h;.simp at h;obtain⟨rfl,rfl⟩:=h;cases q;exact dz.read j s (v:=goInt 0) (by simp_all[Builtin.len_,dC]) (.int _ _)
   . rename_i m;rcases k:H.jL m with _|o;.grind
     simp[k]at h;obtain⟨rfl,rfl⟩:=h;obtain⟨es,B⟩:=o;cases q with|map _ p z=>obtain⟨u,D,E⟩:=azb (P:=P) (ty:=y) s d f z (i m _ rfl k) (sD k);grind[dz.read]
   grind
 grind
theorem al1(i:bg H)(s:bM S φ H w){t:an}{a:aJ}{c:Array aC}(h:im P H .cap ats a=J (r,H'))(b:ba φ a c.toList):dz P S φ H w (Builtin.cap_ ats t c) r H':=by match a,h,b with|[x],h,b=>obtain⟨v,rfl,d⟩:=ZD b;simp only[im]at h;grind[dz.vy,amx,amy]
theorem al6(p:bg H)(s:bM S φ H w){l:an}{a:aJ}{c:Array aC}(h:im P H .max ats a=J (r,H'))(b:ba φ a c.toList):dz P S φ H w (Builtin.max_ ats l c) r H':=by match a,h,b with|x::rest,h,b=>obtain⟨u,t,q,i,U⟩:=b.cons_inv;simp only[im,ja]at h;obtain⟨m,e,d⟩:=h;obtain⟨rfl,rfl⟩:=il d;have:=adl (P:=P) (φ:=φ) (f:=Builtin.max2) (λ{x y r u v}g j k=>az9 g j k) rest t x m u e U i;obtain⟨z,n,o⟩:=this;simp_all[dz.read,Builtin.max_]
theorem aaV(p:bg H)(s:bM S φ H w){l:an}{a:aJ}{c:Array aC}(h:im P H .min ats a=J (r,H'))(b:ba φ a c.toList):dz P S φ H w (Builtin.min_ ats l c) r H':=by match a,h,b with|x::rest,h,b=>obtain⟨u,t,q,i,U⟩:=b.cons_inv;simp only[im,ja]at h;obtain⟨m,e,d⟩:=h;obtain⟨rfl,rfl⟩:=il d;have:=adl (P:=P) (φ:=φ) (f:=Builtin.min2) (λ{x y r u v}g j k=>aAd g j k) rest t x m u e U i;obtain⟨z,n,o⟩:=this;simp_all[dz.read,Builtin.min_]
theorem al2(i:bg H)(s:bM S φ H w)(f:∀r,S r){D:an}{g:aJ}{c:Array aC}(h:im P H .clear ats g=J (r,H'))(o:ba φ g c.toList):dz P S φ H w (Builtin.clear_ ats D c) r H':=by match g,h,o with
 |[x],h,o=>
 obtain⟨v,rfl,e⟩:=ZD o;simp only[im]at h;split at h;.rename_i d b;obtain⟨t,j,u⟩:=uI b;simp at h;obtain⟨rfl,rfl⟩:=h;cases e;exact dz.read i s (v:=.tuple #[]) (by simp_all[Builtin.clear_,dC]) (ba.cM (ba.nil φ) #[] rfl)
 .rename_i d b;obtain⟨t,j,u⟩:=uI b;simp at h;obtain⟨rfl,rfl⟩:=h;cases e;exact dz.read i s (v:=.tuple #[]) (by simp_all[Builtin.clear_,dC]) (ba.cM (ba.nil φ) #[] rfl)
 . rename_i d m b;obtain⟨t,j,u⟩:=uI b;rcases y:H.jL m with _|U;.grind
   simp[y]at h;obtain⟨rfl,rfl⟩:=h;obtain⟨es,ck⟩:=U;cases e with|map _ p l=>obtain⟨q,K,L,M,N⟩:=amV (P:=P) (ty:=D) i s j u l (f _) (sD y);exact⟨φ,.tuple #[],q,K,ba.cM (ba.nil φ) #[] rfl,L,M.up (λx _=>f x),N⟩
 . rename_i elem id W n G k b;obtain⟨t,j,u⟩:=uI b;rw[bE]at h;by_cases A:n=0;.subst A;simp at h;obtain⟨rfl,rfl⟩:=h;cases e;exact dz.read i s (v:=.tuple #[]) (by simp_all[Builtin.clear_,dC]) (ba.cM (ba.nil φ) #[] rfl)
   . simp only[A,kM,bS]at h;obtain⟨z,B,h⟩:=aaG h;rw[bE,dS]at h;by_cases T:z.length=k;.simp only[T,dM,aR,ja]at h;obtain⟨H1,I,R⟩:=h;obtain⟨rfl,rfl⟩:=il R;unfold lV at B;obtain⟨a,O,Q⟩:=aaG B;obtain⟨zv,z1,Y⟩:=FO (φ:=φ) O w;obtain⟨E,F⟩:=Y.cells Q;cases e with|sl _ _ _ _ _ p gT jT l hl EG xX ho hr he oH=>have X:=hr ab;subst X;obtain⟨q,g1,g2,g3,g4⟩:=MR (P:=P) i s l (f _) I (ajp E n) (QG F n);refine⟨φ,.tuple #[],q,?_,ba.cM (ba.nil φ) #[] rfl,g2,g3.up (λx _=>f x),g4⟩;simp_all[Builtin.clear_,dC]
     grind
 grind
theorem al4(y:bg H)(B:bM S φ H w)(j:∀r,S r){E:an}{a:aJ}{c:Array aC}(h:im P H .delete ats a=J (r,H'))(n:ba φ a c.toList):dz P S φ H w (Builtin.delete_ ats E c) r H':=by match a,h,n with
 |[m,k],h,n=>
 obtain⟨u,v,rfl,A,z⟩:=ZE n;simp only[im]at h;split at h
 . rename_i O U G;obtain⟨t,L,M⟩:=uI G;rcases l:pW P O k with _|_;.grind
   simp only[l,aR]at h;split at h;.simp at h;obtain⟨rfl,rfl⟩:=h;cases A;have W:=λe=>Lt (P:=P) (empty:=e) l z w;exact dz.read y B (v:=.tuple #[]) (by simp_all[Builtin.delete_,dC]) (ba.cM (ba.nil φ) #[] rfl)
   . rename_i Q;rcases D:H.jL Q with _|R;.grind
     obtain⟨es,T⟩:=R;simp only[D,cQ,ja]at h;obtain⟨q,K,b⟩:=h;cases A with|map _ p I=>
     obtain⟨F,o,s⟩:=anE (P:=P) (ty:=E) y B L M I (j _) (sD D) z l K;rcases q with _|N;.simp at b;obtain⟨rfl,rfl⟩:=b;obtain⟨d,f,g⟩:=s es rfl;exact⟨φ,.tuple #[],F,o,ba.cM (ba.nil φ) #[] rfl,d,f.up (λx _=>j x),g⟩
     obtain⟨i,e⟩:=N;simp at b;obtain⟨rfl,rfl⟩:=b;obtain⟨d,f,g⟩:=s _ rfl;exact⟨φ,.tuple #[],F,o,ba.cM (ba.nil φ) #[] rfl,d,f.up (λx _=>j x),g⟩
   grind
 grind
theorem alZ(i:bg H)(s:bM S φ H w){b:Builtin}{ty:an}{cs:Array Bool}{a:aJ}{c:Array aC}(d:(∀r,S r)\/(b=.len/\∀m o,a=[.map m]->H.jL m=J o->S (rootOf H m))\/b=.cap)(h:im P H b ats a=J (r,H'))(v:ba φ a c.toList):sT P S φ H w (builtin b ats ty cs c) r H':=by cases b<;>simp only[builtin]<;>first|exact(al0 i s (by rcases d with h|⟨h,_⟩|h<;>first|exact h|cases h) h v).next|exact(al3 i s (by rcases d with h|⟨h,_⟩|h<;>first|exact h|cases h) h v).next|exact(x i s (by rcases d with h|⟨h,_⟩|h<;>first|exact h|cases h) h v).next|exact(al2 i s (by rcases d with h|⟨h,_⟩|h<;>first|exact h|cases h) h v).next|exact(al4 i s (by rcases d with h|⟨h,_⟩|h<;>first|exact h|cases h) h v).next|exact(al5 i s (by rcases d with h|⟨_,h⟩|h<;>first|exactλm o _ _=>h _|exact h|cases h) h v).next|exact(al1 i s h v).next|exact(L i s h v).next|exact(al6 i s h v).next|exact(aaV i s h v).next|exact(aaV i s h v).next|(exfalso;simp[im]at h)
end
end Go.AM
namespace Go.AM
open Go
variable{r:AV}{H':Heap}{a x:aK}{t:an}
def Jv(P:aG)(S:Nat->Prop)(m:Tr AV)(H:Heap)(o:aB):Prop:=nY o.op=V\/(match eA P m H o with|none=>∀r,S r|some l=>∀t,t∈l->S t.2)
section
variable{P:aG}{S:Nat->Prop}{φ:bc}{H:Heap}{w:aW}{tm:Tr AV}{ρ:aK->aC}
theorem ml{v:ah AV}(h:eZ H v=J (.val r H')):v=J r/\H=H':=by cases v<;>grind[eZ]
theorem bM.grow{n:Nat}(s:bM S φ H w)(i:bg H)(h:H.next<=n):bM (AM.more S n) φ H w:=⟨s.stat,λid p o b a c d=>s.obj id p o b (by
 rcases a with a|a;.omega
 .have:=qG i (s.stat.lt i b);omega) c d⟩
theorem aJx{i o:Nat}{v:aJ}(h:H.store i o v=J H'):H'.next=H.next:=by grind[Heap.store,wS]
theorem aJs{i o:Nat}{v:AV}(h:AM.storeVar P H t i o v=J H'):H'.next=H.next:=by
 unfold AM.storeVar at h;rcases z:aZ P t with _|n;.grind
 cases c:v.cells<;>grind[aJx]
theorem aif{c d:Type}{f:c->Sem d}:∀(l:List c)(r:List d),l.length=r.length->(∀(i:Nat)(a:c)(b:d),l[i]?=J a->r[i]?=J b->(f a).run P w=.ok b w)->(l.mapM f).run P w=.ok r w:=by intro l;induction l with|nil=>intro r h _;cases r<;>simp_all|cons a l g=>
 intro r h e;rcases r with _|⟨b,r⟩;.grind
 rw[List.mapM_cons,Sem.run_bind,e 0 a b rfl rfl];simp only[Result.andThen_ok];rw[Sem.run_bind,g r ai (λi a b j k=>e (i+1) a b ai ai)];rfl
theorem ah1{i r:Nat}(h:sK H i=J r):rootOf H i=r:=by grind[sK,pY]
theorem oV.next(i:bg H)(a:bM S φ H w){s:Sem aC}(h:oV P φ s r):sT P S φ H w (do pure (.value (<-s))) r H:=(dz.vy i a h).next
theorem sT.here(i:bg H)(s:bM S φ H w){v:aC}(h:VR φ r v):sT P S φ H w (pure (.value v)) r H:=⟨φ,.value v,w,by rfl,h,hQ.refl i s⟩
theorem aF{c d:Type}{x:ah c}{f:c->ah d}{b:d}(h:x.bind f=J b):∃a,x=J a/\f a=J b:=by cases x<;>simp_all
section one
variable(hi:bg H)(hs:bM S φ H w)(hg:iP P φ)(hr:Reads ρ)
include hi hs hg hr
theorem acL(o:fj φ tm ρ x)(h:DF P tm H x=J (.val r H')):sT P S φ H w (pure (.value (ρ x))) r H':=by unfold DF at h;obtain⟨a,rfl⟩:=ml h;grind[sT.here,fE]
theorem aqJ{e:an}(o:fj φ tm ρ x)(h:Gg P tm H e x=J (.val r H')):dz P S φ H w (Instr.box e (ρ x)) r H':=by unfold Gg at h;obtain⟨v,d,h⟩:=aF h;simp only[ja]at h;obtain⟨s,u,c⟩:=h;obtain⟨rfl,rfl⟩:=fh.val.inj c;obtain⟨a,b⟩:=(fE hg hr o d).1.cells u;obtain⟨p,f,g,i,j,k,p6⟩:=P7 (P:=P) hi hs s .ex e _ a b;refine⟨_,.pointer (J ⟨p.aY,0,Z⟩),_,by simp_all[Instr.box,newVar],?_,p6⟩;have:=VR.ptr (φ:=fp φ H.next p) H.next 0 p (jD _ _ _);grind
omit hg hr in theorem aqH{e:an}(h:Ge P tm H e=J (.val r H')):dz P S φ H w (Instr.alloc e V (.tuple #[])) r H':=by unfold Ge at h;simp only[ja]at h;obtain⟨z,b,i⟩:=h;obtain⟨rfl,rfl⟩:=fh.val.inj i;have U:=b;unfold lV at b;obtain⟨a,f,g⟩:=aF b;obtain⟨v,q,j⟩:=FO (φ:=φ) f w;obtain⟨c,d⟩:=j.cells g;obtain⟨p,k,l,m,n,o,p6⟩:=P7 (P:=P) hi hs z .ex e _ c d;refine⟨_,.pointer (J ⟨p.aY,0,Z⟩),_,by simp_all[Instr.alloc,newVar],?_,p6⟩;have:=VR.ptr (φ:=fp φ H.next p) H.next 0 p (jD _ _ _);grind
theorem aqU(c:fj φ tm ρ a)(f:∀id o,bB P tm a=J (.ptr id o)->S (rootOf H id))(h:Gk P tm H t a=J (.val r H')):dz P S φ H w (Instr.loadAt t (ρ a)) r H':=by
 unfold Gk at h;split at h;.rename_i id o b;obtain⟨e,rfl⟩:=ml h;have v:=(fE hg hr c b).1;generalize ρ a=d at v;cases v<;>grind[afM,dz.read,Instr.loadAt,Instr.sureAddr]
 grind
theorem aq5(i:fj φ tm ρ a)(m:fj φ tm ρ x)(f:∀id o,bB P tm a=J (.ptr id o)->S (rootOf H id))(h:DH P tm H t a x=J (.val r H')):sT P S φ H w (do Instr.storeAt t (ρ a) (ρ x);pure .skip) r H':=by
 unfold DH at h;split at h;.rename_i id o c;obtain⟨v,k,h⟩:=aF h;simp only[ja]at h;obtain⟨s,b,g⟩:=h;obtain⟨rfl,rfl⟩:=fh.val.inj g;have d:=(fE hg hr i c).1;generalize ρ a=u at d;cases d with|ptr _ _ p j=>obtain⟨q,y,e,l,n⟩:=aJt (P:=P) hi hs j (f _ _ c) b (fE hg hr m k).1;exact⟨φ,.skip,q,by simp_all[Instr.storeAt,Instr.sureAddr],rfl,e,l.grow e (Nat.le_of_eq (aJs b)),n⟩
 grind
theorem aq2{c b:aK}(e:fj φ tm ρ c)(g:fj φ tm ρ a)(i:fj φ tm ρ b)(h:B2 P tm H c a b=J (.val r H')):sT P S φ H w (do pure (.value (if<-asBool (ρ c)then ρ a else ρ b))) r H':=by
 unfold B2 at h;split at h;.rename_i G;have v:=(fE hg hr e G).1;generalize ρ c=f at v;cases v;obtain⟨d,rfl⟩:=ml h;exact⟨φ,.value (ρ a),w,by rfl,(fE hg hr g d).1,hQ.refl hi hs⟩
 .rename_i G;have v:=(fE hg hr e G).1;generalize ρ c=f at v;cases v;obtain⟨d,rfl⟩:=ml h;exact⟨φ,.value (ρ b),w,by rfl,(fE hg hr i d).1,hQ.refl hi hs⟩
 grind
theorem Ma{l:List (Nat×aK)}:∀{s:List (Nat×AV)},(∀x,x∈l->fj φ tm ρ x.2)->cu (λ(p:Nat×aK)=>(bB P tm p.2).map λv=>(p.1,v)) l=J s->s.length=(l.map λp=>(p.1,ρ p.2)).length/\∀(i:Nat)(p:Nat×AV)(q:Nat×aC),s[i]?=J p->(l.map λp=>(p.1,ρ p.2))[i]?=J q->p.1=q.1/\VR φ p.2 q.2:=by grind[E3,ja,fE]
theorem aqK{s:Array (Nat×aK)}(ho:∀x,x∈s.toList->fj φ tm ρ x.2)(h:DB P tm H t s=J (.val r H')):dz P S φ H w (Instr.build t (s.map λ(i,x)=>(i,ρ x))) r H':=by
 unfold DB at h;obtain⟨z,F,h⟩:=aF h;obtain⟨K,jv,h⟩:=aF h;obtain⟨L,M⟩:=Ma hi hs hg hr ho jv;unfold lV at F;obtain⟨a,T,X⟩:=aF F;obtain⟨O,N,z2⟩:=FO (φ:=φ) T w;obtain⟨y,A⟩:=z2.cells X;have Q:(s.map λ(i,x)=>(i,ρ x)).toList=s.toList.map λp=>(p.1,ρ p.2):=aO;split at h
 . rename_i e m;obtain⟨l,U,h⟩:=aF h;obtain⟨j,rfl⟩:=ml h;simp only[ja]at j;obtain⟨cells,k,rfl⟩:=j;obtain⟨o,q⟩:=E3 U;have u:(e.mapM λg=>(do pure (g.offset,<-sizeOf g.type):Sem (Nat×Nat))).run P w=.ok l.toArray w:=by have D:=aif (P:=P) (w:=w) (f:=λ(g:Field)=>(do pure (g.offset,<-sizeOf g.type):Sem (Nat×Nat))) e.toList l o (λi g b k W=>by obtain⟨c,G,I⟩:=q i g k;rw[W]at I;cases I;simp only[ja]at G;obtain⟨n,Y,rfl⟩:=G;simp[lR Y]);simp only[bind_pure_comp]at D;rw[Array.mapM_eq_mapM_toList];simp[D]
   simp only[bind_pure_comp]at u;obtain⟨d,d1,d2,d3,d4⟩:=Te (λi=>oM l i) (l[.]?) K (s.toList.map λp=>(p.1,ρ p.2)) z O.cells cells (λi x E=>by grind[wT]) L M y A k;refine dz.read hi hs (v:=.agg d) ?_ (d2.agg d3 d rfl);simp[Instr.build,N,dC m,u,d1]
 .rename_i n B m;obtain⟨sz,R,h⟩:=aF h;obtain⟨j,rfl⟩:=ml h;simp only[ja]at j;obtain⟨cells,k,rfl⟩:=j;obtain⟨d,d1,d2,d3,d4⟩:=Te (λi=>J (iR i sz,sz)) (λi=>J (i*sz,sz)) K (s.toList.map λp=>(p.1,ρ p.2)) z O.cells cells (λi x E=>E) L M y A k;refine dz.read hi hs (v:=.agg d) ?_ (d2.agg d3 d rfl);simp[Instr.build,N,dC m,lR R,d1]
 grind
theorem ajq{z:aJ}{c:Array aC}(d:ba φ z c.toList)(n:Nat):ba φ (jA n z) ((Array.range (n*z.length)).map (c[.%c.size]!)).toList:=by
 have l:z.length=c.size:=by simpa using d.1
 refine⟨by simp[FJ],λi a v b h=>?_⟩;have hi:i<n*z.length:=by grind
 rw[YG n z i hi]at b;have S:0<c.size:=by grind
 simp only[Array.toList_map,jo,Array.toList_range]at h;rw[DN hi]at h;simp only[gF,xw]at h;have m:i%c.size<c.size:=Nat.mod_lt _ S;rw[getElem!_pos c _ m]at h;refine d.2 (i%z.length) a v b ?_;grind
theorem aqL{l:Nat}{s:Array (Nat×aK)}(L:∀x,x∈s.toList->fj φ tm ρ x.2)(h:Gh P tm H t l s=J (.val r H')):dz P S φ H w (Instr.buildSlice t l (s.map λ(i,x)=>(i,ρ x))) r H':=by
 unfold Gh at h;split at h
 . rename_i m O;obtain⟨n,K,h⟩:=aF h;rw[bE,dg]at h;by_cases g:n=0\/¬l*n<=16777216;.grind
   . have U:n≠0:=λe=>g (.inl e);have I:l*n<=16777216:=Decidable.not_not.1 λe=>g (.inr e);have:(decide (n=0)||!decide (iR l n<=16777216))=C:=by grind
     rw[this]at h;simp only[bS]at h;obtain⟨W,R,h⟩:=aF h;obtain⟨X,Y⟩:=Ma hi hs hg hr L R;obtain⟨z,b,h⟩:=aF h;have q:(s.map λ(i,x)=>(i,ρ x)).toList=s.toList.map λp=>(p.1,ρ p.2):=aO;have y:∃(c:Array aC)(f:Array aC),((l*n=0->c=#[])/\(l*n≠0->∃v,(zeroValue m).run P w=.ok v w/\v.cells=c))/\f=(Array.range (l*n)).map (c[.%c.size]!)/\ba φ (jA l z) f.toList/\(∀x,x∈jA l z->x.aV=V)/\(l=0\/z.length=n):=by
       by_cases G:l=0;.subst G;simp[ba.nil,QF]
       . rw[bE,xK G]at b;simp only[bS]at b;have Uu:=b;unfold lV at b;obtain⟨a,A,qp⟩:=aF b;obtain⟨v,z1,z2⟩:=FO (φ:=φ) A w;obtain⟨c1,u⟩:=z2.cells qp;rw[bE,bE,dS,xK G]at h;have T:z.length=n:=by grind
         have B:¬l*n=0:=λe=>(Nat.mul_eq_zero.1 e).elim G U;refine⟨v.cells,_,⟨λe=>absurd e B,λ_=>⟨v,z1,rfl⟩⟩,rfl,?_,QG u l,.inr T⟩;grind[ajq]
     obtain⟨c,f,k1,k2,k3,k4,k5⟩:=y;have E:(!(aw l 0||aw (eM z) n))=C:=by grind
     rw[E]at h;simp only[bS,ja]at h;obtain⟨cells,D,F⟩:=h;obtain⟨rfl,rfl⟩:=fh.val.inj F;obtain⟨d,d1,d2,d3,d4⟩:=Te (λi=>J (iR i n,n)) (λi=>J (i*n,n)) W (s.toList.map λp=>(p.1,ρ p.2)) (jA l z) f cells (λi x Q=>Q) X Y k3 k4 D;obtain⟨p,p1,p2,p3,o,p5,p6⟩:=P7 (P:=P) hi hs cells .ex m d d2 d3;have HI:d.size=l*n:=by have h1:=d2.1;have h2:=k3.1;grind
     refine⟨_,.slice (J ⟨p.aY,0,Z⟩) l l,_,?_,?_,p6⟩;.have M:¬(2^24<l*n):=ab;rw[k2]at d1;unfold Instr.buildSlice;simp only[dC O,Sem.run_bind,Result.andThen_ok,lR K];grind[Sem.run_bind,Sem.run_pure,Result.andThen_ok]
     . have N:fp φ H.next p H.next=J p:=jD _ _ _;refine .sl H.next 0 l (J l) n p _ l N (bJ _) ab (λk j=>?_) (λj=>ai) (λ_=>ai) (Nat.pos_of_ne_zero U) ?_;.cases j;refine⟨rfl,?_⟩;rw[o];have:=d2.1;grind
       .rw[o];have:=d2.1;grind
 grind
end one
end
end Go.AM
namespace Go.VM
open Go Go.AM
abbrev aX:=Nat->ah (aJ×an)
abbrev ch:=Nat->ah Nat
inductive DR(K:aX)(φ:ch):DV->AV->Prop where|bool(b:Bool):DR K φ (.bool b) (.bool b)|int(k:fN)(n:Int):DR K φ (.int k n) (.int k n)|str(s:List Nat):DR K φ (.str s) (.str s)|nl:DR K φ .nl .bC|ay(l:List DV)(e:an)(esz id off:Nat)(c:Option Nat)(cells:List AV)(h:K id=J (cells,e))(he:0<esz)(hb:off+l.length*esz<=cells.length)(hc:∀k,c=J k->l.length<=k)(hl:∀(i:Nat)(x:DV),l[i]?=J x->x.flat.length=esz/\∀y,y∈x.flat->y.aV=V)(g:∀(i:Nat)(x:DV)(j:Nat)(d:DV)(a:AV),l[i]?=J x->x.flat[j]?=J d->cells[off+i*esz+j]?=J a->DR K φ d a):DR K φ (.ay l e esz) (.sl id off l.length c esz)|ptr(id off i:Nat)(h:φ id=J i):DR K φ (.ptr id off) (.ptr i off)|eN:DR K φ .eN .eN|map(r i:Nat)(h:φ r=J i):DR K φ (.map r) (.map i)|fR:DR K φ .fR .fR|func(f:bV)(l1 l2:List DV)(m1 m2:List AV)(h1:l1.length=m1.length)(h2:l2.length=m2.length)(g1:∀(i:Nat)(d:DV)(a:AV),l1[i]?=J d->m1[i]?=J a->DR K φ d a)(g2:∀(i:Nat)(d:DV)(a:AV),l2[i]?=J d->m2[i]?=J a->DR K φ d a):DR K φ (.func f l1 l2) (.func f m1 m2)|dT(l i:Nat)(h:φ l=J i):DR K φ (.dT l) (.yield i)|cV(id off len:Nat)(e:an)(esz i:Nat)(c:Option Nat)(h:φ id=J i)(hc:∀k,c=J k->len<=k):DR K φ (.cV id off len e esz) (.sl i off len c esz)|nilFunc:DR K φ .nilFunc .nilFunc|agg(l:List DV)(m:List AV)(h:l.length=m.length)(hs:∀d,d∈l->d.aV=V)(g:∀(i:Nat)(d:DV)(a:AV),l[i]?=J d->m[i]?=J a->DR K φ d a):DR K φ (.agg l) (.agg m)|jk(a:AV)(h:a.aV=V)(h2:a.cells=J [a]):DR K φ .jk a
def bG(K:aX)(b:ch)(l:aq)(m:aJ):Prop:=l.length=m.length/\∀(i:Nat)(d:DV)(a:AV),l[i]?=J d->m[i]?=J a->DR K b d a
def bo(K a:aX):Prop:=∀id x,K id=J x->a id=J x
def aU(a b:ch):Prop:=∀id x,a id=J x->b id=J x
theorem bo.refl(K:aX):bo K K:=λ_ _ h=>h
theorem aU.refl(a:ch):aU a a:=λ_ _ h=>h
theorem bo.trans{a b c:aX}(h:bo a b)(k:bo b c):bo a c:=λ_ _ e=>k _ _ (h _ _ e)
theorem aU.trans{a b c:ch}(h:aU a b)(k:aU b c):aU a c:=λ_ _ e=>k _ _ (h _ _ e)
section
variable{K K':aX}{φ ψ:ch}
theorem DR.mono(w:bo K K')(o:aU φ ψ){d:DV}{a:AV}(r:DR K φ d a):DR K' ψ d a:=by induction r with|bool b=>exact .bool b|int k n=>exact .int k n|str s=>exact .str s|nl=>exact .nl|ay l e z id p c cells h D A B E _ u=>exact .ay l e z id p c cells (w _ _ h) D A B E λi x j d a t q v=>u i x j d a t q v|ptr id p i h=>exact .ptr id p i (o _ _ h)|eN=>exact .eN|map r i h=>exact .map r i (o _ _ h)|fR=>exact .fR|func f l1 l2 I L t q _ _ G H=>exact .func f l1 l2 I L t q (λi d a x y=>G i d a x y) (λi d a x y=>H i d a x y)|dT l i h=>exact .dT l i (o _ _ h)|cV a b c d e i f h g=>exact .cV a b c d e i f (o _ _ h) g|nilFunc=>exact .nilFunc|agg l m h F _ u=>exact .agg l m h F λi d a x y=>u i d a x y|jk a h q=>exact .jk a h q
theorem bG.mono(b:bo K K')(h:aU φ ψ){l:aq}{m:aJ}(r:bG K φ l m):bG K' ψ l m:=⟨r.1,λi d a x y=>(r.2 i d a x y).mono b h⟩
theorem bG.nil:bG K φ [] []:=⟨rfl,λi d a h=>ai⟩
theorem bG.cons{d:DV}{a:AV}{l:aq}{m:aJ}(h:DR K φ d a)(t:bG K φ l m):bG K φ (d::l) (a::m):=by
 refine⟨by simp[t.1],λi x y b c=>?_⟩;rcases i with _|i;.grind
 exact t.2 i x y ai ai
theorem bG.cons_inv{d:DV}{l:aq}{m:aJ}(h:bG K φ (d::l) m):∃a t,m=a::t/\DR K φ d a/\bG K φ l t:=by
 rcases m with _|⟨a,t⟩;.have:=h.1;grind
 exact⟨a,t,rfl,h.2 0 d a rfl rfl,by have:=h.1;grind,λi x y b c=>h.2 (i+1) x y ai ai⟩
theorem bG.rG{m:aJ}(h:bG K φ [] m):m=[]:=by
 rcases m with _|⟨v,t⟩;.rfl
 have:=h.1;grind
theorem bG.append{l b:aq}{m c:aJ}(h:bG K φ l m)(k:bG K φ b c):bG K φ (l++b) (m++c):=by
 refine⟨by simp[h.1,k.1],λi d a x y=>?_⟩;by_cases e:i<l.length;.rw[mz e]at x;rw[mz (by rw[<-h.1];omega)]at y;exact h.2 i d a x y
 .rw[ov ab]at x;rw[ov (by rw[<-h.1];omega),<-h.1]at y;exact k.2 _ d a x y
theorem bG.take{l:aq}{m:aJ}(h:bG K φ l m)(n:Nat):bG K φ (l.take n) (m.take n):=by
 refine⟨by simp[h.1],λi d a x y=>?_⟩;by_cases b:i<n;.rw[v7 b]at x y;exact h.2 i d a x y
 grind
theorem bG.drop{l:aq}{m:aJ}(h:bG K φ l m)(n:Nat):bG K φ (l.drop n) (m.drop n):=by refine⟨by simp[h.1],λi d a x y=>?_⟩;rw[sS]at x y;exact h.2 _ d a x y
theorem bG.get{l:aq}{m:aJ}(h:bG K φ l m){i:Nat}{d:DV}(x:l[i]?=J d):∃a,m[i]?=J a/\DR K φ d a:=by
 obtain⟨b,_⟩:=List.getElem?_eq_some_iff.1 x;have c:i<m.length:=by rw[<-h.1];omega
 exact⟨m[i],dD c,h.2 i d _ x (dD c)⟩
theorem bG.Y1{l v:aq}{m w:aJ}(h:bG K φ l m)(k:bG K φ v w)(o:Nat):bG K φ (km l o v) (fL m o w):=by rw[Dt];unfold km;rw[<-k.1];exact((h.take o).append k).append (h.drop _)
theorem bG.mem{l:aq}{m:aJ}(h:bG K φ l m){a:AV}(c:a∈m):∃d,d∈l/\DR K φ d a:=by
 obtain⟨i,e⟩:=List.mem_iff_getElem?.1 c;have b:i<l.length:=by rw[h.1];grind
 exact⟨l[i],GA _,h.2 i _ a (dD b) e⟩
theorem DR.aV{d:DV}{a:AV}(h:DR K φ d a)(b:d.aV=V):a.aV=V:=by cases h<;>first|rfl|assumption|simp[DV.aV]at b
theorem DR.cells{d:DV}{a:AV}(h:DR K φ d a):∃m,a.cells=J m/\bG K φ d.flat m/\(∀x,x∈d.flat->x.aV=V):=by cases h with|agg l m h y g=>exact⟨m,rfl,⟨h,g⟩,y⟩|jk a q j=>exact⟨_,j,bG.cons (.jk a q j) bG.nil,by simp[DV.flat,DV.aV]⟩|bool b=>exact⟨_,rfl,bG.cons (.bool b) bG.nil,by simp[DV.flat,DV.aV]⟩|int k n=>exact⟨_,rfl,bG.cons (.int k n) bG.nil,by simp[DV.flat,DV.aV]⟩|str s=>exact⟨_,rfl,bG.cons (.str s) bG.nil,by simp[DV.flat,DV.aV]⟩|nl=>exact⟨_,rfl,bG.cons .nl bG.nil,by simp[DV.flat,DV.aV]⟩|ay l e z id o c cells h v t u w g=>exact⟨_,rfl,bG.cons (.ay l e z id o c cells h v t u w g) bG.nil,by simp[DV.flat,DV.aV]⟩|ptr id o i h=>exact⟨_,rfl,bG.cons (.ptr id o i h) bG.nil,by simp[DV.flat,DV.aV]⟩|eN=>exact⟨_,rfl,bG.cons .eN bG.nil,by simp[DV.flat,DV.aV]⟩|map r i h=>exact⟨_,rfl,bG.cons (.map r i h) bG.nil,by simp[DV.flat,DV.aV]⟩|fR=>exact⟨_,rfl,bG.cons .fR bG.nil,by simp[DV.flat,DV.aV]⟩|func f l1 l2 A B p j g1 g2=>exact⟨_,rfl,bG.cons (.func f l1 l2 A B p j g1 g2) bG.nil,by simp[DV.flat,DV.aV]⟩|dT l i h=>exact⟨_,rfl,bG.cons (.dT l i h) bG.nil,by simp[DV.flat,DV.aV]⟩|cV a b c d e i f h g=>exact⟨_,rfl,bG.cons (.cV a b c d e i f h g) bG.nil,by simp[DV.flat,DV.aV]⟩|nilFunc=>exact⟨_,rfl,bG.cons .nilFunc bG.nil,by simp[DV.flat,DV.aV]⟩
theorem bG.agg{l:aq}{m:aJ}(h:bG K φ l m)(s:∀d,d∈l->d.aV=V):DR K φ (.agg l) (.agg m):=.agg l m h.1 s h.2
theorem DR.xA{l:aq}{a:AV}(h:DR K φ (.agg l) a):∃m,a=.agg m/\bG K φ l m/\∀d,d∈l->d.aV=V:=by cases h with|agg l m h s g=>exact⟨m,rfl,⟨h,g⟩,s⟩
theorem aaw{a:AV}{d:DV}(h:NI a=J d):DR K φ d a/\d.aV=V:=by
 unfold NI at h;split at h<;>simp at h<;>subst h;.exact⟨.bool _,rfl⟩
 .exact⟨.int _ _,rfl⟩
 .exact⟨.str _,rfl⟩
 .exact⟨.eN,rfl⟩
 .exact⟨.nl,rfl⟩
 .exact⟨.fR,rfl⟩
 .exact⟨.nilFunc,rfl⟩
theorem aax:∀{l:aJ}{s:aq},AW l=J s->bG K φ s l/\∀d,d∈s->d.aV=V:=by intro l;induction l with|nil=>simp[AW,bG.nil]|cons a l i=>intro s h;unfold AW at h;obtain⟨d,hd,h⟩:=aF h;obtain⟨t,b,h⟩:=aF h;grind[aaw,bG.cons]
theorem Cd{a:AV}{d:DV}(h:AU a=J d):DR K φ d a:=by
 unfold AU at h;split at h
 . rename_i l;rcases m:AW l with _|s;.grind
   rw[m]at h;cases h;obtain⟨b,c⟩:=aax (K:=K) (φ:=φ) m;exact b.agg c
 grind[aaw]
end
section
variable{P:aG}{K:aX}{φ:ch}
theorem Vx{t:an}{c:aq}{m:aJ}{o:Nat}{d:DV}(h:kU P t c o=J d)(r:bG K φ c m)(s:∀x,x∈c->x.aV=V):∃a,pB P t m o=J a/\DR K φ d a:=by
 unfold kU at h;unfold pB;split at h
 . rename_i b;try rw[b]
   obtain⟨n,j,h⟩:=aF h;rw[dg]at h;by_cases f:o+n<=c.length
   . simp only[f,dM,aR]at h;cases h;refine⟨.agg ((m.drop o).take n),?_,((r.drop o).take n).agg λx k=>s x (RD (RE k))⟩;simp only[j,cQ];have e:br (gW o n) (eM m)=V:=by rw[dg,dS,<-r.1];exact lf f
     rw[e];simp[pI,ql]
   .simp[f]at h
 . rename_i b;try rw[b]
   obtain⟨a,g,i⟩:=r.get h;exact⟨a,by rw[wT];exact g,i⟩
 .simp at h
theorem arF{l:Nat->ah (Nat×Nat)}:∀(d:List (Nat×DV))(s:List (Nat×AV))(c f:aq)(m:aJ),A7 l d c=J f->bG K φ c m->d.length=s.length->(∀(i:Nat)(p:Nat×DV)(q:Nat×AV),d[i]?=J p->s[i]?=J q->p.1=q.1/\DR K φ p.2 q.2)->∃e,zG l s m=J e/\bG K φ f e/\((∀x,x∈c->x.aV=V)->∀x,x∈f->x.aV=V):=by intro d;induction d with
 |nil=>intro s c f m h r u g;cases s with|nil=>obtain rfl:=bt (show J c=J f from h);exact⟨m,rfl,r,λh=>h⟩|cons q s=>grind
 |cons p d z=>intro s c f m h r u g;cases s with|nil=>grind|cons q s=>unfold A7 at h;obtain⟨o,D,h⟩:=aF h;obtain⟨e1,e2⟩:=g 0 p q rfl rfl;obtain⟨v,B,j,w⟩:=e2.cells;cases t:(aw p.2.flat.length o.2&&br (o.1+o.2) c.length)with|false=>grind|true=>
 rw[t]at h;simp only[aR]at h;have A:=r.Y1 j o.1;obtain⟨e,E,k,n⟩:=z s _ f _ h A ai λi a b x y=>g (i+1) a b ai ai;refine⟨e,?_,k,λF=>n λx G=>?_⟩
 . show((l q.1).bind λo=>q.2.cells.bind λv=>bif aw (eM v) o.2&&br (gW o.1 o.2) (eM m)then J (fL m o.1 v)else Z).bind (zG l s)=J e;rw[<-e1,D,cQ,B,cQ];have:(aw (eM v) o.2&&br (gW o.1 o.2) (eM m))=V:=by rw[dS,dS,<-j.1,<-r.1];omega
   grind
 grind[km]
theorem eqFields{l:an->DV->DV->ah Bool}{i:an->AV->AV->ah Bool}(T:∀t x y b a c,l t x y=J b->DR K φ x a->DR K φ y c->i t a c=J b){j k:aq}{m n:aJ}(z:bG K φ j m)(A:bG K φ k n)(E:∀x,x∈j->x.aV=V)(F:∀x,x∈k->x.aV=V):∀(s:List Field)(d b:Bool),nL (λd(f:Field)=>bif d then(bif f.name== "_"then J V else(kU P f.type j f.offset).bind λa=>(kU P f.type k f.offset).bind λb=>l f.type a b)else J C) s d=J b->nL (λd(f:Field)=>bif d then(bif f.name== "_"then J V else(pB P f.type m f.offset).bind λa=>(pB P f.type n f.offset).bind λb=>i f.type a b)else J C) s d=J b:=by intro s;induction s with|nil=>intro d b h;exact h|cons f s e=>intro d b h;change((bif d then(bif f.name== "_"then J V else(kU P f.type j f.offset).bind λa=>(kU P f.type k f.offset).bind λb=>l f.type a b)else J C).bind _)=J b at h;show((bif d then(bif f.name== "_"then J V else(pB P f.type m f.offset).bind λa=>(pB P f.type n f.offset).bind λb=>i f.type a b)else J C).bind _)=J b;cases d with|false=>exact e _ _ h|true=>simp only[aR]at h|-;cases o:(f.name== "_")with|true=>rw[o]at h;exact e _ _ h|false=>rw[o]at h;simp only[bS]at h|-;obtain⟨G,g,h⟩:=aF h;obtain⟨p,v,g⟩:=aF g;obtain⟨q,w,g⟩:=aF g;obtain⟨a,r,B⟩:=Vx v z E;obtain⟨c,u,D⟩:=Vx w A F;rw[r,u];simp only[cQ];rw[T _ _ _ _ _ _ g B D];exact e _ _ h
theorem api{ih:an->DV->DV->ah Bool}{ih':an->AV->AV->ah Bool}(T:∀t x y b a c,ih t x y=J b->DR K φ x a->DR K φ y c->ih' t a c=J b){t:an}{x y:DV}{b:Bool}{a c:AV}(h:zD P ih t x y=J b)(d:DR K φ x a)(e:DR K φ y c):Hf P ih' t a c=J b:=by
 unfold zD at h;split at h<;>try(cases d;cases e;unfold Hf;simp_all;done)
 .rename_i f i k u;obtain⟨m,rfl,r,sm⟩:=d.xA;obtain⟨n,rfl,g,s⟩:=e.xA;unfold Hf;rw[u];cases j:P.stoodInHeld t with|true=>simp_all|false=>rw[j]at h;simp only[bS]at h|-;exact eqFields T r g sm s _ _ _ h
 simp_all
theorem SR:∀(n:Nat)(t:an)(x y:DV)(b:Bool)(a c:AV),gv P n t x y=J b->DR K φ x a->DR K φ y c->mI P n t a c=J b:=by intro n;induction n with|zero=>intro t x y b a c h;exact absurd h (by show¬(Z=J b);simp)|succ n i=>intro t x y b a c h d e;exact api (P:=P) (ih:=gv P n) (ih':=mI P n) i h d e
theorem SX{ih:an->DV->DV->ah Bool}{t:an}{x y:DV}{b:Bool}(h:zD P ih t x y=J b):x≠.jk/\y≠.jk:=by unfold zD at h;grind
theorem adH{t:an}{xo yo:aK}{x y:DV}{b:Bool}{a c:AV}(g:KA P t x y=V)(h:gv P 50 t x y=J b)(d:DR K φ x a)(e:DR K φ y c):zI P t xo yo a c=V:=by
 obtain⟨p,_⟩:=SX (P:=P) (ih:=gv P 49) h;unfold zI;split
 . rcases d with⟨l,m,f,i,k⟩|⟨_,j,_⟩
   . rcases e with⟨n,o,k1,k2,k3⟩|⟨_,j,_⟩;.exact g
     grind
   grind
 rfl
theorem alc{o:BinOp}{t:an}{xo yo:aK}{x y d:DV}{a c:AV}(h:gG P o t x y=J d)(e:DR K φ x a)(f:DR K φ y c):∃r,xG P o t xo yo a c=J r/\∀(p:aX)(m:ch),DR p m d r:=by
 unfold gG at h;split at h;.cases e;cases f;obtain⟨v,i,h⟩:=aF h;unfold afd at i;grind[Cd,xG]
 .grind
 . rename_i k w A z j l;cases e;cases f;split at h;.rename_i s;subst s;obtain⟨v,i,h⟩:=aF h;grind[Cd,xG]
   grind
 .rename_i j l;cases e;cases f;obtain⟨v,i,h⟩:=aF h;grind[Cd,xG]
 .rename_i j l;cases u:KA P t x y with|false=>grind|true=>rw[u]at h;simp only[aR]at h;cases g:gv P 50 t x y with|none=>grind|some b=>
   rw[g]at h;cases h;obtain⟨nx,n⟩:=SX (P:=P) (ih:=gv P 49) g;have q:=adH (xo:=xo) (yo:=yo) u g e f;have e2:=SR 50 t x y b a c g e f;refine⟨.bool b,?_,λ_ _=>.bool _⟩;unfold xG;split;.grind
   .cases e<;>first|exact absurd rfl nx|(cases f<;>first|exact absurd rfl n|grind)
   .cases e<;>first|exact absurd rfl nx|(cases f<;>first|exact absurd rfl n|simp_all)
   all_goals simp_all
 .rename_i j l;cases u:KA P t x y with|false=>simp_all|true=>rw[u]at h;simp only[aR]at h;cases g:gv P 50 t x y with|none=>simp_all|some b=>
   rw[g]at h;cases h;obtain⟨nx,n⟩:=SX (P:=P) (ih:=gv P 49) g;have q:=adH (xo:=xo) (yo:=yo) u g e f;have e2:=SR 50 t x y b a c g e f;refine⟨.bool (!b),?_,λ_ _=>.bool _⟩;unfold xG;split;.grind
   .cases e<;>first|exact absurd rfl nx|(cases f<;>first|exact absurd rfl n|grind)
   .cases e<;>first|exact absurd rfl nx|(cases f<;>first|exact absurd rfl n|simp_all)
   all_goals simp_all
 grind
theorem aKq{o:UnOp}{x d:DV}{a:AV}(h:Ji o x=J d)(c:DR K φ x a):∃r,Rj o a=J r/\∀(e:aX)(b:ch),DR e b d r:=by
 unfold Ji at h;split at h;.cases c;cases h;exact⟨_,rfl,λ_ _=>.int _ _⟩
 .cases c;cases h;exact⟨_,rfl,λ_ _=>.bool _⟩
 grind
end
inductive Pk where|lb(s:Nat)|g(id:Nat)|sl(t:Nat)|tp(t j:Nat)|lc(s off:Nat)|gc(id off:Nat)deriving DecidableEq
abbrev aI:=Pk->ah (Nat×Bool)
variable{a:AV}{g:GH}{r t:Nat}{p:Pk}{sv:SV}{tm:Tr AV}{ω1:aI}{e:an}{cs:aq}{lb:dV}{fl:fM}
def gI(K:aX)(b:ch)(l:aq)(e o:Nat)(c:aJ):Prop:=0<e/\o+l.length*e<=c.length/\(∀(i:Nat)(x:DV),l[i]?=J x->x.flat.length=e/\∀y,y∈x.flat->y.aV=V)/\∀(i:Nat)(x:DV)(j:Nat)(d:DV)(a:AV),l[i]?=J x->x.flat[j]?=J d->c[o+i*e+j]?=J a->DR K b d a
def Gu(H:Heap)(i o l s r:Nat)(c:ah Nat)(e:aJ):Prop:=(c=Z/\(H.bn r).2=i/\o+l*s=e.length)\/c=J l
structure AO(K:aX)(φ:ch)(H:Heap)(r:Nat)(d:DV)(a:AV)(e:an):Prop where ex:∃l esz id off c cells fl,d=.ay l e esz/\a=.sl id off l.length c esz/\H.get id=J (.cells cells r fl e)/\fl.wr=V/\(H.bn r).1<=id/\(H.bn r).2=id/\gI K φ l esz off cells/\Gu H id off l.length esz r c cells
structure JD(H:Heap)(r:Nat)(a:AV)(e:an):Prop where ex:∃id off len c esz cells fl,a=.sl id off len c esz/\H.get id=J (.cells cells r fl e)/\fl.wr=V/\(H.bn r).1<=id/\(H.bn r).2=id/\Gu H id off len esz r c cells
def ZP(a:AV):Prop:=∃id o len e,a=.sl id o len (J len) e
section
variable(K:aX)(φ:ch)(ω:aI)(H:Heap)
def cN(p:Pk)(d:DV)(o:AM.AV):aM->Prop|.no=>DR K φ d o|.any=>d=.nl/\o=.bC|.ty e=>DR K φ d o/\(d=.nl\/∃r b,ω p=J (r,b)/\JD H r o e)|.full _=>DR K φ d o/\ZP o|.ex e=>(d=.nl/\o=.bC)\/∃r,ω p=J (r,V)/\AO K φ H r d o e
def uM(f:fM)(b:LB)(e:an):Prop:=f.wr=V/\∀k t,(k,aM.full t)∈b.own->t=e
theorem uM.sub{b a:LB}(h:uM fl b e)(s:∀k t,(k,aM.full t)∈a.own->(k,aM.full t)∈b.own):uM fl a e:=⟨h.1,λk t x=>h.2 k t (s k t x)⟩
theorem uM.share{b:LB}(h:uM fl b e):uM fl ⟨cs,b.own.map λ(x:Nat×aM)=>(x.1,n7 x.2)⟩ e:=h.sub λk t m=>by obtain⟨⟨d,o⟩,a,c⟩:=List.mem_map.1 m;cases o<;>simp_all[n7]
theorem uM.drop{b:LB}(h:uM fl b e)(o n:Nat):uM fl ⟨cs,cW b.own o n⟩ e:=h.sub λk t m=>(List.mem_filter.1 m).1
theorem uM.anO{b:LB}{t:an}{j:Nat}(h:uM fl b e)(o n:Nat):uM fl ⟨cs,(j,.ty t)::cW b.own o n⟩ e:=h.sub λk t m=>by
 rcases List.mem_cons.1 m with h|h;.cases h
 .exact(List.mem_filter.1 h).1
def oR(p:Nat->Pk)(b:LB)(i:Nat):Prop:=∃m fl e,H.get i=J (.cells m i fl e)/\uM fl b e/\(H.bn i).1<=i/\(H.bn i).2=i/\b.cells.length=m.length/\∀(o:Nat)(d:DV)(a:AV),b.cells[o]?=J d->m[o]?=J a->d.aV=V/\cN K φ ω H (p o) d a (ew b o)
def vW(x:kX)(y:eF):Prop:=DR K φ x.1 y.1/\DR K φ x.2.1 y.2.1/\x.2.2=y.2.2
def xx(m:Tr AV)(s:cT):Prop:=∀t sv,look s t=J sv->∃a,m.get t=J a/\(match sv with|.dv d .no=>DR K φ d a|.dv d .any=>d=.nl/\a=.bC|.ev d=>∃id o cells e,a=.ptr id o/\K id=J (cells,e)/\o+d.flat.length<=cells.length/\(∀y,y∈d.flat->y.aV=V)/\bG K φ d.flat ((cells.drop o).take d.flat.length)|.dd=>True|_=>False)
def AE(d:Nat)(o:GO)(i:Nat):Prop:=match o with|.box b=>oR K φ ω H (.gc d) b i|.map e S=>∃f,H.get i=J (.map f S)/\e.length=f.length/\∀(k:Nat)(x:kX)(y:eF),e[k]?=J x->f[k]?=J y->vW K φ x y|.loop r=>∃R:AA,H.get i=J (.loop R)/\R.state=r.state/\R.pending=r.pending/\R.fn=r.fn/\R.n=r.n/\R.params=r.params/\R.assign=r.assign/\R.body=r.body/\xx K φ R.tmps r.sl
def oX(H:Heap):Prop:=∀id l r fl e,H.get id=J (.cells l r fl e)->∃a f,H.get r=J (.cells a r f e)
structure HR(lb:dV)(g:GH):Prop where
 inv:bg H
 dk:∀id cells e,K id=J (cells,e)->∃root fl,H.get id=J (.cells cells root fl e)/\(H.bn root).1<=id
 inj:∀p q r b c,ω p=J (r,b)->ω q=J (r,c)->p=q
 clean:∀p r id x,ω p=J (r,V)->K id=J x->rootOf H id≠r
 cw:∀p r b,ω p=J (r,b)->r<H.next
 box:∀s b,look lb s=J b->∃i,ω (.lb s)=J (i,V)/\oR K φ ω H (.lc s) b i
 js:∀id o,g.get id=J o->∃i,φ id=J i/\ω (.g id)=J (i,V)/\AE K φ ω H id o i
 nu:∀id,g.next<=id->φ id=Z
 gV:oX H
def ma(h:Tr AV)(t:Nat)(v:SV)(a:AV):Prop:=match v with|.dv d o=>cN K φ ω H (.sl t) d a o|.tp l=>∃m,a=.cM m/\l.length=m.length/\∀(j:Nat)(x:DV×aM)(y:AV),l[j]?=J x->m[j]?=J y->cN K φ ω H (.tp t j) x.1 y x.2|.lp s f=>∀i b,ω (.lb s)=J (i,b)->a=.ptr i f|.ev d=>∃id f cells e,a=.ptr id f/\K id=J (cells,e)/\f+d.flat.length<=cells.length/\(∀y,y∈d.flat->y.aV=V)/\bG K φ d.flat ((cells.drop f).take d.flat.length)|.sr s=>h.get s=J a|.se s i f=>∃id g len c z,h.get s=J (.sl id g len c z)/\a=.ptr id (g+i*z+f)|.gr id f=>∃i m root fl e,φ id=J i/\H.get i=J (.cells m root fl e)/\m[f]?=J a|.hd n=>nv a=J n|.dd=>True
def bX(m:Tr AV)(s:cT):Prop:=∀t sv,look s t=J sv->∃a,m.get t=J a/\(sv≠.dd->a≠.top)/\ma K φ ω H m t sv a
end
structure bQ(S:Nat->Prop)(H H':Heap):Prop where
 next:H.next<=H'.next
 get:∀id,id<H.next->¬S (rootOf H id)->H'.get id=H.get id
 dp:∀r,r<H.next->¬S r->H'.bn r=H.bn r
 root:∀id,id<H.next->rootOf H' id=rootOf H id
def dL(a:aI)(r:Nat):Prop:=∃p b,a p=J (r,b)
def ou(b:aI)(H:Heap)(K a:aX):Prop:=bo K a/\∀j x,a j=J x->K j=J x\/dL b (rootOf H j)
theorem ou.refl(a:aI)(H:Heap)(K:aX):ou a H K K:=⟨bo.refl K,λ_ _ h=>.inl h⟩
def sQ(c:aI)(H a:Heap)(K b:aX):Prop:=∀j x,b j=J x->j<a.next/\(K j=J x\/dL c (rootOf a j)\/H.next<=rootOf a j)
theorem bQ.refl(S:Nat->Prop)(H:Heap):bQ S H H:=⟨bJ _,λ_ _ _=>rfl,λ_ _ _=>rfl,λ_ _=>rfl⟩
section
variable{K K':aX}{φ ψ:ch}{ω ω':aI}{H H':Heap}{S:Nat->Prop}
theorem gI.mono(m:bo K K')(b:aU φ ψ){l:aq}{e o:Nat}{c:aJ}(h:gI K φ l e o c):gI K' ψ l e o c:=⟨h.1,h.2.1,h.2.2.1,λi x j d a f g k=>(h.2.2.2 i x j d a f g k).mono m b⟩
theorem lA{H:Heap}{i:Nat}{l f e}(h:H.get i=J (.cells l r f e)):rootOf H i=r:=by grind[rootOf]
theorem AO.keep(i:bg H)(k:bQ S H H')(p:bo K K')(b:aU φ ψ){d:DV}(q:¬S r)(h:AO K φ H r d a e):AO K' ψ H' r d a e:=by
 obtain⟨l,s,id,o,c,cells,fl,g,j,f,m,t,u,n,v⟩:=h.ex;have hid:=i.get _ _ f;have E:r<H.next:=by have:=(i.root _ _ _ _ _ f).1;omega
 have w:=k.dp r E q;refine⟨l,s,id,o,c,cells,fl,g,j,?_,m,ai,ai,n.mono p b,?_⟩;.rw[k.get id hid (by grind[lA])];omega
 grind[Gu]
theorem JD.keep(i:bg H)(k:bQ S H H')(g:¬S r)(h:JD H r a e):JD H' r a e:=by
 obtain⟨id,o,len,c,s,cells,fl,d,b,f,j,m,l⟩:=h.ex;have hid:=i.get _ _ b;have E:r<H.next:=by have:=(i.root _ _ _ _ _ b).1;omega
 have n:=k.dp r E g;refine⟨id,o,len,c,s,cells,fl,d,?_,f,ai,ai,?_⟩;.rw[k.get id hid (by grind[lA])];omega
 grind[Gu]
theorem cN.keep(m:bg H)(k:bQ S H H')(f:bo K K')(c:aU φ ψ){q:Pk}{d:DV}{o:aM}(n:∀r b,ω p=J (r,b)->ω' q=J (r,b)/\¬S r)(h:cN K φ ω H p d a o):cN K' ψ ω' H' q d a o:=by cases o with|no=>exact DR.mono f c h|any=>exact h|full e=>exact⟨DR.mono f c h.1,h.2⟩|ty e=>refine⟨DR.mono f c h.1,h.2.imp id ?_⟩;rintro⟨r,b,g,i⟩;obtain⟨j,l⟩:=n r b g;exact⟨r,b,j,i.keep m k l⟩|ex e=>refine Or.imp id ?_ h;rintro⟨r,g,i⟩;obtain⟨j,l⟩:=n r V g;exact⟨r,j,i.keep m k f c l⟩
theorem oR.keep(q:bg H)(k:bQ S H H')(w:bo K K')(g:aU φ ψ){p:Nat->Pk}{b:LB}{i:Nat}(l:¬S i)(z:∀o r c,ω (p o)=J (r,c)->ω' (p o)=J (r,c)/\¬S r)(h:oR K φ ω H p b i):oR K' ψ ω' H' p b i:=by obtain⟨m,fl,e,f,s,t,u,v,j⟩:=h;have hid:=q.get _ _ f;have n:=k.dp i hid l;refine⟨m,fl,e,?_,s,by rw[n];exact t,by rw[n];exact u,v,λo d a x y=>⟨(j o d a x y).1,(j o d a x y).2.keep q k w g (z o)⟩⟩;rw[k.get i hid (by rw[lA f];exact l)];exact f
theorem xx.mono(d:bo K K')(b:aU φ ψ){s:cT}(h:xx K φ tm s):xx K' ψ tm s:=by
 intro t sv l;obtain⟨a,f,c⟩:=h t sv l;refine⟨a,f,?_⟩;split at c;.grind[DR.mono]
 .omega
 .obtain⟨id,o,cells,e,g1,g2,g3,g4,g5⟩:=c;exact⟨id,o,cells,e,g1,d _ _ g2,g3,g4,g5.mono d b⟩
 all_goals omega
theorem AE.keep(p:bg H)(k:bQ S H H')(g:bo K K')(d:aU φ ψ){l:Nat}{o:GO}{i:Nat}(A:¬S i)(B:∀f r c,ω (.gc l f)=J (r,c)->ω' (.gc l f)=J (r,c)/\¬S r)(h:AE K φ ω H l o i):AE K' ψ ω' H' l o i:=by
 rcases o with b|⟨E,D⟩|r;.exact oR.keep p k g d A B h
 .obtain⟨s,m,n,e⟩:=h;refine⟨s,?_,n,λj x y a b=>⟨(e j x y a b).1.mono g d,(e j x y a b).2.1.mono g d,(e j x y a b).2.2⟩⟩;rw[k.get i (p.get _ _ m) (by grind[rootOf])];omega
 obtain⟨R,m,n,e,q,t,u,v,w,z⟩:=h;refine⟨R,?_,n,e,q,t,u,v,w,z.mono g d⟩;rw[k.get i (p.get _ _ m) (by grind[rootOf])];omega
theorem lN{a:Type}(l:List (Nat×a))(n:Nat)(x:a)(m:Nat):look (put l n x) m=if m=n then J x else look l m:=by induction l<;>grind[bE,look,put]
theorem qB{a b:Type}(l:List (Nat×a))(f:a->b)(m:Nat):look (l.map λx=>(x.1,f x.2)) m=(look l m).map f:=by induction l<;>grind[look]
theorem ma.keep(w:bg H)(k:bQ S H H')(z:bo K K')(g:aU φ ψ){q:Tr AV}(D:∀p r b,(p=.sl t\/∃j,p=.tp t j)->ω p=J (r,b)->ω' p=J (r,b)/\¬S r)(F:∀s f i b,sv=.lp s f->ω' (.lb s)=J (i,b)->ω (.lb s)=J (i,b))(G:∀s,(sv=.sr s\/∃i f,sv=.se s i f)->q.get s=tm.get s)(E:∀id f i,sv=.gr id f->φ id=J i->¬S (rootOf H i))(h:ma K φ ω H tm t sv a):ma K' ψ ω' H' q t sv a:=by
 rcases sv with⟨d,o⟩|l|⟨s,f⟩|d|s|⟨s,i,f⟩|⟨id,f⟩|n|_;.exact cN.keep w k z g (λr b=>D _ r b (.inl rfl)) h
 .obtain⟨m,u,v,B⟩:=h;exact⟨m,u,v,λj x y a b=>cN.keep w k z g (λr b=>D _ r b (.inr ⟨j,rfl⟩)) (B j x y a b)⟩
 .exactλi b w=>h i b (F s f i b rfl w)
 .obtain⟨id,f,cells,e,g1,g2,g3,g4,g5⟩:=h;exact⟨id,f,cells,e,g1,z _ _ g2,g3,g4,g5.mono z g⟩
 .show q.get s=J a;rw[G s (.inl rfl)];exact h
 .obtain⟨id,I,len,c,A,u,v⟩:=h;exact⟨id,I,len,c,A,ai,v⟩
 .obtain⟨i,m,root,fl,e,u,v,B⟩:=h;refine⟨i,m,root,fl,e,g _ _ u,?_,B⟩;rw[k.get i (w.get _ _ v) (E id f i rfl u)];omega
 .exact h
 trivial
end
section
variable{P:aG}{K K':aX}{φ ψ:ch}{ω ω':aI}{H H':Heap}{S:Nat->Prop}
theorem DR.qC{d:DV}(h:DR K φ d a):a≠.top:=by intro e;obtain⟨m,b,_⟩:=h.cells;grind[AV.cells]
theorem cN.qC{d:DV}{o:aM}(h:cN K φ ω H p d a o):a≠.top:=by cases o with|no=>exact DR.qC h|any=>have:=h.2;grind|full e=>exact DR.qC h.1|ty e=>exact DR.qC h.1|ex e=>
 rcases h with h|⟨r,_,h⟩;.grind
 .obtain⟨l,s,id,f,c,cells,fl,_,b,_⟩:=h.ex;grind
theorem w9{sl:cT}{d:Nat}(y:bg H)(D:bX K φ ω H tm sl)(k:bQ S H H')(u:bo K K')(f:aU φ ψ)(A:∀p r b,(∀j,p≠.tp d j)->p≠.sl d->((∃t,p=.sl t)\/∃t j,p=.tp t j)->ω p=J (r,b)->ω' p=J (r,b)/\¬S r)(z:∀s i b,ω' (.lb s)=J (i,b)->ω (.lb s)=J (i,b))(v:∀id i,φ id=J i->¬S (rootOf H i))(M:sv≠.dd->a≠.top)(N:ma K' ψ ω' H' (tm.ins d a) d sv a):bX K' ψ ω' H' (tm.ins d a) (put (ij sl d) d sv):=by
 intro t F h;rw[lN]at h;by_cases e:t=d;.grind[Tr.lh]
 .rw[if_neg e]at h;unfold ij at h;rw[qB sl (pr d)]at h;cases g:look sl t with|none=>grind|some n=>
 rw[g]at h;obtain⟨c,I,m,q⟩:=D t n g;have E:(tm.ins d a).get t=J c:=by grind[Tr.jr]
 by_cases hd:F=.dd;.subst hd;exact⟨c,E,λx=>absurd rfl x,trivial⟩
 . have G:n=F/\∀s,(n=.sr s\/∃i o,n=.se s i o)->s≠d:=by have l:pr d n=F:=bt h;cases n with|sr s=>grind[pr,bE]|se s i o=>grind[pr,bE]|_=>exact⟨l,λO x=>aT⟩
   obtain⟨rfl,B⟩:=G;refine⟨c,E,m,q.keep y k u f (λp r b L=>A p r b ?_ ?_ ?_) (λs o i b _=>z s i b) (λs w=>Tr.jr _ _ (λx=>B s w x.symm)) (λid o i _=>v id i)⟩;all_goals grind
theorem aIt{s:cT}{d:Nat}{x:DV}(i:bg H)(c:bX K φ ω H tm s)(b:DR K φ x a):bX K φ ω H (tm.ins d a) (put (ij s d) d (.dv x .no)):=w9 (S:=λ_=>False) i c (bQ.refl _ _) (bo.refl _) (aU.refl _) (λ_ _ _ _ _ _ h=>⟨h,id⟩) (λ_ _ _ h=>h) (λ_ _ _=>id) (λ_=>b.qC) b
def du(P:aG)(K:aX)(b:ch)(a:Nat->ah aq):Prop:=(∀g l,a g=J l->g<P.globals.size/\(∀y,y∈l->y.aV=V)/\∃cells e,K g=J (cells,e)/\bG K b l cells)/\∀(g:Nat)(x:aJ×an),gl[g]?=J x->K g=J x
theorem du.mono{o:Nat->ah aq}(a:bo K K')(b:aU φ ψ)(h:du P K φ o):du P K' ψ o:=⟨λg l j=>let⟨c,d,cells,e,f,i⟩:=h.1 g l j
 ⟨c,d,cells,e,a _ _ f,i.mono a b⟩,λg x k=>a _ _ (h.2 g x k)⟩
theorem ahc(h:tm.get t=J a)(b:a≠.top):AM.bB P tm (.tmp t)=J a:=by show(match(tm.get t).getD fo with|.top=>Z|v=>J v)=J a;grind
theorem qD{o:Nat->ah aq}(n:du P K φ o){s:St}(p:bX K φ ω H tm s.sl){x:aK}(h:cR o s x=J sv):∃a,AM.bB P tm x=J a/\a≠.top/\((∃t,x=.tmp t/\look s.sl t=J sv/\tm.get t=J a/\ma K φ ω H tm t sv a)\/((∀t,x≠.tmp t)/\((∃d,sv=.dv d (tC d)/\DR K φ d a)\/(∃d f,x=.func f/\d=.func f [] []/\sv=.dv d .no/\DR K φ d a)\/∃g l cells e,sv=.ev (.agg l)/\a=.ptr g 0/\K g=J (cells,e)/\(∀y,y∈l->y.aV=V)/\bG K φ l cells))):=by
 rcases x with t|v|g|f
 . have h:(match look s.sl t with|some .dd=>Z|r=>r)=J sv:=h;split at h;.grind
   .rename_i T;obtain⟨a,j,b,c⟩:=p t sv h;simp_all[ahc]
 . have h:((wU v).bind λa=>(AU a).map λd=>SV.dv d (tC d))=J sv:=h;obtain⟨a,m,h⟩:=aF h;rcases hd:AU a with _|d;.grind
   rw[hd]at h;cases h;have hr:=Cd (K:=K) (φ:=φ) hd;exact⟨a,m,hr.qC,.inr ⟨aO,.inl ⟨d,rfl,hr⟩⟩⟩
 . have h:(o g).map (λl=>SV.ev (.agg l))=J sv:=h;rcases i:o g with _|l;.grind
   rw[i]at h;cases h;obtain⟨j,b,cells,e,c,k⟩:=n.1 g l i;refine⟨.ptr g 0,?_,aO,.inr ⟨aO,.inr (.inr ⟨g,l,cells,e,rfl,rfl,c,b,k⟩)⟩⟩;show(bif cm g P.globals.size then J (AV.ptr g 0)else Z)=_;grind[eK]
 obtain rfl:=bt (show J (SV.dv (.func f [] []) .no)=J sv from h);refine⟨.func f [] [],rfl,aO,.inr ⟨aO,.inr (.inl ⟨_,f,rfl,rfl,rfl,?_⟩)⟩⟩;exact .func f [] [] [] [] rfl rfl aO aO
def aI.set(a:aI)(p:Pk)(v:ah (Nat×Bool)):aI:=λq=>if q=p then v else a q
theorem aI.nC(a:aI)(p:Pk)(v:ah (Nat×Bool)):a.set p v p=v:=by simp[aI.set]
theorem aI.kV(a:aI){q:Pk}(v:ah (Nat×Bool))(h:q≠p):a.set p v q=a q:=by grind[aI.set]
def Pk.slot:Pk->Prop|.sl _|.tp _ _=>True|_=>False
theorem HR.uC(h:HR K φ ω H lb g)(j:bo K K')(B:∀q,¬q.slot->ω' q=ω q)(m:∀id cells e,K' id=J (cells,e)->∃root fl,H.get id=J (.cells cells root fl e)/\(H.bn root).1<=id)(n:∀p q r b c,ω' p=J (r,b)->ω' q=J (r,c)->p=q)(l:∀p r id x,ω' p=J (r,V)->K' id=J x->rootOf H id≠r)(w:∀p r b,ω' p=J (r,b)->r<H.next):HR K' φ ω' H lb g where
 inv:=h.inv
 dk:=m
 inj:=n
 clean:=l
 cw:=w
 box:=λs b u=>by obtain⟨i,a,d⟩:=h.box s b u;exact⟨i,by rw[B _ (by simp[Pk.slot])];exact a,d.keep (S:=λ_=>False) h.inv (bQ.refl _ _) j (aU.refl _) id λf r c x=>⟨by rw[B _ (by simp[Pk.slot])];exact x,id⟩⟩
 js:=λk o v=>by obtain⟨i,a,d,t⟩:=h.js k o v;exact⟨i,a,by rw[B _ (by simp[Pk.slot])];exact d,t.keep (S:=λ_=>False) h.inv (bQ.refl _ _) j (aU.refl _) id λf r c x=>⟨by rw[B _ (by simp[Pk.slot])];exact x,id⟩⟩
 nu:=h.nu
 gV:=h.gV
def aX.add(K:aX)(d:Nat)(x:aJ×an):aX:=λi=>if i=d then J x else K i
theorem aX.AR{d:Nat}{x:aJ×an}(h:K d=Z):bo K (K.add d x):=λi y a=>by grind[aX.add]
theorem AO.dk(h:HR K φ ω H lb g){d:DV}(D:ω p=J (r,V))(B:AO K φ H r d a e):∃id cells,K id=Z/\rootOf H id=r/\(∃fl,H.get id=J (.cells cells r fl e))/\(H.bn r).1<=id/\DR (K.add id (cells,e)) φ d a/\JD H r a e:=by
 obtain⟨l,s,id,o,c,cells,fl,w,m,f,y,n,z,b,q⟩:=B.ex;have v:=lA f;have u:K id=Z:=by
  rcases t:K id with _|x;.rfl
  exact absurd v (h.clean p r id x D t)
 have E:bo K (K.add id (cells,e)):=aX.AR u;refine⟨id,cells,u,v,⟨fl,f⟩,n,?_,⟨id,o,l.length,c,s,cells,fl,m,f,y,n,z,q⟩⟩;subst w;subst m;refine .ay l e s id o c cells (by simp[aX.add]) b.1 b.2.1 ?_ b.2.2.1 λi x j d a x1 x2 x3=>(b.2.2.2 i x j d a x1 x2 x3).mono E (aU.refl _);intro k t;rcases q with⟨A,_⟩|A<;>grind
def sB(H:Heap):aX:=λid=>match H.get id with|some (.cells cells _ _ e)=>J (cells,e)|_=>Z
theorem Pt{i:Nat}{c:aJ}{r f e}(h:H.get i=J (.cells c r f e)):sB H i=J (c,e):=by grind[sB]
theorem HR.fV(h:HR K φ ω H lb g)(k:bQ S H H'){a:aI}:sQ a H H' K K:=λj x b=>by obtain⟨cells,e⟩:=x;obtain⟨r,fl,c,_⟩:=h.dk j cells e b;exact⟨gi (h.inv.get _ _ c) k.next,.inl b⟩
theorem HR.sub(h:HR K φ ω H lb g):bo K (sB H):=λid x a=>by obtain⟨cells,e⟩:=x;obtain⟨r,fl,b,_⟩:=h.dk id cells e a;grind[Pt]
theorem cN.look(h:HR K φ ω H lb g){d:DV}{o:aM}(b:cN K φ ω H p d a o):DR (sB H) φ d a:=by cases o with|no=>exact DR.mono h.sub (aU.refl _) b|any=>obtain⟨rfl,rfl⟩:=b;exact .nl|full e=>exact DR.mono h.sub (aU.refl _) b.1|ty e=>exact DR.mono h.sub (aU.refl _) b.1|ex e=>
 rcases b with⟨rfl,rfl⟩|⟨r,f,j⟩;.exact .nl
 . obtain⟨id,cells,n,_,⟨fl,l⟩,_,k,_⟩:=j.dk h f;refine k.mono (λi x c=>?_) (aU.refl _);unfold aX.add at c;by_cases e:i=id;.grind[Pt]
   .rw[if_neg e]at c;exact h.sub i x c
theorem cN.share(h:HR K φ ω H lb g)(L:p.slot){d:DV}{o:aM}(f:cN K φ ω H p d a o):∃K' ω',ou ω H K K'/\HR K' φ ω' H lb g/\(∀q,q≠p->ω' q=ω q)/\(∀q r b,ω' q=J (r,b)->∃s,ω q=J (r,s))/\cN K' φ ω' H p d a (n7 o)/\DR K' φ d a:=by cases o with|no=>exact⟨K,ω,ou.refl _ _ _,h,λ_ _=>rfl,λ_ _ b x=>⟨b,x⟩,f,f⟩|any=>obtain⟨rfl,rfl⟩:=f;exact⟨K,ω,ou.refl _ _ _,h,λ_ _=>rfl,λ_ _ b x=>⟨b,x⟩,⟨rfl,rfl⟩,.nl⟩|full e=>exact⟨K,ω,ou.refl _ _ _,h,λ_ _=>rfl,λ_ _ b x=>⟨b,x⟩,f,f.1⟩|ty e=>exact⟨K,ω,ou.refl _ _ _,h,λ_ _=>rfl,λ_ _ b x=>⟨b,x⟩,f,f.1⟩|ex e=>
 rcases f with⟨rfl,rfl⟩|⟨r,t,B⟩;.exact⟨K,ω,ou.refl _ _ _,h,λ_ _=>rfl,λ_ _ b x=>⟨b,x⟩,⟨.nl,.inl rfl⟩,.nl⟩
 . obtain⟨id,cells,G,I,⟨fl,P⟩,F,v,D⟩:=B.dk h t;have w:bo K (K.add id (cells,e)):=aX.AR G;refine⟨K.add id (cells,e),ω.set p (J (r,C)),⟨w,λj x E=>?_⟩,h.uC w (λq u=>aI.kV _ _ λx=>u (x▸L)) ?_ ?_ ?_ ?_,λq u=>aI.kV _ _ u,?_,⟨v,.inr ⟨r,C,aI.nC _ _ _,D⟩⟩,v⟩
   . unfold aX.add at E;by_cases e1:j=id;.subst e1;exact .inr ⟨p,V,ai⟩
     grind
   . intro i cs A l;unfold aX.add at l;by_cases x:i=id;.grind
     .rw[if_neg x]at l;exact h.dk i cs A l
   . intro m M r1 b c x y;have back:∀z b,ω.set p (J (r,C)) z=J (r1,b)->∃s,ω z=J (r1,s):=by grind[aI.nC,aI.kV]
     obtain⟨N,k1⟩:=back m b x;obtain⟨O,k2⟩:=back M c y;exact h.inj _ _ _ _ _ k1 k2
   . intro m r1 i x k l;have n:m≠p:=λe=>by grind[aI.nC]
     rw[aI.kV _ _ n]at k;unfold aX.add at l;by_cases y:i=id;.subst y;rw[I];intro e;subst e;exact n (h.inj _ _ _ _ _ k t)
     .rw[if_neg y]at l;exact h.clean m r1 i x k l
   . intro m r1 b k;by_cases e:m=p;.subst e;rw[aI.nC]at k;obtain⟨rfl,_⟩:=il (bt k);exact h.cw _ _ _ t
     .rw[aI.kV _ _ e]at k;exact h.cw _ _ _ k
   grind[aI.nC,aI.kV]
end
def fK(K:aX)(g:ch)(f:aI)(H:Heap)(s:St)(t:Tr AV)(c:Heap):Prop:=∃d e a,bo K d/\sQ f H c K d/\aU g e/\HR d e a c s.lb s.g/\bX d e a c t s.sl/\bQ (dL f) H c/\∀p r b,a p=J (r,b)->dL f r\/H.next<=r
section
variable{P:aG}{K K':aX}{φ ψ:ch}{ω ω':aI}{H H':Heap}{S:Nat->Prop}
theorem qG(a:bg H){i:Nat}(h:i<H.next):rootOf H i<H.next:=by
 unfold rootOf;split;.rename_i g;have:=(a.root _ _ _ _ _ g).1;omega
 omega
theorem bQ.trans{f:aI}{H1 g:Heap}(j:bg H)(a:bQ (dL f) H H1)(d:∀p r b,ω1 p=J (r,b)->dL f r\/H.next<=r)(b:bQ (dL ω1) H1 g):bQ (dL f) H g where
 next:=fX a.next b.next
 get:=λid h n=>by
  have i:=a.get id h n;rw[<-i];refine b.get id (gi h a.next) λ⟨p,c,e⟩=>?_;have hr:rootOf H1 id=rootOf H id:=by unfold rootOf;rw[i]
  rw[hr]at e;rcases d _ _ _ e with x|x;.exact n x
  .have:=qG j h;omega
 dp:=λr h n=>by
  rw[<-a.dp r h n];refine b.dp r (gi h a.next) λ⟨p,c,e⟩=>?_;rcases d _ _ _ e with x|x;.exact n x
  .omega
 root:=λid h=>by rw[b.root id (gi h a.next),a.root id h]
theorem fK.trans{s:St}{v:Tr AV}{H1 i:Heap}{K1:aX}{φ1:ch}(E:bg H)(D:bo K K1)(I:sQ ω H H1 K K1)(a:aU φ φ1)(k:bQ (dL ω) H H1)(e:∀p r b,ω1 p=J (r,b)->dL ω r\/H.next<=r)(b:fK K1 φ1 ω1 H1 s v i):fK K φ ω H s v i:=by
 obtain⟨m,f,g,o,n,t,u,w,l,z⟩:=b;refine⟨m,f,g,D.trans o,λj x F=>?_,a.trans t,u,w,k.trans E e l,λp r c x=>?_⟩
 . obtain⟨A,h⟩:=n j x F;refine⟨A,?_⟩;rcases h with h|⟨p,c,h⟩|h;.obtain⟨B,G⟩:=I j x h;rw[l.root j B];omega
   .grind
   .exact .inr (.inr (fX k.next h))
 . rcases z p r c x with⟨q,d,y⟩|y;.grind
   .exact .inr (fX k.next y)
theorem ou.fV{a:aX}(e:ou ω H K a)(b:HR a φ ω1 H lb g):sQ ω H H K a:=λj x h=>by obtain⟨cells,t⟩:=x;obtain⟨r,fl,c,_⟩:=b.dk j cells t h;exact⟨b.inv.get _ _ c,(e.2 j _ h).imp_right .inl⟩
theorem nX{i:Nat->ah aq}(r:du P K φ i){s:St}(c:HR K φ ω H s.lb s.g)(u:bX K φ ω H tm s.sl){x:aK}{d:DV}(h:bj i s x=J d):∃a,AM.bB P tm x=J a/\a≠.top/\DR (sB H) φ d a:=by unfold bj at h;obtain⟨sv,k,m⟩:=aF h;obtain⟨a,n,p,q⟩:=qD r u k;refine⟨a,n,p,?_⟩;cases sv with
 |dv j o=>
 obtain rfl:=bt (show J j=J d from m);rcases q with⟨t,_,_,_,b⟩|⟨_,⟨d2,e,b⟩|⟨d2,f,_,e1,e2,b⟩|⟨g,l,cells,e,e1,_⟩⟩;.exact cN.look c b
 .obtain⟨rfl,_⟩:=SV.dv.inj e;exact b.mono c.sub (aU.refl _)
 .obtain⟨rfl,_⟩:=SV.dv.inj e2;exact b.mono c.sub (aU.refl _)
 grind|_=>grind[Cp]
theorem Dj{d:Nat}(h:FI d sv=C):∀s,(sv=.sr s\/∃i o,sv=.se s i o)->s≠d:=by intro s a e;subst e;rcases a with rfl|⟨i,o,rfl⟩<;>simp[FI]at h
theorem yG{a s:St}{d:ah Tmp}(h:aH a d sv=J s):(d=Z/\s=a)\/∃t,d=J t/\t<a.n/\FI t sv=C/\s={a with sl:=put (ij a.sl t) t sv}:=by cases d<;>grind[aH,eK]
def gQ(t:Tr AV)(d:ah Tmp)(v:AV):Tr AV:=match d with|some d=>t.ins d v|none=>t
theorem I8{l:cT}{d:Nat}(n:bg H)(u:bX K φ ω H tm l)(m:bo K K')(q:∀p r b,(∀j,p≠.tp d j)->p≠.sl d->p.slot->ω p=J (r,b)->ω' p=J (r,b))(w:∀s,ω' (.lb s)=ω (.lb s))(E:tm.get d=J a)(y:sv≠.dd->a≠.top)(z:ma K' φ ω' H tm d sv a):bX K' φ ω' H tm (put l d sv):=by
 intro t F h;rw[lN]at h;by_cases e:t=d;.grind
 . rw[if_neg e]at h;obtain⟨c,f,g,k⟩:=u t F h;refine⟨c,f,g,k.keep (S:=λ_=>False) n (bQ.refl _ _) m (aU.refl _) (λp r b o x=>⟨q p r b ?_ ?_ ?_ x,id⟩) (λs v i b _ x=>ai) (λ_ _=>rfl) (λ_ _ _ _ _=>id)⟩;.grind
   .grind
   .rcases o with rfl|⟨A,rfl⟩<;>exact trivial
def jG(s:St)(x:aK):Prop:=∀t d e,x=.tmp t->look s.sl t=J (.dv d (.ex e))->d=.nl
theorem YV{c:St}(u:HR K φ ω H c.lb c.g)(w:bX K φ ω H tm c.sl)(x:aK):∃K' ω',ou ω H K K'/\HR K' φ ω' H (aQ share c x).lb (aQ share c x).g/\bX K' φ ω' H tm (aQ share c x).sl/\(∀q r b,ω' q=J (r,b)->∃j,ω q=J (r,j))/\jG (aQ share c x) x/\(aQ share c x).n=c.n/\(aQ share c x).fn=c.fn/\(∀y,jG c y->jG (aQ share c x) y):=by
 have i:∀(m:aQ share c x=c)(g:jG c x),∃K' ω',ou ω H K K'/\HR K' φ ω' H (aQ share c x).lb (aQ share c x).g/\bX K' φ ω' H tm (aQ share c x).sl/\(∀q r b,ω' q=J (r,b)->∃j,ω q=J (r,j))/\jG (aQ share c x) x/\(aQ share c x).n=c.n/\(aQ share c x).fn=c.fn/\(∀y,jG c y->jG (aQ share c x) y):=by grind[ou.refl]
 cases x with
 |tmp t=>cases E:look c.sl t with|none=>refine i (by grind[aQ]) λv d e m g=>?_;grind|some sv=>
 have e1:aQ share c (.tmp t)={c with sl:=put c.sl t (share sv)}:=by grind[aQ]
 obtain⟨a,g1,g2,g3⟩:=w t sv E;have f:∀y,jG c y->(∀d e,share sv≠.dv d (.ex e))->jG {c with sl:=put c.sl t (share sv)} y:=by
  intro y k n v d e m g;rw[show({c with sl:=put c.sl t (share sv)}:St).sl=put c.sl t (share sv)from rfl,lN]at g;by_cases D:v=t;.grind
  .rw[if_neg D]at g;exact k v d e m g
 have self:(∀d e,share sv≠.dv d (.ex e))->jG {c with sl:=put c.sl t (share sv)} (.tmp t):=by intro n v d e m g;grind[lN]
 have keep:(n:share sv=sv\/share sv=.dd)->(∀d e,share sv≠.dv d (.ex e))->∃K' ω',ou ω H K K'/\HR K' φ ω' H (aQ share c (.tmp t)).lb (aQ share c (.tmp t)).g/\bX K' φ ω' H tm (aQ share c (.tmp t)).sl/\(∀q r b,ω' q=J (r,b)->∃j,ω q=J (r,j))/\jG (aQ share c (.tmp t)) (.tmp t)/\(aQ share c (.tmp t)).n=c.n/\(aQ share c (.tmp t)).fn=c.fn/\(∀y,jG c y->jG (aQ share c (.tmp t)) y):=by
  intro n A;rw[e1];refine⟨K,ω,ou.refl _ _ _,u,I8 u.inv w (bo.refl _) (λ_ _ _ _ _ _ h=>h) (λ_=>rfl) g1 (λh=>g2 ?_) ?_,λq r b h=>⟨b,h⟩,self A,rfl,rfl,λy k=>f y k A⟩;.grind
  . rcases n with n|n;.grind
    .rw[n];exact trivial
 cases sv with|dv d o=>
  obtain⟨K',ω',B,F,G,I,L,M⟩:=cN.share u (p:=.sl t) trivial g3;have n:∀z e,share (.dv d o)≠.dv z (.ex e):=by intro z e h;have:n7 o=.ex e:=(SV.dv.inj h).2;cases o<;>simp[n7]at this
  rw[e1];refine⟨K',ω',B,F,I8 u.inv w B.1 (λp r b _ g _ h=>aT) (λs=>G _ aO) g1 (λ_=>M.qC) L,I,self n,rfl,rfl,λy k=>f y k n⟩|tp l=>grind[share]|_=>grind[share]
 |_=>exact i rfl (λt d e h=>aT)
theorem AS{O s:St}{d:ah Tmp}{x:DV}(c:HR K φ ω H O.lb O.g)(f:bX K φ ω H tm O.sl)(h:aH O d (.dv x .no)=J s)(g:DR K φ x a):fK K φ ω H s (gQ tm d a) H:=by
 rcases yG h with⟨rfl,rfl⟩|⟨t,rfl,i,_,rfl⟩;.exact⟨K,φ,ω,bo.refl _,c.fV (bQ.refl (λ_=>False) _),aU.refl _,c,f,bQ.refl _ _,λp r b e=>.inl ⟨p,b,e⟩⟩
 .exact⟨K,φ,ω,bo.refl _,c.fV (bQ.refl (λ_=>False) _),aU.refl _,c,aIt c.inv f g,bQ.refl _ _,λp r b e=>.inl ⟨p,b,e⟩⟩
def tI(t d:Nat):Pk->ah Pk|.sl x=>if x=d then J (.sl t)else if x=t then Z else J (.sl x)|.tp x j=>if x=d then J (.tp t j)else if x=t then Z else J (.tp x j)|p=>J p
def pE(t:Nat):Pk->ah Pk|.sl x=>if x=t then Z else J (.sl x)|.tp x j=>if x=t then Z else J (.tp x j)|p=>J p
def aI.of(a:aI)(s:Pk->ah Pk):aI:=λp=>(s p).bind a
structure Src(src:Pk->ah Pk):Prop where
 inj:∀p q x,src p=J x->src q=J x->p=q
 base:∀p,¬p.slot->src p=J p
theorem aiz(t d:Nat):Src (tI t d)where
 inj:=λp q x a b=>by
  cases p<;>cases q<;>simp only[tI]at a b;all_goals(try split at a)<;>(try split at a)<;>(try split at b)<;>(try split at b)<;>simp_all
  all_goals(subst a;simp_all)
 base:=λp h=>by cases p<;>simp_all[Pk.slot,tI]
theorem Y2(t:Nat):Src (pE t)where
 inj:=λp q x a b=>by
  cases p<;>cases q<;>simp only[pE]at a b;all_goals(try split at a)<;>(try split at b)<;>simp_all
  all_goals(subst a;simp_all)
 base:=λp h=>by cases p<;>simp_all[Pk.slot,pE]
theorem aI.iz{s:Pk->ah Pk}{b:Bool}(h:ω.of s p=J (r,b)):∃q,s p=J q/\ω q=J (r,b):=aF h
theorem HR.of(h:HR K φ ω H lb g){s:Pk->ah Pk}(e:Src s):HR K φ (ω.of s) H lb g:=by
 refine h.uC (bo.refl _) (λq l=>by unfold aI.of;rw[e.base q l];rfl) h.dk ?_ ?_ ?_;.intro p q r b c x y;obtain⟨f,i,a⟩:=aI.iz x;obtain⟨q0,j,k⟩:=aI.iz y;have:=h.inj _ _ _ _ _ a k;subst this;exact e.inj _ _ _ i j
 .intro p r id x d m;obtain⟨f,_,a⟩:=aI.iz d;exact h.clean _ _ _ _ a m
 .intro p r b d;obtain⟨f,_,a⟩:=aI.iz d;exact h.cw _ _ _ a
theorem ma.aAu{g:Tr AV}{d:Nat}(h:ma K φ ω H tm t sv a)(v:ω' (.sl d)=ω (.sl t))(w:∀j,ω' (.tp d j)=ω (.tp t j))(D:∀s,ω' (.lb s)=ω (.lb s))(A:∀s,(sv=.sr s\/∃i f,sv=.se s i f)->g.get s=tm.get s):ma K φ ω' H g d sv a:=by
 have u:∀{p q:Pk}{x:DV}{y:AV}{o:aM},ω' q=ω p->cN K φ ω H p x y o->cN K φ ω' H q x y o:=by intro p q x y o F k;cases o with|no=>exact k|any=>exact k|full e=>exact k|ty e=>exact⟨k.1,k.2.imp id λ⟨r,b,x1,x2⟩=>⟨r,b,ai,x2⟩⟩|ex e=>exact Or.imp id (λ⟨r,x1,x2⟩=>⟨r,ai,x2⟩) k
 rcases sv with⟨x,o⟩|l|⟨s,f⟩|x|s|⟨s,i,f⟩|⟨id,f⟩|n|_;.exact u v h
 .obtain⟨m,g1,g2,g3⟩:=h;exact⟨m,g1,g2,λj x y a b=>u (w j) (g3 j x y a b)⟩
 .exactλi b E=>h i b ai
 .exact h
 .show g.get s=J a;rw[A s (.inl rfl)];exact h
 .obtain⟨id,B,len,c,z,g1,g2⟩:=h;exact⟨id,B,len,c,z,ai,g2⟩
 .exact h
 .exact h
 trivial
theorem ay1(h:ma K φ ω H tm t sv a):ma K φ (ω.of (pE t)) H tm t (leave sv) a:=by
 rcases sv with⟨x,o⟩|l|⟨s,f⟩|x|s|⟨s,i,f⟩|⟨id,f⟩|n|_;.cases o with|no=>exact h|any=>obtain⟨rfl,rfl⟩:=h;exact .nl|full e=>exact h.1|ty e=>exact h.1|ex e=>
  rcases h with⟨rfl,rfl⟩|⟨r,_,d⟩;.exact .jk _ rfl rfl
  .obtain⟨l,z,id,f,c,cells,fl,g,d,_⟩:=d.ex;subst d;exact .jk _ rfl rfl
 .trivial
 .exactλi b j=>h i b (by grind[aI.iz,pE])
 .exact h
 .exact h
 .exact h
 .exact h
 .exact h
 trivial
theorem Q2{c:St}(f:HR K φ ω H c.lb c.g)(g:bX K φ ω H tm c.sl)(l:look c.sl t=J sv)(e:tm.get t=J a)(y:a≠.top)(v:ma K φ ω H tm t sv a):bX K φ (ω.of (pE t)) H tm (put c.sl t (leave sv)):=by
 refine I8 f.inv g (bo.refl _) (λp r b i k d h=>?_) (λs=>rfl) e (λ_=>y) (ay1 v);cases p<;>simp only[Pk.slot]at d;.rename_i x;show(pE t (.sl x)).bind ω=_;grind[pE]
 .rename_i x j;show(pE t (.tp x j)).bind ω=_;grind[pE]
theorem af6{c:St}{d:Nat}(g:HR K φ ω H c.lb c.g)(k:bX K φ ω H tm c.sl)(w:look c.sl t=J sv)(E:tm.get t=J a)(T:sv≠.dd)(y:a≠.top)(v:ma K φ ω H tm t sv a)(L:∀s,(sv=.sr s\/∃i o,sv=.se s i o)->s≠d):∃ω',HR K φ ω' H c.lb c.g/\bX K φ ω' H (tm.ins d a) (put (ij (put c.sl t (leave sv)) d) d sv)/\∀p r b,ω' p=J (r,b)->∃q,ω q=J (r,b):=by
 refine⟨ω.of (tI t d),g.of (aiz t d),?_,λp r b h=>let⟨q,_,f⟩:=aI.iz h;⟨q,f⟩⟩;have m:=Q2 g k w E y v;refine w9 (S:=λ_=>False) (sl:=put c.sl t (leave sv)) g.inv m (bQ.refl _ _) (bo.refl _) (aU.refl _) (λp r b f n u h=>⟨?_,id⟩) (λs i b h=>h) (λ_ _ _=>id) (λ_=>y) ?_
 . obtain⟨q,g1,g2⟩:=aI.iz h;rcases u with⟨x,rfl⟩|⟨x,j,rfl⟩
   . simp only[pE]at g1;split at g1;.grind
     .cases g1;rename_i z;have l:x≠d:=λe=>n ai;show(tI t d (.sl x)).bind ω=_;grind[tI]
   . simp only[pE]at g1;split at g1;.grind
     .cases g1;rename_i z;have l:x≠d:=λe=>f j ai;show(tI t d (.tp x j)).bind ω=_;grind[tI]
 .refine v.aAu (by show(tI t d (.sl d)).bind ω=_;simp[tI]) (λj=>by show(tI t d (.tp d j)).bind ω=_;simp[tI]) (λs=>rfl) λs k=>Tr.jr _ _ (λe=>L s k e.symm)
end
end Go.VM
namespace Go.AM
open Go
variable{r:AV}{H':Heap}{x:aK}{t:an}
section
variable{P:aG}{S:Nat->Prop}{φ:bc}{H:Heap}{w:aW}{tm:Tr AV}{ρ:aK->aC}
variable(hi:bg H)(hs:bM S φ H w)(hg:iP P φ)(hr:Reads ρ)
include hi hs hg hr
theorem aqX{q:ah aK}(h:Gm P tm H t q=J (.val r H'))(o:∀x,q=J x->fj φ tm ρ x):dz P S φ H w (Instr.makeMap t (q.map ρ)) r H':=by
 unfold Gm at h;obtain⟨d,a,b⟩:=LQ (P:=P) hi hs (.map [] 0) _ rfl ⟨rfl,#[],wX w _,⟨rfl,aO⟩⟩;have fin:∀(s:Sem _),s.run P w=.ok _ _->dz P S φ H w s _ _:=λs i=>⟨_,_,_,i,.map _ _ a,b⟩;rcases q with _|x;.simp_all[Instr.makeMap]
 simp only at h;split at h;.rename_i e f k n u c;have v:=(fE hg hr (o x rfl) c).1;simp only[gF];generalize ρ x=g at v;cases v;simp_all[Instr.makeMap,dC,asInt,asIntOf]
 grind
theorem aqW{f:bV}{s c:Array aK}(o:∀x,x∈s.toList->fj φ tm ρ x)(U:∀x,x∈c.toList->fj φ tm ρ x)(h:Gl P tm H f s c=J (.val r H')):dz P S φ H w (Instr.makeFunc (.func f) (s.map ρ) (c.map ρ)) r H':=by obtain⟨a,k,h⟩:=aF h;obtain⟨b,l,h⟩:=aF h;obtain⟨j,rfl⟩:=ml h;cases j;have e:=L6 hg hr o k;have g:=L6 hg hr U l;refine dz.read hi hs (by rfl) ?_;exact .func f a b _ _ (by simpa using e.1) (by simpa using g.1) (λi x v d m=>e.2 i x v d ai) (λi x v d m=>g.2 i x v d ai)
theorem aq1{o:aB}(g:o.op=.nilCheck x)(b:fj φ tm ρ x)(h:DG P tm H x=J (.val r H')):sT P S φ H w (execOp ρ o) r H':=by
 unfold DG at h;split at h;iterate 3·rename_i c;obtain⟨a,rfl⟩:=ml h;cases a;have v:=(fE hg hr b c).1;refine⟨φ,.value _,w,?_,v,hQ.refl hi hs⟩;simp only[execOp,g];generalize ρ x=d at v;cases v;rfl
 grind
theorem aqI{p:BinOp}{y:aK}(m:fj φ tm ρ x)(o:fj φ tm ρ y)(h:Gf P tm H p t x y=J (.val r H')):dz P S φ H w (do eqGuard p t x y (ρ x) (ρ y);binOp p t (ρ x) (ρ y)) r H':=by obtain⟨a,d,h⟩:=aF h;obtain⟨b,e,h⟩:=aF h;obtain⟨c,rfl⟩:=ml h;obtain⟨T,O⟩:=fE hg hr m d;obtain⟨l,j⟩:=fE hg hr o e;obtain⟨z,f,g⟩:=alb c T l O j;simp_all[dz.read]
theorem aq6{o:UnOp}(m:fj φ tm ρ x)(h:Gp P tm H o x=J (.val r H')):dz P S φ H w (Op.unary o (ρ x)) r H':=by obtain⟨a,c,h⟩:=aF h;obtain⟨b,rfl⟩:=ml h;grind[dz.vy,aKp,fE]
theorem R5{q:ah aK}{b:ah AV}(h:(match q with|some x=>(bB P tm x).map J|none=>J Z)=J b)(o:∀x,q=J x->fj φ tm ρ x):p9 φ b (q.map ρ):=by
 rcases q with _|x;.cases h;trivial
 simp only[ja]at h;obtain⟨v,a,rfl⟩:=h;exact(fE hg hr (o x rfl) a).1
theorem aq4{a c b:ah aK}(n:fj φ tm ρ x)(K:∀y,a=J y->fj φ tm ρ y)(O:∀y,c=J y->fj φ tm ρ y)(p:∀y,b=J y->fj φ tm ρ y)(f:∀id o,bB P tm x=J (.ptr id o)->S (rootOf H id))(h:Nd P tm H t x a c b=J (.val r H')):dz P S φ H w (Instr.sliceAt t (ρ x) (a.map ρ) (c.map ρ) (b.map ρ)) r H':=by obtain⟨v,k,h⟩:=aF h;obtain⟨l,g,h⟩:=aF h;obtain⟨u,j,h⟩:=aF h;obtain⟨m,i,h⟩:=aF h;obtain⟨d,rfl⟩:=ml h;obtain⟨z,q,s⟩:=aIl hs d (fE hg hr n k).1 (R5 hi hs hg hr g K) (R5 hi hs hg hr j O) (R5 hi hs hg hr i p) (λid o e=>f id o ai);grind[dz.read]
theorem aqR{s:an}{f:Nat}(m:fj φ tm ρ x)(h:DC P tm H s x f=J (.val r H')):dz P S φ H w (Instr.fieldAt s (ρ x) f) r H':=by
 unfold DC at h;split at h
 . obtain⟨d,b,h⟩:=aF h;obtain⟨n,c,h⟩:=aF h;split at h;.obtain⟨a,rfl⟩:=ml h;grind[dz.vy,ary,fE]
   grind
 grind
theorem aqQ{f:Nat}(m:fj φ tm ρ x)(h:Gj P tm H t x f=J (.val r H')):dz P S φ H w (Instr.field t (ρ x) f) r H':=by
 unfold Gj at h;split at h
 . obtain⟨d,b,h⟩:=aF h;split at h;.obtain⟨a,rfl⟩:=ml h;grind[dz.vy,arA,fE]
   grind
 grind
theorem aqT{i:aK}(m:fj φ tm ρ x)(K:fj φ tm ρ i)(h:B0 P tm H t x i=J (.val r H')):dz P S φ H w (Instr.indexAt t (ρ x) (ρ i)) r H':=by
 unfold B0 at h;split at h
 . rename_i k n a;have z:=Im (fE hg hr K a).1;split at h
   . rename_i len e id o u j;obtain⟨sz,f,h⟩:=aF h;rw[eK]at h;by_cases b:n<len;.simp only[b,dM,aR]at h;obtain⟨d,rfl⟩:=ml h;grind[dz.vy,awL,fE]
     grind
   . rename_i e id o len c s u j;obtain⟨sz,f,h⟩:=aF h;rw[eK,bE]at h;by_cases b:n<len
     . by_cases g:sz=s;.subst g;simp only[b,dM,xi,aR]at h;obtain⟨d,rfl⟩:=ml h;grind[dz.vy,awN,fE]
       grind
     grind
   grind
 grind
theorem aqS{i:aK}(m:fj φ tm ρ x)(K:fj φ tm ρ i)(h:DD P tm H t x i=J (.val r H')):dz P S φ H w (Instr.index t (ρ x) (ρ i)) r H':=by
 unfold DD at h;split at h
 . rename_i k n c;have z:=Im (fE hg hr K c).1;split at h
   . rename_i len e s u d;rw[z];obtain⟨sz,f,h⟩:=aF h;rw[eK]at h;by_cases b:n<len;.simp only[b,dM,aR]at h;obtain⟨a,rfl⟩:=ml h;exact dz.vy hi hs (awP u f b (fE hg hr m d).1 a)
     .simp[b]at h
   .obtain⟨a,rfl⟩:=ml h;grind[ja,dz.vy,awQ,fE]
   grind
 grind
theorem aqP{i:Nat}(m:fj φ tm ρ x)(h:Jr P tm H x i=J (.val r H')):dz P S φ H w (Instr.extract (ρ x) i) r H':=by
 unfold Jr at h;split at h;.obtain⟨a,rfl⟩:=ml h;grind[dz.vy,aro,fE]
 grind
end
end Go.AM
namespace Go.AM
open Go
variable{r:AV}{H':Heap}{k m x:aK}{t:an}
section
variable{P:aG}{S:Nat->Prop}{φ:bc}{H:Heap}{w:aW}{tm:Tr AV}{ρ:aK->aC}
variable(hi:bg H)(hs:bM S φ H w)(hg:iP P φ)(hr:Reads ρ)
include hi hs hg hr
theorem aqM{s d:an}(m:fj φ tm ρ x)(h:Gi P tm H s d x=J (.val r H')):dz P S φ H w (convert s d (ρ x)) r H':=by
 obtain⟨v,a,h⟩:=aF h;have j:=(fE hg hr m a).1;split at h;.obtain⟨b,rfl⟩:=ml h;grind[dz.vy,ani]
 all_goals grind[anj]
theorem aqY{l c:aK}(X:fj φ tm ρ l)(Y:fj φ tm ρ c)(h:Gn P tm H t l c=J (.val r H')):dz P S φ H w (Instr.makeSlice t (ρ l) (ρ c)) r H':=by
 unfold Gn at h;split at h
 . rename_i m I;split at h
   . rename_i i kl b kc cn T hl hc;have mL:=Im (fE hg hr X hl).1;have W:=Im (fE hg hr Y hc).1;rw[bE,dg,dg,dg,bE]at h;by_cases kx:i.size≠0/\b<=cn/\cn*i.bytes<=bl/\cn<=bl
     . obtain⟨o,q,E,F⟩:=kx;have e3:decide (iR cn _<=bl)=V:=lf E;rw[xK o,lf q,e3,lf F]at h;obtain⟨z,L,h⟩:=aF h;have y:∃(j:Array _)(s:Array _),((cn*i.size=0->j=#[])/\(cn*i.size≠0->∃v,(zeroValue m).run P w=.ok v w/\v.cells=j))/\s=(Array.range (cn*i.size)).map (j[.%j.size]!)/\ba φ (jA cn z) s.toList/\(∀x,x∈jA cn z->x.aV=V)/\(cn=0\/z.length=i.size):=by
         by_cases u:cn=0;.simp_all[ba.nil,QF]
         . simp only[u,kM,bS]at L;obtain⟨a,ha,qp⟩:=aF L;obtain⟨v,A,B⟩:=FO (φ:=φ) ha w;obtain⟨c1,c2⟩:=B.cells qp;rw[bE,dS,xK u]at h;have kh:z.length=i.size:=by grind
           have cB:=λe=>(Nat.mul_eq_zero.1 e).elim u o;refine⟨_,_,⟨λe=>absurd e cB,λ_=>⟨v,A,rfl⟩⟩,rfl,?_,QG c2 cn,.inr kh⟩;grind[ajq]
       obtain⟨j,s,k1,k2,k3,k4,k5⟩:=y;have U:(decide (cn=0)||aw (eM z) i.size)=V:=by grind
       rw[U]at h;obtain⟨rfl,rfl⟩:=fh.val.inj (bt h);obtain⟨p,p1,p2,p3,p4,R,p6⟩:=P7 hi hs _ _ _ s k3 k4;have xY:s.size=cn*i.size:=ai;have D:aZ P m=J i.size:=by grind[aZ]
       have G:(jA cn z).length=cn*i.size:=by have:=k3.1;grind
       refine⟨_,.slice (J ⟨p.aY,0,Z⟩) b cn,_,?_,?_,p6⟩
       . rw[mL,W];have sA:cn<=1099511627776:=F;have Uj:cn*i.bytes<=1099511627776:=E;have wr:∀n:Nat,n<=1099511627776->IntKind.i64.wrap (di n)=di n:=λn hn=>by rw[<-BY];show(bif cm n 9223372036854775808 then di n else _)=_;grind[eK]
         have w1:=wr cn sA;have w2:=wr b ab;have M:¬((cn:Int)<0):=ab;have N:¬((b:Int)<0):=ab;have O:¬((cn:Int)<(b:Int)):=ab;have Q:¬((281474976710656:Int)<(i.bytes:Int)*(cn:Int)):=by grind
         have d:IntKind.i64.wrap (cn:Int)=(cn:Int):=w1;have g:IntKind.i64.wrap (b:Int)=(b:Int):=w2;unfold Instr.makeSlice;by_cases e:cn*i.size=0;.have:=k1.1 e;subst this;simp[dC I,asInt,asIntOf,BQ T,d,g,M,N,O,Q,askRoom,lR D];have K:cn=0:=(Nat.mul_eq_zero.1 e).resolve_right o;subst K;have u:s=#[]:=ai;subst u;have e0:∀f:Nat->aC,Array.map f (Array.range 0)=#[]:=λf=>aO;rw[DP,if_pos rfl,e0,R];rfl
         .obtain⟨v,A,B⟩:=k1.2 e;subst B;have K:cn≠0:=λe'=>e ai;have oH:¬(cn=0\/i.size=0):=ab;simp[dC I,asInt,asIntOf,BQ T,d,g,M,N,O,Q,askRoom,lR D,A,<-k2,R];omega
       .have hp:fp φ H.next p H.next=J p:=jD _ _ _;have aMB:b*i.size<=cn*i.size:=lD _ q;refine .sl H.next 0 b (J cn) i.size p _ cn hp q ab (λk hk=>?_) (λhk=>ab) (λ_=>ai) (Nat.pos_of_ne_zero o) ?_<;>grind
     grind
   grind
 grind
theorem aqV{d:Bool}(n:fj φ tm ρ x)(A:fj φ tm ρ k)(D:∀m o,bB P tm x=J (.map m)->H.jL m=J o->S (rootOf H m))(h:B1 P tm H t x k d=J (.val r H')):dz P S φ H w (Instr.lookup t (ρ x) (ρ k) d) r H':=by
 unfold B1 at h;split at h
 . rename_i i B u;obtain⟨s,f,h⟩:=aF h;obtain⟨v,G,h⟩:=aF h;rcases b:pW P i v with _|_;.grind
   simp only[b,aR]at h;have e:Aa P i B s v d=J r/\H=H':=by
    unfold Aa;obtain⟨q,O,h⟩:=aF h;rcases q with _|T;.obtain⟨z,R,h⟩:=aF h;grind[ml]
    grind[ml]
   obtain⟨l,rfl⟩:=e;have Q:=(fE hg hr A G).1;split at f;.rename_i a;cases f;have j:=(fE hg hr n a).1;generalize ρ x=K at j;cases j;obtain⟨z,L,M⟩:=US (w:=w) u (.inr ⟨rfl,rfl⟩) ⟨rfl,aO⟩ Q b l;grind[dz.read]
   .rename_i m a;simp only[ja]at f;obtain⟨o,g,rfl⟩:=f;obtain⟨s,c⟩:=o;have j:=(fE hg hr n a).1;generalize ρ x=K at j;cases j with|map _ p I=>obtain⟨y,E,F,N⟩:=Ad hs I (D m _ a g) (sD g);obtain⟨z,L,M⟩:=US u (.inl ⟨_,c,rfl,E⟩) F Q b l;grind[dz.read]
   grind
 grind
theorem acK(l:∀r,S r)(I:fj φ tm ρ m)(j:fj φ tm ρ k)(G:fj φ tm ρ x)(h:DE P tm H t m k x=J (.val r H')):sT P S φ H w (do Instr.mapUpdate t (ρ m) (ρ k) (ρ x);pure .skip) r H':=by
 unfold DE at h;split at h
 . rename_i F N K B s;obtain⟨L,E,h⟩:=aF h;obtain⟨v,o,h⟩:=aF h;obtain⟨O,D,h⟩:=aF h;rcases f:pW P F v with _|_;.grind
   simp only[f,aR]at h;obtain⟨q,z,h⟩:=aF h;have u:=(fE hg hr I s).1;generalize ρ m=M at u;cases u with|map _ p y=>
   rcases aKC hi hs B y (l _) (sD E) (fE hg hr j o).1 f (fE hg hr G D).1 z with⟨rfl,d,g,a,b,c⟩|⟨i,e,rfl,n⟩;.obtain⟨rfl,rfl⟩:=fh.val.inj (bt h);exact⟨φ,.skip,d,aT,rfl,a,b.up aT,c⟩
   . rcases A:sameKey e.1 v with _|_;.grind
     simp only[A,aR]at h;obtain⟨rfl,rfl⟩:=fh.val.inj (bt h);obtain⟨d,g,a,b,c⟩:=n A;exact⟨φ,.skip,d,aT,rfl,a,b.up aT,c⟩
 grind
theorem aqZ(D:∀r y,bB P tm m=J (.map r)->H.jL r=J y->S (rootOf H r))(M:fj φ tm ρ m)(B:fj φ tm ρ k)(h:Js P tm H t m k=J (.val r H')):dz P S φ H w (Instr.mapEntry t (ρ m) (ρ k)) r H':=by
 unfold Js at h;split at h
 . rename_i L Q x I n;obtain⟨y,s,h⟩:=aF h;obtain⟨v,E,h⟩:=aF h;rcases l:pW P L v with _|_;.grind
   simp only[l,aR]at h;obtain⟨q,G,h⟩:=aF h;have Y:=(fE hg hr M n).1;generalize ρ m=O at Y;cases Y with|map _ p F=>
   have N:∀o,(H.put x x o).next=H.next:=λo=>rfl;rcases ao7 hi hs I F (D _ _ n s) (sD s) (fE hg hr B E).1 l G with⟨rfl,g⟩|⟨i,e,rfl,g⟩;.simp only[ja]at h;obtain⟨z,K,h⟩:=h;obtain⟨rfl,rfl⟩:=fh.val.inj h;obtain⟨u,j,c,b,a,d,f⟩:=g z K;exact⟨φ,u,j,c,b,a,d.grow a aT,f⟩
   . rcases A:sameKey e.1 v with _|_;.grind
     simp only[A,aR]at h;obtain⟨rfl,rfl⟩:=fh.val.inj (bt h);obtain⟨u,j,c,b,a,d,f⟩:=g A;exact⟨φ,u,j,c,b,a,d.grow a aT,f⟩
 grind
theorem aqO{s:aK}(e:∀r,S r)(y:fj φ tm ρ m)(q:fj φ tm ρ s)(o:fj φ tm ρ x)(h:Rp P tm H m s x=J (.val r H')):sT P S φ H w (do Instr.entryStore t (ρ m) (ρ s) (ρ x);pure .skip) r H':=by
 unfold Rp at h;split at h;.rename_i D k b g f;obtain⟨E,n,h⟩:=aF h;obtain⟨G,l,h⟩:=aF h;simp only[ja]at h;obtain⟨A,i,h⟩:=h;obtain⟨rfl,rfl⟩:=fh.val.inj h;have u:=(fE hg hr y g).1;have B:=Im (fE hg hr q f).1;generalize ρ m=F at u;cases u with|map _ p j=>obtain⟨v,z,a,c,d⟩:=ao5 (P:=P) (t:=t) (kk:=k) hi hs j (e _) (sD n) (fE hg hr o l).1 i;exact⟨φ,.skip,v,aT,rfl,a,c.up aT,d⟩
 grind
theorem aq3(j:∀r,S r)(i:fj φ tm ρ x)(h:Rr P tm H t x=J (.val r H')):dz P S φ H w (Instr.range t (ρ x)) r H':=by
 unfold Rr at h;split at h;.rename_i n v d e;obtain⟨rfl,rfl⟩:=fh.val.inj (bt h);obtain⟨u,g,f,a,b,c⟩:=aFN hi hs d (fE hg hr i e).1;exact⟨g,u,f,a,b,c⟩
 .rename_i n v m d e;simp only[ja]at h;obtain⟨o,l,h⟩:=h;obtain⟨rfl,rfl⟩:=fh.val.inj h;have Y:=(fE hg hr i e).1;generalize ρ x=q at Y;cases Y with|map _ p k=>obtain⟨u,g,f,a,b,c⟩:=aFM hi hs d k (j _) (sD l);exact⟨g,u,f,a,b,c⟩
 grind
end
end Go.AM
namespace Go.AM
open Go
variable{r:AV}{H':Heap}
section
variable{P:aG}{S:Nat->Prop}{φ:bc}{H:Heap}{w:aW}{tm:Tr AV}{ρ:aK->aC}
theorem bM.eqw{a:aW}(s:bM S φ H w)(h:a=w\/a=w.drew):bM S φ H a:=by
 rcases h with rfl|rfl;.omega
 .exact s.drew
theorem hQ.eqw{a:aW}(i:bg H)(s:bM S φ H w)(h:a=w\/a=w.drew):hQ S φ H w φ H a:=by
 rcases h with rfl|rfl;.grind[hQ.refl]
 .exact hQ.drew (hQ.refl i s.drew)
section one
variable(hi:bg H)(hs:bM S φ H w)(hg:iP P φ)(hr:Reads ρ)
include hi hs hg hr
theorem aq0{i:aK}{t:an}(d:∀r,S r)(B:fj φ tm ρ i)(h:Rq P tm H i=J (.val r H')):dz P S φ H w (Instr.next (ρ i) C t) r H':=by
 unfold Rq at h;split at h;.rename_i id hit;have v:=(fE hg hr B hit).1;generalize ρ i=O at v;cases v with|ptr _ _ p g=>
  split at h;.rename_i E;obtain⟨k,rfl⟩:=ml h;obtain⟨u,a,b⟩:=aAR (P:=P) (ty:=t) hs g (d _) E;grind[dz.read]
  . rename_i m s seen o E;obtain⟨I,F,h⟩:=aF h;obtain⟨z,c⟩:=I;generalize n:(aw c _&&(aw _ _&&kY _ z))=cond at h;rcases cond with _|_;.grind
    simp only[bE,gD,gZ,qf,AH,eK]at n;obtain⟨rfl,rfl,G⟩:=n;have K:=sD F;have A:∃q,φ m=J q:=by obtain⟨_,Q,_,N⟩:=L7 hs g (d _) E rfl;grind
    obtain⟨q,D⟩:=A;obtain⟨L,M⟩:=aAP (P:=P) (ty:=t) hi hs g (d _) E D (d _) K G;split at h;.rename_i l;obtain⟨k,rfl⟩:=ml h;cases k;obtain⟨u,j,a,b,f⟩:=L l;exact⟨φ,u,j,a,b,hQ.eqw hi hs f⟩
    .rename_i e l;obtain⟨rfl,rfl⟩:=fh.val.inj (bt h);obtain⟨u,j,a,b,f,x,y⟩:=M e l;exact⟨φ,u,j,a,b,f,x.up ai,y⟩
    grind
  grind
 grind
theorem aqN{i:aK}(d:∀r,S r)(o:fj φ tm ρ i)(h:Ro P tm H i=J (.val r H')):dz P S φ H w (Instr.entry (ρ i)) r H':=by
 unfold Ro at h;split at h;.rename_i id hit;have v:=(fE hg hr o hit).1;generalize ρ i=B at v;cases v with|ptr _ _ p j=>
  split at h
  . rename_i m a seen D E;obtain⟨t,n,h⟩:=aF h;obtain⟨b,c⟩:=t;rw[bE]at h;by_cases f:c=D
    . simp only[f,dM,aR]at h;rcases seen with _|⟨s,seen⟩;.grind
      cases seen with|cons=>grind|nil=>
      rcases b with _|⟨e,b⟩;.grind
      cases b with|cons=>grind|nil=>
      simp only[bE]at h;by_cases g:e.2.2=s
      . simp only[g,dM,aR]at h;obtain⟨z,rfl⟩:=ml h;subst f;have k:∃q,φ m=J q:=by obtain⟨_,F,_,A⟩:=L7 hs j (d _) E rfl;grind
        obtain⟨q,l⟩:=k;obtain⟨u,x,y⟩:=aJl (P:=P) hs j (d _) E l (d _) (sD n) g;grind[dz.read]
      grind
    grind
  grind
 grind
theorem zH{o:aB}(f:Jv P S tm H o)(q:nY o.op=C)(n:eA P tm H o=Z):∀r,S r:=by rcases f with h|h<;>grind
theorem Hw{o:aB}{l:List (Touch×Nat)}(f:Jv P S tm H o)(q:nY o.op=C)(n:eA P tm H o=J l):∀t,t∈l->S t.2:=by rcases f with h|h<;>grind
end one
theorem My{m:Nat}{o:List eF×Nat}(h:H.jL m=J o):rootOf H m=m:=by exact yC (sD h) rfl
set_option maxHeartbeats 4000000 in theorem acM(j:bg H)(p:bM S φ H w)(u:iP P φ)(z:Reads ρ){ak:cg}{G:aB}(g:∀x,x∈G.op.operands.toList->fj φ tm ρ x)(A:Jv P S tm H G)(hc:∀c,G.op=.call c->∃b,c.callee=.builtin b)(h:dX P ak tm H G=J (.val r H')):sT P S φ H w (execOp ρ G) r H':=by
 have h0:=h;obtain⟨od,op,T,Qg,oa,og⟩:=G;simp only[dX]at h;cases op<;>(try simp only at h)<;>(try simp only[execOp]);case move x=>exact acL j p u z (g x (by simp[eJ])) h
 case assign x=>exact acL j p u z (g x (by simp[eJ])) h
 case pick c a b=>exact aq2 j p u z (g c (by simp[eJ])) (g a (by simp[eJ])) (g b (by simp[eJ])) h
 case alloc e=>exact(aqH j p h).next
 case box e x=>exact(aqJ j p u z (g x (by simp[eJ])) h).next
 case build t ps=>exact(aqK j p u z (λx F=>g _ (by grind[eJ])) h).next
 case buildSlice t n ps=>exact(aqL j p u z (λx F=>g _ (by grind[eJ])) h).next
 case load t a=>
  refine(aqU j p u z (g a (by simp[eJ])) (λid K D=>?_) h).next;rcases Y:sK H id with _|q;.exact zH j p u z A rfl (by grind[eA]) _
  have:=Hw j p u z A rfl (l:=[(.rd,q)]) (by grind[eA]) (.rd,q) aO;grind[ah1]
 case store t a x=>
  refine aq5 j p u z (g a (by simp[eJ])) (g x (by simp[eJ])) (λid K D=>?_) h;rcases Y:sK H id with _|q;.exact zH j p u z A rfl (by grind[eA]) _
  have:=Hw j p u z A rfl (l:=[(.wr,q)]) (by grind[eA]) (.wr,q) aO;grind[ah1]
 case nilCheck x=>exact aq1 (o:=⟨od,_,T,Qg,oa,og⟩) j p u z rfl (g x (by simp[eJ])) h
 case binOp op t x y yt=>exact(aqI j p u z (g x (by simp[eJ])) (g y (by simp[eJ])) h).next
 case unOp op t x=>exact(aq6 j p u z (g x (by simp[eJ])) h).next
 case convert s d x=>exact(aqM j p u z (g x (by simp[eJ])) h).next
 case makeFunc f a b=>cases f with|func f=>exact(aqW j p u z (λx F=>g x (by grind[eJ])) (λx F=>g x (by grind[eJ])) h).next|_=>grind
 case makeMap t q=>exact(aqX j p u z h (λx F=>g x (by grind[eJ]))).next
 case makeSlice t l c=>exact(aqY j p u z (g l (by simp[eJ])) (g c (by simp[eJ])) h).next
 case slice t x lo cH mx=>refine(aq4 j p u z (g x (by simp[eJ])) (λy X=>g y (by grind[eJ])) (λy X=>g y (by grind[eJ])) (λy X=>g y (by grind[eJ])) (λid K F=>?_) h).next;exact zH j p u z A rfl (by grind[eA]) _
 case fieldAddr s x f=>exact(aqR j p u z (g x (by simp[eJ])) h).next
 case field s x f=>exact(aqQ j p u z (g x (by simp[eJ])) h).next
 case indexAddr t x i=>exact(aqT j p u z (g x (by simp[eJ])) (g i (by simp[eJ])) h).next
 case index t x i=>exact(aqS j p u z (g x (by simp[eJ])) (g i (by simp[eJ])) h).next
 case lookup t x k ok=>
  have E:∃B,bB P tm k=J B:=by cases E:bB P tm k with|some B=>grind|none=>simp only[B1]at h;split at h<;>simp_all
  obtain⟨B,E⟩:=E;refine(aqV j p u z (g x (by simp[eJ])) (g k (by simp[eJ])) (λm L W I=>?_) h).next;rw[My I];cases ok with|true=>exact Hw j p u z A rfl (l:=[(.rd,m)]) (by grind[eA]) (.rd,m) aO|false=>exact Hw j p u z A rfl (l:=[(bif FQ P t B then .look t B else .rd,m)]) (by grind[eA]) (bif FQ P t B then .look t B else .rd,m) aO
 case mapUpdate t m k x=>exact acK j p u z (zH j p u z A rfl rfl) (g m (by simp[eJ])) (g k (by simp[eJ])) (g x (by simp[eJ])) h
 case insert t m k x=>exact acK j p u z (zH j p u z A rfl rfl) (g m (by simp[eJ])) (g k (by simp[eJ])) (g x (by simp[eJ])) h
 case mapEntry t m k=>
  have E:∃B,bB P tm k=J B:=by cases E:bB P tm k with|some B=>grind|none=>simp only[Js]at h;split at h<;>simp_all
  obtain⟨B,E⟩:=E;refine(aqZ j p u z (λr L W I=>?_) (g m (by simp[eJ])) (g k (by simp[eJ])) h).next;rw[My I];exact Hw j p u z A rfl (l:=[(.entry t B,r)]) (by grind[eA]) (.entry t B,r) aO
 case entryStore t m s x=>exact aqO j p u z (zH j p u z A rfl rfl) (g m (by simp[eJ])) (g s (by simp[eJ])) (g x (by simp[eJ])) h
 case range t x=>exact(aq3 j p u z (zH j p u z A rfl rfl) (g x (by simp[eJ])) h).next
 case next Q PD=>
  cases PD;case true=>grind
  exact(aq0 j p u z (zH j p u z A rfl rfl) (g Q (by simp[eJ])) h).next
 case entry Q=>exact(aqN j p u z (zH j p u z A rfl rfl) (g Q (by simp[eJ])) h).next
 case extract t i=>exact(aqP j p u z (g t (by simp[eJ])) h).next
 case call c=>
  obtain⟨b,U⟩:=hc c rfl;obtain⟨callee,args,N⟩:=c;subst U;obtain⟨d,hd,h⟩:=aF h;obtain⟨M,D,hd⟩:=aF hd;cases hd;have CS:=L6 u z (λx F=>g x (by grind[eJ,Call.operands])) D;have O:ba φ M (args.map ρ).toList:=aT;have R:im P H b N M=J (r,H'):=by simp_all[ur]
  have hS:(∀r,S r)\/(b=.len/\∀m L,M=[.map m]->H.jL m=J L->S (rootOf H m))\/b=.cap:=by
   cases b;case len=>
    right;left;refine⟨rfl,λm L W I=>?_⟩;rw[My I];rcases hl:args.toList with _|⟨x,t⟩;.grind[EZ]
    rw[hl,PX]at D;obtain⟨v,hv,D⟩:=aF D;obtain⟨t',ht,D⟩:=aF D;have htn:t=[]:=by have:=(E3 ht).1;grind
    exact Hw j p u z A rfl (l:=[(.rd,m)]) (by grind[eA]) (.rd,m) aO
   case cap=>grind
   all_goals exact .inl (zH j p u z A rfl rfl)
  have U:=λaa=>alZ (ty:=T) (cs:=aa) j p hS R O;change sT P S φ H w (builtin b _ T _ _) r H';grind
 all_goals grind
end
end Go.AM
namespace Go.AM
open Go
variable{v:AV}{ops:Array aB}{H H':Heap}{k:List Item}{cs:List dh}{S:Nat->Prop}{rec:Rec}{tm:Tr AV}{P:aG}{w:aW}{φ ψ:bc}{F:dh}
def gC:Nat->Prop:=λ_=>True
def fT(d:bc)(H:Heap)(w:aW)(c:bc)(a:Heap)(b:aW):Prop:=bg a/\bM gC c a b/\Fr d H w c a b
def zg(a:bc):ah Nat->ah Nat->Prop|none,Z=>True|some l,J b=>∃p,a l=J p/\b=p.aY|_,_=>False
structure iM(φ:bc)(fr:cD)(F:dh)(todo:List Item):Prop where
 fn:F.fn=fr.fn
 tmps:qW φ fr.n fr.tmps F.tmps
 todo:fr.mode=.run->F.todo=todo
 defers:yX φ fr.defers F.defers
 mode:F.mode=fr.mode
 kind:F.kind=.normal
 round:zg φ fr.roundOf F.roundOf
theorem zg.mono(h:Ext φ ψ){a b:ah Nat}(r:zg φ a b):zg ψ a b:=by cases a<;>cases b<;>simp only[zg]at r|-;obtain⟨p,c,d⟩:=r;exact⟨p,h _ _ c,d⟩
theorem iM.mono(h:Ext φ ψ){f:cD}(r:iM φ f F k):iM ψ f F k:=⟨r.fn,r.tmps.mono h,r.todo,r.defers.mono h,r.mode,r.kind,r.round.mono h⟩
theorem bM.RT{n:Nat}(h:bM (AM.more S n) φ H w)(a:∀r,S r):bM gC φ H w:=h.up λr _=>.inl (a r)
theorem hQ.RT{a:aW}(h:hQ S φ H w ψ H' a)(b:∀r,S r):fT φ H w ψ H' a:=⟨h.1,h.2.1.RT b,h.2.2⟩
theorem fT.refl(h:bg H)(s:bM gC φ H w):fT φ H w φ H w:=⟨h,s,Fr.refl φ H w⟩
theorem fT.trans{d:bc}{H1 a:Heap}{b c:aW}(i:bg H)(s:bM gC φ H w)(h:fT φ H w ψ H1 b)(k:fT ψ H1 b d a c):fT φ H w d a c:=⟨k.1,k.2.1,h.2.2.trans k.2.2 (λid p e=>s.stat.lt i e) (λid p e=>h.2.1.stat.lt h.1 e)⟩
def kp(P:aG)(d:bc)(H:Heap)(w:aW)(f:cD)(F:dh)(s:List dh):Out->Prop|.ret v H'=>∃ψ b u,fT d H w ψ H' b/\VR ψ v u/\(f.roundOf=Z->∃a,Steps P (fc F s w) (fc a s b)/\a.fn=F.fn/\a.mode=.returning/\a.defers=[]/\a.kind=.normal/\∃fn,P.funcs[a.fn]?=J fn/\(results fn a.tmps).run P b=.ok u b)/\(f.roundOf≠Z->∀c rest,s=c::rest->Steps P (fc F s w) (fc (c.finish u) rest b))
def m8(P:aG)(r:Rec):Prop:=∀(fr:cD)(H:Heap)(out:Out),r fr H=J out->∀(φ:bc)(w:aW)(F:dh)(cs:List dh),bg H->bM gC φ H w->iP P φ->iM φ fr F fr.todo->kp P φ H w fr F cs out
theorem kp.after{d:Heap}{b:aW}{f fr1:cD}{a:dh}{o:Out}(q:bg H)(t:bM gC φ H w)(r:fT φ H w ψ d b)(j:Steps P (fc F cs w) (fc a cs b))(s:fr1.roundOf=f.roundOf)(A:a.fn=F.fn)(h:kp P ψ d b fr1 a cs o):kp P φ H w f F cs o:=by obtain⟨x,v,u,i,k,l,y⟩:=h;refine⟨x,v,u,r.trans q t i,k,λn=>?_,λn c rest e=>j.trans aT⟩;obtain⟨g,m,z,p⟩:=l (s.trans n);exact⟨g,j.trans m,aT,p⟩
theorem kp.back{f:cD}{c:dh}{r:List dh}(h:kp P φ H w f F (c::r) (.ret v H')):∃ψ a u,fT φ H w ψ H' a/\VR ψ v u/\Steps P (fc F (c::r) w) (fc (c.finish u) r a):=by
 obtain⟨ψ,a,u,b,d,e,p⟩:=h;refine⟨ψ,a,u,b,d,?_⟩;by_cases n:f.roundOf=Z;.obtain⟨o,g,q,i,j,k,fn,l,m⟩:=e n;exact g.trans (Steps.one (step_leave_returned ⟨i,j,k,fn,l,m⟩))
 grind
section
variable{P:aG}{φ:bc}{H:Heap}{w:aW}
theorem qW.set{n:Nat}{t:Tr AV}{c:Array aC}(h:qW φ n t c){d:Nat}{a:AV}{v:aC}(f:VR φ a v)(e:d<n):qW φ n (t.ins d a) (c.setIfInBounds d v):=by
 refine⟨by simp[h.1],λi=>?_⟩;by_cases b:d=i
 . subst b;rw[Tr.lh];have:d<c.size:=by rw[h.1];omega
   simp_all
 .rw[Tr.jr _ _ b];have:=h.2 i;simp_all
theorem Jj:VR φ fo undef:=ba.cM (ba.nil φ) #[] rfl
theorem Ou{f b:cD}{i:Nat}{r:aD}{o:aB}{u:aC}(g:ops[i]?=J o)(m:f.mode=.run)(h:sL f o.dst v=J b)(a:iM φ f F (.inRegion ops (i::r)::k))(c:VR φ v u):iM φ b (F.finish u) (.inRegion ops r::k)/\b.mode=.run/\b.todo=f.todo/\b.roundOf=f.roundOf/\(F.finish u).fn=F.fn:=by
 have t:=a.todo m;rw[Dq]at h;rcases hd:o.dst with _|d
 . rw[hd]at h;cases h;have e:F.finish u={F with todo:=.inRegion ops r::k}:=by grind[Frame.finish]
   rw[e];exact⟨⟨a.fn,a.tmps,λ_=>rfl,a.defers,a.mode,a.kind,a.round⟩,m,rfl,rfl,rfl⟩
 rw[hd]at h;simp only[eK]at h;by_cases U:d<f.n
 . simp only[U,dM,aR]at h;cases h;have e:F.finish u={F with tmps:=F.tmps.setIfInBounds d u,todo:=.inRegion ops r::k}:=by grind[Frame.finish]
   rw[e];exact⟨⟨a.fn,a.tmps.set c U,λ_=>rfl,a.defers,a.mode,a.kind,a.round⟩,m,rfl,rfl,rfl⟩
 grind
theorem Jo{o:aB}{b:Bool}{c:Array aC}(h:vP ops tm o=J b)(g:∀j w d,o.guard=J (j,w)->(ops[j]?).bind (·.dst)=J d->VR φ ((tm.get d).getD fo) (c.getD d undef)):Region.wanted o (yielded ops c)=b:=by
 unfold vP at h;unfold Region.wanted;rcases u:o.guard with _|i;.grind
 obtain⟨j,w⟩:=i;rw[u]at h;simp only at h|-;unfold yielded;rcases hd:(ops[j]?).bind _ with _|d;.grind
 rw[hd]at h;have e:=g j _ d u hd;simp only[cQ,Gq]at h e|-;rcases t:tm.get d with _|a
 . rw[t]at h e;obtain rfl:C=b:=ai;rcases f:c[d]? with _|v;.rfl
   rw[f]at e;cases v<;>simp;cases e
 rw[t]at h e;rcases f:c[d]? with _|v;.rw[f]at e;cases a<;>simp at h e<;>first|(cases e;done)|grind|skip
 rw[f]at e;cases a<;>simp at h;all_goals(subst h;cases e<;>simp)
theorem aGq{j:aK->aC}{c:Call}{ty:an}{d:Rv}(k:iP P φ)(r:Reads j)(o:∀x,x∈c.operands.toList->fj φ tm j x)(h:yA P tm c=J d):∃e,(∀w:aW,(resolve j c ty).run P w=.ok e w)/\ajs φ d e:=by obtain⟨D,m,h⟩:=aF h;obtain⟨callee,args,s⟩:=c;cases callee with|builtin b=>cases h;have S:=L6 k r (λx A=>o x (by grind[Call.operands])) m;exact⟨_,λw=>rfl,.builtin b _ _ _,aT⟩|invoke=>grind|value f=>
 have S:=L6 k r (λx A=>o x (by grind[Call.operands])) m;obtain⟨G,u,h⟩:=aF h;have F:=(fE k r (o f (by simp[Call.operands])) u).1;split at h;.rename_i g first t;cases h;simp only[resolve];generalize j f=q at F;cases F with|func _ _ _ E n H I g1 g2=>refine⟨_,λw=>by rfl,.fn g _ n ⟨ab,λi a v x y=>g2 i a v x ai⟩,?_⟩;have B:ba φ _ _:=⟨ab,λi a v x y=>g1 i a v x ai⟩;simp only[kZ];rw[Array.toList_append];exact B.append aT
 .rename_i l;cases h;simp only[resolve];generalize j f=q at F;cases F with|yield _ p z=>exact⟨_,λw=>by rfl,.yield l p z,aT⟩
 grind
theorem akV:∀(l:aJ)(t:Tr AV)(k:Nat),(fO (λ(p:Tr AV×Nat)a=>(p.1.ins p.2 a,fg p.2)) l (t,k)).2=k+l.length/\∀i,((fO (λ(p:Tr AV×Nat)a=>(p.1.ins p.2 a,fg p.2)) l (t,k)).1.get i)=if k<=i/\i<k+l.length then l[i-k]? else t.get i:=by intro l;induction l with|nil=>grind[pc]|cons a l d=>
 intro t k;rw[pc]at*;simp only[AI];obtain⟨h,b⟩:=d (t.ins k a) (fg k);rw[pc]at h b;refine⟨by rw[h];simp;omega,λi=>?_⟩;rw[b i];by_cases c:k+1<=i/\i<k+1+l.length;.rw[if_pos c,if_pos (by simp;omega)];have:i-k=(i-(k+1))+1:=ab;rw[this,AJ]
 grind[Tr.lh,Tr.jr]
theorem J9{f:bV}{a:aJ}{d:Array aC}{r:cD}(h:wx P f a=J r)(c:ba φ a d.toList):iM φ r (Frame.enter P f d .normal) r.todo/\r.mode=.run/\r.roundOf=Z/\∃fn b,P.funcs[f]?=J fn/\fn.body=J b:=by
 obtain⟨fn,e,h⟩:=aF h;obtain⟨b,k,h⟩:=aF h;rw[dg,dS]at h;by_cases l:a.length<=fn.ntmps
 . simp only[l,dM,aR]at h;cases h;refine⟨⟨rfl,⟨?_,λi=>?_⟩,λ_=>by grind[Frame.enter],trivial,rfl,rfl,trivial⟩,rfl,rfl,fn,b,e,k⟩;.have:=c.1;grind[Frame.enter]
   . obtain⟨_,j⟩:=akV _ _ 0;rw[j i,Tr.get_nil];have n:=c.1;simp at n;simp only[Frame.enter,e,Gq];by_cases m:i<a.length;.have g:=dD m;obtain⟨v,B,o⟩:=c.get g;grind
     grind[Jj]
 grind
def qQ(P:aG):Prop:=∀(f:Nat)(fn:Func),P.funcs[f]?=J fn->fn.body.isSome=V->fn.name≠ "runtime.NumGoroutine"
theorem JR(c:qQ P){f:bV}{n:Func}{b:bF}(h:P.funcs[f]?=J n)(d:n.body=J b)(a:Array aC)(w:aW):(callFunc f a).run P w=.ok (.enter f a) w:=by have:=c f n h ai;simp_all[callFunc]
end
def y8(x:ah fh):Prop:=∀r,x=J r->∃v H,r=.val v H
theorem axh:y8 Z:=λr h=>ai
theorem axj(v:AV)(H:Heap):y8 (J (.val v H)):=λr h=>⟨v,H,(bt h).symm⟩
theorem axi(H:Heap)(v:ah AV):y8 (eZ H v):=λr h=>by unfold eZ at h;cases v<;>grind
theorem axe{b:Type}(x:ah b)(f:b->ah fh)(h:∀a,y8 (f a)):y8 (x.bind f):=λr hr=>by obtain⟨a,_,c⟩:=aF hr;exact h a r c
theorem axg{b:Type}(x:ah b)(f:b->fh)(h:∀a,∃v H,f a=.val v H):y8 (x.map f):=λr hr=>by simp only[ja]at hr;obtain⟨a,_,rfl⟩:=hr;simp_all
theorem axf(c:Bool)(a b:ah fh)(h:y8 a)(d:y8 b):y8 (bif c then a else b):=ai
theorem Ta{k:cg}{o:aB}(h:∀c,o.op≠.call c):y8 (dX P k tm H o):=by unfold dX;split<;>first
 |exact absurd ‹_› (h _)
 | (try simp only[DF,B2,Ge,Gg,DB,Gh,Gk,DH,DG,Gf,Gp,Gi,Gl,Gm,Gn,Nd,DC,Gj,B0,DD,B1,DE,Js,Rp,Rr,Rq,Ro,Jr]
    repeat' first|exact axh|exact axj _ _|exact axi _ _|(apply axg;grind)|(apply axe;intro a)|apply axf|(dsimp only;done)|split)
def jH(P:aG)(k:cg):Prop:=∀(f:bV)(args:aJ)(H:Heap)(v:AV)(H':Heap),k f args H=J (J (v,H'))->∀(φ:bc)(w:aW)(a:Array aC)(c:dh)(cs:List dh),bg H->bM gC φ H w->iP P φ->ba φ args a.toList->∃ψ b u,fT φ H w ψ H' b/\VR ψ v u/\((callFunc f a).run P w=.ok (.value u) b\/((callFunc f a).run P w=.ok (.enter f a) w/\Steps P (fc (Frame.enter P f a .normal) (c::cs) w) (fc (c.finish u) cs b)))
section
variable{P:aG}{φ:bc}{H:Heap}{w:aW}
theorem Frame.reads(F:dh):Reads F.eval:=⟨λ_=>rfl,λ_=>rfl,λ_=>rfl⟩
theorem F4{i:Nat}{r:aD}{o:aB}(m:F.mode=.run)(d:F.todo=.inRegion ops (i::r)::k)(b:ops[i]?=J o)(g:Region.wanted o (yielded ops F.tmps)=V)(h:∀c,o.op≠.defer c){n:Next}{w':aW}(p:(execOp F.eval o).run P w=.ok n w'):(∀v,n=.value v->step P (fc F cs w)=.next (fc (F.finish v) cs w'))/\(n=.skip->step P (fc F cs w)=.next (fc (F.finish undef) cs w'))/\(∀f args,n=.enter f args->step P (fc F cs w)=.next (fc (Frame.enter P f args .normal) (F::cs) w'))/\(∀l f t a body,n=.round l f t a body->step P (fc F cs w)=.next (fc (Frame.round l f t a body .normal) (F::cs) w')):=by
 have j:stepG P V {frame:=F,callers:=cs,status:=.running,dying:=Z} w=stepG.apply P V F cs Z (execOp F.eval o) w:=by grind[stepG,stepG.oper,tJ,Frame.oper?]
 refine⟨λv e=>?_,λe=>?_,λf args e=>?_,λl f t a body e=>?_⟩<;>subst e<;>exact step_lone_go (by simp_all[stepG.apply])
theorem aso(h:∀r,S r)(t:Tr AV)(H:Heap)(o:aB):Jv P S t H o:=by right;grind
theorem aEy:∀(s:List Tmp)(S:aJ)(b:List aC)(n:Nat)(t:Tr AV)(c:Array aC),ba φ S b->s.length=S.length->qW φ n t c->qW φ n (fO (λt(p:Tmp×AV)=>bif cm p.1 n then t.ins p.1 p.2 else t) (List.zip s S) t) ((List.zip s b).foldl (λm(x:Tmp×aC)=>m.setIfInBounds x.1 x.2) c):=by intro s;induction s with|nil=>simp[pc]|cons p s o=>intro S b n t c f l d;cases S with|nil=>grind|cons a S=>
 obtain⟨v,g,rfl,e,i⟩:=f.cons_inv;rw[pc];simp only[List.zip_cons_cons,AI];have k:qW φ n (bif cm p n then t.ins p a else t) (c.setIfInBounds p v):=by
  rw[eK];by_cases h:p<n;.simp only[h,dM,aR];exact d.set e h
  . simp only[h,kM,bS];have:c.setIfInBounds p v=c:=by have j:=d.1;grind
    grind
 grind[pc]
theorem aKI{i:Nat}{e:aD}{o:aB}(m:F.mode=.run)(t:F.todo=.inRegion ops (i::e)::k)(q:ops[i]?=J o)(s:Region.wanted o (yielded ops F.tmps)=V)(l:∀c,o.op≠.defer c)(h:sT P gC φ H w (execOp F.eval o) v H'):∃ψ a u,fT φ H w ψ H' a/\VR ψ v u/\Steps P (fc F cs w) (fc (F.finish u) cs a):=by obtain⟨ψ,n,a,j,b,d⟩:=h;obtain⟨f,g,_⟩:=F4 m t q s l j;have p:fT φ H w ψ H' a:=⟨d.1,d.2.1.up (λr _=>.inl trivial),d.2.2⟩;cases n with|value u=>exact⟨ψ,a,u,p,b,Steps.one (f u rfl)⟩|skip=>subst b;exact⟨ψ,a,_,p,Jj,Steps.one (g rfl)⟩|_=>simp only[DQ]at b
set_option maxHeartbeats 1600000 in theorem Vs{ak:cg}(eW:m8 P rec)(oI:jH P ak)(hn:qQ P){i:Nat}{I:aD}{o:aB}(O:bg H)(B:bM gC φ H w)(y:iP P φ)(z:F.mode=.run)(D:F.todo=.inRegion ops (i::I)::k)(A:ops[i]?=J o)(E:Region.wanted o (yielded ops F.tmps)=V)(u6:∀x,x∈o.op.operands.toList->fj φ tm F.eval x)(h:ff P ak rec tm H o=J (.val v H')):∃ψ L u,fT φ H w ψ H' L/\VR ψ v u/\Steps P (fc F cs w) (fc (F.finish u) cs L):=by
 have hr:=Frame.reads F;unfold ff at h;obtain⟨x,a,h⟩:=aF h;have hd:∀c,o.op≠.defer c:=λc e=>by grind[dX]
 by_cases zX:(∃v H',x=.val v H')/\∀c,o.op=.call c->∃b,c.callee=.builtin b;.obtain⟨⟨v,H',rfl⟩,hb⟩:=zX;obtain⟨rfl,rfl⟩:=B7.val.inj (bt h);exact aKI z D A E hd (acM O B y hr u6 (aso (λ_=>trivial) _ _ _) hb a)
 by_cases fG:∃c,o.op=.call c
 . obtain⟨c,hc⟩:=fG;obtain⟨callee,args,Q⟩:=c;have Li:=a;simp only[dX,hc,BZ]at a;obtain⟨d,G,a⟩:=aF a;have T:∀x,x∈(Call.operands ⟨callee,args,Q⟩).toList->fj φ tm F.eval x:=λx a=>u6 x (by rw[hc];exact a);obtain⟨e,he,OJ⟩:=aGq (ty:=o.type) y hr T G;obtain⟨dt,N⟩:=d;obtain⟨et,n⟩:=e;have S:=OJ.args;have U:=OJ.target;have M:(execOp F.eval o).run P w=(invoke et n).run P w:=by simp_all[execOp]
   cases U with
   |builtin b ts t css=>simp only[ur,ja]at a;obtain⟨aS,ha,G⟩:=aF G;cases callee with|builtin b'=>grind|invoke=>grind|value f=>obtain⟨fv,hf,G⟩:=aF G;grind
   |fn g j s jW=>
   simp only[ur]at a;have jK:ba φ (dF N j) (n++s).toList:=by rw[kZ,Array.toList_append];exact S.append jW
   have hinv:(invoke (.fn (.func g) _) n).run P w=(callFunc g (n++s)).run P w:=rfl;unfold xI at a;split at a
   . rename_i rp O5;rcases rp with _|vh;.grind
     obtain⟨v,H'⟩:=vh;obtain⟨ψ,L,u,p1,p2,X⟩:=oI g _ H v H' O5 φ w _ F cs O B y jK;rcases X with X|⟨X,p4⟩;.obtain⟨a1,_⟩:=F4 (cs:=cs) z D A E hd (by rw[M,hinv];omega);grind[Steps.one]
     .obtain⟨_,_,a3,_⟩:=F4 (cs:=cs) z D A E hd (by rw[M,hinv];omega);grind[Steps.head]
   .simp only[ja]at a;obtain⟨fC,Bf,rfl⟩:=a;obtain⟨⟨v',H1⟩,Y,h⟩:=aF h;obtain⟨e1,e4,e7,fn,b,e5,e6⟩:=J9 Bf jK;obtain⟨_,_,a3,_⟩:=F4 (cs:=cs) z D A E hd (by rw[M,hinv];exact JR hn e5 e6 _ w);obtain⟨ψ,L,u,q1,q2,q3⟩:=kp.back (eW _ H _ Y φ w _ (F::cs) O B y e1);grind[Steps.head]|yield l p hp=>
   simp only[ur]at a;split at a
   . rename_i lp nO;rw[bE,dS,dS]at a;by_cases q:N.length=lp.params.length
     . simp only[q,dM,aR]at a;cases a;obtain⟨⟨v',H1⟩,Y,h⟩:=aF h;obtain⟨hb0,R,hR,K⟩:=B.obj l p _ hp trivial (by intro l' r fl e HL;grind) nO;have aMG:=K.params;have fH:n.size=R.params.size:=by have h1:=S.1;grind
       have hinv:(invoke (.fn (.yield p.aY) #[]) n).run P w=.ok (.round p.aY R.fn ((R.params.zip n).foldl (λm(x:Tmp×aC)=>m.setIfInBounds x.1 x.2) R.tmps) R.assign R.body) w:=by have eE:(getObj _).run P w=.ok _ w:=yD hR aO;simp[invoke,Instr.yield,Instr.getLoop,eE,fH]
       obtain⟨_,_,_,a4⟩:=F4 (cs:=cs) z D A E hd (by rw[M];omega);have W:qW φ lp.n (fO (λt(p:Tmp×AV)=>bif cm p.1 lp.n then t.ins p.1 p.2 else t) (List.zip lp.params N) lp.tmps) ((R.params.zip n).foldl (λm(x:Tmp×aC)=>m.setIfInBounds x.1 x.2) R.tmps):=by have:=aEy _ N _ _ _ _ S q.symm K.tmps;grind[Array.toList_zip]
       obtain⟨ψ,L,u,q1,q2,q3⟩:=kp.back (eW _ H _ Y φ w (Frame.round p.aY R.fn ((R.params.zip n).foldl (λm(x:Tmp×aC)=>m.setIfInBounds x.1 x.2) R.tmps) R.assign R.body .normal) (F::cs) O B y ⟨K.fn,W,λ_=>by simp[Frame.round,K.assign,K.body],trivial,rfl,rfl,⟨p,hp,rfl⟩⟩);grind[Steps.head]
     grind
   grind
 .obtain⟨v,H',rfl⟩:=Ta (λc e=>fG ⟨c,e⟩) x a;grind
end
structure jS(fr fC:cD):Prop where
 mode:fC.mode=.run
 todo:fC.todo=fr.todo
 round:fC.roundOf=fr.roundOf
theorem jS.trans{a b c:cD}(h:jS a b)(k:jS b c):jS a c:=⟨k.mode,k.todo.trans h.todo,k.round.trans h.round⟩
section
variable{P:aG}{φ:bc}{H:Heap}{w:aW}
theorem aHU{f a:cD}{d:ah Tmp}(h:sL f d v=J a)(m:f.mode=.run):jS f a/\a.defers=f.defers/\a.n=f.n/\a.fn=f.fn:=by
 rw[Dq]at h;rcases d with _|d;.cases h;exact⟨⟨m,rfl,rfl⟩,rfl,rfl,rfl⟩
 simp only[eK]at h;by_cases b:d<f.n;.simp only[b,dM,aR]at h;cases h;exact⟨⟨m,rfl,rfl⟩,rfl,rfl,rfl⟩
 grind
theorem iM.run{f:cD}(h:iM φ f F k)(m:f.mode=.run):F.mode=.run:=h.mode.trans m
theorem iM.aA8{f:cD}(h:iM φ f F k)(r:f.roundOf=Z):F.roundOf=Z:=by have:=h.round;grind[zg]
def JB(P:aG)(d:bc)(H:Heap)(w:aW)(r:cD)(F:dh)(c:List dh)(t:List Item):AN->Prop|.next f H'=>∃ψ b a,Steps P (fc F c w) (fc a c b)/\fT d H w ψ H' b/\iM ψ f a t/\jS r f/\a.fn=F.fn
theorem Q0{f b:cD}{i:Nat}{r:aD}{o:aB}(l:bg H)(s:bM gC φ H w)(n:ops[i]?=J o)(m:f.mode=.run)(a:iM φ f F (.inRegion ops (i::r)::k))(p:Region.wanted o (yielded ops F.tmps)=C)(h:sL f o.dst fo=J b):JB P φ H w f F cs (.inRegion ops r::k) (.next b H):=by obtain⟨c,d,e,g,j⟩:=Ou n m h a Jj;have t:=a.run m;have q:=a.todo m;exact⟨φ,w,_,Steps.one (step_lone_go (by simp_all[stepG,tJ])),fT.refl l s,c,⟨d,e,g⟩,j⟩
theorem anJ{c:cg}(W:m8 P rec)(N:jH P c)(I:qQ P){f:cD}{i:Nat}{s:aD}{o:aB}{r:AN}(G:bg H)(K:bM gC φ H w)(E:iP P φ)(g:ops[i]?=J o)(m:f.mode=.run)(a:iM φ f F (.inRegion ops (i::s)::k))(h:A2 P c rec ops f H o=J r):JB P φ H w f F cs (.inRegion ops s::k) r:=by
 rw[J3]at h;obtain⟨b,D,h⟩:=aF h;have L:=Jo D (λj n d _ _=>a.tmps.2 d);rcases b with _|_;.grind[ja,Q0]
 obtain⟨⟨v,H'⟩,M,h⟩:=aF h;obtain⟨ψ,Q,u,q,O,q3⟩:=Vs W N I G K E (a.run m) (a.todo m) g L (λy _ t e=>by subst e;exact a.tmps.2 t) M;simp only[ja]at h;obtain⟨R,B,rfl⟩:=h;obtain⟨l,p,x,z,A⟩:=Ou g m B (a.mono q.2.2.ext) O;exact⟨ψ,Q,_,q3,q,l,⟨p,x,z⟩,A⟩
theorem aGT{c:cg}(W:m8 P rec)(I:jH P c)(t:qQ P):∀(l:List aB)(i:Nat),ops.toList.drop i=l->∀(fr:cD)(H:Heap)(r:AN),Am P c rec ops l fr H=J r->∀(φ:bc)(w:aW)(F:dh)(cs:List dh),bg H->bM gC φ H w->iP P φ->fr.mode=.run->iM φ fr F (.inRegion ops (List.range' i l.length)::k)->JB P φ H w fr F cs (.inRegion ops []::k) r:=by intro l;induction l with|nil=>intro i _ fr H r h φ w F cs a s g m b;cases h;exact⟨φ,w,F,Steps.refl P _,fT.refl a s,b,⟨m,rfl,rfl⟩,rfl⟩|cons o l v=>
 intro i M fr H r h φ w F cs a s g m b;have u:ops[i]?=J o:=by have:(ops.toList.drop i)[0]?=J o:=ai;grind
 have X:ops.toList.drop (i+1)=l:=by have:(ops.toList.drop i).drop 1=l:=ai;grind[DL]
 obtain⟨⟨n,j⟩,x,q⟩:=aF h;obtain⟨ψ,G,e,D,p,f1,d,z⟩:=anJ W I t a s g u m b x;have:=v _ X _ j r q ψ G e cs p.1 p.2.1 (g.mono p.2.2.ext) d.mode f1;obtain⟨L,K,f,E,B,f2,y,A⟩:=this;exact⟨L,K,f,D.trans E,p.trans a s B,f2,d.trans y,A.trans z⟩
end
end Go.AM
namespace Go.VM
open Go Go.AM
structure tP(ω:aI)(k:Kd)(app:Bool)(H H':Heap):Prop where
 bu:H'.bu=H.bu
 wl:k≠.wr->∀r,r∈H'.bT->r∈H.bT
 gl:k≠.wr->app=C->∀r,r∈H'.cG->r∈H.cG
 wall:∀r,r∈H'.bT->r∈H.bT\/(r<H.bu/\dL ω r)adw:∀r,r∈H'.cG->r∈H.cG\/(r<H.bu/\dL ω r)
theorem tP.refl{b:aI}(k:Kd)(a:Bool)(H:Heap):tP b k a H H:=⟨rfl,λ_ _ h=>h,λ_ _ _ h=>h,λ_ h=>.inl h,λ_ h=>.inl h⟩
section
variable{P:aG}{ak:cg}{rec:Rec}{cf:bR}{K K':aX}{φ ψ:ch}{ω ω':aI}{H H':Heap}
def eO(P:aG)(k:cg)(r:Rec)(c:bR)(K:aX)(b:ch)(a:aI)(H:Heap)(st0 t s:St)(m:Tr AV)(o:aB):Prop:=∃v H',ff P k r m H o=J (.val v H')/\(∀d,o.dst=J d->d<t.n)/\fK K b a H s (gQ m o.dst v) H'/\s.n=t.n/\s.fn=t.fn/\tP a (kindOf c st0 o.op) (isApp o.op) H H'
theorem mW{a s:St}{d:ah Tmp}{v:SV}(h:aH a d v=J s):(∀t,d=J t->t<a.n)/\s.n=a.n/\s.fn=a.fn/\s.lb=a.lb/\s.g=a.g:=by grind[yG]
theorem sJ{b s t:St}{m:Tr AV}{o:aB}{x:DV}{a:AV}(f:HR K φ ω H s.lb s.g)(g:bX K φ ω H m s.sl)(j:dX P ak m H o=J (.val a H))(h:aH s o.dst (.dv x .no)=J t)(i:DR K φ x a):eO P ak rec cf K φ ω H b s t m o:=by obtain⟨c,d,e,_⟩:=mW h;exact⟨a,H,by grind[ff],c,AS f g h i,d,e,tP.refl _ _ _⟩
variable{ao:Nat->ah aq}{gs cr:aD}{fk:bV->Nat}{later:List aB}{st0 O st':St}{tm:Tr AV}{o:aB}
theorem alw(g:du P K φ ao)(c:HR K φ ω H O.lb O.g)(s:bX K φ ω H tm O.sl){p:BinOp}{t u:an}{x y:aK}(j:o.op=.binOp p t x y u)(h:dB P ao fk gs cr later O o=J st'):eO P ak rec cf K φ ω H st0 O st' tm o:=by unfold dB at h;rw[j]at h;obtain⟨a,f,h⟩:=aF h;obtain⟨b,i,h⟩:=aF h;obtain⟨v,k,h⟩:=aF h;obtain⟨l,m,n,d⟩:=nX g c s f;obtain⟨q,w,z,e⟩:=nX g c s i;obtain⟨r,r1,r2⟩:=alc (xo:=x) (yo:=y) k d e;refine sJ c s ?_ h (r2 _ _);simp_all[dX,Gf,eZ]
theorem aKt(g:du P K φ ao)(b:HR K φ ω H O.lb O.g)(s:bX K φ ω H tm O.sl){p:UnOp}{t:an}{x:aK}(e:o.op=.unOp p t x)(h:dB P ao fk gs cr later O o=J st'):eO P ak rec cf K φ ω H st0 O st' tm o:=by unfold dB at h;rw[e]at h;obtain⟨a,d,h⟩:=aF h;obtain⟨v,f,h⟩:=aF h;obtain⟨i,j,k,c⟩:=nX g b s d;obtain⟨r,r1,r2⟩:=aKq f c;refine sJ b s ?_ h (r2 _ _);simp_all[dX,Gp,eZ]
theorem sF(q:du P K φ ao)(w:bX K φ ω H tm O.sl){x:aK}{d:DV}(v:jG O x)(h:bj ao O x=J d):∃a,AM.bB P tm x=J a/\a≠.top/\DR K φ d a:=by obtain⟨z,j,k⟩:=aF h;obtain⟨a,m,n,p⟩:=qD q w j;refine⟨a,m,n,?_⟩;cases z with
 |dv i o=>
 obtain rfl:=bt (show J i=J d from k);rcases p with⟨t,rfl,u,_,b⟩|⟨_,⟨d2,e,b⟩|⟨d2,f,_,e1,e2,b⟩|⟨g,l,cells,e,e1,_⟩⟩;.cases o with|no=>exact b|any=>obtain⟨rfl,rfl⟩:=b;exact .nl|full e=>exact b.1|ty e=>exact b.1|ex e=>
  have hd:=v t i e rfl u;subst hd;rcases b with⟨_,rfl⟩|⟨r,_,b⟩;.exact .nl
  .obtain⟨l,s,id,y,c,cells,A,e1,_⟩:=b.ex;grind
 all_goals grind|_=>grind[Cp]
theorem UW(g:du P K φ ao)(b:bX K φ ω H tm O.sl):∀(l:List aK)(s:aq),(∀x,x∈l->jG O x)->cu (bj ao O) l=J s->∃m,cu (AM.bB P tm) l=J m/\bG K φ s m:=by intro l;induction l with|nil=>intro s _ h;obtain rfl:=bt (show J []=J s from h);exact⟨[],rfl,bG.nil⟩|cons x l i=>intro s n h;have a:=h;obtain⟨d,hd,a⟩:=aF a;obtain⟨t,c,a⟩:=aF a;grind[sF,gK,bG.cons,cu]
theorem as2(g:du P K φ ao)(p:HR K φ ω H O.lb O.g)(s:bX K φ ω H tm O.sl){f:bV}{i c:Array aK}(q:o.op=.makeFunc (.func f) i c)(n:∀x,x∈o.op.operands.toList->jG O x)(h:dB P ao fk gs cr later O o=J st'):eO P ak rec cf K φ ω H st0 O st' tm o:=by have R:∀x,x∈i.toList->jG O x:=λx r=>n x (by grind[eJ]);have t:∀x,x∈c.toList->jG O x:=λx r=>n x (by grind[eJ]);unfold dB at h;rw[q]at h;obtain⟨a,l,h⟩:=aF h;obtain⟨b,m,h⟩:=aF h;obtain⟨j,u,d⟩:=UW g s _ _ R l;obtain⟨k,v,e⟩:=UW g s _ _ t m;refine sJ p s ?_ h (.func f a b j k d.1 e.1 d.2 e.2);simp_all[dX,Gl,eZ]
end
end Go.VM
