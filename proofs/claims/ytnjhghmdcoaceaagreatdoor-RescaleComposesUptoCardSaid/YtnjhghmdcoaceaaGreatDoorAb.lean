/- Proved: operations of the abstract machine answer as the model does. -/
import Derived.Test.YtnjhghmdcoaceaaGreatDoorAa
open Option renaming some->J,none->Z
open Bool renaming true->V,false->C
open Go renaming TypeId->an,Oper->aB,Value->aD,Program->aH,Operand->aK,World->aT,Code->bM,FuncId->bY,Frame->dm,lone->fh,IntKind->fT,MapEntry->kS
open Go.Builtin renaming firstCells->oQ,append_->tz,copy_->zg
open Go.Op renaming operands->eO
open Go.stepG renaming exec->uo
open Int renaming ofNat->du
open List renaming range'->vp
open Nat renaming beq->aw,ble->bz,blt->cw,succ->fj,mul->fA,add->iw
open UInt8 renaming toNat->ko
noncomputable section
set_option linter.all false
namespace Go.AM
open Go
variable{r x:AV}{ats:Array an}{H':Heap}{es:List eL}{a m:Nat}{p:Pl}{s:Sem aD}{sv v xv:aD}{z:aJ}{e elem kt t vt:an}
section
variable{P:aH}{S:Nat->Prop}{Y:bc}{H:Heap}{w:aT}
theorem ang{o:Nat}:∀(es:List eL)(s:List kS)(i:Nat)(q:Nat×eL),nA Y es s->OA o es i=J q->∃j e m,q=(i+j,e)/\es[j]?=J e/\s[j]?=J m/\wx Y e m/\s.findIdx? (λe=>(e.born:Int)==(o:Int))=J j:=by intro es;induction es with|nil=>intro s i q d h;exact absurd (show(Z:ah (Nat×eL))=J q from h) aP|cons e es n=>
 intro s i q d h;rcases s with _|⟨m,s⟩;.have:=d.1;grind
 have g:=d.2 0 e m rfl rfl;have A:nA Y es s:=⟨by have:=d.1;grind,λj a b w f=>d.2 (j+1) a b ai ai⟩;have c:(bif aw e.2.2 o then J (i,e)else OA o es (i+1))=J q:=h;rw[bQ]at c;by_cases f:e.2.2=o;.rw[mE f]at c;simp at c;refine⟨0,e,m,c.symm,rfl,rfl,g,?_⟩;rw[List.findIdx?_cons,g.2.2,f];simp
 . rw[Bq f]at c;simp at c;obtain⟨j,k,p,r,t,u,l,v⟩:=n s (i+1) q A c;refine⟨j+1,k,p,ai,ai,ai,l,?_⟩;have I:((m.born:Int)==(o:Int))=C:=by rw[g.2.2,beq_eq_false_iff_ne];omega
   grind
theorem aqP(A:bg H)(s:bS S Y H w){r c b:Nat}{kk:fT}{q:Nat×eL}(n:Y r=J p)(y:S (rootOf H r))(l:H.get r=J (.map es c))(D:VR Y x xv)(h:OA b es 0=J q):∃f,(Instr.entryStore t (.map (J p.ba)) (.int kk (.ofNat b)) xv).run P w=.ok () f/\bg (H.put r r (.map (vV es q.1 (q.2.1,x,q.2.2.2)) c))/\bS S Y (H.put r r (.map (vV es q.1 (q.2.1,x,q.2.2.2)) c)) f/\Fr Y H w Y (H.put r r (.map (vV es q.1 (q.2.1,x,q.2.2.2)) c)) f:=by
 obtain⟨a,i,k,z⟩:=Ar s n y l;obtain⟨j,e,m,rfl,o,u,g,v⟩:=ang es a.toList 0 q k h;have B:j<es.length:=(am.1 o).1;have d:a.findIdx? (λe=>(e.born:Int)==(b:Int))=J j:=by rw[<-List.findIdx?_toArray,Array.toArray_toList]at v;omega
 refine⟨_,?_,DO A s (a.modify j λe=>{e with val:=xv}) n l z ?_⟩;.simp[Instr.entryStore,vg i,asInt,asIntOf,d,DU i]
 .simp only[kG];rw[ahq _ _ _ B,So _ _ _ u];exact k.set ⟨g.1,D,g.2.2⟩
theorem MF(h:bg H)(s:bS S Y H w)(o:cq)(O:Obj)(c:o.eA=C)(a:my Y (World.push w O) o ⟨w.heap.size,0,0,0⟩):(newObj O).run P w=.ok w.heap.size (World.push w O)/\fu Y H.next ⟨w.heap.size,0,0,0⟩ H.next=J ⟨w.heap.size,0,0,0⟩/\ik S Y H w (fu Y H.next ⟨w.heap.size,0,0,0⟩) (H.alloc o) (World.push w O):=by refine⟨by rfl,jN _ _ _,Kr h s o O _ rfl ?_ a⟩;grind[cq.eA]
theorem aHZ(i:bg H)(s:bS S Y H w)(T:P.underlying t=J (.map kt vt))(d:VR Y .fY v):∃u b a,(Instr.range t v).run P w=.ok u a/\VR b (.ptr H.next 0) u/\ik S Y H w b (H.alloc (.mapIter Z 0 [] 0)) a:=by cases d;obtain⟨e,h,c⟩:=MF (P:=P) i s (.mapIter Z 0 [] 0) (.mapIter Z 0 #[] 0) rfl ⟨rfl,Z,xf w _,rfl⟩;exact⟨.pointer (J ⟨w.heap.size,0,Z⟩),_,_,by simp_all[Instr.range,dG],.ptr _ 0 _ h,c⟩
theorem aHY(k:bg H)(s:bS S Y H w){r c:Nat}(T:P.underlying t=J (.map kt vt))(h:Y r=J p)(g:S (rootOf H r))(j:H.get r=J (.map es c)):∃u b a,(Instr.range t (.map (J p.ba))).run P w=.ok u a/\VR b (.ptr H.next 0) u/\ik S Y H w b (H.alloc (.mapIter (J r) c [] c)) a:=by obtain⟨d,i,n,m⟩:=Ar s h g j;obtain⟨l,e,f⟩:=MF (P:=P) k s (.mapIter (J r) c [] c) (.mapIter (J p.ba) c #[] c) rfl ⟨rfl,J p.ba,xf w _,p,h,rfl⟩;exact⟨.pointer (J ⟨w.heap.size,0,Z⟩),_,_,by simp[Instr.range,dG T,vg i,World.push],.ptr _ 0 _ e,f⟩
theorem MQ(s:bS S Y H w){r:Nat}{o:cq}(b:Y r=J p)(a:S (rootOf H r))(g:H.get r=J o)(c:o.eA=C):my Y w o p:=s.obj r p o b a (λl d f e h=>by grind[cq.eA]) g
theorem aC2(s:bS S Y H w){ty:an}{r c:Nat}{l:aE}(f:Y r=J p)(e:S (rootOf H r))(g:H.get r=J (.mapIter Z a l c)):∃u,(Instr.next (.pointer (J ⟨p.ba,p.base+0,Z⟩)) C ty).run P w=.ok u w/\VR Y (.cO [.bool C]) u:=by obtain⟨h,m,b,d⟩:=MQ s f e g rfl;have j:m=Z:=d;subst j;refine⟨.tuple #[.bool C],?_,akk (.bool C)⟩;rw[h];simp[Instr.next,yN b]
theorem aA2{n:aE}:∀(es:List eL)(c:List kS),nA Y es c->nA Y (Dz n es) (c.filter λe=>!(n.toArray.contains e.born)):=by intro es;induction es with
 | nil => intro c h;have:c=[]:=by have:=h.1;grind
          subst this;exact h|cons e es k=>
   intro c h;rcases c with _|⟨m,c⟩;.have:=h.1;grind
   have f:=h.2 0 e m rfl rfl;have A:nA Y es c:=⟨by have:=h.1;grind,λj a b g d=>h.2 (j+1) a b ai ai⟩;have P:Dz n (e::es)=bif lx (λs=>!(aw s e.2.2)) n then e::Dz n es else Dz n es:=rfl;have w:lx (λs=>!(aw s e.2.2)) n=!(n.toArray.contains m.born):=by rw[qN,f.2.2,List.contains_toArray,List.contains_eq_any_beq,List.all_eq_not_any_not];grind[bQ]
   rw[P,w,Ek];rcases d:(!(n.toArray.contains m.born))with _|_;.grind
   simp only[aR,if_true];have:=k c A;refine⟨by simp[this.1],λi a b g d=>?_⟩;rcases i with _|i;.grind
   exact this.2 i a b ai ai
theorem aA4{a:Array kS}{seen:aE}{c:Nat}(h:nA Y es a.toList)(k:∀e,e∈es->e.2.2<c):(∀m,m∈a->m.born<c)/\nA Y (Dz seen es) (a.filter λe=>!(seen.toArray.contains e.born)).toList:=by
 refine⟨λm d=>?_,by grind[aA2]⟩;obtain⟨i,f⟩:=Array.mem_iff_getElem?.1 d;have N:a.toList[i]?=J m:=ai;have b:i<es.length:=by rw[h.1];grind
 have:=h.2 i _ m (dC b) N;rw[this.2.2];grind
theorem aC0(I:bg H)(k:bS S Y H w){ty:an}{r c:Nat}{s:aE}{q:Pl}(y:Y r=J p)(E:S (rootOf H r))(t:H.get r=J (.mapIter (J m) c s c))(j:Y m=J q)(U:S (rootOf H m))(B:H.get m=J (.map es c))(M:∀e,e∈es->e.2.2<c):(Dz s es=[]->∃u d,(Instr.next (.pointer (J ⟨p.ba,p.base+0,Z⟩)) C ty).run P w=.ok u d/\VR Y (.cO [.bool C]) u/\(d=w\/d=w.drew))/\(∀e,Dz s es=[e]->∃u d,(Instr.next (.pointer (J ⟨p.ba,p.base+0,Z⟩)) C ty).run P w=.ok u d/\VR Y (.cO [.bool V,e.1,e.2.1]) u/\bg (H.put r r (.mapIter (J m) c (dL s [e.2.2]) c))/\bS S Y (H.put r r (.mapIter (J m) c (dL s [e.2.2]) c)) d/\Fr Y H w Y (H.put r r (.mapIter (J m) c (dL s [e.2.2]) c)) d):=by
 obtain⟨g,X,i,D⟩:=MQ k y E t rfl;obtain⟨N,F,rfl⟩:=D;rw[j]at F;obtain rfl:q=N:=ai;obtain⟨a,o,G,T⟩:=Ar k j U B;obtain⟨f1,f2⟩:=aA4 (seen:=s) G M;have O:¬((!s.toArray.isEmpty&&!a.isEmpty&&a.all λe=>decide (e.born>=c))=V):=by
   intro v;simp only[gD]at v;obtain⟨⟨_,g2⟩,g3⟩:=v;have R:a.size≠0:=by grind
   have Q:a[0]'ab∈a:=Array.getElem_mem _;grind
 obtain⟨left,L⟩:∃left,left=a.filter λe=>!(s.toArray.contains e.born):=⟨_,rfl⟩;rw[<-L]at f2;have K:∀m,m∈left->m.born<c:=λm W=>f1 m ai;have h:(left.filter λe=>decide (e.born<c))=left:=by grind[Array.filter_eq_self]
 have A:(left.filter λe=>decide (e.born>=c))=#[]:=by grind[Array.filter_eq_empty_iff]
 have n:(!s.toArray.isEmpty&&!a.isEmpty&&a.all λe=>decide (e.born>=c))=C:=ai;constructor
 . intro l;rw[l]at f2;have f:left=#[]:=by have:=f2.1;grind
   refine⟨.tuple #[.bool C],w,?_,akk (.bool C),.inl rfl⟩;rw[g];simp only[Instr.next,kG,Sem.run_bind,yN i aP,bi,vg o,n,<-L,f];simp[Question.forced]
 . intro e l;rw[l]at f2;obtain⟨x,z⟩:∃x,left=#[x]:=by have:=f2.1;grind[Array.size_eq_one_iff]
   have b:wx Y e x:=f2.2 0 e x rfl ai;refine⟨.tuple #[.bool V,x.key,x.val],World.eW w p.ba (.mapIter (J q.ba) c (s.toArray.push x.born) c),?_,aM1 (.bool V) b.1 b.2.1,Rr I k _ y t rfl rfl ⟨g,J q.ba,?_,q,j,rfl⟩⟩;.rw[g];rw[z]at h A;simp only[Instr.next,kG,Sem.run_bind,yN i aP,bi,vg o,n,<-L,z,h,A];simp[Question.forced,JH i]
   .rw[lz,<-b.2.2];grind[RM]
theorem aLL(g:bS S Y H w){r c s:Nat}{e:eL}{q:Pl}(n:Y r=J p)(k:S (rootOf H r))(l:H.get r=J (.mapIter (J m) a [s] c))(f:Y m=J q)(U:S (rootOf H m))(L:H.get m=J (.map [e] c))(T:e.2.2=s):∃u,(Instr.entry (.pointer (J ⟨p.ba,p.base+0,Z⟩))).run P w=.ok u w/\VR Y (.cO [e.1,e.2.1]) u:=by
 obtain⟨i,B,v,j⟩:=MQ g n k l rfl;obtain⟨t,F,rfl⟩:=j;rw[f]at F;obtain rfl:q=t:=ai;obtain⟨b,y,d,z⟩:=Ar g f U L;obtain⟨x,o⟩:∃x,b=#[x]:=by have:=d.1;grind[Array.size_eq_one_iff]
 subst o;have h:wx Y e x:=d.2 0 e x rfl rfl;refine⟨.tuple #[x.key,x.val],?_,NT h.1 h.2.1⟩;rw[i];have A:(x.born==s)=V:=by rw[h.2.2,T];simp
 simp_all[Instr.entry,yN]
theorem aBf{y:an}{s:aE}(a:ats[0]?=J t)(u:P.underlying t=J .string)(h:VR Y (.str s) v):pL P Y (Builtin.len_ ats y #[v]) (ia (fg s)):=by cases h with|str _ b e=>refine⟨goInt b.size,λw=>by simp_all[Builtin.len_,dG],?_⟩;rw[dZ,<-NA e];exact .int _ _
theorem aBa{n:Nat}(h:nO x=J n)(a:VR Y x v):∃b c,v=.slice b n c:=by cases a<;>simp_all[nO]
theorem aBe{y:an}{n:Nat}(d:ats[0]?=J t)(u:P.underlying t=J (.slice e))(h:nO x=J n)(a:VR Y x v):pL P Y (Builtin.len_ ats y #[v]) (ia n):=by obtain⟨b,c,rfl⟩:=aBa h a;exact⟨goInt n,λw=>by simp_all[Builtin.len_,dG],.int _ _⟩
theorem aBb(s:bS S Y H w){ty:an}{r c:Nat}(h:ats[0]?=J t)(i:P.underlying t=J (.map kt vt))(f:Y r=J p)(b:S (rootOf H r))(g:H.get r=J (.map es c)):∃u,(Builtin.len_ ats ty #[.map (J p.ba)]).run P w=.ok u w/\VR Y (ia (fg es)) u:=by obtain⟨a,d,e,j⟩:=Ar s f b g;refine⟨goInt a.size,by simp[Builtin.len_,h,dG i,vg d],?_⟩;have:=e.1;simp at this;rw[dZ,this];exact .int _ _
theorem an3{y:an}{i o l c s:Nat}(d:ats[0]?=J t)(u:P.underlying t=J (.slice e))(b:VR Y (.sl i o l (J c) s) v):pL P Y (Builtin.cap_ ats y #[v]) (ia c):=by cases b with|sl _ _ _ _ _ p g a m j q h k hr f n=>obtain⟨rfl,_⟩:=h c rfl;exact⟨goInt a,λw=>by simp_all[Builtin.cap_,dG],.int _ _⟩
theorem an2{y:an}(a:ats[0]?=J t)(u:P.underlying t=J (.slice e))(h:VR Y .bH v):pL P Y (Builtin.cap_ ats y #[v]) (ia 0):=by cases h;exact⟨goInt 0,λw=>by simp_all[Builtin.cap_,dG],.int _ _⟩
theorem aoq(k:bg H)(s:bS S Y H w){ty:an}{d:TypeDesc}{r c:Nat}(f:ats[0]?=J t)(u:P.underlying t=J d)(b:Y r=J p)(i:S (rootOf H r))(g:H.get r=J (.map es c)):∃a,(Builtin.clear_ ats ty #[.map (J p.ba)]).run P w=.ok (.tuple #[]) a/\bg (H.put r r (.map [] c))/\bS S Y (H.put r r (.map [] c)) a/\Fr Y H w Y (H.put r r (.map [] c)) a:=by obtain⟨e,h,l,j⟩:=Ar s b i g;exact⟨_,by simp[Builtin.clear_,f,dG u,vg h,DU h],DO k s #[] b g j ⟨rfl,aP⟩⟩
end
def dE(P:aH)(S:Nat->Prop)(d:bc)(H:Heap)(w:aT)(s:Sem aD)(r:AV)(c:Heap):Prop:=∃b v a,s.run P w=.ok v a/\VR b r v/\ik S d H w b c a
section
variable{P:aH}{S:Nat->Prop}{Y:bc}{H:Heap}{w:aT}
theorem dE.v8(i:bg H)(c:bS S Y H w)(h:pL P Y s r):dE P S Y H w s r H:=by obtain⟨v,a,b⟩:=h;exact⟨Y,v,w,a w,b,a23 i c⟩
def a52:=@dE.v8
theorem dE.read(i:bg H)(b:bS S Y H w)(h:s.run P w=.ok v w)(a:VR Y r v):dE P S Y H w s r H:=⟨Y,v,w,h,a,a23 i b⟩
def a08:=@dE.read
theorem aBA{i o n:Nat}{l:aJ}(h:H.load i o n=J l):l.length=n:=by cases c:H.cellsOf i<;>grind[Heap.load,dp,dZ,qg,qQ]
theorem VN{n:Nat}(h:re x=J n)(a:VR Y x v):∀w:aT,(Builtin.lenOf v).run P w=.ok n w:=by cases a<;>simp_all[re,nO,Builtin.lenOf,dZ,NA]
theorem ati{b:ByteArray}{s:aE}(e:b.data.toList.map ko=s)(n:Nat):aZ Y (yD (λ(b:Nat)=>AV.int .u8 (.ofNat b)) (wo n s)) ((b.extract 0 n).data.map λb=>Value.int .u8 b.toNat).toList:=by
 rw[Aq,qg,<-e];have hd:(b.extract 0 n).data.toList=b.data.toList.take n:=by simp_all
 rw[Array.toList_map,hd];refine⟨aP,λi a v h d=>?_⟩;rw[jZ]at h d;rw[<-List.map_take,jZ]at h;rcases x:(b.data.toList.take n)[i]? with _|c;.grind
 simp[x]at h d;subst h;subst d;exact .int _ _
theorem Uj(q:bS S Y H w)(l:∀r,S r){z n:Nat}{a:aJ}(h:qT H z n x=J a)(f:VR Y x v)(d:re x=J m)(K:n<=m):∃j:Array aD,(oQ z n v).run P w=.ok j w/\aZ Y a j.toList/\(∀x,x∈a->x.aV=V)/\a.length=n*z:=by
 cases x<;>simp[qT]at h;case bH=>simp[re,nO]at d;subst d;subst h;cases f;simp_all[oQ,a04]
 case str s=>simp[re]at d;subst d;cases f with|str _ b e=>
  rw[bQ]at h;by_cases g:z=1
  . subst g;simp at h;subst h;refine⟨_,by rfl,ati e n,?_,?_⟩;.intro x i;rw[Aq]at i;obtain⟨c,_,rfl⟩:=au.1 i;rfl
    grind[Aq,qg,dZ]
  grind
 case sl id t len k e=>simp[re,nO]at d;subst d;cases f with|sl _ _ _ _ _ p A N o I M G L hr g W=>
  rw[bQ]at h;by_cases T:n=0;.simp_all[oQ,loadCells,loadCellsFrom,a04]
  . simp only[T,lC,ch,bQ]at h;by_cases D:e=z;.subst D;simp only[dX,aR]at h;have u:=hr ab;subst u;obtain⟨y,B,E,F⟩:=Hq (P:=P) q o (l _) h;grind[oQ,aBA]
    grind
theorem gm{i:TypeInfo}(h:mq P elem=J z)(c:P.info? elem=J i):∃b,i.zero=J b/\aZ Y z b.cells.toList/\(∀x,x∈z->x.aV=V):=by
 unfold mq zd at h;rw[c]at h;rcases y:i.zero with _|v;.grind
 simp only[y,cU]at h;rcases o:xb v with _|a;.grind
 simp only[o,cU]at h;obtain⟨d,e⟩:=(Ws (Y:=Y) o).cells h;grind
theorem vk{k:Nat}{d:TypeDesc}(h:ats[k]?.bind P.underlying=J d):∃t,ats[k]?=J t/\P.underlying t=J d:=ai
theorem ame(hi:bg H)(q:bS S Y H w)(c:∀r,S r){ty:an}{d:TypeDesc}{i:TypeInfo}{a:aJ}{s:AV}{n:Nat}(h0:ats[0]?.bind P.underlying=J (.slice elem))(B:P.info? elem=J i)(hz:mq P elem=J z)(lM:z.length=i.size)(h1:ats[1]?.bind P.underlying=J d)(Q:∀k,d≠.int k)(g:re x=J n)(f:qT H i.size n x=J a)(h:nE H elem i.size i.bytes s a n=J (r,H'))(jq:VR Y s sv)(j:VR Y x xv):dE P S Y H w (tz ats ty #[sv,xv]) r H':=by
 obtain⟨st,A,y⟩:=vk h0;obtain⟨xt,F,L⟩:=vk h1;obtain⟨zv,K,G,Ma⟩:=gm (Y:=Y) hz B;have fP:aW P elem=J i.size:=by grind[aW]
 obtain⟨xs,f1,f2,f3,f4⟩:=Uj (P:=P) q c f j g (bT _);obtain⟨xs',T,U,W,X⟩:=Uj (P:=P) q.drew c f j g (bT _);have I:(oQ i.size n xv).run P w.drew=.ok xs w.drew:=by
  cases x<;>simp[qT]at f;case bH=>cases j;simp_all[oQ]
  case str=>cases j;simp_all[oQ]
  case sl id v len O e=>cases j with|sl _ _ _ _ _ p gZ ke hp hl ht hc ho hr he pW=>
  have l:len=n:=by grind[re,nO]
  subst l;by_cases jT:len=0;.simp_all[oQ,loadCells,loadCellsFrom]
  . rw[bQ]at f;simp only[jT,lC,ch,bQ]at f;by_cases E:e=i.size
    . simp only[E,dX,aR]at f;obtain⟨m,hm⟩:∃m,H.cellsOf id=J m:=by unfold Heap.load at f;cases hc:H.cellsOf id<;>simp_all
      obtain⟨rr,fl,ee,hg,D⟩:=KD hm;obtain⟨ic,uO⟩:=CT q hp (c _) hg D;have t:v+len*i.size<=m.length:=ai;obtain⟨cs,fz,e1,g1,g2,g3,g4⟩:=ic.slice uO t;have tT:=hr ab;subst tT;have a1:=JF (P:=P) g1 g2;have a2:=JF (P:=P) (w:=w.drew) g1 g2;grind[oQ]
    grind
 have N:zv.cells.size=i.size:=by rw[<-lM];simpa using G.1.symm
 refine abz hi q c N h jq f2 f3 f4 ?_ ?_;.intro b R je w' cY u M m9 PX;subst cY;exact ajz A y fP F L Q (VN g j w) f1 u M
 .intro b R je old cY u o pe qW;subst cY;exact run_append_grow A y B K F L Q (VN g j w) I u o pe qW
theorem amh(l:bg H)(t:bS S Y H w)(j:∀r,S r){O:an}{k:fT}{i:TypeInfo}{s:AV}{n:Nat}(f:ats[0]?.bind P.underlying=J (.slice elem))(a:P.info? elem=J i)(u:mq P elem=J z)(E:z.length=i.size)(g:ats[1]?.bind P.underlying=J (.int k))(h:nE H elem i.size i.bytes s (jW n z) n=J (r,H'))(B:VR Y s sv)(v:VR Y (.int .i64 (.ofNat n)) xv):dE P S Y H w (tz ats O #[sv,xv]) r H':=by
 obtain⟨st,A,c⟩:=vk f;obtain⟨U,F,L⟩:=vk g;obtain⟨R,Q,D,M⟩:=gm (Y:=Y) u a;have p:=IZ v;subst p;have x:R.cells.size=i.size:=by rw[<-E];simpa using D.1.symm
 have W:i.size≠0:=by intro e;simp_all[nE]
 refine abz l t j x h B (ln D n) (Rv M n) (by grind[Gp]) ?_ ?_;.intro b d y T cY m q G X;subst cY;exact aJi A c a Q F L G X m W q
 .intro b d y I cY m o K N;subst cY;exact sy A c a Q F L m W o K N
def TC(H:Heap)(n:Nat)(c:aJ):AV->ah (AV×Heap)|.sl id o _ _ _=>bif aw n 0 then J (ia 0,H)else(H.store id o c).map λH=>(ia n,H)|_=>J (ia n,H)
theorem aoR(i:bg H)(b:bS S Y H w)(f:∀r,S r){Q:an}{z c n:Nat}{d s:AV}{l:aJ}{v:aD}(E:ats[0]?.bind P.underlying=J (.slice elem))(m:aW P elem=J z)(o:re s=J a)(G:nO d=J c)(L:n=Nat.min a c)(I:qT H z n s=J l)(A:VR Y d v)(t:VR Y s sv)(h:TC H n l d=J (r,H')):dE P S Y H w (zg ats Q #[v,sv]) r H':=by obtain⟨W,k,u⟩:=vk E;have g:n<=a:=ai;have M:n<=c:=ai;obtain⟨y,f1,f2,f3,f4⟩:=Uj (P:=P) b f I t o g;have q:=VN (P:=P) o t w;cases d with
 |bH=>
 obtain rfl:c=0:=by grind[nO]
 cases A;have j:n=0:=ab;subst j;have x:Nat.min a 0=0:=aP;simp[TC]at h;obtain⟨rfl,rfl⟩:=h;refine⟨Y,goInt 0,w,?_,.int _ _,a23 i b⟩;simp[zg,k,dG u,q,mi m,f1]|sl id O len D e=>
 obtain rfl:c=len:=by grind[nO]
 cases A with|sl _ _ _ _ _ p X ke N jE ht yl ho hr he pW=>
 have x:min a c=n:=L.symm;simp only[TC,bQ]at h;by_cases j:n=0
 . simp[j]at h;obtain⟨rfl,rfl⟩:=h;refine⟨Y,goInt n,w,?_,by rw[j];exact .int _ _,a23 i b⟩;have F:y=#[]:=by
    have h1:y.size=0:=by have:=f2.1;grind
    grind
   subst F;simp[zg,k,dG u,q,mi m,x,f1,storeCells]
 .simp only[j,lC,ch,iK]at h;obtain⟨U,B,K⟩:=h;obtain⟨rfl,rfl⟩:=jf K;have T:=hr ab;subst T;obtain⟨R,g1,g2,g3,g4⟩:=NJ (P:=P) i b N (f _) B f2 f3;refine⟨Y,goInt n,R,?_,.int _ _,g2,g3.up (λr _=>f r),g4⟩;simp_all[zg,dG,mi]
 |_=>simp[nO]at G
theorem I2{f:aD->aD->Sem aD}{g:AV->AV->ah AV}(a:∀{x y r:AV}{u v:aD},g x y=J r->VR Y x u->VR Y y v->pL P Y (f u v) r):∀(l:aJ)(s:List aD)(x r:AV)(u:aD),lE g l x=J r->aZ Y l s->VR Y x u->pL P Y (s.foldlM f u) r:=by intro l;induction l with|nil=>intro s x r u h b c;obtain rfl:=b.sB;rw[EN]at h;simp at h;subst h;exact⟨u,λw=>by rfl,c⟩|cons y l n=>
 intro s x r u h b c;obtain⟨v,t,rfl,k,j⟩:=b.cons_inv;rw[EM]at h;rcases d:g x y with _|m;.grind
 simp only[d,cU]at h;obtain⟨o,q,e⟩:=a d c k;obtain⟨p,z,i⟩:=n t m r o h j e;exact⟨p,λw=>aU,i⟩
theorem aCa{y:AV}{u:aD}(h:(match x,y with|.int k a,.int _ b=>J (AV.int k (bif aA a b then b else a))|_,_=>Z)=J r)(c:VR Y x u)(d:VR Y y v):pL P Y (Builtin.max2 u v) r:=by cases x<;>cases y<;>simp at h;subst h;cases c;cases d;rename_i k a e b;refine⟨_,λw=>by rfl,?_⟩;rw[Jb];by_cases I:a<b<;>simp[I]<;>exact .int _ _
theorem aCg{y:AV}{u:aD}(h:(match x,y with|.int k a,.int _ b=>J (AV.int k (bif aA b a then b else a))|_,_=>Z)=J r)(c:VR Y x u)(d:VR Y y v):pL P Y (Builtin.min2 u v) r:=by cases x<;>cases y<;>simp at h;subst h;cases c;cases d;rename_i k a e b;refine⟨_,λw=>by rfl,?_⟩;rw[Jb];by_cases I:b<a<;>simp[I]<;>exact .int _ _
theorem aoO{r s:an}{d:TypeDesc}{k a:fT}{n:Int}(c:P.underlying r=J d)(b:P.underlying s=J (.int k))(h:VR Y (.int a n) v):pL P Y (convert r s v) (.int k (dQ k n)):=by cases h;exact⟨.int k (k.wrap n),λw=>by simp_all[convert,dG,Conv.intToInt],by rw[Cw];exact .int _ _⟩
theorem auB{b I n:Nat}{cs:Array aD}(h:w.heap[b]?=J (.cells cs e (0,0)))(a:n≠0):w.freeze ⟨b,I,Z⟩ n=World.eW w b (.cells cs e (I,I+n)):=by have c:b<w.heap.size:=(ap.1 h).1;unfold World.freeze World.eW;rw[if_neg a];congr 1;grind
theorem aoP(K:bg H)(M:bS S Y H w){o t:an}{d:TypeDesc}{s:aE}(B:P.underlying o=J d)(y:P.underlying t=J (.slice e))(F:P.underlying e=J (.int .u8))(g:VR Y (.str s) v):dE P S Y H w (convert o t v) (.sl H.next 0 (fg s) Z 1) (H.cT (yD (λ(b:Nat)=>AV.int .u8 (.ofNat b)) s) .ro e):=by cases g with|str _ b D=>
 have G:b.size=s.length:=NA D;obtain⟨p,N⟩:∃p,p=(Question.appendCap b.size 0 e).cut (w.tape w.drawn (.appendCap b.size 0 e)):=⟨_,rfl⟩;have L:b.size<=p:=by grind[TF]
 obtain⟨f,Q⟩:∃f:Array aD,f=(b.data.map λb=>Value.int .u8 b.toNat)++Array.replicate (p-b.size) (.int .u8 0):=⟨_,rfl⟩;have z:f.size=p:=by grind
 have u:aZ Y (yD (λ(b:Nat)=>AV.int .u8 (.ofNat b)) s) (b.data.map λb=>Value.int .u8 b.toNat).toList:=by
   rw[Aq,<-D];refine⟨aP,λi a v j g=>?_⟩;rw[Array.toList_map,jZ]at g;rw[jZ,jZ]at j;rcases m:b.data.toList[i]? with _|c;.grind
   simp[m]at j;rw[m]at g;simp at g;subst j;subst g;exact .int _ _
 have R:(yD (λ(b:Nat)=>AV.int .u8 (.ofNat b)) s).length=s.length:=by simp[Aq]
 have O:=Kr K M.drew (.cells (yD (λ(b:Nat)=>AV.int .u8 (.ofNat b)) s) H.next .ro e) (.cells f e (f.size,f.size+1)) ⟨w.heap.size,0,p,s.length⟩ rfl (λl r W T h=>ai) (by
    refine⟨f,(f.size,f.size+1),_,xf w.drew _,z,?_,?_,?_,λh=>absurd rfl h,λh=>ai⟩;.grind
    .intro i a j;obtain⟨v,q,E⟩:=u.get j;grind
    .intro x m;rw[Aq]at m;obtain⟨c,_,rfl⟩:=au.1 m;rfl);refine⟨_,.slice (J ⟨w.heap.size,0,Z⟩) b.size p,World.push w.drew (.cells f e (f.size,f.size+1)),?_,?_,ik.drew O⟩
 . have A:(w.drew.alloc (.cells f e)).shape? w.heap.size=J (e,f.size):=Z9 (w:=World.push w.drew (.cells f e)) (xf w.drew _);have U:(w.drew.alloc (.cells f e)).freeze ⟨w.heap.size,f.size,Z⟩ 1=World.push w.drew (.cells f e (f.size,f.size+1)):=by
    have q:=auB (w:=World.push w.drew (.cells f e)) (b:=w.heap.size) (I:=f.size) (n:=1) (cs:=f) (e:=e) (xf w.drew _) ab;have E:World.eW (World.push w.drew (.cells f e)) w.heap.size (.cells f e (f.size,f.size+1))=World.push w.drew (.cells f e (f.size,f.size+1)):=by have y:w.drew.heap=w.heap:=rfl;unfold World.eW World.push;simp only[y];congr 1;grind
    exact q.trans E
   simp[convert,dG B,dG y,dG F,Conv.stringToBytes,newRow,newObj,markStringish,shape,Sem.run,Question.forced,<-N,<-Q,A,freeze];omega
 .have q:fu Y H.next ⟨w.heap.size,0,p,s.length⟩ H.next=J ⟨w.heap.size,0,p,s.length⟩:=jN _ _ _;rw[G,dZ];refine .sl H.next 0 s.length Z 1 _ _ p q ab ?_ (λk X=>ai) (λ_=>?_) (λ_=>rfl) ab ?_<;>grind
theorem eR{a:AV}{c:Array aD}(h:aZ Y [a] c.toList):∃u,c=#[u]/\VR Y a u:=by obtain⟨u,t,d,e,b⟩:=h.cons_inv;have:=b.sB;grind
theorem ez{a b:AV}{c:Array aD}(h:aZ Y [a,b] c.toList):∃u v,c=#[u,v]/\VR Y a u/\VR Y b v:=by obtain⟨u,t,f,g,d⟩:=h.cons_inv;obtain⟨v,k,i,j,e⟩:=d.cons_inv;have:=e.sB;grind
def Em(a:bc)(r:AV):Next->Prop|.value v=>VR a r v|.skip=>r=fD|_=>False
def aFa:Next->aD|.value v=>v|_=>undef
theorem Em.val{n:Next}(h:Em Y r n):VR Y r (aFa n):=by
 cases n<;>simp only[Em]at h;.exact h
 .subst h;exact a39 (a04 Y) #[] rfl
def tC(P:aH)(S:Nat->Prop)(d:bc)(H:Heap)(w:aT)(s:Sem Next)(r:AV)(c:Heap):Prop:=∃b n a,s.run P w=.ok n a/\Em b r n/\ik S d H w b c a
theorem dE.next(h:dE P S Y H w s r H'):tC P S Y H w (do pure (.value (<-s))) r H':=by obtain⟨d,v,c,e,a,b⟩:=h;exact⟨d,.value v,c,aU,a,b⟩
theorem Qf{c d:Type}{x:ah c}{f:c->ah d}{b:d}(h:x.bind f=J b):∃a,x=J a/\f a=J b:=by cases x<;>simp_all
theorem ant(p:bg H)(q:bS S Y H w)(m:∀r,S r){t:an}{a:aJ}{c:Array aD}(h:iC P H .append ats a=J (r,H'))(b:aZ Y a c.toList):dE P S Y H w (tz ats t c) r H':=by match a,h,b with
 |[s,x],h,b=>
 obtain⟨u,v,rfl,y,A⟩:=ez b;simp only[iC]at h;split at h
 . rename_i elem j;split at h
   . rename_i i B;rcases g:mq P elem with _|z;.grind
     simp only[g,cU,bQ,dZ]at h;by_cases l:z.length=i.size
     . simp only[l,dX,aR]at h;split at h;.rename_i k e;split at h<;>grind[amh]
       . rename_i d Q e;rcases f:re x with _|n;.grind
         simp only[f,cU]at h;cases o:qT H i.size n x<;>grind[ame]
       grind
     grind
   grind
 grind
theorem anw(m:bg H)(o:bS S Y H w)(l:∀r,S r){t:an}{g:aJ}{c:Array aD}(h:iC P H .copy ats g=J (r,H'))(b:aZ Y g c.toList):dE P S Y H w (zg ats t c) r H':=by match g,h,b with
 |[d,s],h,b=>
 obtain⟨u,v,rfl,hd,q⟩:=ez b;simp only[iC]at h;split at h
 . rename_i elem k;rcases z:aW P elem with _|e;.grind
   rcases f:re s with _|a;.grind
   rcases i:nO d with _|n;.grind
   simp only[z,f,i,cU]at h;rcases j:qT H e (Nat.min a n) s with _|cells;.grind
   simp only[j,cU]at h;exact aoR m o l k z f i rfl j hd q (by cases d<;>exact h)
 grind
theorem anz(j:bg H)(s:bS S Y H w){y:an}{g:aJ}{c:Array aD}(i:∀m o,g=[.map m]->H.jU m=J o->S (rootOf H m))(h:iC P H .len ats g=J (r,H'))(l:aZ Y g c.toList):dE P S Y H w (Builtin.len_ ats y c) r H':=by match g,h,l,i with
 |[x],h,l,i=>
 obtain⟨v,rfl,q⟩:=eR l;simp only[iC]at h;split at h;.rename_i n e b;obtain⟨t,d,f⟩:=vk b;simp at h;obtain⟨rfl,rfl⟩:=h;exact a08 j s (v:=goInt n) (by simp_all[Builtin.len_,dG]) (.int _ _)
 . rename_i a b;obtain⟨t,d,f⟩:=vk b;split at h;.rename_i n e A;simp at h;obtain⟨rfl,rfl⟩:=h;exact a08 j s (v:=goInt n) (by simp_all[Builtin.len_,dG]) (.int _ _)
   grind
 .grind[dE.v8,aBf]
 .rename_i e b;obtain⟨t,d,f⟩:=vk b;cases F:nO x<;>grind[dE.v8,aBe]
 . rename_i kt vt b;obtain⟨t,d,f⟩:=vk b;split at h;.simp at h;obtain⟨rfl,rfl⟩:=h;cases q;exact a08 j s (v:=goInt 0) (by simp_all[Builtin.len_,dG]) (.int _ _)
   . rename_i m;rcases k:H.jU m with _|o;.grind
     simp[k]at h;obtain⟨rfl,rfl⟩:=h;obtain⟨es,B⟩:=o;cases q with|map _ p z=>obtain⟨u,D,E⟩:=aBb (P:=P) (ty:=y) s d f z (i m _ rfl k) (tc k);grind[dE.read]
   grind
 grind
theorem anu(i:bg H)(s:bS S Y H w){t:an}{a:aJ}{c:Array aD}(h:iC P H .cap ats a=J (r,H'))(b:aZ Y a c.toList):dE P S Y H w (Builtin.cap_ ats t c) r H':=by match a,h,b with|[x],h,b=>obtain⟨v,rfl,d⟩:=eR b;simp only[iC]at h;grind[dE.v8,an2,an3]
theorem anA(p:bg H)(s:bS S Y H w){l:an}{a:aJ}{c:Array aD}(h:iC P H .max ats a=J (r,H'))(b:aZ Y a c.toList):dE P S Y H w (Builtin.max_ ats l c) r H':=by match a,h,b with|x::rest,h,b=>obtain⟨u,t,q,i,A⟩:=b.cons_inv;simp only[iC,iK]at h;obtain⟨m,e,d⟩:=h;obtain⟨rfl,rfl⟩:=jf d;have:=I2 (P:=P) (Y:=Y) (f:=Builtin.max2) (λ{x y r u v}g j k=>aCa g j k) rest t x m u e A i;obtain⟨z,n,o⟩:=this;simp_all[a08,Builtin.max_]
theorem TQ(p:bg H)(s:bS S Y H w){l:an}{a:aJ}{c:Array aD}(h:iC P H .min ats a=J (r,H'))(b:aZ Y a c.toList):dE P S Y H w (Builtin.min_ ats l c) r H':=by match a,h,b with|x::rest,h,b=>obtain⟨u,t,q,i,A⟩:=b.cons_inv;simp only[iC,iK]at h;obtain⟨m,e,d⟩:=h;obtain⟨rfl,rfl⟩:=jf d;have:=I2 (P:=P) (Y:=Y) (f:=Builtin.min2) (λ{x y r u v}g j k=>aCg g j k) rest t x m u e A i;obtain⟨z,n,o⟩:=this;simp_all[a08,Builtin.min_]
theorem anv(i:bg H)(s:bS S Y H w)(f:∀r,S r){D:an}{g:aJ}{c:Array aD}(h:iC P H .clear ats g=J (r,H'))(o:aZ Y g c.toList):dE P S Y H w (Builtin.clear_ ats D c) r H':=by match g,h,o with
 |[x],h,o=>
 obtain⟨v,rfl,e⟩:=eR o;simp only[iC]at h;split at h;.rename_i d b;obtain⟨t,j,u⟩:=vk b;simp at h;obtain⟨rfl,rfl⟩:=h;cases e;exact a08 i s (v:=.tuple #[]) (by simp_all[Builtin.clear_,dG]) (a39 (a04 Y) #[] rfl)
 .rename_i d b;obtain⟨t,j,u⟩:=vk b;simp at h;obtain⟨rfl,rfl⟩:=h;cases e;exact a08 i s (v:=.tuple #[]) (by simp_all[Builtin.clear_,dG]) (a39 (a04 Y) #[] rfl)
 . rename_i d m b;obtain⟨t,j,u⟩:=vk b;rcases y:H.jU m with _|U;.grind
   simp[y]at h;obtain⟨rfl,rfl⟩:=h;obtain⟨es,ck⟩:=U;cases e with|map _ p l=>obtain⟨q,K,L,M,N⟩:=aoq (P:=P) (ty:=D) i s j u l (f _) (tc y);exact⟨Y,.tuple #[],q,K,a39 (a04 Y) #[] rfl,L,M.up (λx _=>f x),N⟩
 . rename_i elem id W n I k b;obtain⟨t,j,u⟩:=vk b;rw[bQ]at h;by_cases A:n=0;.subst A;simp at h;obtain⟨rfl,rfl⟩:=h;cases e;exact a08 i s (v:=.tuple #[]) (by simp_all[Builtin.clear_,dG]) (a39 (a04 Y) #[] rfl)
   . simp only[A,lC,ch]at h;obtain⟨z,B,h⟩:=Qf h;rw[bQ,dZ]at h;by_cases T:z.length=k;.simp only[T,dX,aR,iK]at h;obtain⟨H1,G,R⟩:=h;obtain⟨rfl,rfl⟩:=jf R;unfold mq at B;obtain⟨a,O,Q⟩:=Qf B;obtain⟨zv,z1,z2⟩:=Gv (Y:=Y) O w;obtain⟨E,F⟩:=z2.cells Q;cases e with|sl _ _ _ _ _ p gZ ke l hl Fi yl ho hr he pW=>have X:=hr ab;subst X;obtain⟨q,g1,g2,g3,g4⟩:=NJ (P:=P) i s l (f _) G (ln E n) (Rv F n);refine⟨Y,.tuple #[],q,?_,a39 (a04 Y) #[] rfl,g2,g3.up (λx _=>f x),g4⟩;simp_all[Builtin.clear_,dG]
     grind
 grind
theorem anx(y:bg H)(B:bS S Y H w)(j:∀r,S r){E:an}{a:aJ}{c:Array aD}(h:iC P H .delete ats a=J (r,H'))(n:aZ Y a c.toList):dE P S Y H w (Builtin.delete_ ats E c) r H':=by match a,h,n with
 |[m,k],h,n=>
 obtain⟨u,v,rfl,A,z⟩:=ez n;simp only[iC]at h;split at h
 . rename_i kt vt G;obtain⟨t,L,M⟩:=vk G;rcases l:qB P kt k with _|_;.grind
   simp only[l,aR]at h;split at h;.simp at h;obtain⟨rfl,rfl⟩:=h;cases A;have T:=λe=>Mk (P:=P) (empty:=e) l z w;exact a08 y B (v:=.tuple #[]) (by simp_all[Builtin.delete_,dG]) (a39 (a04 Y) #[] rfl)
   . rename_i O;rcases D:H.jU O with _|Q;.grind
     obtain⟨es,R⟩:=Q;simp only[D,cU,iK]at h;obtain⟨q,K,b⟩:=h;cases A with|map _ p I=>
     obtain⟨F,o,s⟩:=apd (P:=P) (ty:=E) y B L M I (j _) (tc D) z l K;rcases q with _|N;.simp at b;obtain⟨rfl,rfl⟩:=b;obtain⟨d,f,g⟩:=s es rfl;exact⟨Y,.tuple #[],F,o,a39 (a04 Y) #[] rfl,d,f.up (λx _=>j x),g⟩
     obtain⟨i,e⟩:=N;simp at b;obtain⟨rfl,rfl⟩:=b;obtain⟨d,f,g⟩:=s _ rfl;exact⟨Y,.tuple #[],F,o,a39 (a04 Y) #[] rfl,d,f.up (λx _=>j x),g⟩
   grind
 grind
theorem ans(i:bg H)(s:bS S Y H w){b:Builtin}{ty:an}{cs:Array Bool}{a:aJ}{c:Array aD}(d:(∀r,S r)\/(b=.len/\∀m o,a=[.map m]->H.jU m=J o->S (rootOf H m))\/b=.cap)(h:iC P H b ats a=J (r,H'))(v:aZ Y a c.toList):tC P S Y H w (builtin b ats ty cs c) r H':=by cases b<;>simp only[builtin]<;>first|exact(ant i s (by rcases d with h|⟨h,_⟩|h<;>first|exact h|cases h) h v).next|exact(anw i s (by rcases d with h|⟨h,_⟩|h<;>first|exact h|cases h) h v).next|exact(e i s (by rcases d with h|⟨h,_⟩|h<;>first|exact h|cases h) h v).next|exact(anv i s (by rcases d with h|⟨h,_⟩|h<;>first|exact h|cases h) h v).next|exact(anx i s (by rcases d with h|⟨h,_⟩|h<;>first|exact h|cases h) h v).next|exact(anz i s (by rcases d with h|⟨_,h⟩|h<;>first|exactλm o _ _=>h _|exact h|cases h) h v).next|exact(anu i s h v).next|exact(O i s h v).next|exact(anA i s h v).next|exact(TQ i s h v).next|exact(TQ i s h v).next|(exfalso;simp[iC]at h)
end
end Go.AM
namespace Go.AM
open Go
variable{r:AV}{H':Heap}{a x:aK}{t:an}
def J'(P:aH)(S:Nat->Prop)(m:Tr AV)(H:Heap)(o:aB):Prop:=oJ o.op=V\/(match eF P m H o with|none=>∀r,S r|some l=>∀t,t∈l->S t.2)
section
variable{P:aH}{S:Nat->Prop}{Y:bc}{H:Heap}{w:aT}{tm:Tr AV}{ρ:aK->aD}
theorem mL{v:ah AV}(h:fc H v=J (.val r H')):v=J r/\H=H':=by cases v<;>grind[fc]
theorem bS.grow{n:Nat}(s:bS S Y H w)(i:bg H)(h:H.next<=n):bS (AM.more S n) Y H w:=⟨s.stat,λid p o b a c d=>s.obj id p o b (by
 rcases a with a|a;.omega
 .have:=rq i (s.stat.lt i b);omega) c d⟩
theorem aLX{i o:Nat}{v:aJ}(h:H.store i o v=J H'):H'.next=H.next:=by grind[Heap.store,w9]
theorem aLS{i o:Nat}{v:AV}(h:AM.storeVar P H t i o v=J H'):H'.next=H.next:=by
 unfold AM.storeVar at h;rcases z:aW P t with _|n;.grind
 cases c:v.cells<;>grind[aLX]
theorem sx{c d:Type}{f:c->Sem d}:∀(l:List c)(r:List d),l.length=r.length->(∀(i:Nat)(a:c)(b:d),l[i]?=J a->r[i]?=J b->(f a).run P w=.ok b w)->(l.mapM f).run P w=.ok r w:=by intro l;induction l with|nil=>intro r h _;cases r<;>simp_all|cons a l g=>
 intro r h e;rcases r with _|⟨b,r⟩;.grind
 rw[List.mapM_cons,Sem.run_bind,e 0 a b rfl rfl];simp only[bi];rw[Sem.run_bind,g r ai (λi a b j k=>e (i+1) a b ai ai)];rfl
theorem ajn{i r:Nat}(h:tq H i=J r):rootOf H i=r:=by grind[tq,qC]
def pL.next(i:bg H)(a:bS S Y H w){s:Sem aD}(h:pL P Y s r):tC P S Y H w (do pure (.value (<-s))) r H:=(a52 i a h).next
theorem tC.here(i:bg H)(s:bS S Y H w){v:aD}(h:VR Y r v):tC P S Y H w (pure (.value v)) r H:=⟨Y,.value v,w,by rfl,h,a23 i s⟩
theorem aF{c d:Type}{x:ah c}{f:c->ah d}{b:d}(h:x.bind f=J b):∃a,x=J a/\f a=J b:=by cases x<;>simp_all
section one
variable(hi:bg H)(hs:bS S Y H w)(hg:iZ P Y)(hr:Reads ρ)
include hi hs hg hr
theorem Mz(o:fp Y tm ρ x)(h:Eb P tm H x=J (.val r H')):tC P S Y H w (pure (.value (ρ x))) r H':=by unfold Eb at h;obtain⟨a,rfl⟩:=mL h;grind[tC.here,fK]
theorem asG{e:an}(o:fp Y tm ρ x)(h:GX P tm H e x=J (.val r H')):dE P S Y H w (Instr.box e (ρ x)) r H':=by unfold GX at h;obtain⟨v,d,h⟩:=aF h;simp only[iK]at h;obtain⟨s,u,c⟩:=h;obtain⟨rfl,rfl⟩:=fo.val.inj c;obtain⟨a,b⟩:=(fK hg hr o d).1.cells u;obtain⟨p,f,g,i,j,k,p6⟩:=QX (P:=P) hi hs s .ex e _ a b;refine⟨_,.pointer (J ⟨p.ba,0,Z⟩),_,by simp_all[Instr.box,newVar],?_,p6⟩;have:=VR.ptr (Y:=fu Y H.next p) H.next 0 p (jN _ _ _);grind
omit hg hr in theorem asE{e:an}(h:GV P tm H e=J (.val r H')):dE P S Y H w (Instr.alloc e V (.tuple #[])) r H':=by unfold GV at h;simp only[iK]at h;obtain⟨z,b,i⟩:=h;obtain⟨rfl,rfl⟩:=fo.val.inj i;have k:=b;unfold mq at b;obtain⟨a,f,g⟩:=aF b;obtain⟨v,s,j⟩:=Gv (Y:=Y) f w;obtain⟨c,d⟩:=j.cells g;obtain⟨p,l,m,n,o,q,p6⟩:=QX (P:=P) hi hs z .ex e _ c d;refine⟨_,.pointer (J ⟨p.ba,0,Z⟩),_,by simp_all[Instr.alloc,newVar],?_,p6⟩;have:=VR.ptr (Y:=fu Y H.next p) H.next 0 p (jN _ _ _);grind
theorem asR(c:fp Y tm ρ a)(f:∀id o,bJ P tm a=J (.ptr id o)->S (rootOf H id))(h:G1 P tm H t a=J (.val r H')):dE P S Y H w (Instr.loadAt t (ρ a)) r H':=by
 unfold G1 at h;split at h;.rename_i id o b;obtain⟨e,rfl⟩:=mL h;have v:=(fK hg hr c b).1;generalize ρ a=d at v;cases v<;>grind[HA,dE.read,Instr.loadAt,Instr.sureAddr]
 grind
theorem as2(i:fp Y tm ρ a)(m:fp Y tm ρ x)(f:∀id o,bJ P tm a=J (.ptr id o)->S (rootOf H id))(h:Ed P tm H t a x=J (.val r H')):tC P S Y H w (do Instr.storeAt t (ρ a) (ρ x);pure .skip) r H':=by
 unfold Ed at h;split at h;.rename_i id o c;obtain⟨v,k,h⟩:=aF h;simp only[iK]at h;obtain⟨s,b,g⟩:=h;obtain⟨rfl,rfl⟩:=fo.val.inj g;have d:=(fK hg hr i c).1;generalize ρ a=u at d;cases d with|ptr _ _ p j=>obtain⟨q,y,e,l,n⟩:=aLT (P:=P) hi hs j (f _ _ c) b (fK hg hr m k).1;exact⟨Y,.skip,q,by simp_all[Instr.storeAt,Instr.sureAddr],rfl,e,l.grow e (Nat.le_of_eq (aLS b)),n⟩
 grind
theorem asZ{c b:aK}(e:fp Y tm ρ c)(g:fp Y tm ρ a)(i:fp Y tm ρ b)(h:CB P tm H c a b=J (.val r H')):tC P S Y H w (do pure (.value (if<-asBool (ρ c)then ρ a else ρ b))) r H':=by
 unfold CB at h;split at h;.rename_i I;have v:=(fK hg hr e I).1;generalize ρ c=f at v;cases v;obtain⟨d,rfl⟩:=mL h;exact⟨Y,.value (ρ a),w,by rfl,(fK hg hr g d).1,a23 hi hs⟩
 .rename_i I;have v:=(fK hg hr e I).1;generalize ρ c=f at v;cases v;obtain⟨d,rfl⟩:=mL h;exact⟨Y,.value (ρ b),w,by rfl,(fK hg hr i d).1,a23 hi hs⟩
 grind
theorem MU{l:List (Nat×aK)}:∀{s:List (Nat×AV)},(∀x,x∈l->fp Y tm ρ x.2)->cB (λ(p:Nat×aK)=>(bJ P tm p.2).map λv=>(p.1,v)) l=J s->s.length=(l.map λp=>(p.1,ρ p.2)).length/\∀(i:Nat)(p:Nat×AV)(q:Nat×aD),s[i]?=J p->(l.map λp=>(p.1,ρ p.2))[i]?=J q->p.1=q.1/\VR Y p.2 q.2:=by grind[FI,iK,fK]
theorem asH{s:Array (Nat×aK)}(ho:∀x,x∈s.toList->fp Y tm ρ x.2)(h:Cx P tm H t s=J (.val r H')):dE P S Y H w (Instr.build t (s.map λ(i,x)=>(i,ρ x))) r H':=by
 unfold Cx at h;obtain⟨z,E,h⟩:=aF h;obtain⟨I,kO,h⟩:=aF h;obtain⟨K,M⟩:=MU hi hs hg hr ho kO;unfold mq at E;obtain⟨a,T,X⟩:=aF E;obtain⟨O,N,z2⟩:=Gv (Y:=Y) T w;obtain⟨q,y⟩:=z2.cells X;have Q:(s.map λ(i,x)=>(i,ρ x)).toList=s.toList.map λp=>(p.1,ρ p.2):=aP;split at h
 . rename_i e u;obtain⟨l,W,h⟩:=aF h;obtain⟨j,rfl⟩:=mL h;simp only[iK]at j;obtain⟨cells,k,rfl⟩:=j;obtain⟨m,o⟩:=FI W;have L:(e.mapM λg=>(do pure (g.offset,<-sizeOf g.type):Sem (Nat×Nat))).run P w=.ok l.toArray w:=by have B:=sx (P:=P) (w:=w) (f:=λ(g:Field)=>(do pure (g.offset,<-sizeOf g.type):Sem (Nat×Nat))) e.toList l m (λi g b k U=>by obtain⟨c,G,F⟩:=o i g k;rw[U]at F;cases F;simp only[iK]at G;obtain⟨n,hn,rfl⟩:=G;simp[mi hn]);simp only[bind_pure_comp]at B;rw[Array.mapM_eq_mapM_toList];simp[B]
   simp only[bind_pure_comp]at L;obtain⟨d,d1,d2,d3,d4⟩:=Ud (λi=>pj l i) (l[.]?) I (s.toList.map λp=>(p.1,ρ p.2)) z O.cells cells (λi x D=>by grind[xa]) K M q y k;refine a08 hi hs (v:=.agg d) ?_ (d2.agg d3 d rfl);simp[Instr.build,N,dG u,L,d1]
 .rename_i n A u;obtain⟨sz,R,h⟩:=aF h;obtain⟨j,rfl⟩:=mL h;simp only[iK]at j;obtain⟨cells,k,rfl⟩:=j;obtain⟨d,d1,d2,d3,d4⟩:=Ud (λi=>J (fA i sz,sz)) (λi=>J (i*sz,sz)) I (s.toList.map λp=>(p.1,ρ p.2)) z O.cells cells (λi x D=>D) K M q y k;refine a08 hi hs (v:=.agg d) ?_ (d2.agg d3 d rfl);simp[Instr.build,N,dG u,mi R,d1]
 grind
theorem lm{z:aJ}{c:Array aD}(d:aZ Y z c.toList)(n:Nat):aZ Y (jW n z) ((Array.range (n*z.length)).map (c[.%c.size]!)).toList:=by
 have l:z.length=c.size:=by simpa using d.1
 refine⟨by simp[Gp],λi a v b h=>?_⟩;have hi:i<n*z.length:=by grind
 rw[ZV n z i hi]at b;have o:0<c.size:=by grind
 simp only[Array.toList_map,jZ,Array.toList_range]at h;rw[Kf hi]at h;simp only[gM,xL]at h;have m:i%c.size<c.size:=Nat.mod_lt _ o;rw[getElem!_pos c _ m]at h;refine d.2 (i%z.length) a v b ?_;grind
theorem asI{l:Nat}{s:Array (Nat×aK)}(M:∀x,x∈s.toList->fp Y tm ρ x.2)(h:GY P tm H t l s=J (.val r H')):dE P S Y H w (Instr.buildSlice t l (s.map λ(i,x)=>(i,ρ x))) r H':=by
 unfold GY at h;split at h
 . rename_i m O;obtain⟨n,L,h⟩:=aF h;rw[bQ,dp]at h;by_cases g:n=0\/¬l*n<=16777216;.grind
   . have o:n≠0:=λe=>g (.inl e);have K:l*n<=16777216:=Decidable.not_not.1 λe=>g (.inr e);have:(decide (n=0)||!decide (fA l n<=16777216))=C:=by grind
     rw[this]at h;simp only[ch]at h;obtain⟨W,R,h⟩:=aF h;obtain⟨X,q2⟩:=MU hi hs hg hr M R;obtain⟨z,b,h⟩:=aF h;have A:(s.map λ(i,x)=>(i,ρ x)).toList=s.toList.map λp=>(p.1,ρ p.2):=aP;have y:∃(c:Array aD)(f:Array aD),((l*n=0->c=#[])/\(l*n≠0->∃v,(zeroValue m).run P w=.ok v w/\v.cells=c))/\f=(Array.range (l*n)).map (c[.%c.size]!)/\aZ Y (jW l z) f.toList/\(∀x,x∈jW l z->x.aV=V)/\(l=0\/z.length=n):=by
       by_cases T:l=0;.subst T;simp[a04,Ru]
       . rw[bQ,Bq T]at b;simp only[ch]at b;have Vw:=b;unfold mq at b;obtain⟨a,D,qU⟩:=aF b;obtain⟨v,z1,z2⟩:=Gv (Y:=Y) D w;obtain⟨c1,B⟩:=z2.cells qU;rw[bQ,bQ,dZ,Bq T]at h;have U:z.length=n:=by grind
         have I:¬l*n=0:=λe=>(Nat.mul_eq_zero.1 e).elim T o;refine⟨v.cells,_,⟨λe=>absurd e I,λ_=>⟨v,z1,rfl⟩⟩,rfl,?_,Rv B l,.inr U⟩;grind[lm]
     obtain⟨c,f,k1,k2,k3,k4,k5⟩:=y;have E:(!(aw l 0||aw (fg z) n))=C:=by grind
     rw[E]at h;simp only[ch,iK]at h;obtain⟨cells,F,G⟩:=h;obtain⟨rfl,rfl⟩:=fo.val.inj G;obtain⟨d,d1,d2,d3,d4⟩:=Ud (λi=>J (fA i n,n)) (λi=>J (i*n,n)) W (s.toList.map λp=>(p.1,ρ p.2)) (jW l z) f cells (λi x Q=>Q) X q2 k3 k4 F;obtain⟨p,p1,p2,p3,q,p5,p6⟩:=QX (P:=P) hi hs cells .ex m d d2 d3;have Ir:d.size=l*n:=by have h1:=d2.1;have h2:=k3.1;grind
     refine⟨_,.slice (J ⟨p.ba,0,Z⟩) l l,_,?_,?_,p6⟩;.have u:¬(2^24<l*n):=ab;rw[k2]at d1;unfold Instr.buildSlice;simp only[dG O,Sem.run_bind,bi,mi L];grind[Sem.run_bind,Sem.run_pure,Result.andThen_ok]
     . have N:fu Y H.next p H.next=J p:=jN _ _ _;refine .sl H.next 0 l (J l) n p _ l N (bT _) ab (λk j=>?_) (λj=>ai) (λ_=>ai) (Nat.pos_of_ne_zero o) ?_;.cases j;refine⟨rfl,?_⟩;rw[q];have:=d2.1;grind
       .rw[q];have:=d2.1;grind
 grind
end one
end
end Go.AM
namespace Go.VM
open Go Go.AM
abbrev aY:=Nat->ah (aJ×an)
abbrev cu:=Nat->ah Nat
inductive DR(K:aY)(Y:cu):DV->AV->Prop where|bool(b:Bool):DR K Y (.bool b) (.bool b)|int(k:fT)(n:Int):DR K Y (.int k n) (.int k n)|str(s:List Nat):DR K Y (.str s) (.str s)|nl:DR K Y .nl .bH|ay(l:List DV)(e:an)(esz id off:Nat)(c:Option Nat)(cells:List AV)(h:K id=J (cells,e))(he:0<esz)(hb:off+l.length*esz<=cells.length)(hc:∀k,c=J k->l.length<=k)(hl:∀(i:Nat)(x:DV),l[i]?=J x->x.flat.length=esz/\∀y,y∈x.flat->y.aV=V)(g:∀(i:Nat)(x:DV)(j:Nat)(d:DV)(a:AV),l[i]?=J x->x.flat[j]?=J d->cells[off+i*esz+j]?=J a->DR K Y d a):DR K Y (.ay l e esz) (.sl id off l.length c esz)|ptr(id off i:Nat)(h:Y id=J i):DR K Y (.ptr id off) (.ptr i off)|eS:DR K Y .eS .eS|map(r i:Nat)(h:Y r=J i):DR K Y (.map r) (.map i)|fY:DR K Y .fY .fY|func(f:bY)(l1 l2:List DV)(m1 m2:List AV)(h1:l1.length=m1.length)(h2:l2.length=m2.length)(g1:∀(i:Nat)(d:DV)(a:AV),l1[i]?=J d->m1[i]?=J a->DR K Y d a)(g2:∀(i:Nat)(d:DV)(a:AV),l2[i]?=J d->m2[i]?=J a->DR K Y d a):DR K Y (.func f l1 l2) (.func f m1 m2)|eu(l i:Nat)(h:Y l=J i):DR K Y (.eu l) (.yield i)|cY(id off len:Nat)(e:an)(esz i:Nat)(c:Option Nat)(h:Y id=J i)(hc:∀k,c=J k->len<=k):DR K Y (.cY id off len e esz) (.sl i off len c esz)|nilFunc:DR K Y .nilFunc .nilFunc|agg(l:List DV)(m:List AV)(h:l.length=m.length)(hs:∀d,d∈l->d.aV=V)(g:∀(i:Nat)(d:DV)(a:AV),l[i]?=J d->m[i]?=J a->DR K Y d a):DR K Y (.agg l) (.agg m)|jk(a:AV)(h:a.aV=V)(h2:a.cells=J [a]):DR K Y .jk a
def bF(K:aY)(b:cu)(l:ao)(m:aJ):Prop:=l.length=m.length/\∀(i:Nat)(d:DV)(a:AV),l[i]?=J d->m[i]?=J a->DR K b d a
def bo(K a:aY):Prop:=∀id x,K id=J x->a id=J x
def aX(a b:cu):Prop:=∀id x,a id=J x->b id=J x
theorem bo.refl(K:aY):bo K K:=λ_ _ h=>h
def a01:=@bo.refl
theorem aX.refl(a:cu):aX a a:=λ_ _ h=>h
def a00:=@aX.refl
def bo.trans{a b c:aY}(h:bo a b)(k:bo b c):bo a c:=λ_ _ e=>k _ _ (h _ _ e)
def aX.trans{a b c:cu}(h:aX a b)(k:aX b c):aX a c:=λ_ _ e=>k _ _ (h _ _ e)
section
variable{K K':aY}{Y A:cu}
theorem DR.mono(w:bo K K')(o:aX Y A){d:DV}{a:AV}(r:DR K Y d a):DR K' A d a:=by induction r with|bool b=>exact .bool b|int k n=>exact .int k n|str s=>exact .str s|nl=>exact .nl|ay l e z id p c cells h E B D F _ u=>exact .ay l e z id p c cells (w _ _ h) E B D F λi x j d a t q v=>u i x j d a t q v|ptr id p i h=>exact .ptr id p i (o _ _ h)|eS=>exact .eS|map r i h=>exact .map r i (o _ _ h)|fY=>exact .fY|func f l1 l2 L M t q _ _ H I=>exact .func f l1 l2 L M t q (λi d a x y=>H i d a x y) (λi d a x y=>I i d a x y)|eu l i h=>exact .eu l i (o _ _ h)|cY a b c d e i f h g=>exact .cY a b c d e i f (o _ _ h) g|nilFunc=>exact .nilFunc|agg l m h G _ u=>exact .agg l m h G λi d a x y=>u i d a x y|jk a h q=>exact .jk a h q
def a10:=@DR.mono
theorem bF.mono(b:bo K K')(h:aX Y A){l:ao}{m:aJ}(r:bF K Y l m):bF K' A l m:=⟨r.1,λi d a x y=>(r.2 i d a x y).mono b h⟩
theorem bF.nil:bF K Y [] []:=⟨rfl,λi d a h=>ai⟩
def a09:=@bF.nil
theorem bF.cons{d:DV}{a:AV}{l:ao}{m:aJ}(h:DR K Y d a)(t:bF K Y l m):bF K Y (d::l) (a::m):=by
 refine⟨by simp[t.1],λi x y b c=>?_⟩;rcases i with _|i;.grind
 exact t.2 i x y ai ai
def a06:=@bF.cons
theorem bF.cons_inv{d:DV}{l:ao}{m:aJ}(h:bF K Y (d::l) m):∃a t,m=a::t/\DR K Y d a/\bF K Y l t:=by
 rcases m with _|⟨a,t⟩;.have:=h.1;grind
 exact⟨a,t,rfl,h.2 0 d a rfl rfl,by have:=h.1;grind,λi x y b c=>h.2 (i+1) x y ai ai⟩
theorem bF.sB{m:aJ}(h:bF K Y [] m):m=[]:=by
 rcases m with _|⟨v,t⟩;.rfl
 have:=h.1;grind
theorem bF.append{l b:ao}{m c:aJ}(h:bF K Y l m)(k:bF K Y b c):bF K Y (l++b) (m++c):=by
 refine⟨by simp[h.1,k.1],λi d a x y=>?_⟩;by_cases e:i<l.length;.rw[nZ e]at x;rw[nZ (by rw[<-h.1];omega)]at y;exact h.2 i d a x y
 .rw[ql ab]at x;rw[ql (by rw[<-h.1];omega),<-h.1]at y;exact k.2 _ d a x y
theorem bF.take{l:ao}{m:aJ}(h:bF K Y l m)(n:Nat):bF K Y (l.take n) (m.take n):=by
 refine⟨by simp[h.1],λi d a x y=>?_⟩;by_cases b:i<n;.rw[CG b]at x y;exact h.2 i d a x y
 grind
theorem bF.drop{l:ao}{m:aJ}(h:bF K Y l m)(n:Nat):bF K Y (l.drop n) (m.drop n):=by refine⟨by simp[h.1],λi d a x y=>?_⟩;rw[xI]at x y;exact h.2 _ d a x y
theorem bF.get{l:ao}{m:aJ}(h:bF K Y l m){i:Nat}{d:DV}(x:l[i]?=J d):∃a,m[i]?=J a/\DR K Y d a:=by
 obtain⟨b,_⟩:=am.1 x;have c:i<m.length:=by rw[<-h.1];omega
 exact⟨m[i],dC c,h.2 i d _ x (dC c)⟩
theorem bF.aae{l v:ao}{m w:aJ}(h:bF K Y l m)(k:bF K Y v w)(o:Nat):bF K Y (lj l o v) (fZ m o w):=by rw[D1];unfold lj;rw[<-k.1];exact((h.take o).append k).append (h.drop _)
theorem bF.mem{l:ao}{m:aJ}(h:bF K Y l m){a:AV}(c:a∈m):∃d,d∈l/\DR K Y d a:=by
 obtain⟨i,e⟩:=a8.1 c;have b:i<l.length:=by rw[h.1];grind
 exact⟨l[i],Hj _,h.2 i _ a (dC b) e⟩
theorem DR.aV{d:DV}{a:AV}(h:DR K Y d a)(b:d.aV=V):a.aV=V:=by cases h<;>first|rfl|assumption|simp[DV.aV]at b
theorem DR.cells{d:DV}{a:AV}(h:DR K Y d a):∃m,a.cells=J m/\bF K Y d.flat m/\(∀x,x∈d.flat->x.aV=V):=by cases h with|agg l m h y g=>exact⟨m,rfl,⟨h,g⟩,y⟩|jk a q j=>exact⟨_,j,a06 (.jk a q j) a09,by simp[DV.flat,DV.aV]⟩|bool b=>exact⟨_,rfl,a06 (.bool b) a09,by simp[DV.flat,DV.aV]⟩|int k n=>exact⟨_,rfl,a06 (.int k n) a09,by simp[DV.flat,DV.aV]⟩|str s=>exact⟨_,rfl,a06 (.str s) a09,by simp[DV.flat,DV.aV]⟩|nl=>exact⟨_,rfl,a06 .nl a09,by simp[DV.flat,DV.aV]⟩|ay l e z id o c cells h v t u w g=>exact⟨_,rfl,a06 (.ay l e z id o c cells h v t u w g) a09,by simp[DV.flat,DV.aV]⟩|ptr id o i h=>exact⟨_,rfl,a06 (.ptr id o i h) a09,by simp[DV.flat,DV.aV]⟩|eS=>exact⟨_,rfl,a06 .eS a09,by simp[DV.flat,DV.aV]⟩|map r i h=>exact⟨_,rfl,a06 (.map r i h) a09,by simp[DV.flat,DV.aV]⟩|fY=>exact⟨_,rfl,a06 .fY a09,by simp[DV.flat,DV.aV]⟩|func f l1 l2 A B p j g1 g2=>exact⟨_,rfl,a06 (.func f l1 l2 A B p j g1 g2) a09,by simp[DV.flat,DV.aV]⟩|eu l i h=>exact⟨_,rfl,a06 (.eu l i h) a09,by simp[DV.flat,DV.aV]⟩|cY a b c d e i f h g=>exact⟨_,rfl,a06 (.cY a b c d e i f h g) a09,by simp[DV.flat,DV.aV]⟩|nilFunc=>exact⟨_,rfl,a06 .nilFunc a09,by simp[DV.flat,DV.aV]⟩
def bF.agg{l:ao}{m:aJ}(h:bF K Y l m)(s:∀d,d∈l->d.aV=V):DR K Y (.agg l) (.agg m):=.agg l m h.1 s h.2
theorem DR.tF{l:ao}{a:AV}(h:DR K Y (.agg l) a):∃m,a=.agg m/\bF K Y l m/\∀d,d∈l->d.aV=V:=by cases h with|agg l m h s g=>exact⟨m,rfl,⟨h,g⟩,s⟩
theorem RT{a:AV}{d:DV}(h:Oz a=J d):DR K Y d a/\d.aV=V:=by
 unfold Oz at h;split at h<;>simp at h<;>subst h;.exact⟨.bool _,rfl⟩
 .exact⟨.int _ _,rfl⟩
 .exact⟨.str _,rfl⟩
 .exact⟨.eS,rfl⟩
 .exact⟨.nl,rfl⟩
 .exact⟨.fY,rfl⟩
 .exact⟨.nilFunc,rfl⟩
theorem RK:∀{l:aJ}{s:ao},Bk l=J s->bF K Y s l/\∀d,d∈s->d.aV=V:=by intro l;induction l with|nil=>simp[Bk,a09]|cons a l i=>intro s h;unfold Bk at h;obtain⟨d,hd,h⟩:=aF h;obtain⟨t,b,h⟩:=aF h;grind[RT,bF.cons]
theorem CQ{a:AV}{d:DV}(h:Bj a=J d):DR K Y d a:=by
 unfold Bj at h;split at h
 . rename_i l;rcases m:Bk l with _|s;.grind
   rw[m]at h;cases h;obtain⟨b,c⟩:=RK (K:=K) (Y:=Y) m;exact b.agg c
 grind[RT]
end
section
variable{P:aH}{K:aY}{Y:cu}
theorem MS{t:an}{c:ao}{m:aJ}{o:Nat}{d:DV}(h:jt P t c o=J d)(r:bF K Y c m)(s:∀x,x∈c->x.aV=V):∃a,kC P t m o=J a/\DR K Y d a:=by
 unfold jt at h;unfold kC;split at h
 . rename_i b;try rw[b]
   obtain⟨n,j,h⟩:=aF h;rw[dp]at h;by_cases f:o+n<=c.length
   . simp only[f,dX,aR]at h;cases h;refine⟨.agg ((m.drop o).take n),?_,((r.drop o).take n).agg λx k=>s x (SA (SB k))⟩;simp only[j,cU];have e:bz (iw o n) (fg m)=V:=by rw[dp,dZ,<-r.1];exact mE f
     rw[e];simp[qg,qQ]
   .simp[f]at h
 . rename_i b;try rw[b]
   obtain⟨a,g,i⟩:=r.get h;exact⟨a,by rw[xa];exact g,i⟩
 .simp at h
theorem aee{l:Nat->ah (Nat×Nat)}:∀(d:List (Nat×DV))(s:List (Nat×AV))(c Q:ao)(m:aJ),yd l d c=J Q->bF K Y c m->d.length=s.length->(∀(i:Nat)(p:Nat×DV)(q:Nat×AV),d[i]?=J p->s[i]?=J q->p.1=q.1/\DR K Y p.2 q.2)->∃e,zU l s m=J e/\bF K Y Q e/\((∀x,x∈c->x.aV=V)->∀x,x∈Q->x.aV=V):=by intro d;induction d with
 |nil=>intro s c Q m h r n f;cases s with|nil=>obtain rfl:=bE (show J c=J Q from h);exact⟨m,rfl,r,λh=>h⟩|cons q s=>grind
 |cons p d w=>intro s c Q m h r n f;cases s with|nil=>grind|cons q s=>unfold yd at h;obtain⟨o,A,h⟩:=aF h;obtain⟨e1,e2⟩:=f 0 p q rfl rfl;obtain⟨v,S,t,u⟩:=e2.cells;cases k:(aw p.2.flat.length o.2&&bz (o.1+o.2) c.length)with|false=>grind|true=>
 rw[k]at h;simp only[aR]at h;have z:=r.aae t o.1;obtain⟨e,B,g,j⟩:=w s _ Q _ h z ai λi a b x y=>f (i+1) a b ai ai;refine⟨e,?_,g,λD=>j λx E=>?_⟩
 . show((l q.1).bind λo=>q.2.cells.bind λv=>bif aw (fg v) o.2&&bz (iw o.1 o.2) (fg m)then J (fZ m o.1 v)else Z).bind (zU l s)=J e;rw[<-e1,A,cU,S,cU];have:(aw (fg v) o.2&&bz (iw o.1 o.2) (fg m))=V:=by rw[dZ,dZ,<-t.1,<-r.1];omega
   grind
 grind[lj]
theorem eqFields{l:an->DV->DV->ah Bool}{i:an->AV->AV->ah Bool}(I:∀t x y b a c,l t x y=J b->DR K Y x a->DR K Y y c->i t a c=J b){j k:ao}{m n:aJ}(z:bF K Y j m)(A:bF K Y k n)(E:∀x,x∈j->x.aV=V)(F:∀x,x∈k->x.aV=V):∀(s:List Field)(d b:Bool),lE (λd(f:Field)=>bif d then(bif f.name== "_"then J V else(jt P f.type j f.offset).bind λa=>(jt P f.type k f.offset).bind λb=>l f.type a b)else J C) s d=J b->lE (λd(f:Field)=>bif d then(bif f.name== "_"then J V else(kC P f.type m f.offset).bind λa=>(kC P f.type n f.offset).bind λb=>i f.type a b)else J C) s d=J b:=by intro s;induction s with|nil=>intro d b h;exact h|cons f s e=>intro d b h;change((bif d then(bif f.name== "_"then J V else(jt P f.type j f.offset).bind λa=>(jt P f.type k f.offset).bind λb=>l f.type a b)else J C).bind _)=J b at h;show((bif d then(bif f.name== "_"then J V else(kC P f.type m f.offset).bind λa=>(kC P f.type n f.offset).bind λb=>i f.type a b)else J C).bind _)=J b;cases d with|false=>exact e _ _ h|true=>simp only[aR]at h|-;cases o:(f.name== "_")with|true=>rw[o]at h;exact e _ _ h|false=>rw[o]at h;simp only[ch]at h|-;obtain⟨G,g,h⟩:=aF h;obtain⟨p,v,g⟩:=aF g;obtain⟨q,w,g⟩:=aF g;obtain⟨a,r,B⟩:=MS v z E;obtain⟨c,u,D⟩:=MS w A F;rw[r,u];simp only[cU];rw[I _ _ _ _ _ _ g B D];exact e _ _ h
theorem aqZ{r:an->DV->DV->ah Bool}{g:an->AV->AV->ah Bool}(I:∀t x y b a c,r t x y=J b->DR K Y x a->DR K Y y c->g t a c=J b){l o:ao}{m n:aJ}(B:bF K Y l m)(D:bF K Y o n)(G:∀d,d∈l->d.aV=V)(H:∀d,d∈o->d.aV=V)(e:an)(z:Nat):∀(s:aE)(f b:Bool),lE (λf i=>bif f then(jt P e l (fA i z)).bind λa=>(jt P e o (fA i z)).bind λb=>r e a b else J C) s f=J b->lE (λf i=>bif f then(kC P e m (fA i z)).bind λa=>(kC P e n (fA i z)).bind λb=>g e a b else J C) s f=J b:=by intro s;induction s with|nil=>intro f b h;exact h|cons i s k=>intro f b h;change((bif f then(jt P e l (fA i z)).bind λa=>(jt P e o (fA i z)).bind λb=>r e a b else J C).bind _)=J b at h;show((bif f then(kC P e m (fA i z)).bind λa=>(kC P e n (fA i z)).bind λb=>g e a b else J C).bind _)=J b;cases f with|false=>exact k _ _ h|true=>simp only[aR]at h|-;obtain⟨L,j,h⟩:=aF h;obtain⟨p,w,j⟩:=aF j;obtain⟨q,A,j⟩:=aF j;obtain⟨a,u,E⟩:=MS w B G;obtain⟨c,v,F⟩:=MS A D H;rw[u,v];simp only[cU];rw[I _ _ _ _ _ _ j E F];exact k _ _ h
theorem aq4{ih:an->DV->DV->ah Bool}{ih':an->AV->AV->ah Bool}(I:∀t x y b a c,ih t x y=J b->DR K Y x a->DR K Y y c->ih' t a c=J b){t:an}{x y:DV}{b:Bool}{a c:AV}(h:zR P ih t x y=J b)(d:DR K Y x a)(g:DR K Y y c):EF P ih' t a c=J b:=by
 unfold zR at h;split at h<;>try(cases d;cases g;unfold EF;simp_all;done)
 .rename_i f l o u;obtain⟨m,rfl,r,sm⟩:=d.tF;obtain⟨n,rfl,i,s⟩:=g.tF;unfold EF;rw[u];cases A:P.stoodInHeld t with|true=>simp_all|false=>rw[A]at h;simp only[ch]at h|-;exact eqFields I r i sm s _ _ _ h
 .rename_i k e l o u;obtain⟨m,rfl,r,sm⟩:=d.tF;obtain⟨n,rfl,i,s⟩:=g.tF;unfold EF;rw[u];obtain⟨z,j,h⟩:=aF h;simp only[j,cU];exact aqZ I r i sm s _ _ _ _ _ h
 simp_all
theorem TU:∀(n:Nat)(t:an)(x y:DV)(b:Bool)(a c:AV),gw P n t x y=J b->DR K Y x a->DR K Y y c->lD P n t a c=J b:=by intro n;induction n with|zero=>intro t x y b a c h;exact absurd h (by show¬(Z=J b);simp)|succ n i=>intro t x y b a c h d e;exact aq4 (P:=P) (ih:=gw P n) (ih':=lD P n) i h d e
theorem TY{ih:an->DV->DV->ah Bool}{t:an}{x y:DV}{b:Bool}(h:zR P ih t x y=J b):x≠.jk/\y≠.jk:=by unfold zR at h;grind
theorem H5{t:an}{xo yo:aK}{x y:DV}{b:Bool}{a c:AV}(g:Lm P t x y=V)(h:gw P 50 t x y=J b)(d:DR K Y x a)(e:DR K Y y c):zW P t xo yo a c=V:=by
 obtain⟨p,_⟩:=TY (P:=P) (ih:=gw P 49) h;unfold zW;split
 . rcases d with⟨l,m,f,i,k⟩|⟨_,j,_⟩
   . rcases e with⟨n,o,k1,k2,k3⟩|⟨_,j,_⟩;.exact g
     grind
   grind
 rfl
theorem amD{o:BinOp}{t:an}{xo yo:aK}{x y d:DV}{a c:AV}(h:gu P o t x y=J d)(e:DR K Y x a)(f:DR K Y y c):∃r,xU P o t xo yo a c=J r/\∀(p:aY)(m:cu),DR p m d r:=by
 unfold gu at h;split at h;.cases e;cases f;obtain⟨v,i,h⟩:=aF h;unfold agu at i;grind[CQ,xU]
 .grind
 . rename_i k w A z j l;cases e;cases f;split at h;.rename_i s;subst s;obtain⟨v,i,h⟩:=aF h;grind[CQ,xU]
   grind
 .rename_i j l;cases e;cases f;obtain⟨v,i,h⟩:=aF h;grind[CQ,xU]
 .rename_i j l;cases u:Lm P t x y with|false=>grind|true=>rw[u]at h;simp only[aR]at h;cases g:gw P 50 t x y with|none=>grind|some b=>
   rw[g]at h;cases h;obtain⟨nx,n⟩:=TY (P:=P) (ih:=gw P 49) g;have q:=H5 (xo:=xo) (yo:=yo) u g e f;have e2:=TU 50 t x y b a c g e f;refine⟨.bool b,?_,λ_ _=>.bool _⟩;unfold xU;split;.grind
   .cases e<;>first|exact absurd rfl nx|(cases f<;>first|exact absurd rfl n|grind)
   .cases e<;>first|exact absurd rfl nx|(cases f<;>first|exact absurd rfl n|simp_all)
   all_goals simp_all
 .rename_i j l;cases u:Lm P t x y with|false=>simp_all|true=>rw[u]at h;simp only[aR]at h;cases g:gw P 50 t x y with|none=>simp_all|some b=>
   rw[g]at h;cases h;obtain⟨nx,n⟩:=TY (P:=P) (ih:=gw P 49) g;have q:=H5 (xo:=xo) (yo:=yo) u g e f;have e2:=TU 50 t x y b a c g e f;refine⟨.bool (!b),?_,λ_ _=>.bool _⟩;unfold xU;split;.grind
   .cases e<;>first|exact absurd rfl nx|(cases f<;>first|exact absurd rfl n|grind)
   .cases e<;>first|exact absurd rfl nx|(cases f<;>first|exact absurd rfl n|simp_all)
   all_goals simp_all
 grind
theorem aNa{o:UnOp}{x d:DV}{a:AV}(h:JW o x=J d)(c:DR K Y x a):∃r,Sc o a=J r/\∀(e:aY)(b:cu),DR e b d r:=by
 unfold JW at h;split at h;.cases c;cases h;exact⟨_,rfl,λ_ _=>.int _ _⟩
 .cases c;cases h;exact⟨_,rfl,λ_ _=>.bool _⟩
 grind
end
inductive Pk where|lb(s:Nat)|g(id:Nat)|sl(t:Nat)|tp(t j:Nat)|lc(s off:Nat)|gc(id off:Nat)deriving DecidableEq
abbrev aI:=Pk->ah (Nat×Bool)
variable{a:AV}{g:GH}{r t:Nat}{p:Pk}{sv:SV}{tm:Tr AV}{ω1:aI}{e:an}{cs:ao}{lb:ew}{fl:fS}
def gQ(K:aY)(b:cu)(l:ao)(e o:Nat)(c:aJ):Prop:=0<e/\o+l.length*e<=c.length/\(∀(i:Nat)(x:DV),l[i]?=J x->x.flat.length=e/\∀y,y∈x.flat->y.aV=V)/\∀(i:Nat)(x:DV)(j:Nat)(d:DV)(a:AV),l[i]?=J x->x.flat[j]?=J d->c[o+i*e+j]?=J a->DR K b d a
def G8(H:Heap)(i o l s r:Nat)(c:ah Nat)(e:aJ):Prop:=(c=Z/\(H.br r).2=i/\o+l*s=e.length)\/c=J l
structure Bb(K:aY)(Y:cu)(H:Heap)(r:Nat)(d:DV)(a:AV)(e:an):Prop where ex:∃l esz id off c cells fl,d=.ay l e esz/\a=.sl id off l.length c esz/\H.get id=J (.cells cells r fl e)/\fl.wr=V/\(H.br r).1<=id/\(H.br r).2=id/\gQ K Y l esz off cells/\G8 H id off l.length esz r c cells
structure Kl(H:Heap)(r:Nat)(a:AV)(e:an):Prop where ex:∃id off len c esz cells fl,a=.sl id off len c esz/\H.get id=J (.cells cells r fl e)/\fl.wr=V/\(H.br r).1<=id/\(H.br r).2=id/\G8 H id off len esz r c cells
def UU(a:AV):Prop:=∃id o len e,a=.sl id o len (J len) e
section
variable(K:aY)(Y:cu)(B:aI)(H:Heap)
def cQ(p:Pk)(d:DV)(o:AM.AV):aN->Prop|.no=>DR K Y d o|.any=>d=.nl/\o=.bH|.ty e=>DR K Y d o/\(d=.nl\/∃r b,B p=J (r,b)/\Kl H r o e)|.full _=>DR K Y d o/\UU o|.ex e=>(d=.nl/\o=.bH)\/∃r,B p=J (r,V)/\Bb K Y H r d o e
def vu(f:fS)(b:LB)(e:an):Prop:=f.wr=V/\∀k t,(k,aN.full t)∈b.own->t=e
def vu.sub{b a:LB}(h:vu fl b e)(s:∀k t,(k,aN.full t)∈a.own->(k,aN.full t)∈b.own):vu fl a e:=⟨h.1,λk t x=>h.2 k t (s k t x)⟩
theorem vu.share{b:LB}(h:vu fl b e):vu fl ⟨cs,b.own.map λ(x:Nat×aN)=>(x.1,oL x.2)⟩ e:=h.sub λk t m=>by obtain⟨⟨d,o⟩,a,c⟩:=au.1 m;cases o<;>simp_all[oL]
def vu.drop{b:LB}(h:vu fl b e)(o n:Nat):vu fl ⟨cs,dg b.own o n⟩ e:=h.sub λk t m=>(bl.1 m).1
theorem vu.apo{b:LB}{t:an}{j:Nat}(h:vu fl b e)(o n:Nat):vu fl ⟨cs,(j,.ty t)::dg b.own o n⟩ e:=h.sub λk t m=>by
 rcases CI.1 m with h|h;.cases h
 .exact(bl.1 h).1
def pF(p:Nat->Pk)(b:LB)(i:Nat):Prop:=∃m fl e,H.get i=J (.cells m i fl e)/\vu fl b e/\(H.br i).1<=i/\(H.br i).2=i/\b.cells.length=m.length/\∀(o:Nat)(d:DV)(a:AV),b.cells[o]?=J d->m[o]?=J a->d.aV=V/\cQ K Y B H (p o) d a (eB b o)
def wx(x:lr)(y:eL):Prop:=DR K Y x.1 y.1/\DR K Y x.2.1 y.2.1/\x.2.2=y.2.2
def xM(m:Tr AV)(s:db):Prop:=∀t sv,look s t=J sv->∃a,m.get t=J a/\(match sv with|.dv d .no=>DR K Y d a|.dv d .any=>d=.nl/\a=.bH|.ev d=>∃id o cells e,a=.ptr id o/\K id=J (cells,e)/\o+d.flat.length<=cells.length/\(∀y,y∈d.flat->y.aV=V)/\bF K Y d.flat ((cells.drop o).take d.flat.length)|.dd=>True|_=>False)
def AY(d:Nat)(o:GO)(i:Nat):Prop:=match o with|.box b=>pF K Y B H (.gc d) b i|.map e T=>∃f,H.get i=J (.map f T)/\e.length=f.length/\∀(k:Nat)(x:lr)(y:eL),e[k]?=J x->f[k]?=J y->wx K Y x y|.loop r=>∃R:AT,H.get i=J (.loop R)/\R.state=r.state/\R.pending=r.pending/\R.fn=r.fn/\R.n=r.n/\R.params=r.params/\R.assign=r.assign/\R.body=r.body/\xM K Y R.tmps r.sl
def pN(H:Heap):Prop:=∀id l r fl e,H.get id=J (.cells l r fl e)->∃a f,H.get r=J (.cells a r f e)
structure HR(lb:ew)(g:GH):Prop where
 inv:bg H
 dy:∀id cells e,K id=J (cells,e)->∃root fl,H.get id=J (.cells cells root fl e)/\(H.br root).1<=id
 inj:∀p q r b c,B p=J (r,b)->B q=J (r,c)->p=q
 clean:∀p r id x,B p=J (r,V)->K id=J x->rootOf H id≠r
 cF:∀p r b,B p=J (r,b)->r<H.next
 box:∀s b,look lb s=J b->∃i,B (.lb s)=J (i,V)/\pF K Y B H (.lc s) b i
 jm:∀id o,g.get id=J o->∃i,Y id=J i/\B (.g id)=J (i,V)/\AY K Y B H id o i
 mZ:∀id,g.next<=id->Y id=Z
 hQ:pN H
def mB(h:Tr AV)(t:Nat)(v:SV)(a:AV):Prop:=match v with|.dv d o=>cQ K Y B H (.sl t) d a o|.tp l=>∃m,a=.cO m/\l.length=m.length/\∀(j:Nat)(x:DV×aN)(y:AV),l[j]?=J x->m[j]?=J y->cQ K Y B H (.tp t j) x.1 y x.2|.lp s f=>∀i b,B (.lb s)=J (i,b)->a=.ptr i f|.ev d=>∃id f cells e,a=.ptr id f/\K id=J (cells,e)/\f+d.flat.length<=cells.length/\(∀y,y∈d.flat->y.aV=V)/\bF K Y d.flat ((cells.drop f).take d.flat.length)|.sr s=>h.get s=J a|.se s i f=>∃id g len c z,h.get s=J (.sl id g len c z)/\a=.ptr id (g+i*z+f)|.gr id f=>∃i m root fl e,Y id=J i/\H.get i=J (.cells m root fl e)/\m[f]?=J a|.hd n=>nO a=J n|.dd=>True
def cg(m:Tr AV)(s:db):Prop:=∀t sv,look s t=J sv->∃a,m.get t=J a/\(sv≠.dd->a≠.top)/\mB K Y B H m t sv a
end
structure bU(S:Nat->Prop)(H H':Heap):Prop where
 next:H.next<=H'.next
 get:∀id,id<H.next->¬S (rootOf H id)->H'.get id=H.get id
 dz:∀r,r<H.next->¬S r->H'.br r=H.br r
 root:∀id,id<H.next->rootOf H' id=rootOf H id
def dO(a:aI)(r:Nat):Prop:=∃p b,a p=J (r,b)
def oR(b:aI)(H:Heap)(K a:aY):Prop:=bo K a/\∀j x,a j=J x->K j=J x\/dO b (rootOf H j)
theorem oR.refl(a:aI)(H:Heap)(K:aY):oR a H K K:=⟨a01 K,λ_ _ h=>.inl h⟩
def a36:=@oR.refl
def tA(c:aI)(H a:Heap)(K b:aY):Prop:=∀j x,b j=J x->j<a.next/\(K j=J x\/dO c (rootOf a j)\/H.next<=rootOf a j)
theorem bU.refl(S:Nat->Prop)(H:Heap):bU S H H:=⟨bT _,λ_ _ _=>rfl,λ_ _ _=>rfl,λ_ _=>rfl⟩
def a02:=@bU.refl
section
variable{K K':aY}{Y A:cu}{B ω':aI}{H H':Heap}{S:Nat->Prop}
theorem gQ.mono(m:bo K K')(b:aX Y A){l:ao}{e o:Nat}{c:aJ}(h:gQ K Y l e o c):gQ K' A l e o c:=⟨h.1,h.2.1,h.2.2.1,λi x j d a f g k=>(h.2.2.2 i x j d a f g k).mono m b⟩
theorem lS{H:Heap}{i:Nat}{l f e}(h:H.get i=J (.cells l r f e)):rootOf H i=r:=by grind[rootOf]
theorem Bb.keep(i:bg H)(k:bU S H H')(p:bo K K')(b:aX Y A){d:DV}(q:¬S r)(h:Bb K Y H r d a e):Bb K' A H' r d a e:=by
 obtain⟨l,s,id,o,c,cells,fl,g,j,f,m,t,u,n,v⟩:=h.ex;have hid:=i.get _ _ f;have F:r<H.next:=by have:=(i.root _ _ _ _ _ f).1;omega
 have w:=k.dz r F q;refine⟨l,s,id,o,c,cells,fl,g,j,?_,m,ai,ai,n.mono p b,?_⟩;.rw[k.get id hid (by grind[lS])];omega
 grind[G8]
theorem Kl.keep(i:bg H)(k:bU S H H')(g:¬S r)(h:Kl H r a e):Kl H' r a e:=by
 obtain⟨id,o,len,c,s,cells,fl,d,b,f,j,m,l⟩:=h.ex;have hid:=i.get _ _ b;have F:r<H.next:=by have:=(i.root _ _ _ _ _ b).1;omega
 have n:=k.dz r F g;refine⟨id,o,len,c,s,cells,fl,d,?_,f,ai,ai,?_⟩;.rw[k.get id hid (by grind[lS])];omega
 grind[G8]
theorem cQ.keep(m:bg H)(k:bU S H H')(f:bo K K')(c:aX Y A){q:Pk}{d:DV}{o:aN}(n:∀r b,B p=J (r,b)->ω' q=J (r,b)/\¬S r)(h:cQ K Y B H p d a o):cQ K' A ω' H' q d a o:=by cases o with|no=>exact a10 f c h|any=>exact h|full e=>exact⟨a10 f c h.1,h.2⟩|ty e=>refine⟨a10 f c h.1,h.2.imp id ?_⟩;rintro⟨r,b,g,i⟩;obtain⟨j,l⟩:=n r b g;exact⟨r,b,j,i.keep m k l⟩|ex e=>refine Or.imp id ?_ h;rintro⟨r,g,i⟩;obtain⟨j,l⟩:=n r V g;exact⟨r,j,i.keep m k f c l⟩
theorem pF.keep(q:bg H)(k:bU S H H')(w:bo K K')(g:aX Y A){p:Nat->Pk}{b:LB}{i:Nat}(l:¬S i)(z:∀o r c,B (p o)=J (r,c)->ω' (p o)=J (r,c)/\¬S r)(h:pF K Y B H p b i):pF K' A ω' H' p b i:=by obtain⟨m,fl,e,f,s,t,u,v,j⟩:=h;have hid:=q.get _ _ f;have n:=k.dz i hid l;refine⟨m,fl,e,?_,s,by rw[n];exact t,by rw[n];exact u,v,λo d a x y=>⟨(j o d a x y).1,(j o d a x y).2.keep q k w g (z o)⟩⟩;rw[k.get i hid (by rw[lS f];exact l)];exact f
theorem xM.mono(d:bo K K')(b:aX Y A){s:db}(h:xM K Y tm s):xM K' A tm s:=by
 intro t sv l;obtain⟨a,f,c⟩:=h t sv l;refine⟨a,f,?_⟩;split at c;.grind[DR.mono]
 .omega
 .obtain⟨id,o,cells,e,g1,g2,g3,g4,g5⟩:=c;exact⟨id,o,cells,e,g1,d _ _ g2,g3,g4,g5.mono d b⟩
 all_goals omega
theorem AY.keep(p:bg H)(k:bU S H H')(g:bo K K')(d:aX Y A){l:Nat}{o:GO}{i:Nat}(D:¬S i)(E:∀f r c,B (.gc l f)=J (r,c)->ω' (.gc l f)=J (r,c)/\¬S r)(h:AY K Y B H l o i):AY K' A ω' H' l o i:=by
 rcases o with b|⟨F,T⟩|r;.exact pF.keep p k g d D E h
 .obtain⟨s,m,n,e⟩:=h;refine⟨s,?_,n,λj x y a b=>⟨(e j x y a b).1.mono g d,(e j x y a b).2.1.mono g d,(e j x y a b).2.2⟩⟩;rw[k.get i (p.get _ _ m) (by grind[rootOf])];omega
 obtain⟨R,m,n,e,q,t,u,v,w,z⟩:=h;refine⟨R,?_,n,e,q,t,u,v,w,z.mono g d⟩;rw[k.get i (p.get _ _ m) (by grind[rootOf])];omega
theorem me{a:Type}(l:List (Nat×a))(n:Nat)(x:a)(m:Nat):look (put l n x) m=if m=n then J x else look l m:=by induction l<;>grind[bQ,look,put]
theorem rf{a b:Type}(l:List (Nat×a))(f:a->b)(m:Nat):look (l.map λx=>(x.1,f x.2)) m=(look l m).map f:=by induction l<;>grind[look]
theorem mB.keep(w:bg H)(k:bU S H H')(z:bo K K')(g:aX Y A){q:Tr AV}(F:∀p r b,(p=.sl t\/∃j,p=.tp t j)->B p=J (r,b)->ω' p=J (r,b)/\¬S r)(I:∀s f i b,sv=.lp s f->ω' (.lb s)=J (i,b)->B (.lb s)=J (i,b))(L:∀s,(sv=.sr s\/∃i f,sv=.se s i f)->q.get s=tm.get s)(G:∀id f i,sv=.gr id f->Y id=J i->¬S (rootOf H i))(h:mB K Y B H tm t sv a):mB K' A ω' H' q t sv a:=by
 rcases sv with⟨d,o⟩|l|⟨s,f⟩|d|s|⟨s,i,f⟩|⟨id,f⟩|n|_;.exact cQ.keep w k z g (λr b=>F _ r b (.inl rfl)) h
 .obtain⟨m,u,v,E⟩:=h;exact⟨m,u,v,λj x y a b=>cQ.keep w k z g (λr b=>F _ r b (.inr ⟨j,rfl⟩)) (E j x y a b)⟩
 .exactλi b w=>h i b (I s f i b rfl w)
 .obtain⟨id,f,cells,e,g1,g2,g3,g4,g5⟩:=h;exact⟨id,f,cells,e,g1,z _ _ g2,g3,g4,g5.mono z g⟩
 .show q.get s=J a;rw[L s (.inl rfl)];exact h
 .obtain⟨id,M,len,c,D,u,v⟩:=h;exact⟨id,M,len,c,D,ai,v⟩
 .obtain⟨i,m,root,fl,e,u,v,E⟩:=h;refine⟨i,m,root,fl,e,g _ _ u,?_,E⟩;rw[k.get i (w.get _ _ v) (G id f i rfl u)];omega
 .exact h
 trivial
end
section
variable{P:aH}{K K':aY}{Y A:cu}{B ω':aI}{H H':Heap}{S:Nat->Prop}
theorem DR.rh{d:DV}(h:DR K Y d a):a≠.top:=by intro e;obtain⟨m,b,_⟩:=h.cells;grind[AV.cells]
theorem cQ.rh{d:DV}{o:aN}(h:cQ K Y B H p d a o):a≠.top:=by cases o with|no=>exact DR.rh h|any=>have:=h.2;grind|full e=>exact DR.rh h.1|ty e=>exact DR.rh h.1|ex e=>
 rcases h with h|⟨r,_,h⟩;.grind
 .obtain⟨l,s,id,f,c,cells,fl,_,b,_⟩:=h.ex;grind
theorem xj{sl:db}{d:Nat}(y:bg H)(E:cg K Y B H tm sl)(k:bU S H H')(u:bo K K')(f:aX Y A)(D:∀p r b,(∀j,p≠.tp d j)->p≠.sl d->((∃t,p=.sl t)\/∃t j,p=.tp t j)->B p=J (r,b)->ω' p=J (r,b)/\¬S r)(z:∀s i b,ω' (.lb s)=J (i,b)->B (.lb s)=J (i,b))(v:∀id i,Y id=J i->¬S (rootOf H i))(O:sv≠.dd->a≠.top)(P:mB K' A ω' H' (tm.ins d a) d sv a):cg K' A ω' H' (tm.ins d a) (put (ix sl d) d sv):=by
 intro t G h;rw[me]at h;by_cases e:t=d;.grind[Tr.lG]
 .rw[if_neg e]at h;unfold ix at h;rw[rf sl (p8 d)]at h;cases l:look sl t with|none=>grind|some N=>
 rw[l]at h;obtain⟨c,L,n,q⟩:=E t N l;have g:(tm.ins d a).get t=J c:=by grind[Tr.jC]
 by_cases hd:G=.dd;.subst hd;exact⟨c,g,λx=>absurd rfl x,trivial⟩
 . have F:N=G/\∀s,(N=.sr s\/∃i o,N=.se s i o)->s≠d:=by have m:p8 d N=G:=bE h;cases N with|sr s=>grind[p8,bQ]|se s i o=>grind[p8,bQ]|_=>exact⟨m,λQ x=>aU⟩
   obtain⟨rfl,I⟩:=F;refine⟨c,g,n,q.keep y k u f (λp r b M=>D p r b ?_ ?_ ?_) (λs o i b _=>z s i b) (λs w=>a11 _ _ (λx=>I s w x.symm)) (λid o i _=>v id i)⟩;all_goals grind
def aKT{s:db}{d:Nat}{x:DV}(i:bg H)(c:cg K Y B H tm s)(b:DR K Y x a):cg K Y B H (tm.ins d a) (put (ix s d) d (.dv x .no)):=xj (S:=λ_=>False) i c (a02 _ _) (a01 _) (a00 _) (λ_ _ _ _ _ _ h=>⟨h,id⟩) (λ_ _ _ h=>h) (λ_ _ _=>id) (λ_=>b.rh) b
def dB(P:aH)(K:aY)(b:cu)(a:Nat->ah ao):Prop:=(∀g l,a g=J l->g<P.globals.size/\(∀y,y∈l->y.aV=V)/\∃cells e,K g=J (cells,e)/\bF K b l cells)/\∀(g:Nat)(x:aJ×an),gl[g]?=J x->K g=J x
theorem dB.mono{q:Nat->ah ao}(a:bo K K')(b:aX Y A)(h:dB P K Y q):dB P K' A q:=⟨λg l j=>let⟨c,d,cells,e,f,i⟩:=h.1 g l j
 ⟨c,d,cells,e,a _ _ f,i.mono a b⟩,λg x k=>a _ _ (h.2 g x k)⟩
theorem aix(h:tm.get t=J a)(b:a≠.top):AM.bJ P tm (.tmp t)=J a:=by show(match(tm.get t).getD fD with|.top=>Z|v=>J v)=J a;grind
theorem ri{q:Nat->ah ao}(n:dB P K Y q){s:St}(o:cg K Y B H tm s.sl){x:aK}(h:cZ q s x=J sv):∃a,AM.bJ P tm x=J a/\a≠.top/\((∃t,x=.tmp t/\look s.sl t=J sv/\tm.get t=J a/\mB K Y B H tm t sv a)\/((∀t,x≠.tmp t)/\((∃d,sv=.dv d (uf d)/\DR K Y d a)\/(∃d f,x=.func f/\d=.func f [] []/\sv=.dv d .no/\DR K Y d a)\/∃g l cells e,sv=.ev (.agg l)/\a=.ptr g 0/\K g=J (cells,e)/\(∀y,y∈l->y.aV=V)/\bF K Y l cells))):=by
 rcases x with t|v|g|f
 . have h:(match look s.sl t with|some .dd=>Z|r=>r)=J sv:=h;split at h;.grind
   .rename_i p;obtain⟨a,j,b,c⟩:=o t sv h;simp_all[aix]
 . have h:((xb v).bind λa=>(Bj a).map λd=>SV.dv d (uf d))=J sv:=h;obtain⟨a,m,h⟩:=aF h;rcases hd:Bj a with _|d;.grind
   rw[hd]at h;cases h;have hr:=CQ (K:=K) (Y:=Y) hd;exact⟨a,m,hr.rh,.inr ⟨aP,.inl ⟨d,rfl,hr⟩⟩⟩
 . have h:(q g).map (λl=>SV.ev (.agg l))=J sv:=h;rcases i:q g with _|l;.grind
   rw[i]at h;cases h;obtain⟨j,b,cells,e,c,k⟩:=n.1 g l i;refine⟨.ptr g 0,?_,aP,.inr ⟨aP,.inr (.inr ⟨g,l,cells,e,rfl,rfl,c,b,k⟩)⟩⟩;show(bif cw g P.globals.size then J (AV.ptr g 0)else Z)=_;grind[eP]
 obtain rfl:=bE (show J (SV.dv (.func f [] []) .no)=J sv from h);refine⟨.func f [] [],rfl,aP,.inr ⟨aP,.inr (.inl ⟨_,f,rfl,rfl,rfl,?_⟩)⟩⟩;exact .func f [] [] [] [] rfl rfl aP aP
def aI.set(a:aI)(p:Pk)(v:ah (Nat×Bool)):aI:=λq=>if q=p then v else a q
theorem aI.nV(a:aI)(p:Pk)(v:ah (Nat×Bool)):a.set p v p=v:=by simp[aI.set]
def a25:=@aI.nV
theorem aI.lh(a:aI){q:Pk}(v:ah (Nat×Bool))(h:q≠p):a.set p v q=a q:=by grind[aI.set]
def a16:=@aI.lh
def Pk.slot:Pk->Prop|.sl _|.tp _ _=>True|_=>False
theorem HR.vd(h:HR K Y B H lb g)(j:bo K K')(I:∀q,¬q.slot->ω' q=B q)(y:∀id cells e,K' id=J (cells,e)->∃root fl,H.get id=J (.cells cells root fl e)/\(H.br root).1<=id)(n:∀p q r b c,ω' p=J (r,b)->ω' q=J (r,c)->p=q)(l:∀p r id x,ω' p=J (r,V)->K' id=J x->rootOf H id≠r)(F:∀p r b,ω' p=J (r,b)->r<H.next):HR K' Y ω' H lb g where
 inv:=h.inv
 dy:=y
 inj:=n
 clean:=l
 cF:=F
 box:=λs b t=>by obtain⟨i,a,d⟩:=h.box s b t;exact⟨i,by rw[I _ (by simp[Pk.slot])];exact a,d.keep (S:=λ_=>False) h.inv (a02 _ _) j (a00 _) id λf r c x=>⟨by rw[I _ (by simp[Pk.slot])];exact x,id⟩⟩
 jm:=λk o u=>by obtain⟨i,a,d,m⟩:=h.jm k o u;exact⟨i,a,by rw[I _ (by simp[Pk.slot])];exact d,m.keep (S:=λ_=>False) h.inv (a02 _ _) j (a00 _) id λf r c x=>⟨by rw[I _ (by simp[Pk.slot])];exact x,id⟩⟩
 mZ:=h.mZ
 hQ:=h.hQ
def aY.add(K:aY)(d:Nat)(x:aJ×an):aY:=λi=>if i=d then J x else K i
theorem aY.Bg{d:Nat}{x:aJ×an}(h:K d=Z):bo K (K.add d x):=λi y a=>by grind[aY.add]
theorem Bb.dy(h:HR K Y B H lb g){d:DV}(E:B p=J (r,V))(D:Bb K Y H r d a e):∃id cells,K id=Z/\rootOf H id=r/\(∃fl,H.get id=J (.cells cells r fl e))/\(H.br r).1<=id/\DR (K.add id (cells,e)) Y d a/\Kl H r a e:=by
 obtain⟨l,s,id,o,c,cells,fl,w,m,f,y,n,z,b,q⟩:=D.ex;have v:=lS f;have u:K id=Z:=by
  rcases t:K id with _|x;.rfl
  exact absurd v (h.clean p r id x E t)
 have X:bo K (K.add id (cells,e)):=aY.Bg u;refine⟨id,cells,u,v,⟨fl,f⟩,n,?_,⟨id,o,l.length,c,s,cells,fl,m,f,y,n,z,q⟩⟩;subst w;subst m;refine .ay l e s id o c cells (by simp[aY.add]) b.1 b.2.1 ?_ b.2.2.1 λi x j d a x1 x2 x3=>(b.2.2.2 i x j d a x1 x2 x3).mono X (a00 _);intro k t;rcases q with⟨A,_⟩|A<;>grind
def s8(H:Heap):aY:=λid=>match H.get id with|some (.cells cells _ _ e)=>J (cells,e)|_=>Z
theorem Qm{i:Nat}{c:aJ}{r f e}(h:H.get i=J (.cells c r f e)):s8 H i=J (c,e):=by grind[s8]
theorem HR.gi(h:HR K Y B H lb g)(k:bU S H H'){a:aI}:tA a H H' K K:=λj x b=>by obtain⟨cells,e⟩:=x;obtain⟨r,fl,c,_⟩:=h.dy j cells e b;exact⟨gE (h.inv.get _ _ c) k.next,.inl b⟩
theorem HR.sub(h:HR K Y B H lb g):bo K (s8 H):=λid x a=>by obtain⟨cells,e⟩:=x;obtain⟨r,fl,b,_⟩:=h.dy id cells e a;grind[Qm]
theorem cQ.look(h:HR K Y B H lb g){d:DV}{o:aN}(b:cQ K Y B H p d a o):DR (s8 H) Y d a:=by cases o with|no=>exact a10 h.sub (a00 _) b|any=>obtain⟨rfl,rfl⟩:=b;exact .nl|full e=>exact a10 h.sub (a00 _) b.1|ty e=>exact a10 h.sub (a00 _) b.1|ex e=>
 rcases b with⟨rfl,rfl⟩|⟨r,f,j⟩;.exact .nl
 . obtain⟨id,cells,n,_,⟨fl,l⟩,_,k,_⟩:=j.dy h f;refine k.mono (λi x c=>?_) (a00 _);unfold aY.add at c;by_cases e:i=id;.grind[Qm]
   .rw[if_neg e]at c;exact h.sub i x c
def a57:=@cQ.look
theorem cQ.share(h:HR K Y B H lb g)(O:p.slot){d:DV}{o:aN}(f:cQ K Y B H p d a o):∃K' ω',oR B H K K'/\HR K' Y ω' H lb g/\(∀q,q≠p->ω' q=B q)/\(∀q r b,ω' q=J (r,b)->∃s,B q=J (r,s))/\cQ K' Y ω' H p d a (oL o)/\DR K' Y d a:=by cases o with|no=>exact⟨K,B,a36 _ _ _,h,λ_ _=>rfl,λ_ _ b x=>⟨b,x⟩,f,f⟩|any=>obtain⟨rfl,rfl⟩:=f;exact⟨K,B,a36 _ _ _,h,λ_ _=>rfl,λ_ _ b x=>⟨b,x⟩,⟨rfl,rfl⟩,.nl⟩|full e=>exact⟨K,B,a36 _ _ _,h,λ_ _=>rfl,λ_ _ b x=>⟨b,x⟩,f,f.1⟩|ty e=>exact⟨K,B,a36 _ _ _,h,λ_ _=>rfl,λ_ _ b x=>⟨b,x⟩,f,f.1⟩|ex e=>
 rcases f with⟨rfl,rfl⟩|⟨r,t,A⟩;.exact⟨K,B,a36 _ _ _,h,λ_ _=>rfl,λ_ _ b x=>⟨b,x⟩,⟨.nl,.inl rfl⟩,.nl⟩
 . obtain⟨id,cells,G,I,⟨fl,P⟩,F,v,D⟩:=A.dy h t;have X:bo K (K.add id (cells,e)):=aY.Bg G;refine⟨K.add id (cells,e),B.set p (J (r,C)),⟨X,λj x E=>?_⟩,h.vd X (λq u=>a16 _ _ λx=>u (x▸O)) ?_ ?_ ?_ ?_,λq u=>a16 _ _ u,?_,⟨v,.inr ⟨r,C,a25 _ _ _,D⟩⟩,v⟩
   . unfold aY.add at E;by_cases e1:j=id;.subst e1;exact .inr ⟨p,V,ai⟩
     grind
   . intro i cs w l;unfold aY.add at l;by_cases x:i=id;.grind
     .rw[if_neg x]at l;exact h.dy i cs w l
   . intro m L r1 b c x y;have back:∀z b,B.set p (J (r,C)) z=J (r1,b)->∃s,B z=J (r1,s):=by grind[aI.nV,aI.lh]
     obtain⟨M,k1⟩:=back m b x;obtain⟨N,k2⟩:=back L c y;exact h.inj _ _ _ _ _ k1 k2
   . intro m r1 i x k l;have n:m≠p:=λe=>by grind[aI.nV]
     rw[a16 _ _ n]at k;unfold aY.add at l;by_cases y:i=id;.subst y;rw[I];intro e;subst e;exact n (h.inj _ _ _ _ _ k t)
     .rw[if_neg y]at l;exact h.clean m r1 i x k l
   . intro m r1 b k;by_cases e:m=p;.subst e;rw[a25]at k;obtain⟨rfl,_⟩:=jf (bE k);exact h.cF _ _ _ t
     .rw[a16 _ _ e]at k;exact h.cF _ _ _ k
   grind[aI.nV,aI.lh]
end
def fR(K:aY)(g:cu)(f:aI)(H:Heap)(s:St)(t:Tr AV)(c:Heap):Prop:=∃d e a,bo K d/\tA f H c K d/\aX g e/\HR d e a c s.lb s.g/\cg d e a c t s.sl/\bU (dO f) H c/\∀p r b,a p=J (r,b)->dO f r\/H.next<=r
section
variable{P:aH}{K K':aY}{Y A:cu}{B ω':aI}{H H':Heap}{S:Nat->Prop}
theorem rq(a:bg H){i:Nat}(h:i<H.next):rootOf H i<H.next:=by
 unfold rootOf;split;.rename_i g;have:=(a.root _ _ _ _ _ g).1;omega
 omega
theorem bU.trans{f:aI}{H1 g:Heap}(j:bg H)(a:bU (dO f) H H1)(d:∀p r b,ω1 p=J (r,b)->dO f r\/H.next<=r)(b:bU (dO ω1) H1 g):bU (dO f) H g where
 next:=gj a.next b.next
 get:=λid h n=>by
  have i:=a.get id h n;rw[<-i];refine b.get id (gE h a.next) λ⟨p,c,e⟩=>?_;have hr:rootOf H1 id=rootOf H id:=by unfold rootOf;rw[i]
  rw[hr]at e;rcases d _ _ _ e with x|x;.exact n x
  .have:=rq j h;omega
 dz:=λr h n=>by
  rw[<-a.dz r h n];refine b.dz r (gE h a.next) λ⟨p,c,e⟩=>?_;rcases d _ _ _ e with x|x;.exact n x
  .omega
 root:=λid h=>by rw[b.root id (gE h a.next),a.root id h]
theorem fR.trans{s:St}{m:Tr AV}{H1 i:Heap}{K1:aY}{φ1:cu}(F:bg H)(E:bo K K1)(I:tA B H H1 K K1)(a:aX Y φ1)(k:bU (dO B) H H1)(e:∀p r b,ω1 p=J (r,b)->dO B r\/H.next<=r)(b:fR K1 φ1 ω1 H1 s m i):fR K Y B H s m i:=by
 obtain⟨n,f,g,t,o,u,v,w,l,z⟩:=b;refine⟨n,f,g,E.trans t,λj x G=>?_,a.trans u,v,w,k.trans F e l,λp r c x=>?_⟩
 . obtain⟨A,h⟩:=o j x G;refine⟨A,?_⟩;rcases h with h|⟨p,c,h⟩|h;.obtain⟨D,L⟩:=I j x h;rw[l.root j D];omega
   .grind
   .exact .inr (.inr (gj k.next h))
 . rcases z p r c x with⟨q,d,y⟩|y;.grind
   .exact .inr (gj k.next y)
def a19:=@fR.trans
theorem oR.gi{a:aY}(e:oR B H K a)(b:HR a Y ω1 H lb g):tA B H H K a:=λj x h=>by obtain⟨cells,t⟩:=x;obtain⟨r,fl,c,_⟩:=b.dy j cells t h;exact⟨b.inv.get _ _ c,(e.2 j _ h).imp_right .inl⟩
theorem oH{q:Nat->ah ao}(r:dB P K Y q){s:St}(c:HR K Y B H s.lb s.g)(u:cg K Y B H tm s.sl){x:aK}{d:DV}(h:bj q s x=J d):∃a,AM.bJ P tm x=J a/\a≠.top/\DR (s8 H) Y d a:=by unfold bj at h;obtain⟨sv,j,k⟩:=aF h;obtain⟨a,m,n,p⟩:=ri r u j;refine⟨a,m,n,?_⟩;cases sv with
 |dv i o=>
 obtain rfl:=bE (show J i=J d from k);rcases p with⟨t,_,_,_,b⟩|⟨_,⟨d2,e,b⟩|⟨d2,f,_,e1,e2,b⟩|⟨g,l,cells,e,e1,_⟩⟩;.exact a57 c b
 .obtain⟨rfl,_⟩:=SV.dv.inj e;exact b.mono c.sub (a00 _)
 .obtain⟨rfl,_⟩:=SV.dv.inj e2;exact b.mono c.sub (a00 _)
 grind|_=>grind[C1]
theorem DQ{d:Nat}(h:Gn d sv=C):∀s,(sv=.sr s\/∃i o,sv=.se s i o)->s≠d:=by intro s a e;subst e;rcases a with rfl|⟨i,o,rfl⟩<;>simp[Gn]at h
theorem yQ{a s:St}{d:ah Tmp}(h:aG a d sv=J s):(d=Z/\s=a)\/∃t,d=J t/\t<a.n/\Gn t sv=C/\s={a with sl:=put (ix a.sl t) t sv}:=by cases d<;>grind[aG,eP]
def gX(t:Tr AV)(d:ah Tmp)(v:AV):Tr AV:=match d with|some d=>t.ins d v|none=>t
theorem JL{l:db}{d:Nat}(n:bg H)(u:cg K Y B H tm l)(m:bo K K')(q:∀p r b,(∀j,p≠.tp d j)->p≠.sl d->p.slot->B p=J (r,b)->ω' p=J (r,b))(y:∀s,ω' (.lb s)=B (.lb s))(w:tm.get d=J a)(z:sv≠.dd->a≠.top)(A:mB K' Y ω' H tm d sv a):cg K' Y ω' H tm (put l d sv):=by
 intro t G h;rw[me]at h;by_cases e:t=d;.grind
 . rw[if_neg e]at h;obtain⟨c,f,g,k⟩:=u t G h;refine⟨c,f,g,k.keep (S:=λ_=>False) n (a02 _ _) m (a00 _) (λp r b o x=>⟨q p r b ?_ ?_ ?_ x,id⟩) (λs v i b _ x=>ai) (λ_ _=>rfl) (λ_ _ _ _ _=>id)⟩;.grind
   .grind
   .rcases o with rfl|⟨D,rfl⟩<;>exact trivial
def jP(s:St)(x:aK):Prop:=∀t d e,x=.tmp t->look s.sl t=J (.dv d (.ex e))->d=.nl
theorem Z'{c:St}(u:HR K Y B H c.lb c.g)(w:cg K Y B H tm c.sl)(x:aK):∃K' ω',oR B H K K'/\HR K' Y ω' H (aQ share c x).lb (aQ share c x).g/\cg K' Y ω' H tm (aQ share c x).sl/\(∀q r b,ω' q=J (r,b)->∃j,B q=J (r,j))/\jP (aQ share c x) x/\(aQ share c x).n=c.n/\(aQ share c x).fn=c.fn/\(∀y,jP c y->jP (aQ share c x) y):=by
 have i:∀(m:aQ share c x=c)(g:jP c x),∃K' ω',oR B H K K'/\HR K' Y ω' H (aQ share c x).lb (aQ share c x).g/\cg K' Y ω' H tm (aQ share c x).sl/\(∀q r b,ω' q=J (r,b)->∃j,B q=J (r,j))/\jP (aQ share c x) x/\(aQ share c x).n=c.n/\(aQ share c x).fn=c.fn/\(∀y,jP c y->jP (aQ share c x) y):=by grind[oR.refl]
 cases x with
 |tmp t=>cases F:look c.sl t with|none=>refine i (by grind[aQ]) λv d e m g=>?_;grind|some sv=>
 have e1:aQ share c (.tmp t)={c with sl:=put c.sl t (share sv)}:=by grind[aQ]
 obtain⟨a,g1,g2,g3⟩:=w t sv F;have f:∀y,jP c y->(∀d e,share sv≠.dv d (.ex e))->jP {c with sl:=put c.sl t (share sv)} y:=by
  intro y k n v d e m g;rw[show({c with sl:=put c.sl t (share sv)}:St).sl=put c.sl t (share sv)from rfl,me]at g;by_cases E:v=t;.grind
  .rw[if_neg E]at g;exact k v d e m g
 have self:(∀d e,share sv≠.dv d (.ex e))->jP {c with sl:=put c.sl t (share sv)} (.tmp t):=by intro n v d e m g;grind[me]
 have keep:(n:share sv=sv\/share sv=.dd)->(∀d e,share sv≠.dv d (.ex e))->∃K' ω',oR B H K K'/\HR K' Y ω' H (aQ share c (.tmp t)).lb (aQ share c (.tmp t)).g/\cg K' Y ω' H tm (aQ share c (.tmp t)).sl/\(∀q r b,ω' q=J (r,b)->∃j,B q=J (r,j))/\jP (aQ share c (.tmp t)) (.tmp t)/\(aQ share c (.tmp t)).n=c.n/\(aQ share c (.tmp t)).fn=c.fn/\(∀y,jP c y->jP (aQ share c (.tmp t)) y):=by
  intro n A;rw[e1];refine⟨K,B,a36 _ _ _,u,JL u.inv w (a01 _) (λ_ _ _ _ _ _ h=>h) (λ_=>rfl) g1 (λh=>g2 ?_) ?_,λq r b h=>⟨b,h⟩,self A,rfl,rfl,λy k=>f y k A⟩;.grind
  . rcases n with n|n;.grind
    .rw[n];exact trivial
 cases sv with|dv d o=>
  obtain⟨K',ω',D,G,I,L,M,N⟩:=cQ.share u (p:=.sl t) trivial g3;have n:∀z e,share (.dv d o)≠.dv z (.ex e):=by intro z e h;have:oL o=.ex e:=(SV.dv.inj h).2;cases o<;>simp[oL]at this
  rw[e1];refine⟨K',ω',D,G,JL u.inv w D.1 (λp r b _ g _ h=>aU) (λs=>I _ aP) g1 (λ_=>N.rh) M,L,self n,rfl,rfl,λy k=>f y k n⟩|tp l=>grind[share]|_=>grind[share]
 |_=>exact i rfl (λt d e h=>aU)
theorem Bh{O s:St}{d:ah Tmp}{x:DV}(c:HR K Y B H O.lb O.g)(f:cg K Y B H tm O.sl)(h:aG O d (.dv x .no)=J s)(g:DR K Y x a):fR K Y B H s (gX tm d a) H:=by
 rcases yQ h with⟨rfl,rfl⟩|⟨t,rfl,i,_,rfl⟩;.exact⟨K,Y,B,a01 _,c.gi (a02 (λ_=>False) _),a00 _,c,f,a02 _ _,λp r b e=>.inl ⟨p,b,e⟩⟩
 .exact⟨K,Y,B,a01 _,c.gi (a02 (λ_=>False) _),a00 _,c,aKT c.inv f g,a02 _ _,λp r b e=>.inl ⟨p,b,e⟩⟩
def um(t d:Nat):Pk->ah Pk|.sl x=>if x=d then J (.sl t)else if x=t then Z else J (.sl x)|.tp x j=>if x=d then J (.tp t j)else if x=t then Z else J (.tp x j)|p=>J p
def qc(t:Nat):Pk->ah Pk|.sl x=>if x=t then Z else J (.sl x)|.tp x j=>if x=t then Z else J (.tp x j)|p=>J p
def aI.of(a:aI)(s:Pk->ah Pk):aI:=λp=>(s p).bind a
structure Src(src:Pk->ah Pk):Prop where
 inj:∀p q x,src p=J x->src q=J x->p=q
 base:∀p,¬p.slot->src p=J p
theorem n4(t d:Nat):Src (um t d)where
 inj:=λp q x a b=>by
  cases p<;>cases q<;>simp only[um]at a b;all_goals(try split at a)<;>(try split at a)<;>(try split at b)<;>(try split at b)<;>simp_all
  all_goals(subst a;simp_all)
 base:=λp h=>by cases p<;>simp_all[Pk.slot,um]
theorem aaf(t:Nat):Src (qc t)where
 inj:=λp q x a b=>by
  cases p<;>cases q<;>simp only[qc]at a b;all_goals(try split at a)<;>(try split at b)<;>simp_all
  all_goals(subst a;simp_all)
 base:=λp h=>by cases p<;>simp_all[Pk.slot,qc]
theorem aI.iI{s:Pk->ah Pk}{b:Bool}(h:B.of s p=J (r,b)):∃q,s p=J q/\B q=J (r,b):=aF h
def a07:=@aI.iI
theorem HR.of(h:HR K Y B H lb g){s:Pk->ah Pk}(e:Src s):HR K Y (B.of s) H lb g:=by
 refine h.vd (a01 _) (λq l=>by unfold aI.of;rw[e.base q l];rfl) h.dy ?_ ?_ ?_;.intro p q r b c x y;obtain⟨f,i,a⟩:=a07 x;obtain⟨q0,j,k⟩:=a07 y;have:=h.inj _ _ _ _ _ a k;subst this;exact e.inj _ _ _ i j
 .intro p r id x d m;obtain⟨f,_,a⟩:=a07 d;exact h.clean _ _ _ _ a m
 .intro p r b d;obtain⟨f,_,a⟩:=a07 d;exact h.cF _ _ _ a
theorem mB.aCx{g:Tr AV}{d:Nat}(h:mB K Y B H tm t sv a)(v:ω' (.sl d)=B (.sl t))(w:∀j,ω' (.tp d j)=B (.tp t j))(E:∀s,ω' (.lb s)=B (.lb s))(A:∀s,(sv=.sr s\/∃i f,sv=.se s i f)->g.get s=tm.get s):mB K Y ω' H g d sv a:=by
 have u:∀{p q:Pk}{x:DV}{y:AV}{o:aN},ω' q=B p->cQ K Y B H p x y o->cQ K Y ω' H q x y o:=by intro p q x y o G k;cases o with|no=>exact k|any=>exact k|full e=>exact k|ty e=>exact⟨k.1,k.2.imp id λ⟨r,b,x1,x2⟩=>⟨r,b,ai,x2⟩⟩|ex e=>exact Or.imp id (λ⟨r,x1,x2⟩=>⟨r,ai,x2⟩) k
 rcases sv with⟨x,o⟩|l|⟨s,f⟩|x|s|⟨s,i,f⟩|⟨id,f⟩|n|_;.exact u v h
 .obtain⟨m,g1,g2,g3⟩:=h;exact⟨m,g1,g2,λj x y a b=>u (w j) (g3 j x y a b)⟩
 .exactλi b F=>h i b ai
 .exact h
 .show g.get s=J a;rw[A s (.inl rfl)];exact h
 .obtain⟨id,D,len,c,z,g1,g2⟩:=h;exact⟨id,D,len,c,z,ai,g2⟩
 .exact h
 .exact h
 trivial
theorem aA1(h:mB K Y B H tm t sv a):mB K Y (B.of (qc t)) H tm t (leave sv) a:=by
 rcases sv with⟨x,o⟩|l|⟨s,f⟩|x|s|⟨s,i,f⟩|⟨id,f⟩|n|_;.cases o with|no=>exact h|any=>obtain⟨rfl,rfl⟩:=h;exact .nl|full e=>exact h.1|ty e=>exact h.1|ex e=>
  rcases h with⟨rfl,rfl⟩|⟨r,_,d⟩;.exact .jk _ rfl rfl
  .obtain⟨l,z,id,f,c,cells,fl,g,d,_⟩:=d.ex;subst d;exact .jk _ rfl rfl
 .trivial
 .exactλi b j=>h i b (by grind[aI.iI,qc])
 .exact h
 .exact h
 .exact h
 .exact h
 .exact h
 trivial
theorem RR{c:St}(f:HR K Y B H c.lb c.g)(g:cg K Y B H tm c.sl)(l:look c.sl t=J sv)(e:tm.get t=J a)(y:a≠.top)(v:mB K Y B H tm t sv a):cg K Y (B.of (qc t)) H tm (put c.sl t (leave sv)):=by
 refine JL f.inv g (a01 _) (λp r b i k d h=>?_) (λs=>rfl) e (λ_=>y) (aA1 v);cases p<;>simp only[Pk.slot]at d;.rename_i x;show(qc t (.sl x)).bind B=_;grind[qc]
 .rename_i x j;show(qc t (.tp x j)).bind B=_;grind[qc]
theorem ahr{c:St}{d:Nat}(g:HR K Y B H c.lb c.g)(k:cg K Y B H tm c.sl)(w:look c.sl t=J sv)(G:tm.get t=J a)(A:sv≠.dd)(y:a≠.top)(v:mB K Y B H tm t sv a)(L:∀s,(sv=.sr s\/∃i o,sv=.se s i o)->s≠d):∃ω',HR K Y ω' H c.lb c.g/\cg K Y ω' H (tm.ins d a) (put (ix (put c.sl t (leave sv)) d) d sv)/\∀p r b,ω' p=J (r,b)->∃q,B q=J (r,b):=by
 refine⟨B.of (um t d),g.of (n4 t d),?_,λp r b h=>let⟨q,_,f⟩:=a07 h;⟨q,f⟩⟩;have m:=RR g k w G y v;refine xj (S:=λ_=>False) (sl:=put c.sl t (leave sv)) g.inv m (a02 _ _) (a01 _) (a00 _) (λp r b f n u h=>⟨?_,id⟩) (λs i b h=>h) (λ_ _ _=>id) (λ_=>y) ?_
 . obtain⟨q,g1,g2⟩:=a07 h;rcases u with⟨x,rfl⟩|⟨x,j,rfl⟩
   . simp only[qc]at g1;split at g1;.grind
     .cases g1;rename_i z;have l:x≠d:=λe=>n ai;show(um t d (.sl x)).bind B=_;grind[um]
   . simp only[qc]at g1;split at g1;.grind
     .cases g1;rename_i z;have l:x≠d:=λe=>f j ai;show(um t d (.tp x j)).bind B=_;grind[um]
 .refine v.aCx (by show(um t d (.sl d)).bind B=_;simp[um]) (λj=>by show(um t d (.tp d j)).bind B=_;simp[um]) (λs=>rfl) λs k=>a11 _ _ (λe=>L s k e.symm)
end
end Go.VM
namespace Go.AM
open Go
variable{r:AV}{H':Heap}{x:aK}{t:an}
section
variable{P:aH}{S:Nat->Prop}{Y:bc}{H:Heap}{w:aT}{tm:Tr AV}{ρ:aK->aD}
variable(hi:bg H)(hs:bS S Y H w)(hg:iZ P Y)(hr:Reads ρ)
include hi hs hg hr
theorem asU{q:ah aK}(h:G3 P tm H t q=J (.val r H'))(o:∀x,q=J x->fp Y tm ρ x):dE P S Y H w (Instr.makeMap t (q.map ρ)) r H':=by
 unfold G3 at h;obtain⟨d,a,b⟩:=MF (P:=P) hi hs (.map [] 0) _ rfl ⟨rfl,#[],xf w _,⟨rfl,aP⟩⟩;have fin:∀(s:Sem _),s.run P w=.ok _ _->dE P S Y H w s _ _:=λs j=>⟨_,_,_,j,.map _ _ a,b⟩;rcases q with _|x;.simp_all[Instr.makeMap]
 simp only at h;split at h;.rename_i e f k n u c;have v:=(fK hg hr (o x rfl) c).1;simp only[gM];generalize ρ x=g at v;cases v;simp_all[Instr.makeMap,dG,asInt,asIntOf]
 grind
theorem asT{f:bY}{s c:Array aK}(o:∀x,x∈s.toList->fp Y tm ρ x)(j:∀x,x∈c.toList->fp Y tm ρ x)(h:G2 P tm H f s c=J (.val r H')):dE P S Y H w (Instr.makeFunc (.func f) (s.map ρ) (c.map ρ)) r H':=by obtain⟨a,l,h⟩:=aF h;obtain⟨b,m,h⟩:=aF h;obtain⟨k,rfl⟩:=mL h;cases k;have e:=MP hg hr o l;have g:=MP hg hr j m;refine a08 hi hs (by rfl) ?_;exact .func f a b _ _ (by simpa using e.1) (by simpa using g.1) (λi x v d n=>e.2 i x v d ai) (λi x v d n=>g.2 i x v d ai)
theorem asY{o:aB}(i:o.op=.nilCheck x)(b:fp Y tm ρ x)(h:Ec P tm H x=J (.val r H')):tC P S Y H w (execOp ρ o) r H':=by
 unfold Ec at h;split at h;iterate 3·rename_i c;obtain⟨a,rfl⟩:=mL h;cases a;have v:=(fK hg hr b c).1;refine⟨Y,.value _,w,?_,v,a23 hi hs⟩;simp only[execOp,i];generalize ρ x=d at v;cases v;rfl
 grind
theorem asF{p:BinOp}{y:aK}(m:fp Y tm ρ x)(o:fp Y tm ρ y)(h:GW P tm H p t x y=J (.val r H')):dE P S Y H w (do eqGuard p t x y (ρ x) (ρ y);binOp p t (ρ x) (ρ y)) r H':=by obtain⟨a,d,h⟩:=aF h;obtain⟨b,e,h⟩:=aF h;obtain⟨c,rfl⟩:=mL h;obtain⟨U,Q⟩:=fK hg hr m d;obtain⟨k,j⟩:=fK hg hr o e;obtain⟨z,f,g⟩:=amC c U k Q j;simp_all[a08]
theorem as3{o:UnOp}(m:fp Y tm ρ x)(h:G5 P tm H o x=J (.val r H')):dE P S Y H w (Op.unary o (ρ x)) r H':=by obtain⟨a,c,h⟩:=aF h;obtain⟨b,rfl⟩:=mL h;grind[dE.v8,aM9,fK]
theorem S3{q:ah aK}{b:ah AV}(h:(match q with|some x=>(bJ P tm x).map J|none=>J Z)=J b)(o:∀x,q=J x->fp Y tm ρ x):qH Y b (q.map ρ):=by
 rcases q with _|x;.cases h;trivial
 simp only[iK]at h;obtain⟨v,a,rfl⟩:=h;exact(fK hg hr (o x rfl) a).1
theorem as1{a c b:ah aK}(G:fp Y tm ρ x)(L:∀y,a=J y->fp Y tm ρ y)(d:∀y,c=J y->fp Y tm ρ y)(p:∀y,b=J y->fp Y tm ρ y)(g:∀id o,bJ P tm x=J (.ptr id o)->S (rootOf H id))(h:N7 P tm H t x a c b=J (.val r H')):dE P S Y H w (Instr.sliceAt t (ρ x) (a.map ρ) (c.map ρ) (b.map ρ)) r H':=by obtain⟨v,n,h⟩:=aF h;obtain⟨l,i,h⟩:=aF h;obtain⟨u,k,h⟩:=aF h;obtain⟨m,j,h⟩:=aF h;obtain⟨f,rfl⟩:=mL h;obtain⟨z,q,s⟩:=aKL hs f (fK hg hr G n).1 (S3 hi hs hg hr i L) (S3 hi hs hg hr k d) (S3 hi hs hg hr j p) (λid o e=>g id o ai);grind[dE.read]
theorem asO{s:an}{f:Nat}(m:fp Y tm ρ x)(h:D9 P tm H s x f=J (.val r H')):dE P S Y H w (Instr.fieldAt s (ρ x) f) r H':=by
 unfold D9 at h;split at h
 . obtain⟨d,b,h⟩:=aF h;obtain⟨n,c,h⟩:=aF h;split at h;.obtain⟨a,rfl⟩:=mL h;grind[dE.v8,atv,fK]
   grind
 grind
theorem asN{f:Nat}(m:fp Y tm ρ x)(h:G0 P tm H t x f=J (.val r H')):dE P S Y H w (Instr.field t (ρ x) f) r H':=by
 unfold G0 at h;split at h
 . obtain⟨d,b,h⟩:=aF h;split at h;.obtain⟨a,rfl⟩:=mL h;grind[dE.v8,atx,fK]
   grind
 grind
theorem asQ{i:aK}(m:fp Y tm ρ x)(L:fp Y tm ρ i)(h:Cz P tm H t x i=J (.val r H')):dE P S Y H w (Instr.indexAt t (ρ x) (ρ i)) r H':=by
 unfold Cz at h;split at h
 . rename_i k n N;have j:=IZ (fK hg hr L N).1;split at h
   . rename_i len e id o u g;obtain⟨sz,f,h⟩:=aF h;rw[eP]at h;by_cases b:n<len;.simp only[b,dX,aR]at h;obtain⟨a,rfl⟩:=mL h;grind[dE.v8,ayD,fK]
     grind
   . rename_i e id o len c s u g;obtain⟨sz,f,h⟩:=aF h;rw[eP,bQ]at h;by_cases b:n<len
     . by_cases d:sz=s;.subst d;simp only[b,dX,xz,aR]at h;obtain⟨a,rfl⟩:=mL h;grind[dE.v8,ayF,fK]
       grind
     grind
   grind
 grind
theorem asP{i:aK}(m:fp Y tm ρ x)(L:fp Y tm ρ i)(h:D' P tm H t x i=J (.val r H')):dE P S Y H w (Instr.index t (ρ x) (ρ i)) r H':=by
 unfold D' at h;split at h
 . rename_i k n c;have g:=IZ (fK hg hr L c).1;split at h
   . rename_i len e s u d;rw[g];obtain⟨sz,f,h⟩:=aF h;rw[eP]at h;by_cases b:n<len;.simp only[b,dX,aR]at h;obtain⟨a,rfl⟩:=mL h;exact a52 hi hs (ayH u f b (fK hg hr m d).1 a)
     .simp[b]at h
   .obtain⟨a,rfl⟩:=mL h;grind[iK,dE.v8,ayI,fK]
   grind
 grind
theorem asM{i:Nat}(m:fp Y tm ρ x)(h:J5 P tm H x i=J (.val r H')):dE P S Y H w (Instr.extract (ρ x) i) r H':=by
 unfold J5 at h;split at h;.obtain⟨a,rfl⟩:=mL h;grind[dE.v8,atj,fK]
 grind
end
end Go.AM
namespace Go.AM
open Go
variable{r:AV}{H':Heap}{k m x:aK}{t:an}
section
variable{P:aH}{S:Nat->Prop}{Y:bc}{H:Heap}{w:aT}{tm:Tr AV}{ρ:aK->aD}
variable(hi:bg H)(hs:bS S Y H w)(hg:iZ P Y)(hr:Reads ρ)
include hi hs hg hr
theorem asJ{s d:an}(m:fp Y tm ρ x)(h:GZ P tm H s d x=J (.val r H')):dE P S Y H w (convert s d (ρ x)) r H':=by
 obtain⟨v,a,h⟩:=aF h;have j:=(fK hg hr m a).1;split at h;.obtain⟨b,rfl⟩:=mL h;grind[dE.v8,aoO]
 all_goals grind[aoP]
theorem asV{l c:aK}(X:fp Y tm ρ l)(Vg:fp Y tm ρ c)(h:G4 P tm H t l c=J (.val r H')):dE P S Y H w (Instr.makeSlice t (ρ l) (ρ c)) r H':=by
 unfold G4 at h;split at h
 . rename_i m I;split at h
   . rename_i i kl b kc cn T hl hc;have m8:=IZ (fK hg hr X hl).1;have U:=IZ (fK hg hr Vg hc).1;rw[bQ,dp,dp,dp,bQ]at h;by_cases kx:i.size≠0/\b<=cn/\cn*i.bytes<=bm/\cn<=bm
     . obtain⟨q,u,E,F⟩:=kx;have e3:decide (fA cn _<=bm)=V:=mE E;rw[Bq q,mE u,e3,mE F]at h;obtain⟨z,K,h⟩:=aF h;have y:∃(j:Array _)(s:Array _),((cn*i.size=0->j=#[])/\(cn*i.size≠0->∃o,(zeroValue m).run P w=.ok o w/\o.cells=j))/\s=(Array.range (cn*i.size)).map (j[.%j.size]!)/\aZ Y (jW cn z) s.toList/\(∀x,x∈jW cn z->x.aV=V)/\(cn=0\/z.length=i.size):=by
         by_cases v:cn=0;.simp_all[a04,Ru]
         . simp only[v,lC,ch]at K;obtain⟨a,ha,qU⟩:=aF K;obtain⟨o,A,B⟩:=Gv (Y:=Y) ha w;obtain⟨c1,c2⟩:=B.cells qU;rw[bQ,dZ,Bq v]at h;have lM:z.length=i.size:=by grind
           have cI:=λe=>(Nat.mul_eq_zero.1 e).elim v q;refine⟨_,_,⟨λe=>absurd e cI,λ_=>⟨o,A,rfl⟩⟩,rfl,?_,Rv c2 cn,.inr lM⟩;grind[lm]
       obtain⟨j,s,k1,k2,k3,k4,k5⟩:=y;have W:(decide (cn=0)||aw (fg z) i.size)=V:=by grind
       rw[W]at h;obtain⟨rfl,rfl⟩:=fo.val.inj (bE h);obtain⟨p,p1,p2,p3,p4,R,p6⟩:=QX hi hs _ _ _ s k3 k4;have ym:s.size=cn*i.size:=ai;have D:aW P m=J i.size:=by grind[aW]
       have G:(jW cn z).length=cn*i.size:=by have:=k3.1;grind
       refine⟨_,.slice (J ⟨p.ba,0,Z⟩) b cn,_,?_,?_,p6⟩
       . rw[m8,U];have sY:cn<=1099511627776:=F;have Vo:cn*i.bytes<=1099511627776:=E;have wr:∀n:Nat,n<=1099511627776->IntKind.i64.wrap (du n)=du n:=λn hn=>by rw[<-Cw];show(bif cw n 9223372036854775808 then du n else _)=_;grind[eP]
         have w1:=wr cn sY;have w2:=wr b ab;have M:¬((cn:Int)<0):=ab;have N:¬((b:Int)<0):=ab;have O:¬((cn:Int)<(b:Int)):=ab;have Q:¬((281474976710656:Int)<(i.bytes:Int)*(cn:Int)):=by grind
         have d:IntKind.i64.wrap (cn:Int)=(cn:Int):=w1;have g:IntKind.i64.wrap (b:Int)=(b:Int):=w2;unfold Instr.makeSlice;by_cases e:cn*i.size=0;.have:=k1.1 e;subst this;simp[dG I,asInt,asIntOf,Cp T,d,g,M,N,O,Q,askRoom,mi D];have L:cn=0:=(Nat.mul_eq_zero.1 e).resolve_right q;subst L;have v:s=#[]:=ai;subst v;have e0:∀f:Nat->aD,Array.map f (Array.range 0)=#[]:=λf=>aP;rw[Nat.zero_mul,if_pos rfl,e0,R];rfl
         .obtain⟨o,A,B⟩:=k1.2 e;subst B;have L:cn≠0:=λe'=>e ai;have pW:¬(cn=0\/i.size=0):=ab;simp[dG I,asInt,asIntOf,Cp T,d,g,M,N,O,Q,askRoom,mi D,A,<-k2,R];omega
       .have hp:fu Y H.next p H.next=J p:=jN _ _ _;have aPm:b*i.size<=cn*i.size:=lW _ u;refine .sl H.next 0 b (J cn) i.size p _ cn hp u ab (λk hk=>?_) (λhk=>ab) (λ_=>ai) (Nat.pos_of_ne_zero q) ?_<;>grind
     grind
   grind
 grind
theorem asS{d:Bool}(G:fp Y tm ρ x)(y:fp Y tm ρ k)(s:∀m o,bJ P tm x=J (.map m)->H.jU m=J o->S (rootOf H m))(h:CA P tm H t x k d=J (.val r H')):dE P S Y H w (Instr.lookup t (ρ x) (ρ k) d) r H':=by
 unfold CA at h;split at h
 . rename_i g n u;obtain⟨e,T,h⟩:=aF h;obtain⟨v,E,h⟩:=aF h;rcases b:qB P g v with _|_;.grind
   simp only[b,aR]at h;have f:Ao P g n e v d=J r/\H=H':=by
    unfold Ao;obtain⟨q,O,h⟩:=aF h;rcases q with _|R;.obtain⟨z,Q,h⟩:=aF h;grind[mL]
    grind[mL]
   obtain⟨l,rfl⟩:=f;have I:=(fK hg hr y E).1;split at T;.rename_i a;cases T;have j:=(fK hg hr G a).1;generalize ρ x=K at j;cases j;obtain⟨z,L,M⟩:=VY (w:=w) u (.inr ⟨rfl,rfl⟩) ⟨rfl,aP⟩ I b l;grind[dE.read]
   .rename_i m a;simp only[iK]at T;obtain⟨o,B,rfl⟩:=T;obtain⟨e,c⟩:=o;have j:=(fK hg hr G a).1;generalize ρ x=K at j;cases j with|map _ p F=>obtain⟨i,A,D,N⟩:=Ar hs F (s m _ a B) (tc B);obtain⟨z,L,M⟩:=VY u (.inl ⟨_,c,rfl,A⟩) D I b l;grind[dE.read]
   grind
 grind
theorem MD(l:∀r,S r)(F:fp Y tm ρ m)(y:fp Y tm ρ k)(G:fp Y tm ρ x)(h:Ea P tm H t m k x=J (.val r H')):tC P S Y H w (do Instr.mapUpdate t (ρ m) (ρ k) (ρ x);pure .skip) r H':=by
 unfold Ea at h;split at h
 . rename_i E M I A s;obtain⟨K,D,h⟩:=aF h;obtain⟨v,o,h⟩:=aF h;obtain⟨O,B,h⟩:=aF h;rcases f:qB P E v with _|_;.grind
   simp only[f,aR]at h;obtain⟨q,z,h⟩:=aF h;have g:=(fK hg hr F s).1;generalize ρ m=L at g;cases g with|map _ p u=>
   rcases aNl hi hs A u (l _) (tc D) (fK hg hr y o).1 f (fK hg hr G B).1 z with⟨rfl,d,j,a,b,c⟩|⟨i,e,rfl,n⟩;.obtain⟨rfl,rfl⟩:=fo.val.inj (bE h);exact⟨Y,.skip,d,aU,rfl,a,b.up aU,c⟩
   . rcases N:sameKey e.1 v with _|_;.grind
     simp only[N,aR]at h;obtain⟨rfl,rfl⟩:=fo.val.inj (bE h);obtain⟨d,j,a,b,c⟩:=n N;exact⟨Y,.skip,d,aU,rfl,a,b.up aU,c⟩
 grind
theorem asW(D:∀r x,bJ P tm m=J (.map r)->H.jU r=J x->S (rootOf H r))(M:fp Y tm ρ m)(A:fp Y tm ρ k)(h:J6 P tm H t m k=J (.val r H')):dE P S Y H w (Instr.mapEntry t (ρ m) (ρ k)) r H':=by
 unfold J6 at h;split at h
 . rename_i L R s I n;obtain⟨x,B,h⟩:=aF h;obtain⟨v,E,h⟩:=aF h;rcases l:qB P L v with _|_;.grind
   simp only[l,aR]at h;obtain⟨q,G,h⟩:=aF h;have y:=(fK hg hr M n).1;generalize ρ m=Q at y;cases y with|map _ p F=>
   have O:∀o,(H.put s s o).next=H.next:=λo=>rfl;rcases aqR hi hs I F (D _ _ n B) (tc B) (fK hg hr A E).1 l G with⟨rfl,g⟩|⟨i,e,rfl,g⟩;.simp only[iK]at h;obtain⟨z,K,h⟩:=h;obtain⟨rfl,rfl⟩:=fo.val.inj h;obtain⟨u,j,c,b,a,d,f⟩:=g z K;exact⟨Y,u,j,c,b,a,d.grow a aU,f⟩
   . rcases N:sameKey e.1 v with _|_;.grind
     simp only[N,aR]at h;obtain⟨rfl,rfl⟩:=fo.val.inj (bE h);obtain⟨u,j,c,b,a,d,f⟩:=g N;exact⟨Y,u,j,c,b,a,d.grow a aU,f⟩
 grind
theorem asL{s:aK}(e:∀r,S r)(y:fp Y tm ρ m)(K:fp Y tm ρ s)(G:fp Y tm ρ x)(h:Sj P tm H m s x=J (.val r H')):tC P S Y H w (do Instr.entryStore t (ρ m) (ρ s) (ρ x);pure .skip) r H':=by
 unfold Sj at h;split at h;.rename_i z k b g f;obtain⟨A,B,h⟩:=aF h;obtain⟨E,l,h⟩:=aF h;simp only[iK]at h;obtain⟨q,i,h⟩:=h;obtain⟨rfl,rfl⟩:=fo.val.inj h;have v:=(fK hg hr y g).1;have u:=IZ (fK hg hr K f).1;generalize ρ m=D at v;cases v with|map _ p j=>obtain⟨n,o,a,c,d⟩:=aqP (P:=P) (t:=t) (kk:=k) hi hs j (e _) (tc B) (fK hg hr G l).1 i;exact⟨Y,.skip,n,aU,rfl,a,c.up aU,d⟩
 grind
theorem as0(i:∀r,S r)(G:fp Y tm ρ x)(h:Sm P tm H t x=J (.val r H')):dE P S Y H w (Instr.range t (ρ x)) r H':=by
 unfold Sm at h;split at h;.rename_i l n d e;obtain⟨rfl,rfl⟩:=fo.val.inj (bE h);obtain⟨u,g,f,a,b,c⟩:=aHZ hi hs d (fK hg hr G e).1;exact⟨g,u,f,a,b,c⟩
 .rename_i l n m d e;simp only[iK]at h;obtain⟨o,k,h⟩:=h;obtain⟨rfl,rfl⟩:=fo.val.inj h;have v:=(fK hg hr G e).1;generalize ρ x=q at v;cases v with|map _ p j=>obtain⟨u,g,f,a,b,c⟩:=aHY hi hs d j (i _) (tc k);exact⟨g,u,f,a,b,c⟩
 grind
end
end Go.AM
namespace Go.AM
open Go
variable{r:AV}{H':Heap}
section
variable{P:aH}{S:Nat->Prop}{Y:bc}{H:Heap}{w:aT}{tm:Tr AV}{ρ:aK->aD}
theorem bS.eqw{a:aT}(s:bS S Y H w)(h:a=w\/a=w.drew):bS S Y H a:=by
 rcases h with rfl|rfl;.omega
 .exact s.drew
theorem ik.eqw{a:aT}(i:bg H)(s:bS S Y H w)(h:a=w\/a=w.drew):ik S Y H w Y H a:=by
 rcases h with rfl|rfl;.grind[ik.refl]
 .exact ik.drew (a23 i s.drew)
section one
variable(hi:bg H)(hs:bS S Y H w)(hg:iZ P Y)(hr:Reads ρ)
include hi hs hg hr
theorem asX{i:aK}{t:an}(d:∀r,S r)(B:fp Y tm ρ i)(h:Sk P tm H i=J (.val r H')):dE P S Y H w (Instr.next (ρ i) C t) r H':=by
 unfold Sk at h;split at h;.rename_i id hit;have v:=(fK hg hr B hit).1;generalize ρ i=O at v;cases v with|ptr _ _ p g=>
  split at h;.rename_i G;obtain⟨k,rfl⟩:=mL h;obtain⟨u,a,b⟩:=aC2 (P:=P) (ty:=t) hs g (d _) G;grind[dE.read]
  . rename_i m s seen o G;obtain⟨I,E,h⟩:=aF h;obtain⟨z,c⟩:=I;generalize n:(aw c _&&(aw _ _&&lx _ z))=cond at h;rcases cond with _|_;.grind
    simp only[bQ,gD,jB,qN,A0,eP]at n;obtain⟨rfl,rfl,F⟩:=n;have L:=tc E;have A:∃q,Y m=J q:=by obtain⟨_,Q,_,N⟩:=MQ hs g (d _) G rfl;grind
    obtain⟨q,D⟩:=A;obtain⟨K,M⟩:=aC0 (P:=P) (ty:=t) hi hs g (d _) G D (d _) L F;split at h;.rename_i l;obtain⟨k,rfl⟩:=mL h;cases k;obtain⟨u,j,a,b,f⟩:=K l;exact⟨Y,u,j,a,b,ik.eqw hi hs f⟩
    .rename_i e l;obtain⟨rfl,rfl⟩:=fo.val.inj (bE h);obtain⟨u,j,a,b,f,x,y⟩:=M e l;exact⟨Y,u,j,a,b,f,x.up ai,y⟩
    grind
  grind
 grind
theorem asK{i:aK}(d:∀r,S r)(o:fp Y tm ρ i)(h:Si P tm H i=J (.val r H')):dE P S Y H w (Instr.entry (ρ i)) r H':=by
 unfold Si at h;split at h;.rename_i id hit;have v:=(fK hg hr o hit).1;generalize ρ i=A at v;cases v with|ptr _ _ p j=>
  split at h
  . rename_i m a seen D G;obtain⟨n,B,h⟩:=aF h;obtain⟨b,c⟩:=n;rw[bQ]at h;by_cases f:c=D
    . simp only[f,dX,aR]at h;rcases seen with _|⟨s,seen⟩;.grind
      cases seen with|cons=>grind|nil=>
      rcases b with _|⟨e,b⟩;.grind
      cases b with|cons=>grind|nil=>
      simp only[bQ]at h;by_cases g:e.2.2=s
      . simp only[g,dX,aR]at h;obtain⟨y,rfl⟩:=mL h;subst f;have k:∃q,Y m=J q:=by obtain⟨_,E,_,z⟩:=MQ hs j (d _) G rfl;grind
        obtain⟨q,l⟩:=k;obtain⟨u,t,x⟩:=aLL (P:=P) hs j (d _) G l (d _) (tc B) g;grind[dE.read]
      grind
    grind
  grind
 grind
theorem zV{o:aB}(f:J' P S tm H o)(q:oJ o.op=C)(n:eF P tm H o=Z):∀r,S r:=by rcases f with h|h<;>grind
theorem Ie{o:aB}{l:List (Touch×Nat)}(f:J' P S tm H o)(q:oJ o.op=C)(n:eF P tm H o=J l):∀t,t∈l->S t.2:=by rcases f with h|h<;>grind
end one
theorem No{m:Nat}{o:List eL×Nat}(h:H.jU m=J o):rootOf H m=m:=by exact yL (tc h) rfl
set_option maxHeartbeats 4000000 in theorem ad4(j:bg H)(p:bS S Y H w)(u:iZ P Y)(z:Reads ρ){ak:ct}{G:aB}(g:∀x,x∈G.op.operands.toList->fp Y tm ρ x)(A:J' P S tm H G)(hc:∀c,G.op=.call c->∃b,c.callee=.builtin b)(h:dY P ak tm H G=J (.val r H')):tC P S Y H w (execOp ρ G) r H':=by
 have h0:=h;obtain⟨od,op,T,Q7,oa,og⟩:=G;simp only[dY]at h;cases op<;>(try simp only at h)<;>(try simp only[execOp]);case move x=>exact Mz j p u z (g x (by simp[eO])) h
 case assign x=>exact Mz j p u z (g x (by simp[eO])) h
 case pick c a b=>exact asZ j p u z (g c (by simp[eO])) (g a (by simp[eO])) (g b (by simp[eO])) h
 case alloc e=>exact(asE j p h).next
 case box e x=>exact(asG j p u z (g x (by simp[eO])) h).next
 case build t ps=>exact(asH j p u z (λx F=>g _ (by grind[eO])) h).next
 case buildSlice t n ps=>exact(asI j p u z (λx F=>g _ (by grind[eO])) h).next
 case load t a=>
  refine(asR j p u z (g a (by simp[eO])) (λid K D=>?_) h).next;rcases Ff:tq H id with _|q;.exact zV j p u z A rfl (by grind[eF]) _
  have:=Ie j p u z A rfl (l:=[(.rd,q)]) (by grind[eF]) (.rd,q) aP;grind[ajn]
 case store t a x=>
  refine as2 j p u z (g a (by simp[eO])) (g x (by simp[eO])) (λid K D=>?_) h;rcases Ff:tq H id with _|q;.exact zV j p u z A rfl (by grind[eF]) _
  have:=Ie j p u z A rfl (l:=[(.wr,q)]) (by grind[eF]) (.wr,q) aP;grind[ajn]
 case nilCheck x=>exact asY (o:=⟨od,_,T,Q7,oa,og⟩) j p u z rfl (g x (by simp[eO])) h
 case binOp op t x y yt=>exact(asF j p u z (g x (by simp[eO])) (g y (by simp[eO])) h).next
 case unOp op t x=>exact(as3 j p u z (g x (by simp[eO])) h).next
 case convert s d x=>exact(asJ j p u z (g x (by simp[eO])) h).next
 case makeFunc f a b=>cases f with|func f=>exact(asT j p u z (λx F=>g x (by grind[eO])) (λx F=>g x (by grind[eO])) h).next|_=>grind
 case makeMap t q=>exact(asU j p u z h (λx F=>g x (by grind[eO]))).next
 case makeSlice t l c=>exact(asV j p u z (g l (by simp[eO])) (g c (by simp[eO])) h).next
 case slice t x lo cN mx=>refine(as1 j p u z (g x (by simp[eO])) (λy X=>g y (by grind[eO])) (λy X=>g y (by grind[eO])) (λy X=>g y (by grind[eO])) (λid K F=>?_) h).next;exact zV j p u z A rfl (by grind[eF]) _
 case fieldAddr s x f=>exact(asO j p u z (g x (by simp[eO])) h).next
 case field s x f=>exact(asN j p u z (g x (by simp[eO])) h).next
 case indexAddr t x i=>exact(asQ j p u z (g x (by simp[eO])) (g i (by simp[eO])) h).next
 case index t x i=>exact(asP j p u z (g x (by simp[eO])) (g i (by simp[eO])) h).next
 case lookup t x k ok=>
  have E:∃B,bJ P tm k=J B:=by cases E:bJ P tm k with|some B=>grind|none=>simp only[CA]at h;split at h<;>simp_all
  obtain⟨B,E⟩:=E;refine(asS j p u z (g x (by simp[eO])) (g k (by simp[eO])) (λm L W I=>?_) h).next;rw[No I];cases ok with|true=>exact Ie j p u z A rfl (l:=[(.rd,m)]) (by grind[eF]) (.rd,m) aP|false=>exact Ie j p u z A rfl (l:=[(bif Gx P t B then .look t B else .rd,m)]) (by grind[eF]) (bif Gx P t B then .look t B else .rd,m) aP
 case mapUpdate t m k x=>exact MD j p u z (zV j p u z A rfl rfl) (g m (by simp[eO])) (g k (by simp[eO])) (g x (by simp[eO])) h
 case insert t m k x=>exact MD j p u z (zV j p u z A rfl rfl) (g m (by simp[eO])) (g k (by simp[eO])) (g x (by simp[eO])) h
 case mapEntry t m k=>
  have E:∃B,bJ P tm k=J B:=by cases E:bJ P tm k with|some B=>grind|none=>simp only[J6]at h;split at h<;>simp_all
  obtain⟨B,E⟩:=E;refine(asW j p u z (λr L W I=>?_) (g m (by simp[eO])) (g k (by simp[eO])) h).next;rw[No I];exact Ie j p u z A rfl (l:=[(.entry t B,r)]) (by grind[eF]) (.entry t B,r) aP
 case entryStore t m s x=>exact asL j p u z (zV j p u z A rfl rfl) (g m (by simp[eO])) (g s (by simp[eO])) (g x (by simp[eO])) h
 case range t x=>exact(as0 j p u z (zV j p u z A rfl rfl) (g x (by simp[eO])) h).next
 case next Q Qv=>
  cases Qv;case true=>grind
  exact(asX j p u z (zV j p u z A rfl rfl) (g Q (by simp[eO])) h).next
 case entry Q=>exact(asK j p u z (zV j p u z A rfl rfl) (g Q (by simp[eO])) h).next
 case extract t i=>exact(asM j p u z (g t (by simp[eO])) h).next
 case call c=>
  obtain⟨b,U⟩:=hc c rfl;obtain⟨callee,args,N⟩:=c;subst U;obtain⟨d,hd,h⟩:=aF h;obtain⟨M,D,hd⟩:=aF hd;cases hd;have Ds:=MP u z (λx F=>g x (by grind[eO,Call.operands])) D;have O:aZ Y M (args.map ρ).toList:=aU;have R:iC P H b N M=J (r,H'):=by simp_all[uU]
  have hS:(∀r,S r)\/(b=.len/\∀m L,M=[.map m]->H.jU m=J L->S (rootOf H m))\/b=.cap:=by
   cases b;case len=>
    right;left;refine⟨rfl,λm L W I=>?_⟩;rw[No I];rcases hl:args.toList with _|⟨x,t⟩;.grind[FH]
    rw[hl,QN]at D;obtain⟨v,hv,D⟩:=aF D;obtain⟨t',ht,D⟩:=aF D;have htn:t=[]:=by have:=(FI ht).1;grind
    exact Ie j p u z A rfl (l:=[(.rd,m)]) (by grind[eF]) (.rd,m) aP
   case cap=>grind
   all_goals exact .inl (zV j p u z A rfl rfl)
  have U:=λaa=>ans (ty:=T) (cs:=aa) j p hS R O;change tC P S Y H w (builtin b _ T _ _) r H';grind
 all_goals grind
end
end Go.AM
namespace Go.AM
open Go
variable{v:AV}{ops:Array aB}{H H':Heap}{k:List Item}{cs:List dm}{S:Nat->Prop}{rec:Rec}{tm:Tr AV}{P:aH}{w:aT}{Y A:bc}{F:dm}
def gK:Nat->Prop:=λ_=>True
def gd(d:bc)(H:Heap)(w:aT)(c:bc)(a:Heap)(b:aT):Prop:=bg a/\bS gK c a b/\Fr d H w c a b
def zt(a:bc):ah Nat->ah Nat->Prop|none,Z=>True|some l,J b=>∃p,a l=J p/\b=p.ba|_,_=>False
structure iY(Y:bc)(fr:cJ)(F:dm)(todo:List Item):Prop where
 fn:F.fn=fr.fn
 tmps:rL Y fr.n fr.tmps F.tmps
 todo:fr.mode=.run->F.todo=todo
 defers:zh Y fr.defers F.defers
 mode:F.mode=fr.mode
 kind:F.kind=.normal
 round:zt Y fr.roundOf F.roundOf
theorem zt.mono(h:Ext Y A){a b:ah Nat}(r:zt Y a b):zt A a b:=by cases a<;>cases b<;>simp only[zt]at r|-;obtain⟨p,c,d⟩:=r;exact⟨p,h _ _ c,d⟩
theorem iY.mono(h:Ext Y A){f:cJ}(r:iY Y f F k):iY A f F k:=⟨r.fn,r.tmps.mono h,r.todo,r.defers.mono h,r.mode,r.kind,r.round.mono h⟩
def bS.SQ{n:Nat}(h:bS (AM.more S n) Y H w)(a:∀r,S r):bS gK Y H w:=h.up λr _=>.inl (a r)
def ik.SQ{a:aT}(h:ik S Y H w A H' a)(b:∀r,S r):gd Y H w A H' a:=⟨h.1,h.2.1.SQ b,h.2.2⟩
theorem gd.refl(h:bg H)(s:bS gK Y H w):gd Y H w Y H w:=⟨h,s,Fr.refl Y H w⟩
def a33:=@gd.refl
def gd.trans{d:bc}{H1 a:Heap}{b c:aT}(i:bg H)(s:bS gK Y H w)(h:gd Y H w A H1 b)(k:gd A H1 b d a c):gd Y H w d a c:=⟨k.1,k.2.1,h.2.2.trans k.2.2 (λid p e=>s.stat.lt i e) (λid p e=>h.2.1.stat.lt h.1 e)⟩
def kJ(P:aH)(d:bc)(H:Heap)(w:aT)(f:cJ)(F:dm)(s:List dm):Out->Prop|.ret v H'=>∃A b u,gd d H w A H' b/\VR A v u/\(f.roundOf=Z->∃a,Steps P (fh F s w) (fh a s b)/\a.fn=F.fn/\a.mode=.returning/\a.defers=[]/\a.kind=.normal/\∃fn,P.funcs[a.fn]?=J fn/\(results fn a.tmps).run P b=.ok u b)/\(f.roundOf≠Z->∀c rest,s=c::rest->Steps P (fh F s w) (fh (c.finish u) rest b))
def nC(P:aH)(r:Rec):Prop:=∀(fr:cJ)(H:Heap)(out:Out),r fr H=J out->∀(Y:bc)(w:aT)(F:dm)(cs:List dm),bg H->bS gK Y H w->iZ P Y->iY Y fr F fr.todo->kJ P Y H w fr F cs out
theorem kJ.after{d:Heap}{b:aT}{r fr1:cJ}{a:dm}{o:Out}(p:bg H)(t:bS gK Y H w)(q:gd Y H w A d b)(f:Steps P (fh F cs w) (fh a cs b))(s:fr1.roundOf=r.roundOf)(B:a.fn=F.fn)(h:kJ P A d b fr1 a cs o):kJ P Y H w r F cs o:=by obtain⟨x,v,u,i,j,k,y⟩:=h;refine⟨x,v,u,q.trans p t i,j,λn=>?_,λn c rest e=>f.trans aU⟩;obtain⟨g,l,z,m⟩:=k (s.trans n);exact⟨g,f.trans l,aU,m⟩
def a34:=@kJ.after
theorem kJ.back{f:cJ}{c:dm}{r:List dm}(h:kJ P Y H w f F (c::r) (.ret v H')):∃A a u,gd Y H w A H' a/\VR A v u/\Steps P (fh F (c::r) w) (fh (c.finish u) r a):=by
 obtain⟨A,a,u,b,d,e,p⟩:=h;refine⟨A,a,u,b,d,?_⟩;by_cases n:f.roundOf=Z;.obtain⟨o,g,q,i,j,k,fn,l,m⟩:=e n;exact g.trans (Steps.one (step_leave_returned ⟨i,j,k,fn,l,m⟩))
 grind
section
variable{P:aH}{Y:bc}{H:Heap}{w:aT}
theorem rL.set{n:Nat}{t:Tr AV}{c:Array aD}(h:rL Y n t c){d:Nat}{a:AV}{v:aD}(f:VR Y a v)(e:d<n):rL Y n (t.ins d a) (c.setIfInBounds d v):=by
 refine⟨by simp[h.1],λi=>?_⟩;by_cases b:d=i
 . subst b;rw[a17];have:d<c.size:=by rw[h.1];omega
   simp_all
 .rw[a11 _ _ b];have:=h.2 i;simp_all
theorem JX:VR Y fD undef:=a39 (a04 Y) #[] rfl
theorem Pn{f H:cJ}{i:Nat}{r:aE}{o:aB}{u:aD}(g:ops[i]?=J o)(m:f.mode=.run)(h:tu f o.dst v=J H)(a:iY Y f F (.inRegion ops (i::r)::k))(c:VR Y v u):iY Y H (F.finish u) (.inRegion ops r::k)/\H.mode=.run/\H.todo=f.todo/\H.roundOf=f.roundOf/\(F.finish u).fn=F.fn:=by
 have t:=a.todo m;rw[DY]at h;rcases hd:o.dst with _|d
 . rw[hd]at h;cases h;have e:F.finish u={F with todo:=.inRegion ops r::k}:=by grind[Frame.finish]
   rw[e];exact⟨⟨a.fn,a.tmps,λ_=>rfl,a.defers,a.mode,a.kind,a.round⟩,m,rfl,rfl,rfl⟩
 rw[hd]at h;simp only[eP]at h;by_cases b:d<f.n
 . simp only[b,dX,aR]at h;cases h;have e:F.finish u={F with tmps:=F.tmps.setIfInBounds d u,todo:=.inRegion ops r::k}:=by grind[Frame.finish]
   rw[e];exact⟨⟨a.fn,a.tmps.set c b,λ_=>rfl,a.defers,a.mode,a.kind,a.round⟩,m,rfl,rfl,rfl⟩
 grind
theorem J2{o:aB}{b:Bool}{c:Array aD}(h:wv ops tm o=J b)(g:∀j w d,o.guard=J (j,w)->(ops[j]?).bind (·.dst)=J d->VR Y ((tm.get d).getD fD) (c.getD d undef)):Region.wanted o (yielded ops c)=b:=by
 unfold wv at h;unfold Region.wanted;rcases u:o.guard with _|i;.grind
 obtain⟨j,w⟩:=i;rw[u]at h;simp only at h|-;unfold yielded;rcases hd:(ops[j]?).bind _ with _|d;.grind
 rw[hd]at h;have e:=g j _ d u hd;simp only[cU,G6]at h e|-;rcases t:tm.get d with _|a
 . rw[t]at h e;obtain rfl:C=b:=ai;rcases f:c[d]? with _|v;.rfl
   rw[f]at e;cases v<;>simp;cases e
 rw[t]at h e;rcases f:c[d]? with _|v;.rw[f]at e;cases a<;>simp at h e<;>first|(cases e;done)|grind|skip
 rw[f]at e;cases a<;>simp at h;all_goals(subst h;cases e<;>simp)
theorem aIK{j:aK->aD}{c:Call}{ty:an}{d:Sr}(k:iZ P Y)(r:Reads j)(o:∀x,x∈c.operands.toList->fp Y tm j x)(h:yK P tm c=J d):∃e,(∀w:aT,(resolve j c ty).run P w=.ok e w)/\akO Y d e:=by obtain⟨B,m,h⟩:=aF h;obtain⟨callee,args,s⟩:=c;cases callee with|builtin b=>cases h;have D:=MP k r (λx A=>o x (by grind[Call.operands])) m;exact⟨_,λw=>rfl,.builtin b _ _ _,aU⟩|invoke=>grind|value f=>
 have D:=MP k r (λx A=>o x (by grind[Call.operands])) m;obtain⟨F,u,h⟩:=aF h;have S:=(fK k r (o f (by simp[Call.operands])) u).1;split at h;.rename_i g first t;cases h;simp only[resolve];generalize j f=q at S;cases S with|func _ _ _ E n H I g1 g2=>refine⟨_,λw=>by rfl,.fn g _ n ⟨ab,λi a v x y=>g2 i a v x ai⟩,?_⟩;have G:aZ Y _ _:=⟨ab,λi a v x y=>g1 i a v x ai⟩;simp only[lz];rw[Array.toList_append];exact G.append aU
 .rename_i l;cases h;simp only[resolve];generalize j f=q at S;cases S with|yield _ p z=>exact⟨_,λw=>by rfl,.yield l p z,aU⟩
 grind
theorem amm:∀(l:aJ)(t:Tr AV)(k:Nat),(fV (λ(p:Tr AV×Nat)a=>(p.1.ins p.2 a,fj p.2)) l (t,k)).2=k+l.length/\∀i,((fV (λ(p:Tr AV×Nat)a=>(p.1.ins p.2 a,fj p.2)) l (t,k)).1.get i)=if k<=i/\i<k+l.length then l[i-k]? else t.get i:=by intro l;induction l with|nil=>grind[pR]|cons a l d=>
 intro t k;rw[pR]at*;simp only[A7];obtain⟨h,b⟩:=d (t.ins k a) (fj k);rw[pR]at h b;refine⟨by rw[h];simp;omega,λi=>?_⟩;rw[b i];by_cases c:k+1<=i/\i<k+1+l.length;.rw[if_pos c,if_pos (by simp;omega)];have:i-k=(i-(k+1))+1:=ab;rw[this,Ke]
 grind[Tr.lG,Tr.jC]
theorem KS{f:bY}{a:aJ}{d:Array aD}{r:cJ}(h:wJ P f a=J r)(c:aZ Y a d.toList):iY Y r (Frame.enter P f d .normal) r.todo/\r.mode=.run/\r.roundOf=Z/\∃fn b,P.funcs[f]?=J fn/\fn.body=J b:=by
 obtain⟨fn,e,h⟩:=aF h;obtain⟨b,k,h⟩:=aF h;rw[dp,dZ]at h;by_cases l:a.length<=fn.ntmps
 . simp only[l,dX,aR]at h;cases h;refine⟨⟨rfl,⟨?_,λi=>?_⟩,λ_=>by grind[Frame.enter],trivial,rfl,rfl,trivial⟩,rfl,rfl,fn,b,e,k⟩;.have:=c.1;grind[Frame.enter]
   . obtain⟨_,j⟩:=amm _ _ 0;rw[j i,Tr.get_nil];have n:=c.1;simp at n;simp only[Frame.enter,e,G6];by_cases m:i<a.length;.have g:=dC m;obtain⟨v,u,t⟩:=c.get g;grind
     grind[JX]
 grind
def rH(P:aH):Prop:=∀(f:Nat)(fn:Func),P.funcs[f]?=J fn->fn.body.isSome=V->fn.name≠ "runtime.NumGoroutine"
theorem Kz(c:rH P){f:bY}{n:Func}{b:bM}(h:P.funcs[f]?=J n)(d:n.body=J b)(a:Array aD)(w:aT):(callFunc f a).run P w=.ok (.enter f a) w:=by have:=c f n h ai;simp_all[callFunc]
end
def zn(x:ah fo):Prop:=∀r,x=J r->∃v H,r=.val v H
theorem aza:zn Z:=λr h=>ai
def azc(v:AV)(H:Heap):zn (J (.val v H)):=λr h=>⟨v,H,(bE h).symm⟩
theorem azb(H:Heap)(v:ah AV):zn (fc H v):=λr h=>by unfold fc at h;cases v<;>grind
theorem ay7{b:Type}(x:ah b)(f:b->ah fo)(h:∀a,zn (f a)):zn (x.bind f):=λr hr=>by obtain⟨a,_,c⟩:=aF hr;exact h a r c
theorem ay9{b:Type}(x:ah b)(f:b->fo)(h:∀a,∃v H,f a=.val v H):zn (x.map f):=λr hr=>by simp only[iK]at hr;obtain⟨a,_,rfl⟩:=hr;simp_all
theorem ay8(c:Bool)(a b:ah fo)(h:zn a)(d:zn b):zn (bif c then a else b):=ai
theorem T'{k:ct}{o:aB}(h:∀c,o.op≠.call c):zn (dY P k tm H o):=by unfold dY;split<;>first
 |exact absurd ‹_› (h _)
 | (try simp only[Eb,CB,GV,GX,Cx,GY,G1,Ed,Ec,GW,G5,GZ,G2,G3,G4,N7,D9,G0,Cz,D',CA,Ea,J6,Sj,Sm,Sk,Si,J5]
    repeat' first|exact aza|exact azc _ _|exact azb _ _|(apply ay9;grind)|(apply ay7;intro a)|apply ay8|(dsimp only;done)|split)
def jQ(P:aH)(k:ct):Prop:=∀(f:bY)(args:aJ)(H:Heap)(v:AV)(H':Heap),k f args H=J (J (v,H'))->∀(Y:bc)(w:aT)(a:Array aD)(c:dm)(cs:List dm),bg H->bS gK Y H w->iZ P Y->aZ Y args a.toList->∃A b u,gd Y H w A H' b/\VR A v u/\((callFunc f a).run P w=.ok (.value u) b\/((callFunc f a).run P w=.ok (.enter f a) w/\Steps P (fh (Frame.enter P f a .normal) (c::cs) w) (fh (c.finish u) cs b)))
section
variable{P:aH}{Y:bc}{H:Heap}{w:aT}
def Frame.reads(F:dm):Reads F.eval:=⟨λ_=>rfl,λ_=>rfl,λ_=>rfl⟩
theorem GI{i:Nat}{r:aE}{o:aB}(m:F.mode=.run)(d:F.todo=.inRegion ops (i::r)::k)(b:ops[i]?=J o)(g:Region.wanted o (yielded ops F.tmps)=V)(h:∀c,o.op≠.defer c){n:Next}{w':aT}(j:(execOp F.eval o).run P w=.ok n w'):(∀v,n=.value v->step P (fh F cs w)=.next (fh (F.finish v) cs w'))/\(n=.skip->step P (fh F cs w)=.next (fh (F.finish undef) cs w'))/\(∀f args,n=.enter f args->step P (fh F cs w)=.next (fh (Frame.enter P f args .normal) (F::cs) w'))/\(∀l f t a body,n=.round l f t a body->step P (fh F cs w)=.next (fh (Frame.round l f t a body .normal) (F::cs) w')):=by
 have A:stepG P V {frame:=F,callers:=cs,status:=.running,dying:=Z} w=stepG.apply P V F cs Z (execOp F.eval o) w:=by grind[stepG,stepG.oper,uo,Frame.oper?]
 refine⟨λv e=>?_,λe=>?_,λf args e=>?_,λl f t a body e=>?_⟩<;>subst e<;>exact step_lone_go (by simp_all[stepG.apply])
theorem aug(h:∀r,S r)(t:Tr AV)(H:Heap)(o:aB):J' P S t H o:=by right;grind
theorem aGK:∀(s:List Tmp)(S:aJ)(b:List aD)(n:Nat)(t:Tr AV)(c:Array aD),aZ Y S b->s.length=S.length->rL Y n t c->rL Y n (fV (λt(p:Tmp×AV)=>bif cw p.1 n then t.ins p.1 p.2 else t) (List.zip s S) t) ((List.zip s b).foldl (λm(x:Tmp×aD)=>m.setIfInBounds x.1 x.2) c):=by intro s;induction s with|nil=>simp[pR]|cons p s o=>intro S b n t c f l d;cases S with|nil=>grind|cons a S=>
 obtain⟨v,g,rfl,e,i⟩:=f.cons_inv;rw[pR];simp only[List.zip_cons_cons,A7];have k:rL Y n (bif cw p n then t.ins p a else t) (c.setIfInBounds p v):=by
  rw[eP];by_cases h:p<n;.simp only[h,dX,aR];exact d.set e h
  . simp only[h,lC,ch];have:c.setIfInBounds p v=c:=by have j:=d.1;grind
    grind
 grind[pR]
theorem aNr{i:Nat}{e:aE}{o:aB}(m:F.mode=.run)(t:F.todo=.inRegion ops (i::e)::k)(q:ops[i]?=J o)(s:Region.wanted o (yielded ops F.tmps)=V)(l:∀c,o.op≠.defer c)(h:tC P gK Y H w (execOp F.eval o) v H'):∃A a u,gd Y H w A H' a/\VR A v u/\Steps P (fh F cs w) (fh (F.finish u) cs a):=by obtain⟨A,n,a,j,b,d⟩:=h;obtain⟨f,g,_⟩:=GI m t q s l j;have p:gd Y H w A H' a:=⟨d.1,d.2.1.up (λr _=>.inl trivial),d.2.2⟩;cases n with|value u=>exact⟨A,a,u,p,b,Steps.one (f u rfl)⟩|skip=>subst b;exact⟨A,a,_,p,JX,Steps.one (g rfl)⟩|_=>simp only[Em]at b
set_option maxHeartbeats 1600000 in theorem WA{ak:ct}(eY:nC P rec)(pc:jQ P ak)(hn:rH P){i:Nat}{I:aE}{o:aB}(O:bg H)(D:bS gK Y H w)(y:iZ P Y)(z:F.mode=.run)(E:F.todo=.inRegion ops (i::I)::k)(B:ops[i]?=J o)(G:Region.wanted o (yielded ops F.tmps)=V)(vJ:∀x,x∈o.op.operands.toList->fp Y tm F.eval x)(h:fF P ak rec tm H o=J (.val v H')):∃A K u,gd Y H w A H' K/\VR A v u/\Steps P (fh F cs w) (fh (F.finish u) cs K):=by
 have hr:=Frame.reads F;unfold fF at h;obtain⟨x,a,h⟩:=aF h;have hd:∀c,o.op≠.defer c:=λc e=>by grind[dY]
 by_cases Ah:(∃v H',x=.val v H')/\∀c,o.op=.call c->∃b,c.callee=.builtin b;.obtain⟨⟨v,H',rfl⟩,hb⟩:=Ah;obtain⟨rfl,rfl⟩:=En.val.inj (bE h);exact aNr z E B G hd (ad4 O D y hr vJ (aug (λ_=>trivial) _ _ _) hb a)
 by_cases eX:∃c,o.op=.call c
 . obtain⟨c,hc⟩:=eX;obtain⟨callee,args,S⟩:=c;have L9:=a;simp only[dY,hc,Cy]at a;obtain⟨d,W,a⟩:=aF a;have T:∀x,x∈(Call.operands ⟨callee,args,S⟩).toList->fp Y tm F.eval x:=λx a=>vJ x (by rw[hc];exact a);obtain⟨e,he,PF⟩:=aIK (ty:=o.type) y hr T W;obtain⟨dt,N⟩:=d;obtain⟨et,n⟩:=e;have Q:=PF.args;have U:=PF.target;have M:(execOp F.eval o).run P w=(invoke et n).run P w:=by simp_all[execOp]
   cases U with
   |builtin b ts t css=>simp only[uU,iK]at a;obtain⟨aS,ha,W⟩:=aF W;cases callee with|builtin b'=>grind|invoke=>grind|value f=>obtain⟨fv,hf,W⟩:=aF W;grind
   |fn g j s kg=>
   simp only[uU]at a;have kz:aZ Y (dL N j) (n++s).toList:=by rw[lz,Array.toList_append];exact Q.append kg
   have hinv:(invoke (.fn (.func g) _) n).run P w=(callFunc g (n++s)).run P w:=rfl;unfold xW at a;split at a
   . rename_i rp P3;rcases rp with _|vh;.grind
     obtain⟨v,H'⟩:=vh;obtain⟨A,K,u,p1,p2,p3⟩:=pc g _ H v H' P3 Y w _ F cs O D y kz;rcases p3 with p3|⟨p3,p4⟩;.obtain⟨a1,_⟩:=GI (cs:=cs) z E B G hd (by rw[M,hinv];omega);grind[Steps.one]
     .obtain⟨_,_,a3,_⟩:=GI (cs:=cs) z E B G hd (by rw[M,hinv];omega);grind[Steps.head]
   .simp only[iK]at a;obtain⟨fH,BE,rfl⟩:=a;obtain⟨⟨v',H1⟩,yw,h⟩:=aF h;obtain⟨e1,e4,e7,fn,b,e5,e6⟩:=KS BE kz;obtain⟨_,_,a3,_⟩:=GI (cs:=cs) z E B G hd (by rw[M,hinv];exact Kz hn e5 e6 _ w);obtain⟨A,K,u,q1,q2,q3⟩:=kJ.back (eY _ H _ yw Y w _ (F::cs) O D y e1);grind[Steps.head]|yield l p hp=>
   simp only[uU]at a;split at a
   . rename_i lp ov;rw[bQ,dZ,dZ]at a;by_cases q:N.length=lp.params.length
     . simp only[q,dX,aR]at a;cases a;obtain⟨⟨v',H1⟩,yw,h⟩:=aF h;obtain⟨hb0,R,hR,L⟩:=D.obj l p _ hp trivial (by intro l' r fl e Iu;grind) ov;have aPr:=L.params;have fP:n.size=R.params.size:=by have h1:=Q.1;grind
       have hinv:(invoke (.fn (.yield p.ba) #[]) n).run P w=.ok (.round p.ba R.fn ((R.params.zip n).foldl (λm(x:Tmp×aD)=>m.setIfInBounds x.1 x.2) R.tmps) R.assign R.body) w:=by have eG:(getObj _).run P w=.ok _ w:=yN hR aP;simp[invoke,Instr.yield,Instr.getLoop,eG,fP]
       obtain⟨_,_,_,a4⟩:=GI (cs:=cs) z E B G hd (by rw[M];omega);have X:rL Y lp.n (fV (λt(p:Tmp×AV)=>bif cw p.1 lp.n then t.ins p.1 p.2 else t) (List.zip lp.params N) lp.tmps) ((R.params.zip n).foldl (λm(x:Tmp×aD)=>m.setIfInBounds x.1 x.2) R.tmps):=by have:=aGK _ N _ _ _ _ Q q.symm L.tmps;grind[Array.toList_zip]
       obtain⟨A,K,u,q1,q2,q3⟩:=kJ.back (eY _ H _ yw Y w (Frame.round p.ba R.fn ((R.params.zip n).foldl (λm(x:Tmp×aD)=>m.setIfInBounds x.1 x.2) R.tmps) R.assign R.body .normal) (F::cs) O D y ⟨L.fn,X,λ_=>by simp[Frame.round,L.assign,L.body],trivial,rfl,rfl,⟨p,hp,rfl⟩⟩);grind[Steps.head]
     grind
   grind
 .obtain⟨v,H',rfl⟩:=T' (λc e=>eX ⟨c,e⟩) x a;grind
end
structure ka(fr fH:cJ):Prop where
 mode:fH.mode=.run
 todo:fH.todo=fr.todo
 round:fH.roundOf=fr.roundOf
def ka.trans{a b c:cJ}(h:ka a b)(k:ka b c):ka a c:=⟨k.mode,k.todo.trans h.todo,k.round.trans h.round⟩
section
variable{P:aH}{Y:bc}{H:Heap}{w:aT}
theorem aKk{f H:cJ}{d:ah Tmp}(h:tu f d v=J H)(m:f.mode=.run):ka f H/\H.defers=f.defers/\H.n=f.n/\H.fn=f.fn:=by
 rw[DY]at h;rcases d with _|d;.cases h;exact⟨⟨m,rfl,rfl⟩,rfl,rfl,rfl⟩
 simp only[eP]at h;by_cases b:d<f.n;.simp only[b,dX,aR]at h;cases h;exact⟨⟨m,rfl,rfl⟩,rfl,rfl,rfl⟩
 grind
theorem iY.run{f:cJ}(h:iY Y f F k)(m:f.mode=.run):F.mode=.run:=h.mode.trans m
theorem iY.aDk{f:cJ}(h:iY Y f F k)(r:f.roundOf=Z):F.roundOf=Z:=by have:=h.round;grind[zt]
def Kj(P:aH)(d:bc)(H:Heap)(w:aT)(r:cJ)(F:dm)(c:List dm)(t:List Item):Ba->Prop|.next f H'=>∃A b a,Steps P (fh F c w) (fh a c b)/\gd d H w A H' b/\iY A f a t/\ka r f/\a.fn=F.fn
theorem RP{f b:cJ}{i:Nat}{r:aE}{o:aB}(l:bg H)(s:bS gK Y H w)(n:ops[i]?=J o)(m:f.mode=.run)(a:iY Y f F (.inRegion ops (i::r)::k))(p:Region.wanted o (yielded ops F.tmps)=C)(h:tu f o.dst fD=J b):Kj P Y H w f F cs (.inRegion ops r::k) (.next b H):=by obtain⟨c,d,e,g,j⟩:=Pn n m h a JX;have t:=a.run m;have U:=a.todo m;exact⟨Y,w,_,Steps.one (step_lone_go (by simp_all[stepG,uo])),a33 l s,c,⟨d,e,g⟩,j⟩
theorem apj{c:ct}(D:nC P rec)(Q:jQ P c)(L:rH P){f:cJ}{i:Nat}{s:aE}{o:aB}{r:Ba}(K:bg H)(M:bS gK Y H w)(I:iZ P Y)(g:ops[i]?=J o)(m:f.mode=.run)(a:iY Y f F (.inRegion ops (i::s)::k))(h:Bs P c rec ops f H o=J r):Kj P Y H w f F cs (.inRegion ops s::k) r:=by
 rw[KM]at h;obtain⟨b,G,h⟩:=aF h;have N:=J2 G (λj n d _ _=>a.tmps.2 d);rcases b with _|_;.grind[iK,RP]
 obtain⟨⟨v,H'⟩,O,h⟩:=aF h;obtain⟨A,S,u,q,R,q3⟩:=WA D Q L K M I (a.run m) (a.todo m) g N (λy _ t e=>by subst e;exact a.tmps.2 t) O;simp only[iK]at h;obtain⟨T,E,rfl⟩:=h;obtain⟨l,p,x,z,B⟩:=Pn g m E (a.mono q.2.2.ext) R;exact⟨A,S,_,q3,q,l,⟨p,x,z⟩,B⟩
theorem aJh{c:ct}(n:nC P rec)(I:jQ P c)(u:rH P):∀(l:List aB)(i:Nat),ops.toList.drop i=l->∀(fr:cJ)(H:Heap)(r:Ba),AE P c rec ops l fr H=J r->∀(Y:bc)(w:aT)(F:dm)(cs:List dm),bg H->bS gK Y H w->iZ P Y->fr.mode=.run->iY Y fr F (.inRegion ops (vp i l.length)::k)->Kj P Y H w fr F cs (.inRegion ops []::k) r:=by intro l;induction l with|nil=>intro i _ fr H r h Y w F cs a s g m b;cases h;exact⟨Y,w,F,Steps.refl P _,a33 a s,b,⟨m,rfl,rfl⟩,rfl⟩|cons o l y=>
 intro i Q fr H r h Y w F cs a s g m b;have v:ops[i]?=J o:=by have:(ops.toList.drop i)[0]?=J o:=ai;grind
 have E:ops.toList.drop (i+1)=l:=by have:(ops.toList.drop i).drop 1=l:=ai;grind[Eh]
 obtain⟨⟨q,j⟩,x,t⟩:=aF h;obtain⟨A,M,e,K,p,f1,d,B⟩:=apj n I u a s g v m b x;have:=y _ E _ j r t A M e cs p.1 p.2.1 (g.mono p.2.2.ext) d.mode f1;obtain⟨O,N,f,L,G,f2,z,D⟩:=this;exact⟨O,N,f,K.trans L,p.trans a s G,f2,d.trans z,D.trans B⟩
end
end Go.AM
namespace Go.VM
open Go Go.AM
variable{a:AV}{g:GH}{I:Nat}{R:Nat->Prop}{p:Pk}{sv:SV}{m:aJ}{x:aK}{dst:ah Tmp}{e t:an}{lb:ew}
structure uv(B:aI)(k:Kd)(app:Bool)(H H':Heap):Prop where
 bA:H'.bA=H.bA
 wl:k≠.wr->∀r,r∈H'.bX->r∈H.bX
 gl:k≠.wr->app=C->∀r,r∈H'.cL->r∈H.cL
 wall:∀r,r∈H'.bX->r∈H.bX\/(r<H.bA/\dO B r)aeM:∀r,r∈H'.cL->r∈H.cL\/(r<H.bA/\dO B r)
theorem uv.refl{b:aI}(k:Kd)(a:Bool)(H:Heap):uv b k a H H:=⟨rfl,λ_ _ h=>h,λ_ _ _ h=>h,λ_ h=>.inl h,λ_ h=>.inl h⟩
def a43:=@uv.refl
section
variable{P:aH}{ak:ct}{rec:Rec}{cf:bV}{K K':aY}{Y A:cu}{B ω':aI}{H H':Heap}
def eT(P:aH)(k:ct)(r:Rec)(c:bV)(K:aY)(b:cu)(a:aI)(H:Heap)(st0 t s:St)(m:Tr AV)(o:aB):Prop:=∃v H',fF P k r m H o=J (.val v H')/\(∀d,o.dst=J d->d<t.n)/\fR K b a H s (gX m o.dst v) H'/\s.n=t.n/\s.fn=t.fn/\uv a (kindOf c st0 o.op) (isApp o.op) H H'
theorem nU{a s:St}{d:ah Tmp}(h:aG a d sv=J s):(∀t,d=J t->t<a.n)/\s.n=a.n/\s.fn=a.fn/\s.lb=a.lb/\s.g=a.g:=by grind[yQ]
theorem sF{b s t:St}{m:Tr AV}{o:aB}{x:DV}(f:HR K Y B H s.lb s.g)(g:cg K Y B H m s.sl)(j:dY P ak m H o=J (.val a H))(h:aG s o.dst (.dv x .no)=J t)(i:DR K Y x a):eT P ak rec cf K Y B H b s t m o:=by obtain⟨c,d,e,_⟩:=nU h;exact⟨a,H,by grind[fF],c,Bh f g h i,d,e,a43 _ _ _⟩
variable{aq:Nat->ah ao}{gs cr:aE}{fk:bY->Nat}{later:List aB}{st0 O st':St}{tm:Tr AV}{o:aB}
theorem amY(g:dB P K Y aq)(c:HR K Y B H O.lb O.g)(s:cg K Y B H tm O.sl){p:BinOp}{u:an}{y:aK}(j:o.op=.binOp p t x y u)(h:dF P aq fk gs cr later O o=J st'):eT P ak rec cf K Y B H st0 O st' tm o:=by unfold dF at h;rw[j]at h;obtain⟨a,f,h⟩:=aF h;obtain⟨b,i,h⟩:=aF h;obtain⟨v,k,h⟩:=aF h;obtain⟨l,m,n,d⟩:=oH g c s f;obtain⟨q,w,z,e⟩:=oH g c s i;obtain⟨r,r1,r2⟩:=amD (xo:=x) (yo:=y) k d e;refine sF c s ?_ h (r2 _ _);simp_all[dY,GW,fc]
theorem aNd(g:dB P K Y aq)(b:HR K Y B H O.lb O.g)(s:cg K Y B H tm O.sl){p:UnOp}(e:o.op=.unOp p t x)(h:dF P aq fk gs cr later O o=J st'):eT P ak rec cf K Y B H st0 O st' tm o:=by unfold dF at h;rw[e]at h;obtain⟨a,d,h⟩:=aF h;obtain⟨v,f,h⟩:=aF h;obtain⟨i,j,k,c⟩:=oH g b s d;obtain⟨r,r1,r2⟩:=aNa f c;refine sF b s ?_ h (r2 _ _);simp_all[dY,G5,fc]
theorem te(q:dB P K Y aq)(w:cg K Y B H tm O.sl){d:DV}(v:jP O x)(h:bj aq O x=J d):∃a,AM.bJ P tm x=J a/\a≠.top/\DR K Y d a:=by obtain⟨sv,j,k⟩:=aF h;obtain⟨a,m,n,p⟩:=ri q w j;refine⟨a,m,n,?_⟩;cases sv with
 |dv i o=>
 obtain rfl:=bE (show J i=J d from k);rcases p with⟨t,rfl,u,_,b⟩|⟨_,⟨d2,e,b⟩|⟨d2,f,_,e1,e2,b⟩|⟨g,l,cells,e,e1,_⟩⟩;.cases o with|no=>exact b|any=>obtain⟨rfl,rfl⟩:=b;exact .nl|full e=>exact b.1|ty e=>exact b.1|ex e=>
  have hd:=v t i e rfl u;subst hd;rcases b with⟨_,rfl⟩|⟨r,_,b⟩;.exact .nl
  .obtain⟨l,s,id,I,c,cells,y,e1,_⟩:=b.ex;grind
 all_goals grind|_=>grind[C1]
theorem V0(g:dB P K Y aq)(b:cg K Y B H tm O.sl):∀(l:List aK)(s:ao),(∀x,x∈l->jP O x)->cB (bj aq O) l=J s->∃m,cB (AM.bJ P tm) l=J m/\bF K Y s m:=by intro l;induction l with|nil=>intro s _ h;obtain rfl:=bE (show J []=J s from h);exact⟨[],rfl,a09⟩|cons x l i=>intro s n h;have a:=h;obtain⟨d,hd,a⟩:=aF a;obtain⟨t,c,a⟩:=aF a;grind[te,fU,bF.cons,cB]
theorem auW(g:dB P K Y aq)(p:HR K Y B H O.lb O.g)(s:cg K Y B H tm O.sl){f:bY}{i c:Array aK}(q:o.op=.makeFunc (.func f) i c)(n:∀x,x∈o.op.operands.toList->jP O x)(h:dF P aq fk gs cr later O o=J st'):eT P ak rec cf K Y B H st0 O st' tm o:=by have N:∀x,x∈i.toList->jP O x:=λx r=>n x (by grind[eO]);have A:∀x,x∈c.toList->jP O x:=λx r=>n x (by grind[eO]);unfold dF at h;rw[q]at h;obtain⟨a,l,h⟩:=aF h;obtain⟨b,m,h⟩:=aF h;obtain⟨j,t,d⟩:=V0 g s _ _ N l;obtain⟨k,u,e⟩:=V0 g s _ _ A m;refine sF p s ?_ h (.func f a b j k d.1 e.1 d.2 e.2);simp_all[dY,G2,fc]
end
section
variable{P:aH}{ak:ct}{rec:Rec}{cf:bV}{K K':aY}{Y A:cu}{B ω':aI}{H H':Heap}
variable{aq:Nat->ah ao}{gs cr:aE}{fk:bY->Nat}{later:List aB}{st0 O st':St}{tm:Tr AV}{o:aB}
theorem xO(c:HR K Y B H O.lb O.g)(s:cg K Y B H tm O.sl)(h:aG O dst sv=J st')(f:a≠.top)(v:∀d,dst=J d->Gn d sv=C->mB K Y B H (tm.ins d a) d sv a):fR K Y B H st' (gX tm dst a) H:=by
 rcases yQ h with⟨rfl,rfl⟩|⟨t,rfl,_,hr,rfl⟩;.exact⟨K,Y,B,a01 _,c.gi (a02 (λ_=>False) _),a00 _,c,s,a02 _ _,λp r b e=>.inl ⟨p,b,e⟩⟩
 .exact⟨K,Y,B,a01 _,c.gi (a02 (λ_=>False) _),a00 _,c,xj c.inv s (a02 _ _) (a01 _) (a00 _) (λ_ _ _ _ _ _ h=>⟨h,id⟩) aU aU (λ_=>f) (v t rfl hr),a02 _ _,λp r b e=>.inl ⟨p,b,e⟩⟩
def free:SV->Prop|.dv _ .no|.dv _ .any|.lp ..|.ev _|.sr _|.se ..|.gr ..|.hd _=>True|_=>False
theorem mB.copy{t d:Nat}(f:free sv)(h:mB K Y B H tm t sv a)(r:Gn d sv=C):mB K Y B H (tm.ins d a) d sv a:=by
 have g:=DQ r;rcases sv with⟨x,o⟩|l|⟨s,I⟩|x|s|⟨s,i,I⟩|⟨id,I⟩|n|_;.cases o<;>first|exact h|exact f.elim
 .exact f.elim
 .exact h
 .exact h
 .show(tm.ins d a).get s=J a;rw[a11 _ _ ai];exact h
 .obtain⟨id,b,len,c,e,g1,g2⟩:=h;exact⟨id,b,len,c,_,by grind[Tr.jC],g2⟩
 .exact h
 .exact h
 exact f.elim
theorem abe(n:dB P K Y aq)(o:HR K Y B H O.lb O.g)(s:cg K Y B H tm O.sl)(p:cZ aq O x=J sv)(i:free sv)(h:aG O dst sv=J st'):∃a,AM.bJ P tm x=J a/\fR K Y B H st' (gX tm dst a) H:=by
 obtain⟨a,j,k,m⟩:=ri n s p;refine⟨a,j,xO o s h k λd _ hr=>?_⟩;rcases m with⟨t,_,_,_,b⟩|⟨_,⟨q,rfl,b⟩|⟨q,f,_,_,rfl,b⟩|⟨g,l,cells,e,rfl,rfl,b,r,c⟩⟩;.exact b.copy i hr
 . unfold uf at i|-;split;.cases b;exact⟨rfl,rfl⟩
   .exact b
 .exact b
 .exact⟨g,0,_,e,by rfl,b,by simp[DV.flat];rw[c.1];omega,by grind[DV.flat],by show bF K Y l ((cells.drop 0).take l.length);rw[xH,c.1,A8];omega⟩
theorem abh(u:dB P K Y aq)(c:HR K Y B H O.lb O.g)(s:cg K Y B H tm O.sl)(k:cZ aq O x=J sv)(h:aG (aQ leave O x) dst sv=J st'):∃a,AM.bJ P tm x=J a/\fR K Y B H st' (gX tm dst a) H:=by
 obtain⟨a,m,n,i⟩:=ri u s k;rcases i with⟨t,rfl,v,G,o⟩|⟨E,i⟩
 . have A:sv≠.dd:=by intro e;have F:(match look O.sl t with|some .dd=>Z|r=>r)=J _:=k;grind
   have e1:aQ leave O (.tmp t)={O with sl:=put O.sl t (leave sv)}:=by grind[aQ]
   rw[e1]at h;rcases yQ h with⟨rfl,rfl⟩|⟨d,rfl,_,hr,rfl⟩;.refine⟨a,m,K,Y,_,a01 _,c.gi (a02 (λ_=>False) _),a00 _,c.of (aaf t),?_,a02 _ _,λp r b j=>let⟨q,_,h⟩:=a07 j;.inl ⟨q,b,h⟩⟩;exact RR c s v G n o
   .obtain⟨ω',w,y,z⟩:=ahr c s v G A n o (DQ hr);exact⟨a,m,K,Y,_,a01 _,c.gi (a02 (λ_=>False) _),a00 _,w,y,a02 _ _,λp r b j=>let⟨q,h⟩:=z p r b j;.inl ⟨q,b,h⟩⟩
 . have e1:aQ leave O x=O:=by cases x<;>first|rfl|grind
   rw[e1]at h;refine abe u c s k ?_ h;rcases i with⟨D,rfl,_⟩|⟨D,f,_,_,rfl,_⟩|⟨g,l,cells,e,rfl,_⟩;.unfold uf;split<;>trivial
   .trivial
   .trivial
theorem ahx(b:o.op=.move x\/o.op=.assign x)(h:AM.bJ P tm x=J a):dY P ak tm H o=J (.val a H):=by unfold dY;simp only[Eb];rcases b with b|b<;>rw[b]<;>simp only[h,fc,gM]
theorem amt(g:dB P K Y aq)(c:HR K Y B H O.lb O.g)(s:cg K Y B H tm O.sl)(e:o.op=.assign x)(h:dF P aq fk gs cr later O o=J st'):eT P ak rec cf K Y B H st0 O st' tm o:=by
 unfold dF at h;rw[e]at h;obtain⟨sv,f,h⟩:=aF h;obtain⟨a,i,b⟩:=abh g c s f h;obtain⟨f1,f2,f3,_⟩:=nU h;have n:(aQ leave O x).n=O.n/\(aQ leave O x).fn=O.fn:=by unfold aQ;grind
 exact⟨a,H,by simp_all[fF,ahx],λd hd=>ai,b,ab,ai,a43 _ _ _⟩
theorem B'(f:SV->SV)(s:St)(x:aK):(aQ f s x).n=s.n/\(aQ f s x).fn=s.fn/\(aQ f s x).lb=s.lb/\(aQ f s x).g=s.g:=by unfold aQ;grind
theorem Mu{x:DV}{n:Nat}(h:ni x=J n)(b:DR K Y x a):nO a=J n:=by
 unfold ni at h;split at h;iterate 3·cases b;exact h
 grind
theorem alE(j:dB P K Y aq){x:DV}{o:aN}{y:aK}(c:HR K Y B H O.lb O.g)(l:cg K Y B H tm O.sl)(w:cZ aq O y=J (.dv x o))(h:aG (aQ share O y) dst (.dv x .no)=J st'):∃a,AM.bJ P tm y=J a/\fR K Y B H st' (gX tm dst a) H:=by
 obtain⟨u,t,s,d,e,n,q,z,A,_⟩:=Z' c l y;have m:bj aq (aQ share O y) y=J x:=by unfold bj;cases y<;>grind[aQ,share,C1,me,cZ]
 obtain⟨a,f,v,g⟩:=te (j.mono s.1 (a00 _)) e q m;exact⟨a,f,a19 c.inv s.1 (s.gi d) (a00 _) (a02 _ _) (λp r b k=>let⟨i,h⟩:=n p r b k;.inl ⟨p,i,h⟩) (Bh d e h g)⟩
theorem aKR{l a:db}(h:∀u,look l u=look a u)(s:cg K Y B H tm l):cg K Y B H tm a:=λt sv b=>s t sv ai
theorem aCw(m:dB P K Y aq)(c:HR K Y B H O.lb O.g)(s:cg K Y B H tm O.sl)(ho:o.op=.move x)(h:dF P aq fk gs cr later O o=J st'):eT P ak rec cf K Y B H st0 O st' tm o:=by unfold dF at h;rw[ho]at h;simp only at h;obtain⟨sv,k,h⟩:=aF h;have fin:∀{a:AV},AM.bJ P tm x=J a->(∀d,o.dst=J d->d<O.n)->fR K Y B H st' (gX tm o.dst a) H->st'.n=O.n->st'.fn=O.fn->eT P ak rec cf K Y B H st0 O st' tm o:=λj R h3 E h5=>⟨_,H,by simp_all[fF,ahx],R,h3,E,h5,a43 _ _ _⟩;cases hd:o.dst with|none=>rw[hd]at h;cases h;obtain⟨a,j,R,_⟩:=ri m s k;refine fin j (λd e=>aU) ?_ rfl rfl;rw[hd];exact⟨K,Y,B,a01 _,c.gi (a02 (λ_=>False) _),a00 _,c,s,a02 _ _,λp r b v=>.inl ⟨p,b,v⟩⟩|some d=>
 rw[hd]at h;simp only at h;have take:∀{A:St},aG (aQ leave O x) (J d) sv=J A->A=st'->eT P ak rec cf K Y B H st0 O st' tm o:=by grind[abh,nU,B']
 have copy:free sv->aG O (J d) sv=J st'->eT P ak rec cf K Y B H st0 O st' tm o:=by grind[abe,nU]
 split at h;.simp_all
 . rename_i dd w;have X:∀n,ni dd=J n->aG O (J d) (.hd n)=J st'->eT P ak rec cf K Y B H st0 O st' tm o:=by
    intro n T h;obtain⟨f1,f2,f3,_⟩:=nU h;have hv:bj aq O x=J dd:=by unfold bj;rw[k];rfl
    obtain⟨a,D,f,g⟩:=oH (P:=P) m c s hv;exact fin D (λi I=>f1 i (hd.symm.trans I)) (by rw[hd];exact xO c s h f λ_ _ _=>Mu T g) f2 f3
   have aPS:∀t,x=.tmp t->aG O (J d) (.sr t)=J st'->eT P ak rec cf K Y B H st0 O st' tm o:=by
    intro t U h;obtain⟨a,D,f,g⟩:=ri (P:=P) m s k;obtain⟨f1,f2,f3,_⟩:=nU h;rcases g with⟨t',e1,_,N,_⟩|⟨Vd,_⟩
    . rw[U]at e1;obtain rfl:=Operand.tmp.inj e1;have ae9:fR K Y B H st' (gX tm (J d) a) H:=by refine xO c s h f λi kW hr=>?_;show(tm.ins i a).get t=J a;grind[Tr.jC,DQ]
      simp_all
    simp_all
   have aPX:aG (aQ share O x) (J d) (.dv dd .no)=J st'->eT P ak rec cf K Y B H st0 O st' tm o:=by grind[alE,nU,B']
   have W:∀e,w=.ex e->(aG O (J d) (.dv dd w)).map (λO=>aQ (λ_=>.sr d) O x)=J st'->eT P ak rec cf K Y B H st0 O st' tm o:=by intro e he h;cases j:aG O (J d) (.dv dd w)with|none=>simp_all|some z=>
      rw[j]at h;cases h;obtain⟨f1,f2,f3,_⟩:=nU j;obtain⟨g1,g2,g3,g4⟩:=B' (λ_=>SV.sr d) z x;obtain⟨a,D,f,g⟩:=ri (P:=P) m s k;refine fin D (λi I=>f1 i (hd.symm.trans I)) ?_ ai ai;rw[hd];show fR K Y B H (aQ (λ_=>SV.sr d) z x) (gX tm (J d) a) H;rcases g with⟨t,rfl,F,N,E⟩|⟨_,⟨x',e1,_⟩|⟨_,_,_,_,e1,_⟩|⟨_,_,_,_,e1,_⟩⟩
      . rcases yQ j with⟨e1,_⟩|⟨i,e1,_,hr,rfl⟩;.grind
        . cases e1;by_cases M:t=d
          . subst M;have e2:aQ (λ_=>SV.sr t) {O with sl:=put (ix O.sl t) t (.dv dd w)} (.tmp t)={O with sl:=put (put (ix O.sl t) t (.dv dd w)) t (.sr t)}:=by simp[aQ,me]
            rw[e2];have jF:cg K Y B H (tm.ins t a) (put (ix O.sl t) t (.dv dd w)):=xj (S:=λ_=>False) c.inv s (a02 _ _) (a01 _) (a00 _) (λ_ _ _ _ _ _ h=>⟨h,id⟩) (λ_ _ _ h=>h) (λ_ _ _=>id) (λ_=>f) E;exact⟨K,Y,B,a01 _,c.gi (a02 (λ_=>False) _),a00 _,c,JL c.inv jF (a01 _) (λ_ _ _ _ _ _ h=>h) (λ_=>rfl) (a17 _ _ _) (λ_=>f) (a17 _ _ _),a02 _ _,λp r b v=>.inl ⟨p,b,v⟩⟩
          . obtain⟨ω',m1,m2,m3⟩:=ahr c s F N aP f E (DQ hr);have bZ:look (put (ix O.sl d) d (SV.dv dd w)) t=J (.dv dd w):=by rw[me,if_neg M];unfold ix;rw[rf O.sl (p8 d),F];rfl
            have e2:aQ (λ_=>SV.sr d) {O with sl:=put (ix O.sl d) d (.dv dd w)} (.tmp t)={O with sl:=put (put (ix O.sl d) d (.dv dd w)) t (.sr d)}:=by grind[aQ]
            rw[e2];have G:(tm.ins d a).get t=J a:=by grind[Tr.jC]
            have s2:=JL (sv:=.sr d) c.inv m2 (a01 _) (λ_ _ _ _ _ _ h=>h) (λ_=>rfl) G (λ_=>f) (a17 _ _ _);refine⟨K,Y,ω',a01 _,c.gi (a02 (λ_=>False) _),a00 _,m1,aKR (λu=>?_) s2,a02 _ _,λp r b v=>let⟨q,h⟩:=m3 p r b v;.inl ⟨q,b,h⟩⟩;rw[me,me,me,me];by_cases L:u=t;.grind
            . rw[if_neg L,if_neg L];by_cases y:u=d;.grind
              .rw[if_neg y,if_neg y];unfold ix;rw[rf (put O.sl t _) (p8 d),rf O.sl (p8 d),me,if_neg L]
      all_goals grind[uf]
   split at h;.grind
   .simp_all
   .obtain⟨n,T,h⟩:=aF h;simp_all
   .simp_all
   .exact copy trivial h
   simp_all
 .rename_i n1 n2;refine copy ?_ h;cases sv with
   |tp l=>exact absurd rfl (n1 _)|dv a b=>exact absurd rfl (n2 _ _)|dd=>
    exfalso;obtain⟨a,_,_,g⟩:=ri (P:=P) m s k;rcases g with⟨t,rfl,F,_⟩|⟨_,⟨_,e,_⟩|⟨_,_,_,_,e,_⟩|⟨_,_,_,_,e,_⟩⟩;.have Q:(match look O.sl t with|some .dd=>Z|r=>r)=J SV.dd:=k;rw[F]at Q;simp at Q
    .simp at e
    .simp at e
    .simp at e|_=>trivial
end
section
variable{P:aH}{ak:ct}{rec:Rec}{cf:bV}{K K':aY}{Y A:cu}{B ω':aI}{H H':Heap}{S:Nat->Prop}
variable{aq:Nat->ah ao}{gs cr:aE}{fk:bY->Nat}{later:List aB}{st0 O st':St}{tm:Tr AV}{o:aB}
theorem kh(H:Heap)(o:cq)(S:Nat->Prop):bU S H (H.alloc o)where
 next:=Ki _
 get:=λid h _=>nL H o ab
 dz:=λr _ _=>rfl
 root:=λid h=>by unfold rootOf;rw[nL H o ab]
theorem NV(i:bg H)(u:pN H)(o:cq)(d:∀l r f e,o=.cells l r f e->r=H.next):pN (H.alloc o):=λid l r f e h=>by
 by_cases n:id=H.next;.grind[mF]
 .rw[nL H o n]at h;obtain⟨c,a,b⟩:=u id l r f e h;exact⟨c,_,by rw[nL H o (by have:=i.get _ _ b;omega)];omega⟩
theorem aKS{l:db}{d:Nat}(q:bg H)(w:cg K Y B H tm l)(k:bU S H H')(n:bo K K')(a:aX Y A)(v:∀p r b,p.slot->B p=J (r,b)->ω' p=J (r,b)/\¬S r)(E:∀s,s≠d->ω' (.lb s)=B (.lb s))(D:∀id i,Y id=J i->¬S (rootOf H i)):cg K' A ω' H' tm (EO l d):=by
 intro t sv h;unfold EO at h;rw[rf l _]at h;rcases f:look l t with _|o;.grind
 obtain⟨c,e,g,m⟩:=w t _ f;by_cases hd:sv=.dd;.subst hd;exact⟨c,e,λx=>absurd rfl x,trivial⟩
 . have y:o=sv/\∀s I,o=.lp s I->s≠d:=by cases o<;>grind[vQ,bQ]
   obtain⟨rfl,z⟩:=y;exact⟨c,e,g,m.keep q k n a (λp r b u=>v p r b (by rcases u with rfl|⟨j,rfl⟩<;>trivial)) aU aU ai⟩
theorem aCT{d:Nat}{l:ao}(f:HR K Y B H O.lb O.g)(M:cg K Y B H tm O.sl)(F:bF K Y l m)(X:∀x,x∈l->x.aV=V):fR K Y B H {O with sl:=put (ix (EO O.sl d) d) d (.lp d 0),lb:=put O.lb d ⟨l,[]⟩} (tm.ins d (.ptr H.next 0)) (H.cT m .ex e):=by
 have u:bU (λ_=>False) H (H.cT m .ex e):=kh H _ _;have N:bg (H.cT m .ex e):=wC f.inv _ aU;let ω':aI:=λp=>match p with|.lb s=>if s=d then J (H.next,V)else B (.lb s)|.lc s I=>if s=d then Z else B (.lc s I)|p=>B p;have D:ω' (.lb d)=J (H.next,V):=ai;have back:∀p r b,ω' p=J (r,b)->(p=.lb d/\r=H.next/\b=V)\/(p≠.lb d/\B p=J (r,b)):=by grind
 have P:∀id x,K id=J x->rootOf (H.cT m .ex e) id=rootOf H id/\rootOf H id<H.next:=by intro id x g;obtain⟨z,A⟩:=x;obtain⟨r,E,g1,_⟩:=f.dy id z A g;have hid:=f.inv.get _ _ g1;refine⟨?_,rq f.inv hid⟩;unfold rootOf;rw[u.get id hid (λh=>h)]
 have Q:HR K Y ω' (H.cT m .ex e) (put O.lb d ⟨l,[]⟩) O.g:=by
   refine⟨N,?_,?_,?_,?_,?_,?_,f.mZ,NV f.inv f.hQ _ aU⟩;.intro id z A g;obtain⟨r,E,g1,g2⟩:=f.dy id z A g;exact⟨r,E,by rw[u.get id (f.inv.get _ _ g1) (λh=>h)];omega,g2⟩
   . intro p q r b c x y;rcases back p r b x with⟨rfl,rfl,_⟩|⟨v,j⟩
     . rcases back q _ c y with⟨rfl,_,_⟩|⟨_,n⟩;.rfl
       .have:=f.cF _ _ _ n;omega
     . rcases back q r c y with⟨rfl,rfl,_⟩|⟨_,n⟩;.have:=f.cF _ _ _ j;omega
       .exact f.inj _ _ _ _ _ j n
   . intro p r id x t g;obtain⟨v,j⟩:=P id x g;rw[v];rcases back p r _ t with⟨_,rfl,_⟩|⟨_,n⟩;.omega
     .exact f.clean p r id x n g
   . intro p r b t;have W:(H.cT m .ex e).next=H.next+1:=rfl;rcases back p r b t with⟨_,rfl,_⟩|⟨_,n⟩;.omega
     .have:=f.cF _ _ _ n;omega
   . intro s b w;rw[me]at w;by_cases e1:s=d
     . rw[if_pos e1]at w;cases w;subst e1;refine⟨_,D,m,_,e,mF H _,⟨rfl,aP⟩,?_,?_,F.1,λI x a g L=>⟨ai,?_⟩⟩;.show(H.br _).1<=H.next;rw[Bv f.inv ab];omega
       .show(H.br _).2=H.next;rw[Bv f.inv ab]
       .have hr:=F.2 _ x a g L;have R:=g;unfold eB;rw[R];cases x<;>first|exact hr|(cases hr;exact⟨rfl,rfl⟩)
     .rw[if_neg e1]at w;obtain⟨i,v,j⟩:=f.box s b w;refine⟨i,ai,j.keep f.inv u (a01 _) (a00 _) id λI r c x=>⟨ai,id⟩⟩
   .intro k o T;obtain⟨i,v,j,G⟩:=f.jm k o T;exact⟨i,v,j,G.keep f.inv u (a01 _) (a00 _) id λI r c x=>⟨x,id⟩⟩
 refine⟨K,Y,_,a01 _,f.gi u,a00 _,Q,?_,kh H _ _,λp r b t=>?_⟩;.have S:cg K Y ω' _ tm (EO _ d):=aKS f.inv M u (a01 _) (a00 _) (λp r b t h=>⟨by cases p<;>first|exact h|exact t.elim,id⟩) ai aU;exact xj N S (a02 _ _) (a01 _) (a00 _) (λ_ _ _ _ _ _ h=>⟨h,id⟩) aU aU aU (by intro i b U;grind)
 . rcases back p r b t with⟨_,rfl,_⟩|⟨_,h⟩;.omega
   .exact .inl ⟨p,b,h⟩
theorem QV{x:cq}{y:GO}(d:HR K Y B H lb g)(N:bg (H.alloc x))(P:rootOf (H.alloc x) H.next=H.next)(u:∀(a:cu)(ω':aI),aX Y a->(∀I,ω' (.gc g.next I)=Z)->AY K a ω' (H.alloc x) g.next y H.next):∃a ω',aX Y a/\a g.next=J H.next/\HR K a ω' (H.alloc x) lb (g.alloc y)/\(∀p r b,p.slot->B p=J (r,b)->ω' p=J (r,b))/\(∀s,ω' (.lb s)=B (.lb s))/\∀p r b,ω' p=J (r,b)->(∃q,B q=J (r,b))\/r=H.next:=by
 have m:bU (λ_=>False) H (H.alloc x):=kh H _ _;let a:=λk=>if k=g.next then J H.next else Y k;let ω':aI:=λp=>match p with|.g k=>if k=g.next then J (H.next,V)else B (.g k)|.gc k I=>if k=g.next then Z else B (.gc k I)|p=>B p;have f:aX Y a:=λk i h=>by
   by_cases e:k=g.next;.rw[d.mZ k ab]at h;grind
   grind
 have w:a g.next=J H.next:=ai;have back:∀p r b,ω' p=J (r,b)->(p=.g g.next/\r=H.next/\b=V)\/(p≠.g g.next/\B p=J (r,b)):=by grind
 have M:∀k y,K k=J y->rootOf (H.alloc x) k=rootOf H k/\rootOf H k<H.next:=by intro k y u;obtain⟨A,D⟩:=y;obtain⟨r,E,g1,_⟩:=d.dy k A D u;have hid:=d.inv.get _ _ g1;refine⟨?_,rq d.inv hid⟩;unfold rootOf;rw[m.get k hid (λh=>h)]
 refine⟨_,ω',f,w,⟨N,?_,?_,?_,?_,?_,?_,?_,NV d.inv d.hQ _ (λl r E e g=>by grind[lS,mF])⟩,?_,λs=>rfl,?_⟩;.intro k A D L;obtain⟨r,E,g1,g2⟩:=d.dy k A D L;exact⟨r,E,by rw[m.get k (d.inv.get _ _ g1) (λh=>h)];omega,g2⟩
 . intro p q r b c x y;rcases back p r b x with⟨rfl,rfl,_⟩|⟨n,o⟩
   . rcases back q _ c y with⟨rfl,_,_⟩|⟨_,j⟩;.rfl
     .have:=d.cF _ _ _ j;omega
   . rcases back q r c y with⟨rfl,rfl,_⟩|⟨_,j⟩;.have:=d.cF _ _ _ o;omega
     .exact d.inj _ _ _ _ _ o j
 . intro p r k y t u;obtain⟨n,o⟩:=M k y u;rw[n];rcases back p r _ t with⟨_,rfl,_⟩|⟨_,j⟩;.omega
   .exact d.clean p r k y j u
 . intro p r b t;have O:(H.alloc x).next=H.next+1:=rfl;rcases back p r b t with⟨_,rfl,_⟩|⟨_,j⟩;.omega
   .have:=d.cF _ _ _ j;omega
 .intro s b G;obtain⟨i,n,o⟩:=d.box s b G;exact⟨i,n,o.keep d.inv m (a01 _) f id λI r c x=>⟨x,id⟩⟩
 . intro k z v;have v:look (put _ _ y) k=J z:=v;rw[me]at v;by_cases e:k=g.next;.subst e;grind
   .rw[if_neg e]at v;obtain⟨i,n,o,F⟩:=d.jm k z v;refine⟨i,f _ _ n,ai,F.keep d.inv m (a01 _) f id λI r c x=>⟨ai,id⟩⟩
 .intro k m;have m:g.next+1<=k:=m;show(if k=g.next then _ else _)=_;rw[if_neg ab];exact d.mZ k ab
 .intro p r b t h;cases p<;>first|exact h|exact t.elim
 grind
theorem UH{c:ao}{f:fS}{p:Nat->Pk}{o:List (Nat×aN)}(g:o=[]\/o=[(c.length,.full e)])(q:bg H)(u:f.wr=V)(d:bF K Y c m)(r:∀x,x∈c->x.aV=V)(l:∀I,B (p I)=Z):pF K Y B (H.cT m f e) p ⟨c,o⟩ H.next:=by
 refine⟨m,_,e,mF H _,⟨u,λk t h=>by rcases g with rfl|rfl<;>simp_all⟩,?_,?_,d.1,λI x a b j=>⟨ai,?_⟩⟩;.show(H.br _).1<=H.next;grind[Bv]
 .show(H.br _).2=H.next;grind[Bv]
 . have hr:=d.2 _ x a b j;have n:=b;have i:=(am.1 b).1;have E:look o I=Z:=by
    rcases g with rfl|rfl;.rfl
    .show(bif aw c.length I then _ else _)=Z;rw[bQ,Bq (by have:I<c.length:=i;omega)];rfl
   unfold eB;rw[n];simp only[E];cases x<;>first|exact hr|(cases hr;exact⟨rfl,rfl⟩)
theorem aCS{d:Nat}{c:ao}(a:HR K Y B H O.lb O.g)(A:cg K Y B H tm O.sl)(z:bF K Y c m)(D:∀x,x∈c->x.aV=V):fR K Y B H {O with sl:=put (ix O.sl d) d (.dv (.ptr O.g.next 0) .no),g:=O.g.alloc (.box ⟨c,[]⟩)} (tm.ins d (.ptr H.next 0)) (H.cT m .ex e):=by
 have N:bg (H.cT m .ex e):=wC a.inv _ (λl r F E g=>ai);obtain⟨n,ω',o,s,u,v,G,w⟩:=QV (y:=.box _) a N (lS (mF H _)) λn ω' i k=>UH (.inl rfl) a.inv rfl (z.mono (a01 _) i) D k;refine⟨K,_,_,a01 _,a.gi (kh H _ (λ_=>False)),o,u,?_,kh H _ _,λp r b f=>?_⟩;.refine xj a.inv A (kh H _ _) (a01 _) o (λp r b _ _ f h=>⟨v p r b ?_ h,id⟩) aU aU aU (DR.ptr _ _ _ s);rcases f with⟨t,rfl⟩|⟨t,j,rfl⟩<;>trivial
 . rcases w p r b f with⟨q,h⟩|rfl;.exact .inl ⟨q,b,h⟩
   omega
theorem BG{L:Bool}{c:ao}(a:HR K Y B H O.lb O.g)(s:cg K Y B H tm O.sl)(b:bF K Y c m)(i:∀x,x∈c->x.aV=V)(h:DC L O dst c=J st'):(∀d,dst=J d->d<O.n)/\fR K Y B H st' (gX tm dst (.ptr H.next 0)) (H.cT m .ex e)/\st'.n=O.n/\st'.fn=O.fn:=by
 unfold DC at h;rcases dst with _|d;.grind
 simp only[eP]at h;by_cases hd:d<O.n;.simp only[hd,dX,aR]at h;cases L with|true=>cases h;exact⟨λt e=>ai,aCS a s b i,rfl,rfl⟩|false=>cases h;exact⟨λt e=>ai,aCT a s b i,rfl,rfl⟩
 grind
def FE(k:Kd)(a:Bool)(H:Heap)(o:cq):uv B k a H (H.alloc o):=⟨rfl,λ_ _ h=>h,λ_ _ _ h=>h,λ_ h=>.inl h,λ_ h=>.inl h⟩
theorem alV(c:HR K Y B H O.lb O.g)(s:cg K Y B H tm O.sl)(d:o.op=.alloc e)(h:dF P aq fk gs cr later O o=J st'):eT P ak rec cf K Y B H st0 O st' tm o:=by unfold dF at h;rw[d]at h;obtain⟨z,b,h⟩:=aF h;obtain⟨a,i,b⟩:=aF b;obtain⟨m,j,f,g⟩:=(CQ b).cells;obtain⟨f1,f2,f3,f4⟩:=BG (e:=e) c s f g h;refine⟨_,_,?_,f1,f2,f3,f4,FE _ _ _ _⟩;simp_all[fF,dY,GV,mq]
theorem anh(g:dB P K Y aq)(c:HR K Y B H O.lb O.g)(s:cg K Y B H tm O.sl)(d:o.op=.box e x)(n:jP O x)(h:dF P aq fk gs cr later O o=J st'):eT P ak rec cf K Y B H st0 O st' tm o:=by unfold dF at h;rw[d]at h;obtain⟨z,f,h⟩:=aF h;obtain⟨a,k,l,b⟩:=te g s n f;obtain⟨m,p,i,j⟩:=b.cells;obtain⟨f1,f2,f3,f4⟩:=BG (e:=e) c s i j h;refine⟨_,_,?_,f1,f2,f3,f4,FE _ _ _ _⟩;simp_all[fF,dY,GX]
end
section
variable{P:aH}{K K':aY}{Y A:cu}{B ω':aI}{H H':Heap}{S:Nat->Prop}
open Classical in def aY.plus(K:aY)(H:Heap)(R:Nat->Prop):aY:=λi=>match K i with|some x=>J x|none=>if R (rootOf H i)/\(H.br (rootOf H i)).2=i/\(H.br (rootOf H i)).1<=i then s8 H i else Z
open Classical in def aI.plus(a:aI)(R:Nat->Prop):aI:=λp=>(a p).map λx=>(x.1,if R x.1 then C else x.2)
theorem aY.po(K:aY)(H:Heap)(R:Nat->Prop):bo K (K.plus H R):=λi x h=>by grind[aY.plus]
def a27:=@aY.po
theorem aY.WL{K:aY}{H:Heap}{j:Nat}{x:aJ×an}(h:K.plus H R j=J x):K j=J x\/R (rootOf H j):=by grind[aY.plus]
theorem aI.Gd{r:Nat}{b:Bool}(h:B.plus R p=J (r,b)):∃a,B p=J (r,a)/\(b=V->a=V/\¬R r):=by cases o:B p<;>grind[aI.plus]
theorem aI.Rc{r:Nat}{b:Bool}(h:B p=J (r,b)):∃a,B.plus R p=J (r,a)/\(¬R r->a=b):=by grind[aI.plus]
theorem Rb(a:HR K Y B H lb g)(R:Nat->Prop)(n:∀r,R r->∃p,B p=J (r,V)):(∀i cells e,K.plus H R i=J (cells,e)->∃root l,H.get i=J (.cells cells root l e)/\(H.br root).1<=i)/\(∀p q r b c,B.plus R p=J (r,b)->B.plus R q=J (r,c)->p=q)/\(∀p r i x,B.plus R p=J (r,V)->K.plus H R i=J x->rootOf H i≠r)/\∀p r b,B.plus R p=J (r,b)->r<H.next:=by
 refine⟨?_,?_,?_,?_⟩;.intro i cells e h;unfold aY.plus at h;cases k:K i with|some x=>rw[k]at h;cases h;exact a.dy i _ e k|none=>grind[s8,lS]
 .intro p q r b c d f;obtain⟨j,k1,_⟩:=aI.Gd d;obtain⟨m,k2,_⟩:=aI.Gd f;exact a.inj _ _ _ _ _ k1 k2
 .intro p r i x d f;obtain⟨j,k1,k2⟩:=aI.Gd d;obtain⟨rfl,o⟩:=k2 rfl;unfold aY.plus at f;cases k:K i with|some y=>exact a.clean p r i y k1 k|none=>grind
 .intro p r b h;obtain⟨j,k1,_⟩:=aI.Gd h;exact a.cF _ _ _ k1
theorem cQ.MY{d:DV}{o:aN}(q:∀r,B p=J (r,V)->¬R r)(h:cQ K Y B H p d a o):cQ (K.plus H R) Y (B.plus R) H p d a o:=by cases o with|no=>exact a10 (a27 _ _ _) (a00 _) h|any=>exact h|full e=>exact⟨a10 (a27 _ _ _) (a00 _) h.1,h.2⟩|ty e=>refine⟨a10 (a27 _ _ _) (a00 _) h.1,h.2.imp id ?_⟩;rintro⟨r,b,f,g⟩;obtain⟨k,j,_⟩:=aI.Rc (R:=R) f;grind|ex e=>refine Or.imp id ?_ h;rintro⟨r,f,g⟩;obtain⟨k,j,n⟩:=aI.Rc f;have:=n (q r f);subst this;obtain⟨l,s,i,I,c,cells,m,g1,g2,g3,g4,g5,g6,g7,g8⟩:=g.ex;exact⟨r,j,⟨l,_,i,_,c,_,m,g1,g2,g3,g4,g5,g6,g7.mono (a27 _ _ _) (a00 _),g8⟩⟩
theorem cQ.Gc(s:HR K Y B H lb g){d:DV}{o:aN}(U:∀r,B p=J (r,V)->R r)(h:cQ K Y B H p d a o):cQ (K.plus H R) Y (B.plus R) H p d a (oL o)/\DR (K.plus H R) Y d a:=by cases o with|no=>exact⟨a10 (a27 _ _ _) (a00 _) h,a10 (a27 _ _ _) (a00 _) h⟩|any=>obtain⟨rfl,rfl⟩:=h;exact⟨⟨rfl,rfl⟩,.nl⟩|full e=>exact⟨⟨a10 (a27 _ _ _) (a00 _) h.1,h.2⟩,a10 (a27 _ _ _) (a00 _) h.1⟩|ty e=>refine⟨⟨a10 (a27 _ _ _) (a00 _) h.1,h.2.imp id ?_⟩,a10 (a27 _ _ _) (a00 _) h.1⟩;rintro⟨r,b,f,m⟩;obtain⟨v,A,_⟩:=aI.Rc (R:=R) f;grind|ex e=>
 rcases h with⟨rfl,rfl⟩|⟨r,f,m⟩;.exact⟨⟨.nl,.inl rfl⟩,.nl⟩
 . obtain⟨i,cells,S,X,⟨M,Q⟩,G,N,O⟩:=m.dy s f;obtain⟨l,z,t,I,c,T,w,g1,g2,g3,g4,g5,g6,g7,g8⟩:=m.ex;have L:bo (K.add (H.br r).2 (T,e)) (K.plus H R):=by
    intro j y n;unfold aY.add at n;by_cases q:j=(H.br r).2
    . have E:=q.trans g6;subst E;have u:=lS g3;unfold aY.plus;have P:K j=Z:=by
       rcases F:K j with _|x;.rfl
       exact absurd u (s.clean p r j x f F)
      grind[Qm]
    .rw[if_neg q]at n;exact a27 _ _ _ j y n
   have W:DR (K.plus H R) Y d a:=by subst g1;subst g2;refine .ay l e _ t _ c _ (L t _ (by grind[aY.add])) g7.1 g7.2.1 ?_ g7.2.2.1 λk x j d a x1 x2 x3=>(g7.2.2.2 k x j d a x1 x2 x3).mono (a27 _ _ _) (a00 _);rcases g8 with⟨D,_⟩|D<;>grind
   obtain⟨v,A,_⟩:=aI.Rc (R:=R) f;exact⟨⟨W,aU⟩,W⟩
end
section
variable{P:aH}{ak:ct}{rec:Rec}{cf:bV}{K K':aY}{Y A:cu}{B ω':aI}{H H':Heap}{S:Nat->Prop}
variable{aq:Nat->ah ao}{gs cr:aE}{fk:bY->Nat}{later:List aB}{st0 O st':St}{tm:Tr AV}{o:aB}
inductive Loc where|l(s:Nat)|g(id:Nat)deriving DecidableEq
def Loc.pk:Loc->Nat->Pk|.l s,I=>.lc s I|.g id,I=>.gc id I
def Loc.top:Loc->Pk|.l s=>.lb s|.g id=>.g id
theorem Loc.aMY{x y:Loc}(h:x.top=y.top):x=y:=by cases x<;>cases y<;>simp_all[Loc.top]
theorem Loc.aMX{x:Loc}{i:Nat}(h:Pk.g i=x.top):x=.g i:=by cases x<;>grind[Loc.top]
def St.at(t:St):Loc->ah LB|.l s=>look t.lb s|.g id=>match t.g.get id with|some (.box b)=>J b|_=>Z
def St.setAt(t:St)(x:Loc)(b:LB):St:=match x with|.l s=>{t with lb:=put t.lb s b}|.g id=>{t with g:=t.g.set id (.box b)}
theorem Z5(s:St)(x:Loc)(b:LB):(s.setAt x b).n=s.n/\(s.setAt x b).fn=s.fn/\(s.setAt x b).sl=s.sl:=by cases x<;>exact⟨rfl,rfl,rfl⟩
theorem HR.at{x:Loc}{b:LB}(d:HR K Y B H O.lb O.g)(h:O.at x=J b):∃i,B x.top=J (i,V)/\pF K Y B H x.pk b i/\∀id,x=.g id->Y id=J i:=by
 rcases x with s|id;.obtain⟨i,c,a⟩:=d.box s b h;exact⟨i,c,a,λid e=>ai⟩
 unfold St.at at h;simp only at h;split at h;.rename_i j g;cases h;obtain⟨i,c,a,f⟩:=d.jm id _ g;exact⟨i,a,f,λq e=>ai⟩
 grind
theorem HR.Gy{x:Loc}{b b':LB}{i:Nat}(D:HR K Y B H O.lb O.g)(hb:O.at x=J b)(hi:B x.top=J (i,V))(W:bo K K')(k:bU S H H')(cN:bg H')(hu:pN H')(dy:∀id cells e,K' id=J (cells,e)->∃root T,H'.get id=J (.cells cells root T e)/\(H'.br root).1<=id)(L:∀p q r b c,ω' p=J (r,b)->ω' q=J (r,c)->p=q)(z:∀p r id x,ω' p=J (r,V)->K' id=J x->rootOf H' id≠r)(X:∀p r b,ω' p=J (r,b)->r<H'.next)(yx:∀s,ω' (.lb s)=B (.lb s))(Q:∀id,ω' (.g id)=B (.g id))(P:∀y I d a o,y≠x->cQ K Y B H (Loc.pk y I) d a o->cQ K' Y ω' H' (Loc.pk y I) d a o)(hS:∀p r b,(∃s,p=.lb s)\/(∃id,p=.g id)->p≠x.top->B p=J (r,b)->¬S r)(lL:pF K' Y ω' H' x.pk b' i):HR K' Y ω' H' (O.setAt x b').lb (O.setAt x b').g:=by
 have f:∀(y:Loc)(n:LB)(j:Nat),y≠x->B y.top=J (j,V)->pF K Y B H y.pk n j->pF K' Y ω' H' y.pk n j:=by intro y n j hy N h;obtain⟨m,T,e,t,w,A,h4,U,M⟩:=h;have F:¬S j:=hS y.top j V (by cases y;exact .inl ⟨_,rfl⟩;exact .inr ⟨_,rfl⟩) (λe=>hy (Loc.aMY e)) N;have hid:=D.inv.get _ _ t;have hf:=k.dz j hid F;refine⟨m,T,e,?_,w,ai,ai,U,λI d a u v=>⟨(M I d a u v).1,P y I d a _ hy (M I d a u v).2⟩⟩;rw[k.get j hid (by grind[lS])];omega
 have aOF:∀(id:Nat)(E:GO)(j:Nat),x≠.g id->B (.g id)=J (j,V)->AY K Y B H id E j->AY K' Y ω' H' id E j:=by intro id E j hx N h;have F:¬S j:=hS (.g id) j V (.inr ⟨_,rfl⟩) (λe=>hx (Loc.aMX e)) N;cases E with|box n=>exact f (.g id) n j (λe=>hx e.symm) N h|map es Ts=>obtain⟨fs,t,w,A⟩:=h;refine⟨fs,?_,w,λj x y a b=>⟨(A j x y a b).1.mono W (a00 _),(A j x y a b).2.1.mono W (a00 _),(A j x y a b).2.2⟩⟩;rw[k.get j (D.inv.get _ _ t) (by grind[rootOf])];omega|loop r=>obtain⟨R,t,w,A,h4,U,M,h7,h8,h9⟩:=h;refine⟨R,?_,w,A,h4,U,M,h7,h8,h9.mono W (a00 _)⟩;rw[k.get j (D.inv.get _ _ t) (by grind[rootOf])];omega
 cases x with|l s0=>
 refine⟨cN,dy,L,z,X,λs n h=>?_,λid E h=>?_,D.mZ,hu⟩
 . have h:look (put O.lb s0 b') s=J n:=h;rw[me]at h;by_cases e:s=s0;.rw[if_pos e]at h;cases h;subst e;exact⟨i,by rw[yx];exact hi,lL⟩
   .rw[if_neg e]at h;obtain⟨j,t,w⟩:=D.box s n h;exact⟨j,ai,f (.l s) n j (λx=>e (Loc.l.inj x)) t w⟩
 .obtain⟨j,t,w,A⟩:=D.jm id E h;grind|g G=>
 refine⟨cN,dy,L,z,X,λs n h=>?_,λid E h=>?_,D.mZ,hu⟩;.obtain⟨j,t,w⟩:=D.box s n h;exact⟨j,ai,f (.l s) n j aP t w⟩
 . have h:look (put O.g.kj G (.box b')) id=J E:=h;rw[me]at h;by_cases e:id=G;.rw[if_pos e]at h;cases h;subst e;obtain⟨j,t,w,A⟩:=D.at hb;have:j=i:=ai;subst this;exact⟨j,A id rfl,by rw[Q];exact hi,lL⟩
   .rw[if_neg e]at h;obtain⟨j,t,w,A⟩:=D.jm id E h;grind
theorem Loc.Cd{x y:Loc}{i j:Nat}(h:x.pk i=y.pk j):x=y/\i=j:=by cases x<;>cases y<;>simp_all[Loc.pk]
def a55:=@Loc.Cd
theorem Loc.Az(x:Loc)(i:Nat):¬(x.pk i).slot:=by cases x<;>exact id
def a47:=@Loc.Az
theorem Loc.Ce(x:Loc)(i s:Nat):x.pk i≠.lb s:=by cases x<;>simp[Loc.pk]
def a54:=@Loc.Ce
theorem Loc.MW(x:Loc)(i s:Nat):x.pk i≠.g s:=by cases x<;>simp[Loc.pk]
theorem oE{g:db}(E:cg K Y B H tm g)(f:∀p r,p.slot->B p=J (r,V)->¬R r):cg (K.plus H R) Y (B.plus R) H tm g:=by
 intro t sv D;obtain⟨a,q,w,c⟩:=E t sv D;refine⟨a,q,w,?_⟩;rcases sv with⟨d,o⟩|l|⟨s,I⟩|d|s|⟨s,i,I⟩|⟨id,I⟩|n|_;.exact cQ.MY (λr h=>f (.sl t) r trivial h) c
 .obtain⟨m,g1,g2,g3⟩:=c;exact⟨m,g1,g2,λj x y u v=>cQ.MY (λr h=>f (.tp t j) r trivial h) aU⟩
 .intro i b A;obtain⟨k,z,_⟩:=aI.Gd A;exact c i k z
 .obtain⟨id,I,cells,e,g1,g2,g3,g4,g5⟩:=c;exact⟨id,_,_,e,g1,a27 _ _ _ _ _ g2,g3,g4,g5.mono (a27 _ _ _) (a00 _)⟩
 .exact c
 .exact c
 .exact c
 .exact c
 trivial
theorem aGj(b:LB)(o:Nat):eB {b with own:=b.own.map λ(x:Nat×aN)=>(x.1,oL x.2)} o=oL (eB b o):=by unfold eB;cases b.cells[o]? with|none=>dsimp only;rw[rf b.own oL];cases look b.own o<;>rfl|some d=>cases d<;>first|rfl|(dsimp only;rw[rf b.own oL];cases look b.own o<;>rfl)
theorem ahe{a:Type}(l:List (Nat×a))(f:Nat->Bool){n:Nat}(h:f n=V):look (l.filter λx=>f x.1) n=look l n:=by induction l<;>grind[look,bQ]
theorem ahc(l:List (Nat×aN)){n:Nat}(h:n≠I):look (dg l I 1) n=look l n:=by refine ahe l (λk=>cw k _||bz _ k) ?_;grind[eP,dp]
theorem ani{x:Loc}{b:LB}{i:Nat}(c:HR K Y B H O.lb O.g)(Q:cg K Y B H tm O.sl)(M:O.at x=J b)(N:B x.top=J (i,V))(T:pF K Y B H x.pk b i):∃K' ω',oR B H K K'/\HR K' Y ω' H (O.setAt x {b with own:=b.own.map λ(x:Nat×aN)=>(x.1,oL x.2)}).lb (O.setAt x {b with own:=b.own.map λ(x:Nat×aN)=>(x.1,oL x.2)}).g/\cg K' Y ω' H tm O.sl/\(∀p r b,ω' p=J (r,b)->∃k,B p=J (r,k))/\∀m,(∃r l e,H.get i=J (.cells m r l e))->bF K' Y b.cells m:=by
 let R:Nat->Prop:=λr=>∃I,B (x.pk I)=J (r,V);have t:∀r,R r->∃p,B p=J (r,V):=λr⟨I,h⟩=>⟨_,h⟩;have U:∀p r,(∀I,p≠x.pk I)->B p=J (r,V)->¬R r:=λp r g h⟨I,f⟩=>g I (c.inj _ _ _ _ _ h f);obtain⟨z,A,c3,D⟩:=Rb c R t;have e2:∀p,(∀I,p≠x.pk I)->B.plus R p=B p:=by
   intro p g;unfold aI.plus;rcases h:B p with _|y;.rfl
   obtain⟨r,W⟩:=y;have:¬R r:=λ⟨I,f⟩=>g I (c.inj _ _ _ _ _ h f);grind
 obtain⟨m,l,e,n,f,G,L,o,q⟩:=T;refine⟨_,_,⟨a27 _ _ _,λj x P=>(aY.WL P).imp_right λh=>let⟨p,h⟩:=t _ h;⟨p,_,h⟩⟩,?_,oE Q λp r g h=>U p r (λI e=>a47 x I (e▸g)) h,λp r b h=>let⟨k,F,_⟩:=aI.Gd h;⟨k,F⟩,?_⟩
 . refine HR.Gy (S:=λ_=>False) c M N (a27 _ _ _) (a02 _ _) c.inv c.hQ z A c3 D (λs=>e2 _ λI=>(a54 x I s).symm) (λid=>e2 _ λI=>(Loc.MW x I id).symm) ?_ (λ_ _ _ _ _ _=>id) ?_;.grind[cQ.MY,Loc.Cd]
   .refine⟨m,l,e,n,f.share,G,L,o,λI d a u v=>⟨(q I d a u v).1,?_⟩⟩;grind[aGj,cQ.Gc]
 .rintro m'⟨r,E,X,w⟩;rw[n]at w;obtain⟨rfl,_⟩:=cq.cells.inj (bE w);exact⟨o,λI d a u v=>(cQ.Gc c (λr hr=>⟨I,hr⟩) (q I d a u v).2).2⟩
theorem an8{x:Loc}{b:LB}{i:Nat}{d:DV}{r0 Q N}(c:HR K Y B H O.lb O.g)(hs:cg K Y B H tm O.sl)(hb:O.at x=J b)(hi:B x.top=J (i,V))(lL:pF K Y B H x.pk b i)(D:H.get i=J (.cells m r0 Q N))(A:b.cells[I]?=J d)(X:m[I]?=J a)(ho:eB b I=.ex e):∃K' ω',oR B H K K'/\HR K' Y ω' H (O.setAt x {b with own:=(I,.ty e)::dg b.own I 1}).lb (O.setAt x {b with own:=(I,.ty e)::dg b.own I 1}).g/\cg K' Y ω' H tm O.sl/\(∀p r b,ω' p=J (r,b)->∃l,B p=J (r,l))/\DR K' Y d a:=by
 let R:Nat->Prop:=λr=>B (x.pk I)=J (r,V);have z:∀r,R r->∃p,B p=J (r,V):=λr h=>⟨_,h⟩;have yw:∀p r,p≠x.pk I->B p=J (r,V)->¬R r:=λp r k h g=>k (c.inj _ _ _ _ _ h g);obtain⟨E,F,c3,G⟩:=Rb c R z;have e2:∀p,p≠x.pk I->B.plus R p=B p:=by
   intro p k;unfold aI.plus;rcases h:B p with _|y;.rfl
   obtain⟨r,bb⟩:=y;have:¬R r:=λg=>k (c.inj _ _ _ _ _ h g);grind
 obtain⟨m',n,M,t,g,T,U,W,w⟩:=lL;rw[t]at D;obtain⟨rfl,_⟩:=cq.cells.inj (bE D);have L:=cQ.Gc c (R:=R) (λr hr=>hr) (w I d a A X).2;refine⟨_,_,⟨a27 _ _ _,λj x hj=>(aY.WL hj).imp_right λh=>let⟨p,h⟩:=z _ h;⟨p,V,h⟩⟩,?_,oE hs λp r k h=>yw p r (λe=>a47 x I (e▸k)) h,λp r b h=>let⟨l,S,_⟩:=aI.Gd h;⟨l,S⟩,L.2⟩;refine HR.Gy c hb hi (a27 _ _ _) (a02 _ _) c.inv c.hQ E F c3 G (λs=>e2 _ (a54 x _ s).symm) (λid=>e2 _ (Loc.MW x _ id).symm) ?_ (λ_ _ _ _ _ _=>id) ?_;.grind[cQ.MY,Loc.Cd]
 . refine⟨m',n,M,t,g.apo _ _,T,U,W,λf q o u v=>⟨(w f q o u v).1,?_⟩⟩;by_cases P:f=I
   . subst P;obtain rfl:d=q:=ai;obtain rfl:a=o:=ai;rw[ho]at L;unfold eB;show cQ _ _ _ _ _ _ _ (match b.cells[f]? with|some .nl=>aN.any|_=>(look ((f,aN.ty e)::dg b.own f 1) f).getD .no);rw[A];have pW:d≠.nl:=by grind[eB]
     cases d<;>first|exact absurd rfl pW|(simp only[look,bQ,dX,aR,Eo];exact L.1)
   grind[eB,look,bQ,ahc,cQ.MY,Loc.Cd]
theorem OH{i:Nat}{r f e}(h:H.get i=J (.cells m r f e))(l:(H.br r).1<=i):H.cellsOf i=J m:=by grind[Heap.cellsOf,dp]
theorem HJ{i n:Nat}{r f e}(h:H.get i=J (.cells m r f e))(l:(H.br r).1<=i)(c:bN P t=J V)(a:aW P t=J n)(b:I+n<=m.length):AM.loadVar P H t i I=J (AV.agg ((m.drop I).take n)):=by
 unfold AM.loadVar;have:H.load i I n=J ((m.drop I).take n):=by unfold Heap.load;rw[OH h l];grind[dp,dZ,qg,qQ]
 grind
theorem VT{i:Nat}{r f e}(g:H.get i=J (.cells m r f e))(l:(H.br r).1<=i)(b:bN P t=J C)(h:m[I]?=J a):AM.loadVar P H t i I=J a:=by unfold AM.loadVar;rw[b];simp only[OH g l,cU,xa,h]
def AN(x:Loc)(o:Nat)(d:ah Nat):Pk->ah Pk:=λp=>if(∃k,d=J k/\p=.sl k)then J (x.pk o)else if p=x.pk o then Z else J p
theorem aK5{x:Loc}{d:ah Nat}:∀p q y,AN x I d p=J y->AN x I d q=J y->p=q:=by
 intro p q y h b;unfold AN at h b;by_cases a:∃k,d=J k/\p=.sl k;.grind
 . rw[if_neg a]at h;split at h;.grind
   .by_cases c:∃k,d=J k/\q=.sl k<;>grind
theorem aK6(x:Loc)(o d:Nat):AN x o (J d) (.sl d)=J (x.pk o):=by simp[AN]
theorem GD{x:Loc}{d:ah Nat}(h:∀k,d=J k->p≠.sl k)(a:p≠x.pk I):AN x I d p=J p:=by grind[AN]
theorem Wt(a:HR K Y B H lb g){src:Pk->ah Pk}(k:∀p q y,src p=J y->src q=J y->p=q):(∀p q r b c,B.of src p=J (r,b)->B.of src q=J (r,c)->p=q)/\(∀p r id x,B.of src p=J (r,V)->K id=J x->rootOf H id≠r)/\∀p r b,B.of src p=J (r,b)->r<H.next:=by
 refine⟨λp q r b c x y=>?_,λp r id x d f=>?_,λp r b d=>?_⟩;.obtain⟨l,i,h⟩:=a07 x;obtain⟨q0,j,e⟩:=a07 y;obtain rfl:=a.inj _ _ _ _ _ h e;grind
 .obtain⟨_,_,h⟩:=a07 d;exact a.clean _ _ _ _ h f
 .obtain⟨_,_,h⟩:=a07 d;exact a.cF _ _ _ h
theorem cQ.vd{q:Pk}{d:DV}{o:aN}(h:ω' q=B p)(c:cQ K Y B H p d a o):cQ K Y ω' H q d a o:=by cases o with|no=>exact c|any=>exact c|full e=>exact c|ty e=>exact⟨c.1,c.2.imp id λ⟨r,b,x1,x2⟩=>⟨r,b,ai,x2⟩⟩|ex e=>exact Or.imp id aU c
theorem aGh(b:LB)(c:ao){n:Nat}(h:n≠I)(a:c[n]?=b.cells[n]?):eB {cells:=c,own:=dg b.own I 1} n=eB b n:=by grind[eB,ahc]
theorem aci{f:Loc}{b:LB}{i:Nat}{D l:DV}{M:aN}{r0 fl e0}(o:HR K Y B H O.lb O.g)(hs:cg K Y B H tm O.sl)(hb:O.at f=J b)(hi:B f.top=J (i,V))(lL:pF K Y B H f.pk b i)(U:H.get i=J (.cells m r0 fl e0))(T:b.cells[I]?=J D)(ha:m[I]?=J a)(ho:eB b I=M)(kW:DR K Y l a)(iu:l.aV=V)(IF:l≠.nl)(h:aG (O.setAt f {cells:=iJ b.cells I l,own:=dg b.own I 1}) dst (.dv D M)=J st'):fR K Y B H st' (gX tm dst a) H:=by
 obtain⟨m',G,e',P,Q,L,h4,h5,R⟩:=lL;rw[P]at U;obtain⟨rfl,_⟩:=cq.cells.inj (bE U);have W:=(R I D a T ha).2;rw[ho]at W;obtain⟨c2,c3,c4⟩:=Wt o (aK5 (x:=f) (I:=I) (d:=dst));have cI:∀k,dst=J k->∀y j,Loc.pk y j≠.sl k:=λk _ y j e=>a47 y j (e▸trivial);have hlen:I<b.cells.length:=(am.1 T).1;have X:∀n,n≠I->(iJ b.cells I l)[n]?=b.cells[n]?:=by grind[iJ]
 have A:(iJ b.cells I l)[I]?=J l:=by grind[iJ]
 have oy:HR K Y (B.of (AN f I dst)) H (O.setAt f {cells:=iJ b.cells I l,own:=dg b.own I 1}).lb (O.setAt f {cells:=iJ b.cells I l,own:=dg b.own I 1}).g:=by
   refine HR.Gy (S:=λ_=>False) o hb hi (a01 _) (a02 _ _) o.inv o.hQ o.dy c2 c3 c4 (λs=>?_) (λid=>?_) ?_ (λ_ _ _ _ _ _=>id) ?_;.unfold aI.of;rw[GD (λk _=>aP) (a54 f I s).symm];rfl
   .unfold aI.of;rw[GD (λk _=>aP) (Loc.MW f I id).symm];rfl
   .intro y g d1 F o1 hy z;exact z.vd (by grind[aI.of,GD,Loc.Cd])
   . refine⟨m',G,e',P,Q.drop _ _,L,h4,?_,λg d1 F u v=>?_⟩;.grind[iJ]
     . have u:(iJ b.cells I l)[g]?=J d1:=u;by_cases E:g=I
       . subst E;rw[A]at u;cases u;obtain rfl:a=F:=ai;refine⟨iu,?_⟩;have:eB {cells:=iJ b.cells g l,own:=dg b.own g 1} g=.no:=by
          unfold eB;show(match(iJ b.cells g l)[g]? with|some .nl=>aN.any|_=>(look (dg b.own g 1) g).getD .no)=_;rw[A];have BJ:look (dg b.own g 1) g=Z:=by unfold dg;induction b.own<;>grind[look,eP,dp,bQ]
          grind
         rw[this];exact kW
       .rw[X g E]at u;obtain⟨k1,k2⟩:=R g d1 F u v;refine⟨k1,?_⟩;rw[aGh b _ E (X g E)];exact k2.vd (by grind[aI.of,GD,Loc.Cd])
 have cY:(O.setAt f {cells:=iJ b.cells I l,own:=dg b.own I 1}).sl=O.sl:=(Z5 O f _).2.2;have N:∀p r c,B.of (AN f I dst) p=J (r,c)->dO B r\/H.next<=r:=λp r c z=>let⟨q,_,h⟩:=a07 z;.inl ⟨q,c,h⟩;have w:∀p r c,p.slot->(∀k,dst=J k->p≠.sl k)->B p=J (r,c)->B.of (AN f I dst) p=J (r,c):=by intro p r c z hk h;unfold aI.of;rw[GD hk (λe=>a47 f I (e▸z))];grind
 rcases yQ h with⟨rfl,rfl⟩|⟨k,rfl,_,hr,rfl⟩;.refine⟨K,Y,_,a01 _,o.gi (a02 (λ_=>False) _),a00 _,oy,?_,a02 _ _,N⟩;rw[cY];intro t sv hl;obtain⟨a0,g1,g2,g3⟩:=hs t sv hl;refine⟨a0,g1,g2,g3.keep (S:=λ_=>False) o.inv (a02 _ _) (a01 _) (a00 _) (λp r c z h=>⟨w p r c (by rcases z with rfl|⟨j,rfl⟩<;>trivial) (λk e=>ai) h,id⟩) (λs g i' b' _ h=>?_) (λ_ _=>rfl) (λ_ _ _ _ _=>id)⟩;grind[aI.iI,GD,Loc.Ce]
 . refine⟨K,Y,_,a01 _,o.gi (a02 (λ_=>False) _),a00 _,oy,?_,a02 _ _,N⟩;show cg _ _ _ _ _ (put (ix (O.setAt f _).sl k) k (.dv D M));rw[cY];refine xj (S:=λ_=>False) o.inv hs (a02 _ _) (a01 _) (a00 _) (λp r c _ Q L h=>⟨w p r c ?_ (λk' e=>ai) h,id⟩) (λs i' b' h=>?_) (λ_ _ _=>id) (λ_=>W.rh) ?_;.rcases L with⟨t,rfl⟩|⟨t,j,rfl⟩<;>trivial
   .obtain⟨q,q1,q2⟩:=a07 h;rw[GD (λk e=>aP) (a54 f I s).symm]at q1;grind
   .exact W.vd (by simp[aI.of,aK6])
theorem HR.same{x:Loc}{b:LB}{i:Nat}(a:HR K Y B H O.lb O.g)(c:O.at x=J b)(d:B x.top=J (i,V))(l:pF K Y B H x.pk b i):HR K Y B H (O.setAt x b).lb (O.setAt x b).g:=HR.Gy (S:=λ_=>False) a c d (a01 _) (a02 _ _) a.inv a.hQ a.dy a.inj a.clean a.cF (λ_=>rfl) (λ_=>rfl) (λ_ _ _ _ _ _ h=>h) (λ_ _ _ _ _ _=>id) l
theorem JJ{l:ao}{i:Nat}{d:DV}(h:l[i]?=J d):iJ l i d=l:=by grind[iJ,Ei,Hl]
theorem aGi{b:LB}{d:DV}(a:b.cells[I]?=J d)(h:eB b I≠.any):d≠.nl:=by grind[eB]
theorem cQ.jk{d:DV}(h:cQ K Y B H p d a (.ex e)):DR K Y .jk a:=by
 rcases h with⟨_,rfl⟩|⟨r,_,b⟩;.exact .jk _ rfl rfl
 .obtain⟨l,s,id,I,c,cells,f,_,rfl,_⟩:=b.ex;exact .jk _ rfl rfl
theorem H0{x:Loc}{b:LB}{i:Nat}{u:iM}{r:SV×LB}(j:HR K Y B H O.lb O.g)(D:cg K Y B H tm O.sl)(o:O.at x=J b)(q:B x.top=J (i,V))(L:pF K Y B H x.pk b i)(l:fI P u t b I=J r)(h:aG (O.setAt x r.2) dst r.1=J st'):∃a,AM.loadVar P H t i I=J a/\fR K Y B H st' (gX tm dst a) H:=by have F:=L;obtain⟨m,fl,e,s,h2,X,h4,h5,h6⟩:=F;have cY:∀M,(O.setAt x M).sl=O.sl:=λM=>(Z5 O x M).2.2;unfold fI at l;cases R:bN P t with|none=>grind|some ag=>rw[R]at l;cases ag with
 |true=>
 simp only at l;obtain⟨n,A,l⟩:=aF l;rw[dp]at l;by_cases jb:I+n<=b.cells.length;.simp only[jb,dX,aR]at l;cases l;obtain⟨K1,U,w,z,s3,S,T⟩:=ani j D o q L;have hd:=T m ⟨_,fl,e,s⟩;refine⟨_,HJ s X R A ab,a19 j.inv w.1 (w.gi z) (a00 _) (a02 _ _) (λp r c Q=>let⟨G,N⟩:=S p r c Q;.inl ⟨p,G,N⟩) (Bh z ai h ?_)⟩;exact((hd.drop I).take n).agg λy hy=>by obtain⟨k,hk⟩:=a8.1 (SA (SB hy));have kN:k<m.length:=ai;exact(h6 k y m[k] hk (dC kN)).1
 grind|false=>simp only at l;cases hd:b.cells[I]? with|none=>grind|some d=>
 rw[hd]at l;obtain⟨IG,_⟩:=am.1 hd;have v:m[I]?=J m[I]:=dC ab;obtain⟨iu,W⟩:=h6 I d _ hd v;refine⟨_,VT s X R v,?_⟩;have plain:∀(sv:DV)(E:aN),eB b I=E->(∀e,E≠.ex e)->aG (O.setAt x b) dst (.dv d .no)=J st'->fR K Y B H st' (gX tm dst m[I]) H:=by intro _ E g cI h;rw[g]at W;refine Bh (HR.same j o q L) ai h ?_;cases E with|no=>exact W|any=>obtain⟨rfl,hx⟩:=W;rw[hx];exact .nl|full e=>exact W.1|ty e=>exact W.1|ex e=>grind
 have share:∀e,eB b I=.ex e->aG (O.setAt x {b with own:=(I,.ty e)::dg b.own I 1}) dst (.dv d .no)=J st'->fR K Y B H st' (gX tm dst m[I]) H:=by intro e g h;obtain⟨K1,U,w,z,s3,S,T⟩:=an8 j D o q L s hd v g;exact a19 j.inv w.1 (w.gi z) (a00 _) (a02 _ _) (λp r c Q=>let⟨G,N⟩:=S p r c Q;.inl ⟨p,G,N⟩) (Bh z ai h T)
 have f:pB u b I d (eB b I)=r:=bE l;cases g:eB b I with
 |ex e=>rw[g]at f;cases u with
  |take=>subst f;exact aci j D o q L s hd v g (cQ.jk (by rw[g]at W;omega)) rfl aP h|len=>have f:(match ni d with|some n=>(SV.hd n,b)|none=>(.dv d .no,{b with own:=(I,.ty e)::dg b.own I 1}))=r:=f;cases A:ni d with|none=>grind|some n=>rw[A]at f;subst f;refine xO (HR.same j o q L) ai h W.rh λ_ _ _=>?_;exact(Mu A (a57 j W):nO m[I]=J n)
  |none=>subst f;exact share e g h|ref=>subst f;exact share e g h|copy=>subst f;exact share e g h
 |ty e=>rw[g]at f;cases u with|take=>
  subst f;have gW:DR K Y d m[I]:=by rw[g]at W;exact W.1
  refine aci j D o q L s hd v g gW iu (aGi hd ai) ?_;rw[JJ hd];exact h|none=>subst f;exact plain d _ g aP h|len=>subst f;exact plain d _ g aP h|ref=>subst f;exact plain d _ g aP h|copy=>subst f;exact plain d _ g aP h
 |full e=>rw[g]at f;cases u<;>(subst f;exact plain d _ g aP h)|no=>rw[g]at f;cases u<;>(subst f;exact plain d _ g aP h)|any=>rw[g]at f;cases u with|take=>subst f;rw[g]at W;refine xO (HR.same j o q L) aU h (by rw[W.2];simp) λ_ _ _=>W|none=>subst f;exact plain d _ g aP h|len=>subst f;exact plain d _ g aP h|ref=>subst f;exact plain d _ g aP h|copy=>subst f;exact plain d _ g aP h
