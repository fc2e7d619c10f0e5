/- Proved: operations of the abstract machine answer as the model does. -/
import Derived.Test.YtlpehfnaibndgaaGreatDoorAa
open Option renaming some->J,none->Z
open Bool renaming true->V,false->C
open Go renaming TypeId->an,Oper->aB,Value->aD,Program->aH,Operand->aK,World->aV,Code->bM,FuncId->bW,Frame->di,lone->ff,IntKind->fR,MapEntry->kQ
open Go.Builtin renaming firstCells->oH,append_->tj,copy_->ze
open Go.Op renaming operands->eL
open Go.stepG renaming exec->ug
open Int renaming ofNat->dk
open Nat renaming beq->aw,ble->bt,blt->ct,succ->fg,mul->ft,add->im
open UInt8 renaming toNat->kj
noncomputable section
set_option linter.all false
namespace Go.AM
open Go
variable{r x:AV}{ats:Array an}{H':Heap}{es:List eI}{a m:Nat}{p:Pl}{s:Sem aD}{sv v xv:aD}{z:aI}{e elem kt t vt:an}
section
variable{P:aH}{S:Nat->Prop}{Y:bc}{H:Heap}{w:aV}
theorem amP{o:Nat}:∀(es:List eI)(s:List kQ)(i:Nat)(q:Nat×eI),nv Y es s->Og o es i=J q->∃j e m,q=(i+j,e)/\es[j]?=J e/\s[j]?=J m/\wo Y e m/\s.findIdx? (λe=>(e.born:Int)==(o:Int))=J j:=by intro es;induction es with|nil=>intro s i q d h;exact absurd (show(Z:ah (Nat×eI))=J q from h) aP|cons e es n=>
 intro s i q d h;rcases s with _|⟨m,s⟩;.have:=d.1;grind
 have g:=d.2 0 e m rfl rfl;have A:nv Y es s:=⟨by have:=d.1;grind,λj a b w f=>d.2 (j+1) a b ai ai⟩;have c:(bif aw e.2.2 o then J (i,e)else Og o es (i+1))=J q:=h;rw[bR]at c;by_cases f:e.2.2=o;.rw[mz f]at c;simp at c;refine⟨0,e,m,c.symm,rfl,rfl,g,?_⟩;rw[List.findIdx?_cons,g.2.2,f];simp
 . rw[Bd f]at c;simp at c;obtain⟨j,k,p,r,t,u,l,v⟩:=n s (i+1) q A c;refine⟨j+1,k,p,ai,ai,ai,l,?_⟩;have D:((m.born:Int)==(o:Int))=C:=by rw[g.2.2,beq_eq_false_iff_ne];omega
   grind
theorem aqb(A:bg H)(s:bQ S Y H w){r c b:Nat}{kk:fR}{q:Nat×eI}(n:Y r=J p)(y:S (rootOf H r))(l:H.get r=J (.map es c))(D:VR Y x xv)(h:Og b es 0=J q):∃f,(Instr.entryStore t (.map (J p.aZ)) (.int kk (.ofNat b)) xv).run P w=.ok () f/\bg (H.put r r (.map (vO es q.1 (q.2.1,x,q.2.2.2)) c))/\bQ S Y (H.put r r (.map (vO es q.1 (q.2.1,x,q.2.2.2)) c)) f/\Fr Y H w Y (H.put r r (.map (vO es q.1 (q.2.1,x,q.2.2.2)) c)) f:=by
 obtain⟨a,i,k,z⟩:=Al s n y l;obtain⟨j,e,m,rfl,o,u,g,v⟩:=amP es a.toList 0 q k h;have B:j<es.length:=(am.1 o).1;have d:a.findIdx? (λe=>(e.born:Int)==(b:Int))=J j:=by rw[<-List.findIdx?_toArray,Array.toArray_toList]at v;omega
 refine⟨_,?_,DA A s (a.modify j λe=>{e with val:=xv}) n l z ?_⟩;.simp[Instr.entryStore,va i,asInt,asIntOf,d,DF i]
 .simp only[kE];rw[agZ _ _ _ B,abk _ _ _ u];exact k.set ⟨g.1,D,g.2.2⟩
theorem Ms(h:bg H)(s:bQ S Y H w)(o:ch)(O:Obj)(c:o.dZ=C)(a:mq Y (World.push w O) o ⟨w.heap.size,0,0,0⟩):(newObj O).run P w=.ok w.heap.size (World.push w O)/\fo Y H.next ⟨w.heap.size,0,0,0⟩ H.next=J ⟨w.heap.size,0,0,0⟩/\ig S Y H w (fo Y H.next ⟨w.heap.size,0,0,0⟩) (H.alloc o) (World.push w O):=by refine⟨by rfl,jH _ _ _,Kg h s o O _ rfl ?_ a⟩;grind[ch.dZ]
theorem aG2(i:bg H)(s:bQ S Y H w)(R:P.underlying t=J (.map kt vt))(d:VR Y .fU v):∃u b a,(Instr.range t v).run P w=.ok u a/\VR b (.ptr H.next 0) u/\ig S Y H w b (H.alloc (.mapIter Z 0 [] 0)) a:=by cases d;obtain⟨e,h,c⟩:=Ms (P:=P) i s (.mapIter Z 0 [] 0) (.mapIter Z 0 #[] 0) rfl ⟨rfl,Z,xd w _,rfl⟩;exact⟨.pointer (J ⟨w.heap.size,0,Z⟩),_,_,by simp_all[Instr.range,dD],.ptr _ 0 _ h,c⟩
theorem aG1(k:bg H)(s:bQ S Y H w){r c:Nat}(R:P.underlying t=J (.map kt vt))(h:Y r=J p)(g:S (rootOf H r))(j:H.get r=J (.map es c)):∃u b a,(Instr.range t (.map (J p.aZ))).run P w=.ok u a/\VR b (.ptr H.next 0) u/\ig S Y H w b (H.alloc (.mapIter (J r) c [] c)) a:=by obtain⟨d,i,n,m⟩:=Al s h g j;obtain⟨l,e,f⟩:=Ms (P:=P) k s (.mapIter (J r) c [] c) (.mapIter (J p.aZ) c #[] c) rfl ⟨rfl,J p.aZ,xd w _,p,h,rfl⟩;exact⟨.pointer (J ⟨w.heap.size,0,Z⟩),_,_,by simp[Instr.range,dD R,va i,World.push],.ptr _ 0 _ e,f⟩
theorem ME(s:bQ S Y H w){r:Nat}{o:ch}(b:Y r=J p)(a:S (rootOf H r))(g:H.get r=J o)(c:o.dZ=C):mq Y w o p:=s.obj r p o b a (λl d f e h=>by grind[ch.dZ]) g
theorem aCe(s:bQ S Y H w){ty:an}{r c:Nat}{l:aC}(f:Y r=J p)(e:S (rootOf H r))(g:H.get r=J (.mapIter Z a l c)):∃u,(Instr.next (.pointer (J ⟨p.aZ,p.base+0,Z⟩)) C ty).run P w=.ok u w/\VR Y (.cL [.bool C]) u:=by obtain⟨h,m,b,d⟩:=ME s f e g rfl;have j:m=Z:=d;subst j;refine⟨.tuple #[.bool C],?_,ajT (.bool C)⟩;rw[h];simp[Instr.next,yH b]
theorem aAe{n:aC}:∀(es:List eI)(c:List kQ),nv Y es c->nv Y (Dk n es) (c.filter λe=>!(n.toArray.contains e.born)):=by intro es;induction es with
 | nil => intro c h;have:c=[]:=by have:=h.1;grind
          subst this;exact h|cons e es k=>
   intro c h;rcases c with _|⟨m,c⟩;.have:=h.1;grind
   have f:=h.2 0 e m rfl rfl;have A:nv Y es c:=⟨by have:=h.1;grind,λj a b g d=>h.2 (j+1) a b ai ai⟩;have N:Dk n (e::es)=bif lu (λs=>!(aw s e.2.2)) n then e::Dk n es else Dk n es:=rfl;have v:lu (λs=>!(aw s e.2.2)) n=!(n.toArray.contains m.born):=by rw[qB,f.2.2,List.contains_toArray,List.contains_eq_any_beq,List.all_eq_not_any_not];grind[bR]
   rw[N,v,D4];rcases d:(!(n.toArray.contains m.born))with _|_;.grind
   simp only[aR,if_true];have:=k c A;refine⟨by simp[this.1],λi a b g d=>?_⟩;rcases i with _|i;.grind
   exact this.2 i a b ai ai
theorem aAg{a:Array kQ}{seen:aC}{c:Nat}(h:nv Y es a.toList)(k:∀e,e∈es->e.2.2<c):(∀m,m∈a->m.born<c)/\nv Y (Dk seen es) (a.filter λe=>!(seen.toArray.contains e.born)).toList:=by
 refine⟨λm d=>?_,by grind[aAe]⟩;obtain⟨i,f⟩:=Array.mem_iff_getElem?.1 d;have K:a.toList[i]?=J m:=ai;have b:i<es.length:=by rw[h.1];grind
 have:=h.2 i _ m (dA b) K;rw[this.2.2];grind
theorem aCc(I:bg H)(j:bQ S Y H w){ty:an}{r c:Nat}{s:aC}{q:Pl}(y:Y r=J p)(F:S (rootOf H r))(o:H.get r=J (.mapIter (J m) c s c))(i:Y m=J q)(U:S (rootOf H m))(B:H.get m=J (.map es c))(M:∀e,e∈es->e.2.2<c):(Dk s es=[]->∃u d,(Instr.next (.pointer (J ⟨p.aZ,p.base+0,Z⟩)) C ty).run P w=.ok u d/\VR Y (.cL [.bool C]) u/\(d=w\/d=w.drew))/\(∀e,Dk s es=[e]->∃u d,(Instr.next (.pointer (J ⟨p.aZ,p.base+0,Z⟩)) C ty).run P w=.ok u d/\VR Y (.cL [.bool V,e.1,e.2.1]) u/\bg (H.put r r (.mapIter (J m) c (dy s [e.2.2]) c))/\bQ S Y (H.put r r (.mapIter (J m) c (dy s [e.2.2]) c)) d/\Fr Y H w Y (H.put r r (.mapIter (J m) c (dy s [e.2.2]) c)) d):=by
 obtain⟨f,X,g,D⟩:=ME j y F o rfl;obtain⟨N,E,rfl⟩:=D;rw[i]at E;obtain rfl:q=N:=ai;obtain⟨a,n,G,T⟩:=Al j i U B;obtain⟨f1,f2⟩:=aAg (seen:=s) G M;have O:¬((!s.toArray.isEmpty&&!a.isEmpty&&a.all λe=>decide (e.born>=c))=V):=by
   intro t;simp only[gu]at t;obtain⟨⟨_,g2⟩,g3⟩:=t;have R:a.size≠0:=by grind
   have Q:a[0]'ab∈a:=Array.getElem_mem _;grind
 obtain⟨left,L⟩:∃left,left=a.filter λe=>!(s.toArray.contains e.born):=⟨_,rfl⟩;rw[<-L]at f2;have K:∀m,m∈left->m.born<c:=λm W=>f1 m ai;have h:(left.filter λe=>decide (e.born<c))=left:=by grind[Array.filter_eq_self]
 have A:(left.filter λe=>decide (e.born>=c))=#[]:=by grind[Array.filter_eq_empty_iff]
 have k:(!s.toArray.isEmpty&&!a.isEmpty&&a.all λe=>decide (e.born>=c))=C:=ai;constructor
 . intro l;rw[l]at f2;have v:left=#[]:=by have:=f2.1;grind
   refine⟨.tuple #[.bool C],w,?_,ajT (.bool C),.inl rfl⟩;rw[f];simp only[Instr.next,kE,Sem.run_bind,yH g aP,bi,va n,k,<-L,v];simp[Question.forced]
 . intro e l;rw[l]at f2;obtain⟨x,z⟩:∃x,left=#[x]:=by have:=f2.1;grind[Array.size_eq_one_iff]
   have b:wo Y e x:=f2.2 0 e x rfl ai;refine⟨.tuple #[.bool V,x.key,x.val],World.eU w p.aZ (.mapIter (J q.aZ) c (s.toArray.push x.born) c),?_,aLX (.bool V) b.1 b.2.1,Rb I j _ y o rfl rfl ⟨f,J q.aZ,?_,q,i,rfl⟩⟩;.rw[f];rw[z]at h A;simp only[Instr.next,kE,Sem.run_bind,yH g aP,bi,va n,k,<-L,z,h,A];simp[Question.forced,Js g]
   .rw[ly,<-b.2.2];grind[Rv]
theorem aKB(g:bQ S Y H w){r c s:Nat}{e:eI}{q:Pl}(n:Y r=J p)(k:S (rootOf H r))(l:H.get r=J (.mapIter (J m) a [s] c))(f:Y m=J q)(U:S (rootOf H m))(L:H.get m=J (.map [e] c))(t:e.2.2=s):∃u,(Instr.entry (.pointer (J ⟨p.aZ,p.base+0,Z⟩))).run P w=.ok u w/\VR Y (.cL [e.1,e.2.1]) u:=by
 obtain⟨i,D,y,j⟩:=ME g n k l rfl;obtain⟨v,E,rfl⟩:=j;rw[f]at E;obtain rfl:q=v:=ai;obtain⟨b,z,d,A⟩:=Al g f U L;obtain⟨x,o⟩:∃x,b=#[x]:=by have:=d.1;grind[Array.size_eq_one_iff]
 subst o;have h:wo Y e x:=d.2 0 e x rfl rfl;refine⟨.tuple #[x.key,x.val],?_,NF h.1 h.2.1⟩;rw[i];have B:(x.born==s)=V:=by rw[h.2.2,t];simp
 simp_all[Instr.entry,yH]
theorem aAr{y:an}{s:aC}(a:ats[0]?=J t)(u:P.underlying t=J .string)(h:VR Y (.str s) v):pA P Y (Builtin.len_ ats y #[v]) (gZ (fc s)):=by cases h with|str _ b e=>refine⟨goInt b.size,λw=>by simp_all[Builtin.len_,dD],?_⟩;rw[dT,<-Nk e];exact .int _ _
theorem aAm{n:Nat}(h:nJ x=J n)(a:VR Y x v):∃b c,v=.slice b n c:=by cases a<;>simp_all[nJ]
theorem aAq{y:an}{n:Nat}(d:ats[0]?=J t)(u:P.underlying t=J (.slice e))(h:nJ x=J n)(a:VR Y x v):pA P Y (Builtin.len_ ats y #[v]) (gZ n):=by obtain⟨b,c,rfl⟩:=aAm h a;exact⟨goInt n,λw=>by simp_all[Builtin.len_,dD],.int _ _⟩
theorem aAn(s:bQ S Y H w){ty:an}{r c:Nat}(h:ats[0]?=J t)(i:P.underlying t=J (.map kt vt))(f:Y r=J p)(b:S (rootOf H r))(g:H.get r=J (.map es c)):∃u,(Builtin.len_ ats ty #[.map (J p.aZ)]).run P w=.ok u w/\VR Y (gZ (fc es)) u:=by obtain⟨a,d,e,j⟩:=Al s f b g;refine⟨goInt a.size,by simp[Builtin.len_,h,dD i,va d],?_⟩;have:=e.1;simp at this;rw[dT,this];exact .int _ _
theorem anE{y:an}{i o l c s:Nat}(d:ats[0]?=J t)(u:P.underlying t=J (.slice e))(b:VR Y (.sl i o l (J c) s) v):pA P Y (Builtin.cap_ ats y #[v]) (gZ c):=by cases b with|sl _ _ _ _ _ p g a m j q h k hr f n=>obtain⟨rfl,_⟩:=h c rfl;exact⟨goInt a,λw=>by simp_all[Builtin.cap_,dD],.int _ _⟩
theorem anD{y:an}(a:ats[0]?=J t)(u:P.underlying t=J (.slice e))(h:VR Y .bu v):pA P Y (Builtin.cap_ ats y #[v]) (gZ 0):=by cases h;exact⟨goInt 0,λw=>by simp_all[Builtin.cap_,dD],.int _ _⟩
theorem an1(k:bg H)(s:bQ S Y H w){ty:an}{d:TypeDesc}{r c:Nat}(f:ats[0]?=J t)(u:P.underlying t=J d)(b:Y r=J p)(i:S (rootOf H r))(g:H.get r=J (.map es c)):∃a,(Builtin.clear_ ats ty #[.map (J p.aZ)]).run P w=.ok (.tuple #[]) a/\bg (H.put r r (.map [] c))/\bQ S Y (H.put r r (.map [] c)) a/\Fr Y H w Y (H.put r r (.map [] c)) a:=by obtain⟨e,h,l,j⟩:=Al s b i g;exact⟨_,by simp[Builtin.clear_,f,dD u,va h,DF h],DA k s #[] b g j ⟨rfl,aP⟩⟩
end
def dB(P:aH)(S:Nat->Prop)(d:bc)(H:Heap)(w:aV)(s:Sem aD)(r:AV)(c:Heap):Prop:=∃b v a,s.run P w=.ok v a/\VR b r v/\ig S d H w b c a
section
variable{P:aH}{S:Nat->Prop}{Y:bc}{H:Heap}{w:aV}
theorem dB.vV(i:bg H)(c:bQ S Y H w)(h:pA P Y s r):dB P S Y H w s r H:=by obtain⟨v,a,b⟩:=h;exact⟨Y,v,w,a w,b,ig.refl i c⟩
theorem dB.read(i:bg H)(b:bQ S Y H w)(h:s.run P w=.ok v w)(a:VR Y r v):dB P S Y H w s r H:=⟨Y,v,w,h,a,ig.refl i b⟩
theorem aAM{i o n:Nat}{l:aI}(h:H.load i o n=J l):l.length=n:=by cases c:H.cellsOf i<;>grind[Heap.load,dj,dT,pV,qD]
theorem Vt{n:Nat}(h:qP x=J n)(a:VR Y x v):∀w:aV,(Builtin.lenOf v).run P w=.ok n w:=by cases a<;>simp_all[qP,nJ,Builtin.lenOf,dT,Nk]
theorem asB{b:ByteArray}{s:aC}(e:b.data.toList.map kj=s)(n:Nat):ba Y (yu (λ(b:Nat)=>AV.int .u8 (.ofNat b)) (wc n s)) ((b.extract 0 n).data.map λb=>Value.int .u8 b.toNat).toList:=by
 rw[Ak,pV,<-e];have hd:(b.extract 0 n).data.toList=b.data.toList.take n:=by simp_all
 rw[Array.toList_map,hd];refine⟨aP,λi a v h d=>?_⟩;rw[ki]at h d;rw[<-List.map_take,ki]at h;rcases x:(b.data.toList.take n)[i]? with _|c;.grind
 simp[x]at h d;subst h;subst d;exact .int _ _
theorem T0(t:bQ S Y H w)(o:∀r,S r){z n:Nat}{a:aI}(h:qG H z n x=J a)(f:VR Y x v)(d:qP x=J m)(I:n<=m):∃j:Array aD,(oH z n v).run P w=.ok j w/\ba Y a j.toList/\(∀x,x∈a->x.aU=V)/\a.length=n*z:=by
 cases x<;>simp[qG]at h;case bu=>simp[qP,nJ]at d;subst d;subst h;cases f;simp_all[oH,ba.nil]
 case str s=>simp[qP]at d;subst d;cases f with|str _ b e=>
  rw[bR]at h;by_cases g:z=1
  . subst g;simp at h;subst h;refine⟨_,by rfl,asB e n,?_,?_⟩;.intro x i;rw[Ak]at i;obtain⟨c,_,rfl⟩:=au.1 i;rfl
    grind[Ak,pV,dT]
  grind
 case sl id y len l e=>simp[qP,nJ]at d;subst d;cases f with|sl _ _ _ _ _ p U M q G L F K hr g O=>
  rw[bR]at h;by_cases u:n=0;.simp_all[oH,loadCells,loadCellsFrom,ba.nil]
  . simp only[u,lA,bX,bR]at h;by_cases k:e=z;.subst k;simp only[eB,aR]at h;have N:=hr ab;subst N;obtain⟨A,B,D,E⟩:=agG (P:=P) t q (o _) h;grind[oH,aAM]
    grind
theorem aaC{i:TypeInfo}(h:ml P elem=J z)(c:P.info? elem=J i):∃b,i.zero=J b/\ba Y z b.cells.toList/\(∀x,x∈z->x.aU=V):=by
 unfold ml yZ at h;rw[c]at h;rcases f:i.zero with _|v;.grind
 simp only[f,cR]at h;rcases o:w9 v with _|a;.grind
 simp only[o,cR]at h;obtain⟨d,e⟩:=(V9 (Y:=Y) o).cells h;grind
theorem vf{k:Nat}{d:TypeDesc}(h:ats[k]?.bind P.underlying=J d):∃t,ats[k]?=J t/\P.underlying t=J d:=ai
theorem alP(hi:bg H)(q:bQ S Y H w)(c:∀r,S r){ty:an}{d:TypeDesc}{i:TypeInfo}{a:aI}{s:AV}{n:Nat}(h0:ats[0]?.bind P.underlying=J (.slice elem))(X:P.info? elem=J i)(hz:ml P elem=J z)(mc:z.length=i.size)(h1:ats[1]?.bind P.underlying=J d)(A:∀k,d≠.int k)(g:qP x=J n)(f:qG H i.size n x=J a)(h:nA H elem i.size i.bytes s a n=J (r,H'))(jm:VR Y s sv)(j:VR Y x xv):dB P S Y H w (tj ats ty #[sv,xv]) r H':=by
 obtain⟨st,y,L⟩:=vf h0;obtain⟨xt,E,Q⟩:=vf h1;obtain⟨zv,I,F,LS⟩:=aaC (Y:=Y) hz X;have fL:aW P elem=J i.size:=by grind[aW]
 obtain⟨xs,f1,f2,f3,f4⟩:=T0 (P:=P) q c f j g (bS _);obtain⟨xs',N,O,R,W⟩:=T0 (P:=P) q.drew c f j g (bS _);have G:(oH i.size n xv).run P w.drew=.ok xs w.drew:=by
  cases x<;>simp[qG]at f;case bu=>cases j;simp_all[oH]
  case str=>cases j;simp_all[oH]
  case sl id v len M e=>cases j with|sl _ _ _ _ _ p gU jU hp hl ht hc ho hr he pK=>
  have l:len=n:=by grind[qP,nJ]
  subst l;by_cases jZ:len=0;.simp_all[oH,loadCells,loadCellsFrom]
  . rw[bR]at f;simp only[jZ,lA,bX,bR]at f;by_cases D:e=i.size
    . simp only[D,eB,aR]at f;obtain⟨m,hm⟩:∃m,H.cellsOf id=J m:=by unfold Heap.load at f;cases hc:H.cellsOf id<;>simp_all
      obtain⟨rr,fl,ee,hg,B⟩:=Kr hm;obtain⟨hQ,uH⟩:=CB q hp (c _) hg B;have t:v+len*i.size<=m.length:=ai;obtain⟨cs,fz,e1,g1,g2,g3,g4⟩:=hQ.slice uH t;have tN:=hr ab;subst tN;have a1:=Jq (P:=P) g1 g2;have a2:=Jq (P:=P) (w:=w.drew) g1 g2;grind[oH]
    grind
 have K:zv.cells.size=i.size:=by rw[<-mc];simpa using F.1.symm
 refine abb hi q c K h jm f2 f3 f4 ?_ ?_;.intro b T jc w' dY u U mY PH;subst dY;exact ai8 y L fL E Q A (Vt g j w) f1 u U
 .intro b T jc old dY u o oV qK;subst dY;exact run_append_grow y L X I E Q A (Vt g j w) G u o oV qK
theorem alS(u:bg H)(v:bQ S Y H w)(t:∀r,S r){N:an}{k:fR}{i:TypeInfo}{s:AV}{n:Nat}(l:ats[0]?.bind P.underlying=J (.slice elem))(X:P.info? elem=J i)(x:ml P elem=J z)(G:z.length=i.size)(p:ats[1]?.bind P.underlying=J (.int k))(h:nA H elem i.size i.bytes s (jP n z) n=J (r,H'))(B:VR Y s sv)(y:VR Y (.int .i64 (.ofNat n)) xv):dB P S Y H w (tj ats N #[sv,xv]) r H':=by
 obtain⟨st,q,a⟩:=vf l;obtain⟨W,E,Q⟩:=vf p;obtain⟨O,c,D,f⟩:=aaC (Y:=Y) x X;have d:=IH y;subst d;have j:O.cells.size=i.size:=by rw[<-G];simpa using D.1.symm
 have L:i.size≠0:=by intro e;simp_all[nA]
 refine abb u v t j h B (ako D n) (Rg f n) (by grind[Ga]) ?_ ?_;.intro b T A R dY m U F g;subst dY;exact aIa q a X c E Q F g m L U
 .intro b T A K dY m o I M;subst dY;exact ai9 q a X c E Q m L o I M
def Tj(H:Heap)(n:Nat)(c:aI):AV->ah (AV×Heap)|.sl id o _ _ _=>bif aw n 0 then J (gZ 0,H)else(H.store id o c).map λH=>(gZ n,H)|_=>J (gZ n,H)
theorem aor(i:bg H)(b:bQ S Y H w)(f:∀r,S r){R:an}{z c n:Nat}{d s:AV}{l:aI}{v:aD}(B:ats[0]?.bind P.underlying=J (.slice elem))(L:aW P elem=J z)(m:qP s=J a)(D:nJ d=J c)(K:n=Nat.min a c)(F:qG H z n s=J l)(y:VR Y d v)(q:VR Y s sv)(h:Tj H n l d=J (r,H')):dB P S Y H w (ze ats R #[v,sv]) r H':=by obtain⟨W,k,u⟩:=vf B;have g:n<=a:=ai;have M:n<=c:=ai;obtain⟨x,f1,f2,f3,f4⟩:=T0 (P:=P) b f F q m g;have o:=Vt (P:=P) m q w;cases d with
 |bu=>
 obtain rfl:c=0:=by grind[nJ]
 cases y;have j:n=0:=ab;subst j;have I:Nat.min a 0=0:=aP;simp[Tj]at h;obtain⟨rfl,rfl⟩:=h;refine⟨Y,goInt 0,w,?_,.int _ _,ig.refl i b⟩;simp[ze,k,dD u,o,mg L,f1]|sl id O len t e=>
 obtain rfl:c=len:=by grind[nJ]
 cases y with|sl _ _ _ _ _ p X jU N jY ht yc ho hr he pK=>
 have I:min a c=n:=K.symm;simp only[Tj,bR]at h;by_cases j:n=0
 . simp[j]at h;obtain⟨rfl,rfl⟩:=h;refine⟨Y,goInt n,w,?_,by rw[j];exact .int _ _,ig.refl i b⟩;have E:x=#[]:=by
    have h1:x.size=0:=by have:=f2.1;grind
    grind
   subst E;simp[ze,k,dD u,o,mg L,I,f1,storeCells]
 .simp only[j,lA,bX,iI]at h;obtain⟨U,A,G⟩:=h;obtain⟨rfl,rfl⟩:=jd G;have Q:=hr ab;subst Q;obtain⟨T,g1,g2,g3,g4⟩:=Nt (P:=P) i b N (f _) A f2 f3;refine⟨Y,goInt n,T,?_,.int _ _,g2,g3.up (λr _=>f r),g4⟩;simp_all[ze,dD,mg]
 |_=>simp[nJ]at D
theorem aee{f:aD->aD->Sem aD}{g:AV->AV->ah AV}(a:∀{x y r:AV}{u v:aD},g x y=J r->VR Y x u->VR Y y v->pA P Y (f u v) r):∀(l:aI)(s:List aD)(x r:AV)(u:aD),lD g l x=J r->ba Y l s->VR Y x u->pA P Y (s.foldlM f u) r:=by intro l;induction l with|nil=>intro s x r u h b c;obtain rfl:=b.rU;rw[EB]at h;simp at h;subst h;exact⟨u,λw=>by rfl,c⟩|cons y l n=>
 intro s x r u h b c;obtain⟨v,t,rfl,k,j⟩:=b.cons_inv;rw[EA]at h;rcases d:g x y with _|m;.grind
 simp only[d,cR]at h;obtain⟨o,q,e⟩:=a d c k;obtain⟨p,z,i⟩:=n t m r o h j e;exact⟨p,λw=>aT,i⟩
theorem aBk{y:AV}{u:aD}(h:(match x,y with|.int k a,.int _ b=>J (AV.int k (bif aA a b then b else a))|_,_=>Z)=J r)(c:VR Y x u)(d:VR Y y v):pA P Y (Builtin.max2 u v) r:=by cases x<;>cases y<;>simp at h;subst h;cases c;cases d;rename_i k a e b;refine⟨_,λw=>by rfl,?_⟩;rw[IT];by_cases H:a<b<;>simp[H]<;>exact .int _ _
theorem aBq{y:AV}{u:aD}(h:(match x,y with|.int k a,.int _ b=>J (AV.int k (bif aA b a then b else a))|_,_=>Z)=J r)(c:VR Y x u)(d:VR Y y v):pA P Y (Builtin.min2 u v) r:=by cases x<;>cases y<;>simp at h;subst h;cases c;cases d;rename_i k a e b;refine⟨_,λw=>by rfl,?_⟩;rw[IT];by_cases H:b<a<;>simp[H]<;>exact .int _ _
theorem aoo{r s:an}{d:TypeDesc}{k a:fR}{n:Int}(c:P.underlying r=J d)(b:P.underlying s=J (.int k))(h:VR Y (.int a n) v):pA P Y (convert r s v) (.int k (dN k n)):=by cases h;exact⟨.int k (k.wrap n),λw=>by simp_all[convert,dD,Conv.intToInt],by rw[Ce];exact .int _ _⟩
theorem atN{b I n:Nat}{cs:Array aD}(h:w.heap[b]?=J (.cells cs e (0,0)))(a:n≠0):w.freeze ⟨b,I,Z⟩ n=World.eU w b (.cells cs e (I,I+n)):=by have c:b<w.heap.size:=(ap.1 h).1;unfold World.freeze World.eU;rw[if_neg a];congr 1;grind
theorem aop(G:bg H)(M:bQ S Y H w){o t:an}{d:TypeDesc}{s:aC}(B:P.underlying o=J d)(y:P.underlying t=J (.slice e))(F:P.underlying e=J (.int .u8))(g:VR Y (.str s) v):dB P S Y H w (convert o t v) (.sl H.next 0 (fc s) Z 1) (H.cQ (yu (λ(b:Nat)=>AV.int .u8 (.ofNat b)) s) .ro e):=by cases g with|str _ b D=>
 have L:b.size=s.length:=Nk D;obtain⟨p,X⟩:∃p,p=(Question.appendCap b.size 0 e).cut (w.tape w.drawn (.appendCap b.size 0 e)):=⟨_,rfl⟩;have K:b.size<=p:=by grind[Tm]
 obtain⟨f,O⟩:∃f:Array aD,f=(b.data.map λb=>Value.int .u8 b.toNat)++Array.replicate (p-b.size) (.int .u8 0):=⟨_,rfl⟩;have z:f.size=p:=by grind
 have u:ba Y (yu (λ(b:Nat)=>AV.int .u8 (.ofNat b)) s) (b.data.map λb=>Value.int .u8 b.toNat).toList:=by
   rw[Ak,<-D];refine⟨aP,λi a v j g=>?_⟩;rw[Array.toList_map,ki]at g;rw[ki,ki]at j;rcases m:b.data.toList[i]? with _|c;.grind
   simp[m]at j;rw[m]at g;simp at g;subst j;subst g;exact .int _ _
 have Q:(yu (λ(b:Nat)=>AV.int .u8 (.ofNat b)) s).length=s.length:=by simp[Ak]
 have N:=Kg G M.drew (.cells (yu (λ(b:Nat)=>AV.int .u8 (.ofNat b)) s) H.next .ro e) (.cells f e (f.size,f.size+1)) ⟨w.heap.size,0,p,s.length⟩ rfl (λl r T R h=>ai) (by
    refine⟨f,(f.size,f.size+1),_,xd w.drew _,z,?_,?_,?_,λh=>absurd rfl h,λh=>ai⟩;.grind
    .intro i a j;obtain⟨v,q,E⟩:=u.get j;grind
    .intro x m;rw[Ak]at m;obtain⟨c,_,rfl⟩:=au.1 m;rfl);refine⟨_,.slice (J ⟨w.heap.size,0,Z⟩) b.size p,World.push w.drew (.cells f e (f.size,f.size+1)),?_,?_,ig.drew N⟩
 . have A:(w.drew.alloc (.cells f e)).shape? w.heap.size=J (e,f.size):=ZF (w:=World.push w.drew (.cells f e)) (xd w.drew _);have U:(w.drew.alloc (.cells f e)).freeze ⟨w.heap.size,f.size,Z⟩ 1=World.push w.drew (.cells f e (f.size,f.size+1)):=by
    have q:=atN (w:=World.push w.drew (.cells f e)) (b:=w.heap.size) (I:=f.size) (n:=1) (cs:=f) (e:=e) (xd w.drew _) ab;have E:World.eU (World.push w.drew (.cells f e)) w.heap.size (.cells f e (f.size,f.size+1))=World.push w.drew (.cells f e (f.size,f.size+1)):=by have y:w.drew.heap=w.heap:=rfl;unfold World.eU World.push;simp only[y];congr 1;grind
    exact q.trans E
   simp[convert,dD B,dD y,dD F,Conv.stringToBytes,newRow,newObj,markStringish,shape,Sem.run,Question.forced,<-X,<-O,A,freeze];omega
 .have q:fo Y H.next ⟨w.heap.size,0,p,s.length⟩ H.next=J ⟨w.heap.size,0,p,s.length⟩:=jH _ _ _;rw[L,dT];refine .sl H.next 0 s.length Z 1 _ _ p q ab ?_ (λk W=>ai) (λ_=>?_) (λ_=>rfl) ab ?_<;>grind
theorem aap{a:AV}{c:Array aD}(h:ba Y [a] c.toList):∃u,c=#[u]/\VR Y a u:=by obtain⟨u,t,d,e,b⟩:=h.cons_inv;have:=b.rU;grind
theorem aaq{a b:AV}{c:Array aD}(h:ba Y [a,b] c.toList):∃u v,c=#[u,v]/\VR Y a u/\VR Y b v:=by obtain⟨u,t,f,g,d⟩:=h.cons_inv;obtain⟨v,k,i,j,e⟩:=d.cons_inv;have:=e.rU;grind
def D7(a:bc)(r:AV):Next->Prop|.value v=>VR a r v|.skip=>r=fC|_=>False
def aEc:Next->aD|.value v=>v|_=>undef
theorem D7.val{n:Next}(h:D7 Y r n):VR Y r (aEc n):=by
 cases n<;>simp only[D7]at h;.exact h
 .subst h;exact ba.cL (ba.nil Y) #[] rfl
def tw(P:aH)(S:Nat->Prop)(d:bc)(H:Heap)(w:aV)(s:Sem Next)(r:AV)(c:Heap):Prop:=∃b n a,s.run P w=.ok n a/\D7 b r n/\ig S d H w b c a
theorem dB.next(h:dB P S Y H w s r H'):tw P S Y H w (do pure (.value (<-s))) r H':=by obtain⟨d,v,c,e,a,b⟩:=h;exact⟨d,.value v,c,aT,a,b⟩
theorem abx{c d:Type}{x:ah c}{f:c->ah d}{b:d}(h:x.bind f=J b):∃a,x=J a/\f a=J b:=by cases x<;>simp_all
theorem am2(p:bg H)(q:bQ S Y H w)(l:∀r,S r){t:an}{a:aI}{c:Array aD}(h:iz P H .append ats a=J (r,H'))(b:ba Y a c.toList):dB P S Y H w (tj ats t c) r H':=by match a,h,b with
 |[s,x],h,b=>
 obtain⟨u,v,rfl,y,A⟩:=aaq b;simp only[iz]at h;split at h
 . rename_i elem j;split at h
   . rename_i i X;rcases g:ml P elem with _|z;.grind
     simp only[g,cR,bR,dT]at h;by_cases m:z.length=i.size
     . simp only[m,eB,aR]at h;split at h;.rename_i k e;split at h<;>grind[alS]
       . rename_i d B e;rcases f:qP x with _|n;.grind
         simp only[f,cR]at h;cases o:qG H i.size n x<;>grind[alP]
       grind
     grind
   grind
 grind
theorem am5(m:bg H)(o:bQ S Y H w)(l:∀r,S r){t:an}{g:aI}{c:Array aD}(h:iz P H .copy ats g=J (r,H'))(b:ba Y g c.toList):dB P S Y H w (ze ats t c) r H':=by match g,h,b with
 |[d,s],h,b=>
 obtain⟨u,v,rfl,hd,p⟩:=aaq b;simp only[iz]at h;split at h
 . rename_i elem k;rcases z:aW P elem with _|e;.grind
   rcases f:qP s with _|a;.grind
   rcases i:nJ d with _|n;.grind
   simp only[z,f,i,cR]at h;rcases j:qG H e (Nat.min a n) s with _|cells;.grind
   simp only[j,cR]at h;exact aor m o l k z f i rfl j hd p (by cases d<;>exact h)
 grind
theorem am7(j:bg H)(s:bQ S Y H w){y:an}{g:aI}{c:Array aD}(i:∀m o,g=[.map m]->H.jO m=J o->S (rootOf H m))(h:iz P H .len ats g=J (r,H'))(l:ba Y g c.toList):dB P S Y H w (Builtin.len_ ats y c) r H':=by match g,h,l,i with
 |[x],h,l,i=>
 obtain⟨v,rfl,q⟩:=aap l;simp only[iz]at h;split at h;.rename_i n e b;obtain⟨t,d,f⟩:=vf b;simp at h;obtain⟨rfl,rfl⟩:=h;exact dB.read j s (v:=goInt n) (by simp_all[Builtin.len_,dD]) (.int _ _)
 . rename_i a b;obtain⟨t,d,f⟩:=vf b;split at h;.rename_i n e A;simp at h;obtain⟨rfl,rfl⟩:=h;exact dB.read j s (v:=goInt n) (by simp_all[Builtin.len_,dD]) (.int _ _)
   grind
 .grind[dB.vV,aAr]
 .rename_i e b;obtain⟨t,d,f⟩:=vf b;cases F:nJ x<;>grind[dB.vV,aAq]
 . rename_i kt vt b;obtain⟨t,d,f⟩:=vf b;split at h;.simp at h;obtain⟨rfl,rfl⟩:=h;cases q;exact dB.read j s (v:=goInt 0) (by simp_all[Builtin.len_,dD]) (.int _ _)
   . rename_i m;rcases k:H.jO m with _|o;.grind
     simp[k]at h;obtain⟨rfl,rfl⟩:=h;obtain⟨es,B⟩:=o;cases q with|map _ p z=>obtain⟨u,D,E⟩:=aAn (P:=P) (ty:=y) s d f z (i m _ rfl k) (sW k);grind[dB.read]
   grind
 grind
theorem am3(i:bg H)(s:bQ S Y H w){t:an}{a:aI}{c:Array aD}(h:iz P H .cap ats a=J (r,H'))(b:ba Y a c.toList):dB P S Y H w (Builtin.cap_ ats t c) r H':=by match a,h,b with|[x],h,b=>obtain⟨v,rfl,d⟩:=aap b;simp only[iz]at h;grind[dB.vV,anD,anE]
theorem am8(p:bg H)(s:bQ S Y H w){l:an}{a:aI}{c:Array aD}(h:iz P H .max ats a=J (r,H'))(b:ba Y a c.toList):dB P S Y H w (Builtin.max_ ats l c) r H':=by match a,h,b with|x::rest,h,b=>obtain⟨u,t,q,i,A⟩:=b.cons_inv;simp only[iz,iI]at h;obtain⟨m,e,d⟩:=h;obtain⟨rfl,rfl⟩:=jd d;have:=aee (P:=P) (Y:=Y) (f:=Builtin.max2) (λ{x y r u v}g j k=>aBk g j k) rest t x m u e A i;obtain⟨z,n,o⟩:=this;simp_all[dB.read,Builtin.max_]
theorem abK(p:bg H)(s:bQ S Y H w){l:an}{a:aI}{c:Array aD}(h:iz P H .min ats a=J (r,H'))(b:ba Y a c.toList):dB P S Y H w (Builtin.min_ ats l c) r H':=by match a,h,b with|x::rest,h,b=>obtain⟨u,t,q,i,A⟩:=b.cons_inv;simp only[iz,iI]at h;obtain⟨m,e,d⟩:=h;obtain⟨rfl,rfl⟩:=jd d;have:=aee (P:=P) (Y:=Y) (f:=Builtin.min2) (λ{x y r u v}g j k=>aBq g j k) rest t x m u e A i;obtain⟨z,n,o⟩:=this;simp_all[dB.read,Builtin.min_]
theorem am4(i:bg H)(s:bQ S Y H w)(f:∀r,S r){D:an}{g:aI}{c:Array aD}(h:iz P H .clear ats g=J (r,H'))(o:ba Y g c.toList):dB P S Y H w (Builtin.clear_ ats D c) r H':=by match g,h,o with
 |[x],h,o=>
 obtain⟨v,rfl,e⟩:=aap o;simp only[iz]at h;split at h;.rename_i d b;obtain⟨t,j,u⟩:=vf b;simp at h;obtain⟨rfl,rfl⟩:=h;cases e;exact dB.read i s (v:=.tuple #[]) (by simp_all[Builtin.clear_,dD]) (ba.cL (ba.nil Y) #[] rfl)
 .rename_i d b;obtain⟨t,j,u⟩:=vf b;simp at h;obtain⟨rfl,rfl⟩:=h;cases e;exact dB.read i s (v:=.tuple #[]) (by simp_all[Builtin.clear_,dD]) (ba.cL (ba.nil Y) #[] rfl)
 . rename_i d m b;obtain⟨t,j,u⟩:=vf b;rcases y:H.jO m with _|U;.grind
   simp[y]at h;obtain⟨rfl,rfl⟩:=h;obtain⟨es,ck⟩:=U;cases e with|map _ p l=>obtain⟨q,K,L,M,N⟩:=an1 (P:=P) (ty:=D) i s j u l (f _) (sW y);exact⟨Y,.tuple #[],q,K,ba.cL (ba.nil Y) #[] rfl,L,M.up (λx _=>f x),N⟩
 . rename_i elem id W n G k b;obtain⟨t,j,u⟩:=vf b;rw[bR]at h;by_cases A:n=0;.subst A;simp at h;obtain⟨rfl,rfl⟩:=h;cases e;exact dB.read i s (v:=.tuple #[]) (by simp_all[Builtin.clear_,dD]) (ba.cL (ba.nil Y) #[] rfl)
   . simp only[A,lA,bX]at h;obtain⟨z,B,h⟩:=abx h;rw[bR,dT]at h;by_cases T:z.length=k;.simp only[T,eB,aR,iI]at h;obtain⟨H1,I,R⟩:=h;obtain⟨rfl,rfl⟩:=jd R;unfold ml at B;obtain⟨a,O,Q⟩:=abx B;obtain⟨zv,z1,z2⟩:=Gg (Y:=Y) O w;obtain⟨E,F⟩:=z2.cells Q;cases e with|sl _ _ _ _ _ p gU jU l hl E4 yc ho hr he pK=>have X:=hr ab;subst X;obtain⟨q,g1,g2,g3,g4⟩:=Nt (P:=P) i s l (f _) I (ako E n) (Rg F n);refine⟨Y,.tuple #[],q,?_,ba.cL (ba.nil Y) #[] rfl,g2,g3.up (λx _=>f x),g4⟩;simp_all[Builtin.clear_,dD]
     grind
 grind
theorem am6(y:bg H)(B:bQ S Y H w)(j:∀r,S r){E:an}{a:aI}{c:Array aD}(h:iz P H .delete ats a=J (r,H'))(n:ba Y a c.toList):dB P S Y H w (Builtin.delete_ ats E c) r H':=by match a,h,n with
 |[m,k],h,n=>
 obtain⟨u,v,rfl,A,z⟩:=aaq n;simp only[iz]at h;split at h
 . rename_i kt vt G;obtain⟨t,L,M⟩:=vf G;rcases l:ql P kt k with _|_;.grind
   simp only[l,aR]at h;split at h;.simp at h;obtain⟨rfl,rfl⟩:=h;cases A;have T:=λe=>L7 (P:=P) (empty:=e) l z w;exact dB.read y B (v:=.tuple #[]) (by simp_all[Builtin.delete_,dD]) (ba.cL (ba.nil Y) #[] rfl)
   . rename_i O;rcases D:H.jO O with _|Q;.grind
     obtain⟨es,R⟩:=Q;simp only[D,cR,iI]at h;obtain⟨q,K,b⟩:=h;cases A with|map _ p I=>
     obtain⟨F,o,s⟩:=aoL (P:=P) (ty:=E) y B L M I (j _) (sW D) z l K;rcases q with _|N;.simp at b;obtain⟨rfl,rfl⟩:=b;obtain⟨d,f,g⟩:=s es rfl;exact⟨Y,.tuple #[],F,o,ba.cL (ba.nil Y) #[] rfl,d,f.up (λx _=>j x),g⟩
     obtain⟨i,e⟩:=N;simp at b;obtain⟨rfl,rfl⟩:=b;obtain⟨d,f,g⟩:=s _ rfl;exact⟨Y,.tuple #[],F,o,ba.cL (ba.nil Y) #[] rfl,d,f.up (λx _=>j x),g⟩
   grind
 grind
theorem am1(i:bg H)(s:bQ S Y H w){b:Builtin}{ty:an}{cs:Array Bool}{a:aI}{c:Array aD}(d:(∀r,S r)\/(b=.len/\∀m o,a=[.map m]->H.jO m=J o->S (rootOf H m))\/b=.cap)(h:iz P H b ats a=J (r,H'))(v:ba Y a c.toList):tw P S Y H w (builtin b ats ty cs c) r H':=by cases b<;>simp only[builtin]<;>first|exact(am2 i s (by rcases d with h|⟨h,_⟩|h<;>first|exact h|cases h) h v).next|exact(am5 i s (by rcases d with h|⟨h,_⟩|h<;>first|exact h|cases h) h v).next|exact(e i s (by rcases d with h|⟨h,_⟩|h<;>first|exact h|cases h) h v).next|exact(am4 i s (by rcases d with h|⟨h,_⟩|h<;>first|exact h|cases h) h v).next|exact(am6 i s (by rcases d with h|⟨h,_⟩|h<;>first|exact h|cases h) h v).next|exact(am7 i s (by rcases d with h|⟨_,h⟩|h<;>first|exactλm o _ _=>h _|exact h|cases h) h v).next|exact(am3 i s h v).next|exact(N i s h v).next|exact(am8 i s h v).next|exact(abK i s h v).next|exact(abK i s h v).next|(exfalso;simp[iz]at h)
end
end Go.AM
namespace Go.AM
open Go
variable{r:AV}{H':Heap}{a x:aK}{t:an}
def JX(P:aH)(S:Nat->Prop)(m:Tr AV)(H:Heap)(o:aB):Prop:=oA o.op=V\/(match eC P m H o with|none=>∀r,S r|some l=>∀t,t∈l->S t.2)
section
variable{P:aH}{S:Nat->Prop}{Y:bc}{H:Heap}{w:aV}{tm:Tr AV}{ρ:aK->aD}
theorem mJ{v:ah AV}(h:eY H v=J (.val r H')):v=J r/\H=H':=by cases v<;>grind[eY]
theorem bQ.grow{n:Nat}(s:bQ S Y H w)(i:bg H)(h:H.next<=n):bQ (AM.more S n) Y H w:=⟨s.stat,λid p o b a c d=>s.obj id p o b (by
 rcases a with a|a;.omega
 .have:=qZ i (s.stat.lt i b);omega) c d⟩
theorem aKN{i o:Nat}{v:aI}(h:H.store i o v=J H'):H'.next=H.next:=by grind[Heap.store,w7]
theorem aKI{i o:Nat}{v:AV}(h:AM.storeVar P H t i o v=J H'):H'.next=H.next:=by
 unfold AM.storeVar at h;rcases z:aW P t with _|n;.grind
 cases c:v.cells<;>grind[aKN]
theorem aja{c d:Type}{f:c->Sem d}:∀(l:List c)(r:List d),l.length=r.length->(∀(i:Nat)(a:c)(b:d),l[i]?=J a->r[i]?=J b->(f a).run P w=.ok b w)->(l.mapM f).run P w=.ok r w:=by intro l;induction l with|nil=>intro r h _;cases r<;>simp_all|cons a l g=>
 intro r h e;rcases r with _|⟨b,r⟩;.grind
 rw[List.mapM_cons,Sem.run_bind,e 0 a b rfl rfl];simp only[bi];rw[Sem.run_bind,g r ai (λi a b j k=>e (i+1) a b ai ai)];rfl
theorem aiW{i r:Nat}(h:s8 H i=J r):rootOf H i=r:=by grind[s8,qo]
def pA.next(i:bg H)(a:bQ S Y H w){s:Sem aD}(h:pA P Y s r):tw P S Y H w (do pure (.value (<-s))) r H:=(dB.vV i a h).next
theorem tw.here(i:bg H)(s:bQ S Y H w){v:aD}(h:VR Y r v):tw P S Y H w (pure (.value v)) r H:=⟨Y,.value v,w,by rfl,h,ig.refl i s⟩
theorem aE{c d:Type}{x:ah c}{f:c->ah d}{b:d}(h:x.bind f=J b):∃a,x=J a/\f a=J b:=by cases x<;>simp_all
section one
variable(hi:bg H)(hs:bQ S Y H w)(hg:iX P Y)(hr:Reads ρ)
include hi hs hg hr
theorem adF(o:fj Y tm ρ x)(h:DW P tm H x=J (.val r H')):tw P S Y H w (pure (.value (ρ x))) r H':=by unfold DW at h;obtain⟨a,rfl⟩:=mJ h;grind[tw.here,fH]
theorem arS{e:an}(o:fj Y tm ρ x)(h:GD P tm H e x=J (.val r H')):dB P S Y H w (Instr.box e (ρ x)) r H':=by unfold GD at h;obtain⟨v,d,h⟩:=aE h;simp only[iI]at h;obtain⟨s,u,c⟩:=h;obtain⟨rfl,rfl⟩:=fh.val.inj c;obtain⟨a,b⟩:=(fH hg hr o d).1.cells u;obtain⟨p,f,g,i,j,k,p6⟩:=QI (P:=P) hi hs s .ex e _ a b;refine⟨_,.pointer (J ⟨p.aZ,0,Z⟩),_,by simp_all[Instr.box,newVar],?_,p6⟩;have:=VR.ptr (Y:=fo Y H.next p) H.next 0 p (jH _ _ _);grind
omit hg hr in theorem arQ{e:an}(h:GB P tm H e=J (.val r H')):dB P S Y H w (Instr.alloc e V (.tuple #[])) r H':=by unfold GB at h;simp only[iI]at h;obtain⟨z,b,i⟩:=h;obtain⟨rfl,rfl⟩:=fh.val.inj i;have k:=b;unfold ml at b;obtain⟨a,f,g⟩:=aE b;obtain⟨v,s,j⟩:=Gg (Y:=Y) f w;obtain⟨c,d⟩:=j.cells g;obtain⟨p,l,m,n,o,q,p6⟩:=QI (P:=P) hi hs z .ex e _ c d;refine⟨_,.pointer (J ⟨p.aZ,0,Z⟩),_,by simp_all[Instr.alloc,newVar],?_,p6⟩;have:=VR.ptr (Y:=fo Y H.next p) H.next 0 p (jH _ _ _);grind
theorem ar6(c:fj Y tm ρ a)(f:∀id o,bJ P tm a=J (.ptr id o)->S (rootOf H id))(h:GJ P tm H t a=J (.val r H')):dB P S Y H w (Instr.loadAt t (ρ a)) r H':=by
 unfold GJ at h;split at h;.rename_i id o b;obtain⟨e,rfl⟩:=mJ h;have v:=(fH hg hr c b).1;generalize ρ a=d at v;cases v<;>grind[agE,dB.read,Instr.loadAt,Instr.sureAddr]
 grind
theorem asl(i:fj Y tm ρ a)(m:fj Y tm ρ x)(f:∀id o,bJ P tm a=J (.ptr id o)->S (rootOf H id))(h:DY P tm H t a x=J (.val r H')):tw P S Y H w (do Instr.storeAt t (ρ a) (ρ x);pure .skip) r H':=by
 unfold DY at h;split at h;.rename_i id o c;obtain⟨v,k,h⟩:=aE h;simp only[iI]at h;obtain⟨s,b,g⟩:=h;obtain⟨rfl,rfl⟩:=fh.val.inj g;have d:=(fH hg hr i c).1;generalize ρ a=u at d;cases d with|ptr _ _ p j=>obtain⟨q,y,e,l,n⟩:=aKJ (P:=P) hi hs j (f _ _ c) b (fH hg hr m k).1;exact⟨Y,.skip,q,by simp_all[Instr.storeAt,Instr.sureAddr],rfl,e,l.grow e (Nat.le_of_eq (aKI b)),n⟩
 grind
theorem ash{c b:aK}(f:fj Y tm ρ c)(i:fj Y tm ρ a)(j:fj Y tm ρ b)(h:Cj P tm H c a b=J (.val r H')):tw P S Y H w (do pure (.value (if<-asBool (ρ c)then ρ a else ρ b))) r H':=by
 unfold Cj at h;split at h;.rename_i d;have v:=(fH hg hr f d).1;generalize ρ c=g at v;cases v;obtain⟨e,rfl⟩:=mJ h;exact⟨Y,.value (ρ a),w,by rfl,(fH hg hr i e).1,ig.refl hi hs⟩
 .rename_i d;have v:=(fH hg hr f d).1;generalize ρ c=g at v;cases v;obtain⟨e,rfl⟩:=mJ h;exact⟨Y,.value (ρ b),w,by rfl,(fH hg hr j e).1,ig.refl hi hs⟩
 grind
theorem MI{l:List (Nat×aK)}:∀{s:List (Nat×AV)},(∀x,x∈l->fj Y tm ρ x.2)->cw (λ(p:Nat×aK)=>(bJ P tm p.2).map λv=>(p.1,v)) l=J s->s.length=(l.map λp=>(p.1,ρ p.2)).length/\∀(i:Nat)(p:Nat×AV)(q:Nat×aD),s[i]?=J p->(l.map λp=>(p.1,ρ p.2))[i]?=J q->p.1=q.1/\VR Y p.2 q.2:=by grind[Fw,iI,fH]
theorem arT{s:Array (Nat×aK)}(ho:∀x,x∈s.toList->fj Y tm ρ x.2)(h:Cf P tm H t s=J (.val r H')):dB P S Y H w (Instr.build t (s.map λ(i,x)=>(i,ρ x))) r H':=by
 unfold Cf at h;obtain⟨z,F,h⟩:=aE h;obtain⟨I,kM,h⟩:=aE h;obtain⟨K,L⟩:=MI hi hs hg hr ho kM;unfold ml at F;obtain⟨a,R,X⟩:=aE F;obtain⟨N,M,z2⟩:=Gg (Y:=Y) R w;obtain⟨y,A⟩:=z2.cells X;have O:(s.map λ(i,x)=>(i,ρ x)).toList=s.toList.map λp=>(p.1,ρ p.2):=aP;split at h
 . rename_i e u;obtain⟨l,T,h⟩:=aE h;obtain⟨j,rfl⟩:=mJ h;simp only[iI]at j;obtain⟨cells,m,rfl⟩:=j;obtain⟨o,q⟩:=Fw T;have k:(e.mapM λg=>(do pure (g.offset,<-sizeOf g.type):Sem (Nat×Nat))).run P w=.ok l.toArray w:=by have D:=aja (P:=P) (w:=w) (f:=λ(g:Field)=>(do pure (g.offset,<-sizeOf g.type):Sem (Nat×Nat))) e.toList l o (λi g b m U=>by obtain⟨c,G,W⟩:=q i g m;rw[U]at W;cases W;simp only[iI]at G;obtain⟨n,hn,rfl⟩:=G;simp[mg hn]);simp only[bind_pure_comp]at D;rw[Array.mapM_eq_mapM_toList];simp[D]
   simp only[bind_pure_comp]at k;obtain⟨d,d1,d2,d3,d4⟩:=TU (λi=>oZ l i) (l[.]?) I (s.toList.map λp=>(p.1,ρ p.2)) z N.cells cells (λi x E=>by grind[w8]) K L y A m;refine dB.read hi hs (v:=.agg d) ?_ (d2.agg d3 d rfl);simp[Instr.build,M,dD u,k,d1]
 .rename_i n B u;obtain⟨sz,Q,h⟩:=aE h;obtain⟨j,rfl⟩:=mJ h;simp only[iI]at j;obtain⟨cells,m,rfl⟩:=j;obtain⟨d,d1,d2,d3,d4⟩:=TU (λi=>J (ft i sz,sz)) (λi=>J (i*sz,sz)) I (s.toList.map λp=>(p.1,ρ p.2)) z N.cells cells (λi x E=>E) K L y A m;refine dB.read hi hs (v:=.agg d) ?_ (d2.agg d3 d rfl);simp[Instr.build,M,dD u,mg Q,d1]
 grind
theorem akp{z:aI}{c:Array aD}(d:ba Y z c.toList)(n:Nat):ba Y (jP n z) ((Array.range (n*z.length)).map (c[.%c.size]!)).toList:=by
 have l:z.length=c.size:=by simpa using d.1
 refine⟨by simp[Ga],λi a v b h=>?_⟩;have hi:i<n*z.length:=by grind
 rw[Zr n z i hi]at b;have o:0<c.size:=by grind
 simp only[Array.toList_map,ki,Array.toList_range]at h;rw[J2 hi]at h;simp only[gJ,wx]at h;have m:i%c.size<c.size:=Nat.mod_lt _ o;rw[getElem!_pos c _ m]at h;refine d.2 (i%z.length) a v b ?_;grind
theorem arU{l:Nat}{s:Array (Nat×aK)}(M:∀x,x∈s.toList->fj Y tm ρ x.2)(h:GF P tm H t l s=J (.val r H')):dB P S Y H w (Instr.buildSlice t l (s.map λ(i,x)=>(i,ρ x))) r H':=by
 unfold GF at h;split at h
 . rename_i m Q;obtain⟨n,L,h⟩:=aE h;rw[bR,dj]at h;by_cases j:n=0\/¬l*n<=16777216;.grind
   . have q:n≠0:=λe=>j (.inl e);have K:l*n<=16777216:=Decidable.not_not.1 λe=>j (.inr e);have:(decide (n=0)||!decide (ft l n<=16777216))=C:=by grind
     rw[this]at h;simp only[bX]at h;obtain⟨W,T,h⟩:=aE h;obtain⟨X,q2⟩:=MI hi hs hg hr M T;obtain⟨z,b,h⟩:=aE h;have A:(s.map λ(i,x)=>(i,ρ x)).toList=s.toList.map λp=>(p.1,ρ p.2):=aP;have y:∃(c:Array aD)(f:Array aD),((l*n=0->c=#[])/\(l*n≠0->∃v,(zeroValue m).run P w=.ok v w/\v.cells=c))/\f=(Array.range (l*n)).map (c[.%c.size]!)/\ba Y (jP l z) f.toList/\(∀x,x∈jP l z->x.aU=V)/\(l=0\/z.length=n):=by
       by_cases g:l=0;.subst g;simp[ba.nil,Rf]
       . rw[bR,Bd g]at b;simp only[bX]at b;have Vd:=b;unfold ml at b;obtain⟨a,F,qH⟩:=aE b;obtain⟨v,z1,z2⟩:=Gg (Y:=Y) F w;obtain⟨c1,B⟩:=z2.cells qH;rw[bR,bR,dT,Bd g]at h;have U:z.length=n:=by grind
         have D:¬l*n=0:=λe=>(Nat.mul_eq_zero.1 e).elim g q;refine⟨v.cells,_,⟨λe=>absurd e D,λ_=>⟨v,z1,rfl⟩⟩,rfl,?_,Rg B l,.inr U⟩;grind[akp]
     obtain⟨c,f,k1,k2,k3,k4,k5⟩:=y;have E:(!(aw l 0||aw (fc z) n))=C:=by grind
     rw[E]at h;simp only[bX,iI]at h;obtain⟨cells,G,I⟩:=h;obtain⟨rfl,rfl⟩:=fh.val.inj I;obtain⟨d,d1,d2,d3,d4⟩:=TU (λi=>J (ft i n,n)) (λi=>J (i*n,n)) W (s.toList.map λp=>(p.1,ρ p.2)) (jP l z) f cells (λi x R=>R) X q2 k3 k4 G;obtain⟨p,p1,p2,p3,u,p5,p6⟩:=QI (P:=P) hi hs cells .ex m d d2 d3;have H8:d.size=l*n:=by have h1:=d2.1;have h2:=k3.1;grind
     refine⟨_,.slice (J ⟨p.aZ,0,Z⟩) l l,_,?_,?_,p6⟩;.have N:¬(2^24<l*n):=ab;rw[k2]at d1;unfold Instr.buildSlice;simp only[dD Q,Sem.run_bind,bi,mg L];grind[Sem.run_bind,Sem.run_pure,Result.andThen_ok]
     . have O:fo Y H.next p H.next=J p:=jH _ _ _;refine .sl H.next 0 l (J l) n p _ l O (bS _) ab (λk o=>?_) (λo=>ai) (λ_=>ai) (Nat.pos_of_ne_zero q) ?_;.cases o;refine⟨rfl,?_⟩;rw[u];have:=d2.1;grind
       .rw[u];have:=d2.1;grind
 grind
end one
end
end Go.AM
namespace Go.VM
open Go Go.AM
abbrev aY:=Nat->ah (aI×an)
abbrev cm:=Nat->ah Nat
inductive DR(K:aY)(Y:cm):DV->AV->Prop where|bool(b:Bool):DR K Y (.bool b) (.bool b)|int(k:fR)(n:Int):DR K Y (.int k n) (.int k n)|str(s:List Nat):DR K Y (.str s) (.str s)|nl:DR K Y .nl .bu|ay(l:List DV)(e:an)(esz id off:Nat)(c:Option Nat)(cells:List AV)(h:K id=J (cells,e))(he:0<esz)(hb:off+l.length*esz<=cells.length)(hc:∀k,c=J k->l.length<=k)(hl:∀(i:Nat)(x:DV),l[i]?=J x->x.flat.length=esz/\∀y,y∈x.flat->y.aU=V)(g:∀(i:Nat)(x:DV)(j:Nat)(d:DV)(a:AV),l[i]?=J x->x.flat[j]?=J d->cells[off+i*esz+j]?=J a->DR K Y d a):DR K Y (.ay l e esz) (.sl id off l.length c esz)|ptr(id off i:Nat)(h:Y id=J i):DR K Y (.ptr id off) (.ptr i off)|eN:DR K Y .eN .eN|map(r i:Nat)(h:Y r=J i):DR K Y (.map r) (.map i)|fU:DR K Y .fU .fU|func(f:bW)(l1 l2:List DV)(m1 m2:List AV)(h1:l1.length=m1.length)(h2:l2.length=m2.length)(g1:∀(i:Nat)(d:DV)(a:AV),l1[i]?=J d->m1[i]?=J a->DR K Y d a)(g2:∀(i:Nat)(d:DV)(a:AV),l2[i]?=J d->m2[i]?=J a->DR K Y d a):DR K Y (.func f l1 l2) (.func f m1 m2)|dU(l i:Nat)(h:Y l=J i):DR K Y (.dU l) (.yield i)|dY(id off len:Nat)(e:an)(esz i:Nat)(c:Option Nat)(h:Y id=J i)(hc:∀k,c=J k->len<=k):DR K Y (.dY id off len e esz) (.sl i off len c esz)|nilFunc:DR K Y .nilFunc .nilFunc|agg(l:List DV)(m:List AV)(h:l.length=m.length)(hs:∀d,d∈l->d.aU=V)(g:∀(i:Nat)(d:DV)(a:AV),l[i]?=J d->m[i]?=J a->DR K Y d a):DR K Y (.agg l) (.agg m)|jk(a:AV)(h:a.aU=V)(h2:a.cells=J [a]):DR K Y .jk a
def bK(K:aY)(b:cm)(l:ao)(m:aI):Prop:=l.length=m.length/\∀(i:Nat)(d:DV)(a:AV),l[i]?=J d->m[i]?=J a->DR K b d a
def bo(K a:aY):Prop:=∀id x,K id=J x->a id=J x
def aX(a b:cm):Prop:=∀id x,a id=J x->b id=J x
theorem bo.refl(K:aY):bo K K:=λ_ _ h=>h
theorem aX.refl(a:cm):aX a a:=λ_ _ h=>h
def bo.trans{a b c:aY}(h:bo a b)(k:bo b c):bo a c:=λ_ _ e=>k _ _ (h _ _ e)
def aX.trans{a b c:cm}(h:aX a b)(k:aX b c):aX a c:=λ_ _ e=>k _ _ (h _ _ e)
section
variable{K K':aY}{Y A:cm}
theorem DR.mono(w:bo K K')(o:aX Y A){d:DV}{a:AV}(r:DR K Y d a):DR K' A d a:=by induction r with|bool b=>exact .bool b|int k n=>exact .int k n|str s=>exact .str s|nl=>exact .nl|ay l e z id p c cells h E B D F _ u=>exact .ay l e z id p c cells (w _ _ h) E B D F λi x j d a t q v=>u i x j d a t q v|ptr id p i h=>exact .ptr id p i (o _ _ h)|eN=>exact .eN|map r i h=>exact .map r i (o _ _ h)|fU=>exact .fU|func f l1 l2 L M t q _ _ H I=>exact .func f l1 l2 L M t q (λi d a x y=>H i d a x y) (λi d a x y=>I i d a x y)|dU l i h=>exact .dU l i (o _ _ h)|dY a b c d e i f h g=>exact .dY a b c d e i f (o _ _ h) g|nilFunc=>exact .nilFunc|agg l m h G _ u=>exact .agg l m h G λi d a x y=>u i d a x y|jk a h q=>exact .jk a h q
theorem bK.mono(b:bo K K')(h:aX Y A){l:ao}{m:aI}(r:bK K Y l m):bK K' A l m:=⟨r.1,λi d a x y=>(r.2 i d a x y).mono b h⟩
theorem bK.nil:bK K Y [] []:=⟨rfl,λi d a h=>ai⟩
theorem bK.cons{d:DV}{a:AV}{l:ao}{m:aI}(h:DR K Y d a)(t:bK K Y l m):bK K Y (d::l) (a::m):=by
 refine⟨by simp[t.1],λi x y b c=>?_⟩;rcases i with _|i;.grind
 exact t.2 i x y ai ai
theorem bK.cons_inv{d:DV}{l:ao}{m:aI}(h:bK K Y (d::l) m):∃a t,m=a::t/\DR K Y d a/\bK K Y l t:=by
 rcases m with _|⟨a,t⟩;.have:=h.1;grind
 exact⟨a,t,rfl,h.2 0 d a rfl rfl,by have:=h.1;grind,λi x y b c=>h.2 (i+1) x y ai ai⟩
theorem bK.rU{m:aI}(h:bK K Y [] m):m=[]:=by
 rcases m with _|⟨v,t⟩;.rfl
 have:=h.1;grind
theorem bK.append{l b:ao}{m c:aI}(h:bK K Y l m)(k:bK K Y b c):bK K Y (l++b) (m++c):=by
 refine⟨by simp[h.1,k.1],λi d a x y=>?_⟩;by_cases e:i<l.length;.rw[nV e]at x;rw[nV (by rw[<-h.1];omega)]at y;exact h.2 i d a x y
 .rw[pY ab]at x;rw[pY (by rw[<-h.1];omega),<-h.1]at y;exact k.2 _ d a x y
theorem bK.take{l:ao}{m:aI}(h:bK K Y l m)(n:Nat):bK K Y (l.take n) (m.take n):=by
 refine⟨by simp[h.1],λi d a x y=>?_⟩;by_cases b:i<n;.rw[Cm b]at x y;exact h.2 i d a x y
 grind
theorem bK.drop{l:ao}{m:aI}(h:bK K Y l m)(n:Nat):bK K Y (l.drop n) (m.drop n):=by refine⟨by simp[h.1],λi d a x y=>?_⟩;rw[xD]at x y;exact h.2 _ d a x y
theorem bK.get{l:ao}{m:aI}(h:bK K Y l m){i:Nat}{d:DV}(x:l[i]?=J d):∃a,m[i]?=J a/\DR K Y d a:=by
 obtain⟨b,_⟩:=am.1 x;have c:i<m.length:=by rw[<-h.1];omega
 exact⟨m[i],dA c,h.2 i d _ x (dA c)⟩
theorem bK.ZL{l v:ao}{m w:aI}(h:bK K Y l m)(k:bK K Y v w)(o:Nat):bK K Y (lg l o v) (fV m o w):=by rw[DK];unfold lg;rw[<-k.1];exact((h.take o).append k).append (h.drop _)
theorem bK.mem{l:ao}{m:aI}(h:bK K Y l m){a:AV}(c:a∈m):∃d,d∈l/\DR K Y d a:=by
 obtain⟨i,e⟩:=a8.1 c;have b:i<l.length:=by rw[h.1];grind
 exact⟨l[i],G0 _,h.2 i _ a (dA b) e⟩
theorem DR.aU{d:DV}{a:AV}(h:DR K Y d a)(b:d.aU=V):a.aU=V:=by cases h<;>first|rfl|assumption|simp[DV.aU]at b
theorem DR.cells{d:DV}{a:AV}(h:DR K Y d a):∃m,a.cells=J m/\bK K Y d.flat m/\(∀x,x∈d.flat->x.aU=V):=by cases h with|agg l m h y g=>exact⟨m,rfl,⟨h,g⟩,y⟩|jk a q j=>exact⟨_,j,bK.cons (.jk a q j) bK.nil,by simp[DV.flat,DV.aU]⟩|bool b=>exact⟨_,rfl,bK.cons (.bool b) bK.nil,by simp[DV.flat,DV.aU]⟩|int k n=>exact⟨_,rfl,bK.cons (.int k n) bK.nil,by simp[DV.flat,DV.aU]⟩|str s=>exact⟨_,rfl,bK.cons (.str s) bK.nil,by simp[DV.flat,DV.aU]⟩|nl=>exact⟨_,rfl,bK.cons .nl bK.nil,by simp[DV.flat,DV.aU]⟩|ay l e z id o c cells h v t u w g=>exact⟨_,rfl,bK.cons (.ay l e z id o c cells h v t u w g) bK.nil,by simp[DV.flat,DV.aU]⟩|ptr id o i h=>exact⟨_,rfl,bK.cons (.ptr id o i h) bK.nil,by simp[DV.flat,DV.aU]⟩|eN=>exact⟨_,rfl,bK.cons .eN bK.nil,by simp[DV.flat,DV.aU]⟩|map r i h=>exact⟨_,rfl,bK.cons (.map r i h) bK.nil,by simp[DV.flat,DV.aU]⟩|fU=>exact⟨_,rfl,bK.cons .fU bK.nil,by simp[DV.flat,DV.aU]⟩|func f l1 l2 A B p j g1 g2=>exact⟨_,rfl,bK.cons (.func f l1 l2 A B p j g1 g2) bK.nil,by simp[DV.flat,DV.aU]⟩|dU l i h=>exact⟨_,rfl,bK.cons (.dU l i h) bK.nil,by simp[DV.flat,DV.aU]⟩|dY a b c d e i f h g=>exact⟨_,rfl,bK.cons (.dY a b c d e i f h g) bK.nil,by simp[DV.flat,DV.aU]⟩|nilFunc=>exact⟨_,rfl,bK.cons .nilFunc bK.nil,by simp[DV.flat,DV.aU]⟩
def bK.agg{l:ao}{m:aI}(h:bK K Y l m)(s:∀d,d∈l->d.aU=V):DR K Y (.agg l) (.agg m):=.agg l m h.1 s h.2
theorem DR.tA{l:ao}{a:AV}(h:DR K Y (.agg l) a):∃m,a=.agg m/\bK K Y l m/\∀d,d∈l->d.aU=V:=by cases h with|agg l m h s g=>exact⟨m,rfl,⟨h,g⟩,s⟩
theorem abo{a:AV}{d:DV}(h:Of a=J d):DR K Y d a/\d.aU=V:=by
 unfold Of at h;split at h<;>simp at h<;>subst h;.exact⟨.bool _,rfl⟩
 .exact⟨.int _ _,rfl⟩
 .exact⟨.str _,rfl⟩
 .exact⟨.eN,rfl⟩
 .exact⟨.nl,rfl⟩
 .exact⟨.fU,rfl⟩
 .exact⟨.nilFunc,rfl⟩
theorem abp:∀{l:aI}{s:ao},A7 l=J s->bK K Y s l/\∀d,d∈s->d.aU=V:=by intro l;induction l with|nil=>simp[A7,bK.nil]|cons a l i=>intro s h;unfold A7 at h;obtain⟨d,hd,h⟩:=aE h;obtain⟨t,b,h⟩:=aE h;grind[abo,bK.cons]
theorem Cy{a:AV}{d:DV}(h:A6 a=J d):DR K Y d a:=by
 unfold A6 at h;split at h
 . rename_i l;rcases m:A7 l with _|s;.grind
   rw[m]at h;cases h;obtain⟨b,c⟩:=abp (K:=K) (Y:=Y) m;exact b.agg c
 grind[abo]
end
section
variable{P:aH}{K:aY}{Y:cm}
theorem MG{t:an}{c:ao}{m:aI}{o:Nat}{d:DV}(h:jr P t c o=J d)(r:bK K Y c m)(s:∀x,x∈c->x.aU=V):∃a,kz P t m o=J a/\DR K Y d a:=by
 unfold jr at h;unfold kz;split at h
 . rename_i b;try rw[b]
   obtain⟨n,j,h⟩:=aE h;rw[dj]at h;by_cases f:o+n<=c.length
   . simp only[f,eB,aR]at h;cases h;refine⟨.agg ((m.drop o).take n),?_,((r.drop o).take n).agg λx k=>s x (List.mem_of_mem_drop (List.mem_of_mem_take k))⟩;simp only[j,cR];have e:bt (im o n) (fc m)=V:=by rw[dj,dT,<-r.1];exact mz f
     rw[e];simp[pV,qD]
   .simp[f]at h
 . rename_i b;try rw[b]
   obtain⟨a,g,i⟩:=r.get h;exact⟨a,by rw[w8];exact g,i⟩
 .simp at h
theorem adQ{l:Nat->ah (Nat×Nat)}:∀(d:List (Nat×DV))(s:List (Nat×AV))(c G:ao)(m:aI),xV l d c=J G->bK K Y c m->d.length=s.length->(∀(i:Nat)(p:Nat×DV)(q:Nat×AV),d[i]?=J p->s[i]?=J q->p.1=q.1/\DR K Y p.2 q.2)->∃e,zQ l s m=J e/\bK K Y G e/\((∀x,x∈c->x.aU=V)->∀x,x∈G->x.aU=V):=by intro d;induction d with
 |nil=>intro s c G m h r n f;cases s with|nil=>obtain rfl:=bE (show J c=J G from h);exact⟨m,rfl,r,λh=>h⟩|cons q s=>grind
 |cons p d w=>intro s c G m h r n f;cases s with|nil=>grind|cons q s=>unfold xV at h;obtain⟨o,F,h⟩:=aE h;obtain⟨e1,e2⟩:=f 0 p q rfl rfl;obtain⟨v,L,t,u⟩:=e2.cells;cases k:(aw p.2.flat.length o.2&&bt (o.1+o.2) c.length)with|false=>grind|true=>
 rw[k]at h;simp only[aR]at h;have z:=r.ZL t o.1;obtain⟨e,A,g,j⟩:=w s _ G _ h z ai λi a b x y=>f (i+1) a b ai ai;refine⟨e,?_,g,λB=>j λx D=>?_⟩
 . show((l q.1).bind λo=>q.2.cells.bind λv=>bif aw (fc v) o.2&&bt (im o.1 o.2) (fc m)then J (fV m o.1 v)else Z).bind (zQ l s)=J e;rw[<-e1,F,cR,L,cR];have:(aw (fc v) o.2&&bt (im o.1 o.2) (fc m))=V:=by rw[dT,dT,<-t.1,<-r.1];omega
   grind
 grind[lg]
theorem eqFields{l:an->DV->DV->ah Bool}{i:an->AV->AV->ah Bool}(I:∀t x y b a c,l t x y=J b->DR K Y x a->DR K Y y c->i t a c=J b){j k:ao}{m n:aI}(z:bK K Y j m)(A:bK K Y k n)(E:∀x,x∈j->x.aU=V)(F:∀x,x∈k->x.aU=V):∀(s:List Field)(d b:Bool),lD (λd(f:Field)=>bif d then(bif f.name== "_"then J V else(jr P f.type j f.offset).bind λa=>(jr P f.type k f.offset).bind λb=>l f.type a b)else J C) s d=J b->lD (λd(f:Field)=>bif d then(bif f.name== "_"then J V else(kz P f.type m f.offset).bind λa=>(kz P f.type n f.offset).bind λb=>i f.type a b)else J C) s d=J b:=by intro s;induction s with|nil=>intro d b h;exact h|cons f s e=>intro d b h;change((bif d then(bif f.name== "_"then J V else(jr P f.type j f.offset).bind λa=>(jr P f.type k f.offset).bind λb=>l f.type a b)else J C).bind _)=J b at h;show((bif d then(bif f.name== "_"then J V else(kz P f.type m f.offset).bind λa=>(kz P f.type n f.offset).bind λb=>i f.type a b)else J C).bind _)=J b;cases d with|false=>exact e _ _ h|true=>simp only[aR]at h|-;cases o:(f.name== "_")with|true=>rw[o]at h;exact e _ _ h|false=>rw[o]at h;simp only[bX]at h|-;obtain⟨G,g,h⟩:=aE h;obtain⟨p,v,g⟩:=aE g;obtain⟨q,w,g⟩:=aE g;obtain⟨a,r,B⟩:=MG v z E;obtain⟨c,u,D⟩:=MG w A F;rw[r,u];simp only[cR];rw[I _ _ _ _ _ _ g B D];exact e _ _ h
theorem aql{r:an->DV->DV->ah Bool}{g:an->AV->AV->ah Bool}(I:∀t x y b a c,r t x y=J b->DR K Y x a->DR K Y y c->g t a c=J b){l o:ao}{m n:aI}(B:bK K Y l m)(D:bK K Y o n)(G:∀d,d∈l->d.aU=V)(H:∀d,d∈o->d.aU=V)(e:an)(z:Nat):∀(s:aC)(f b:Bool),lD (λf i=>bif f then(jr P e l (ft i z)).bind λa=>(jr P e o (ft i z)).bind λb=>r e a b else J C) s f=J b->lD (λf i=>bif f then(kz P e m (ft i z)).bind λa=>(kz P e n (ft i z)).bind λb=>g e a b else J C) s f=J b:=by intro s;induction s with|nil=>intro f b h;exact h|cons i s k=>intro f b h;change((bif f then(jr P e l (ft i z)).bind λa=>(jr P e o (ft i z)).bind λb=>r e a b else J C).bind _)=J b at h;show((bif f then(kz P e m (ft i z)).bind λa=>(kz P e n (ft i z)).bind λb=>g e a b else J C).bind _)=J b;cases f with|false=>exact k _ _ h|true=>simp only[aR]at h|-;obtain⟨L,j,h⟩:=aE h;obtain⟨p,w,j⟩:=aE j;obtain⟨q,A,j⟩:=aE j;obtain⟨a,u,E⟩:=MG w B G;obtain⟨c,v,F⟩:=MG A D H;rw[u,v];simp only[cR];rw[I _ _ _ _ _ _ j E F];exact k _ _ h
theorem aqp{ih:an->DV->DV->ah Bool}{ih':an->AV->AV->ah Bool}(I:∀t x y b a c,ih t x y=J b->DR K Y x a->DR K Y y c->ih' t a c=J b){t:an}{x y:DV}{b:Bool}{a c:AV}(h:zN P ih t x y=J b)(d:DR K Y x a)(g:DR K Y y c):Er P ih' t a c=J b:=by
 unfold zN at h;split at h<;>try(cases d;cases g;unfold Er;simp_all;done)
 .rename_i f l o u;obtain⟨m,rfl,r,sm⟩:=d.tA;obtain⟨n,rfl,i,s⟩:=g.tA;unfold Er;rw[u];cases q:P.stoodInHeld t with|true=>simp_all|false=>rw[q]at h;simp only[bX]at h|-;exact eqFields I r i sm s _ _ _ h
 .rename_i k e l o u;obtain⟨m,rfl,r,sm⟩:=d.tA;obtain⟨n,rfl,i,s⟩:=g.tA;unfold Er;rw[u];obtain⟨z,j,h⟩:=aE h;simp only[j,cR];exact aql I r i sm s _ _ _ _ _ h
 simp_all
theorem TA:∀(n:Nat)(t:an)(x y:DV)(b:Bool)(a c:AV),gF P n t x y=J b->DR K Y x a->DR K Y y c->lC P n t a c=J b:=by intro n;induction n with|zero=>intro t x y b a c h;exact absurd h (by show¬(Z=J b);simp)|succ n i=>intro t x y b a c h d e;exact aqp (P:=P) (ih:=gF P n) (ih':=lC P n) i h d e
theorem TE{ih:an->DV->DV->ah Bool}{t:an}{x y:DV}{b:Bool}(h:zN P ih t x y=J b):x≠.jk/\y≠.jk:=by unfold zN at h;grind
theorem aez{t:an}{xo yo:aK}{x y:DV}{b:Bool}{a c:AV}(g:La P t x y=V)(h:gF P 50 t x y=J b)(d:DR K Y x a)(e:DR K Y y c):zT P t xo yo a c=V:=by
 obtain⟨p,_⟩:=TE (P:=P) (ih:=gF P 49) h;unfold zT;split
 . rcases d with⟨l,m,f,i,k⟩|⟨_,j,_⟩
   . rcases e with⟨n,o,k1,k2,k3⟩|⟨_,j,_⟩;.exact g
     grind
   grind
 rfl
theorem amd{o:BinOp}{t:an}{xo yo:aK}{x y d:DV}{a c:AV}(h:gb P o t x y=J d)(e:DR K Y x a)(f:DR K Y y c):∃r,xO P o t xo yo a c=J r/\∀(p:aY)(m:cm),DR p m d r:=by
 unfold gb at h;split at h;.cases e;cases f;obtain⟨v,i,h⟩:=aE h;unfold af4 at i;grind[Cy,xO]
 .grind
 . rename_i k w A z j l;cases e;cases f;split at h;.rename_i s;subst s;obtain⟨v,i,h⟩:=aE h;grind[Cy,xO]
   grind
 .rename_i j l;cases e;cases f;obtain⟨v,i,h⟩:=aE h;grind[Cy,xO]
 .rename_i j l;cases u:La P t x y with|false=>grind|true=>rw[u]at h;simp only[aR]at h;cases g:gF P 50 t x y with|none=>grind|some b=>
   rw[g]at h;cases h;obtain⟨nx,n⟩:=TE (P:=P) (ih:=gF P 49) g;have q:=aez (xo:=xo) (yo:=yo) u g e f;have e2:=TA 50 t x y b a c g e f;refine⟨.bool b,?_,λ_ _=>.bool _⟩;unfold xO;split;.grind
   .cases e<;>first|exact absurd rfl nx|(cases f<;>first|exact absurd rfl n|grind)
   .cases e<;>first|exact absurd rfl nx|(cases f<;>first|exact absurd rfl n|simp_all)
   all_goals simp_all
 .rename_i j l;cases u:La P t x y with|false=>simp_all|true=>rw[u]at h;simp only[aR]at h;cases g:gF P 50 t x y with|none=>simp_all|some b=>
   rw[g]at h;cases h;obtain⟨nx,n⟩:=TE (P:=P) (ih:=gF P 49) g;have q:=aez (xo:=xo) (yo:=yo) u g e f;have e2:=TA 50 t x y b a c g e f;refine⟨.bool (!b),?_,λ_ _=>.bool _⟩;unfold xO;split;.grind
   .cases e<;>first|exact absurd rfl nx|(cases f<;>first|exact absurd rfl n|grind)
   .cases e<;>first|exact absurd rfl nx|(cases f<;>first|exact absurd rfl n|simp_all)
   all_goals simp_all
 grind
theorem aL4{o:UnOp}{x d:DV}{a:AV}(h:JI o x=J d)(c:DR K Y x a):∃r,RT o a=J r/\∀(e:aY)(b:cm),DR e b d r:=by
 unfold JI at h;split at h;.cases c;cases h;exact⟨_,rfl,λ_ _=>.int _ _⟩
 .cases c;cases h;exact⟨_,rfl,λ_ _=>.bool _⟩
 grind
end
inductive Pk where|lb(s:Nat)|g(id:Nat)|sl(t:Nat)|tp(t j:Nat)|lc(s off:Nat)|gc(id off:Nat)deriving DecidableEq
abbrev aJ:=Pk->ah (Nat×Bool)
variable{a:AV}{g:GH}{r t:Nat}{p:Pk}{sv:SV}{tm:Tr AV}{ω1:aJ}{e:an}{cs:ao}{lb:dV}{fl:fQ}
def gN(K:aY)(b:cm)(l:ao)(e o:Nat)(c:aI):Prop:=0<e/\o+l.length*e<=c.length/\(∀(i:Nat)(x:DV),l[i]?=J x->x.flat.length=e/\∀y,y∈x.flat->y.aU=V)/\∀(i:Nat)(x:DV)(j:Nat)(d:DV)(a:AV),l[i]?=J x->x.flat[j]?=J d->c[o+i*e+j]?=J a->DR K b d a
def GS(H:Heap)(i o l s r:Nat)(c:ah Nat)(e:aI):Prop:=(c=Z/\(H.bp r).2=i/\o+l*s=e.length)\/c=J l
structure A0(K:aY)(Y:cm)(H:Heap)(r:Nat)(d:DV)(a:AV)(e:an):Prop where ex:∃l esz id off c cells fl,d=.ay l e esz/\a=.sl id off l.length c esz/\H.get id=J (.cells cells r fl e)/\fl.wr=V/\(H.bp r).1<=id/\(H.bp r).2=id/\gN K Y l esz off cells/\GS H id off l.length esz r c cells
structure J9(H:Heap)(r:Nat)(a:AV)(e:an):Prop where ex:∃id off len c esz cells fl,a=.sl id off len c esz/\H.get id=J (.cells cells r fl e)/\fl.wr=V/\(H.bp r).1<=id/\(H.bp r).2=id/\GS H id off len esz r c cells
def aaG(a:AV):Prop:=∃id o len e,a=.sl id o len (J len) e
section
variable(K:aY)(Y:cm)(B:aJ)(H:Heap)
def cO(p:Pk)(d:DV)(o:AM.AV):aM->Prop|.no=>DR K Y d o|.any=>d=.nl/\o=.bu|.ty e=>DR K Y d o/\(d=.nl\/∃r b,B p=J (r,b)/\J9 H r o e)|.full _=>DR K Y d o/\aaG o|.ex e=>(d=.nl/\o=.bu)\/∃r,B p=J (r,V)/\A0 K Y H r d o e
def vl(f:fQ)(b:LB)(e:an):Prop:=f.wr=V/\∀k t,(k,aM.full t)∈b.own->t=e
def vl.sub{b a:LB}(h:vl fl b e)(s:∀k t,(k,aM.full t)∈a.own->(k,aM.full t)∈b.own):vl fl a e:=⟨h.1,λk t x=>h.2 k t (s k t x)⟩
theorem vl.share{b:LB}(h:vl fl b e):vl fl ⟨cs,b.own.map λ(x:Nat×aM)=>(x.1,oC x.2)⟩ e:=h.sub λk t m=>by obtain⟨⟨d,o⟩,a,c⟩:=au.1 m;cases o<;>simp_all[oC]
def vl.drop{b:LB}(h:vl fl b e)(o n:Nat):vl fl ⟨cs,cY b.own o n⟩ e:=h.sub λk t m=>(bl.1 m).1
theorem vl.aoV{b:LB}{t:an}{j:Nat}(h:vl fl b e)(o n:Nat):vl fl ⟨cs,(j,.ty t)::cY b.own o n⟩ e:=h.sub λk t m=>by
 rcases Cp.1 m with h|h;.cases h
 .exact(bl.1 h).1
def po(p:Nat->Pk)(b:LB)(i:Nat):Prop:=∃m fl e,H.get i=J (.cells m i fl e)/\vl fl b e/\(H.bp i).1<=i/\(H.bp i).2=i/\b.cells.length=m.length/\∀(o:Nat)(d:DV)(a:AV),b.cells[o]?=J d->m[o]?=J a->d.aU=V/\cO K Y B H (p o) d a (eu b o)
def wo(x:lq)(y:eI):Prop:=DR K Y x.1 y.1/\DR K Y x.2.1 y.2.1/\x.2.2=y.2.2
def xF(m:Tr AV)(s:cX):Prop:=∀t sv,look s t=J sv->∃a,m.get t=J a/\(match sv with|.dv d .no=>DR K Y d a|.dv d .any=>d=.nl/\a=.bu|.ev d=>∃id o cells e,a=.ptr id o/\K id=J (cells,e)/\o+d.flat.length<=cells.length/\(∀y,y∈d.flat->y.aU=V)/\bK K Y d.flat ((cells.drop o).take d.flat.length)|.dd=>True|_=>False)
def AT(d:Nat)(o:GO)(i:Nat):Prop:=match o with|.box b=>po K Y B H (.gc d) b i|.map e S=>∃f,H.get i=J (.map f S)/\e.length=f.length/\∀(k:Nat)(x:lq)(y:eI),e[k]?=J x->f[k]?=J y->wo K Y x y|.loop r=>∃R:AO,H.get i=J (.loop R)/\R.state=r.state/\R.pending=r.pending/\R.fn=r.fn/\R.n=r.n/\R.params=r.params/\R.assign=r.assign/\R.body=r.body/\xF K Y R.tmps r.sl
def pC(H:Heap):Prop:=∀id l r fl e,H.get id=J (.cells l r fl e)->∃a f,H.get r=J (.cells a r f e)
structure HR(lb:dV)(g:GH):Prop where
 inv:bg H
 dm:∀id cells e,K id=J (cells,e)->∃root fl,H.get id=J (.cells cells root fl e)/\(H.bp root).1<=id
 inj:∀p q r b c,B p=J (r,b)->B q=J (r,c)->p=q
 clean:∀p r id x,B p=J (r,V)->K id=J x->rootOf H id≠r
 cC:∀p r b,B p=J (r,b)->r<H.next
 box:∀s b,look lb s=J b->∃i,B (.lb s)=J (i,V)/\po K Y B H (.lc s) b i
 jf:∀id o,g.get id=J o->∃i,Y id=J i/\B (.g id)=J (i,V)/\AT K Y B H id o i
 mW:∀id,g.next<=id->Y id=Z
 gW:pC H
def my(h:Tr AV)(t:Nat)(v:SV)(a:AV):Prop:=match v with|.dv d o=>cO K Y B H (.sl t) d a o|.tp l=>∃m,a=.cL m/\l.length=m.length/\∀(j:Nat)(x:DV×aM)(y:AV),l[j]?=J x->m[j]?=J y->cO K Y B H (.tp t j) x.1 y x.2|.lp s f=>∀i b,B (.lb s)=J (i,b)->a=.ptr i f|.ev d=>∃id f cells e,a=.ptr id f/\K id=J (cells,e)/\f+d.flat.length<=cells.length/\(∀y,y∈d.flat->y.aU=V)/\bK K Y d.flat ((cells.drop f).take d.flat.length)|.sr s=>h.get s=J a|.se s i f=>∃id g len c z,h.get s=J (.sl id g len c z)/\a=.ptr id (g+i*z+f)|.gr id f=>∃i m root fl e,Y id=J i/\H.get i=J (.cells m root fl e)/\m[f]?=J a|.hd n=>nJ a=J n|.dd=>True
def bZ(m:Tr AV)(s:cX):Prop:=∀t sv,look s t=J sv->∃a,m.get t=J a/\(sv≠.dd->a≠.top)/\my K Y B H m t sv a
end
structure bT(S:Nat->Prop)(H H':Heap):Prop where
 next:H.next<=H'.next
 get:∀id,id<H.next->¬S (rootOf H id)->H'.get id=H.get id
 dp:∀r,r<H.next->¬S r->H'.bp r=H.bp r
 root:∀id,id<H.next->rootOf H' id=rootOf H id
def dK(a:aJ)(r:Nat):Prop:=∃p b,a p=J (r,b)
def oI(b:aJ)(H:Heap)(K a:aY):Prop:=bo K a/\∀j x,a j=J x->K j=J x\/dK b (rootOf H j)
theorem oI.refl(a:aJ)(H:Heap)(K:aY):oI a H K K:=⟨bo.refl K,λ_ _ h=>.inl h⟩
def tu(c:aJ)(H a:Heap)(K b:aY):Prop:=∀j x,b j=J x->j<a.next/\(K j=J x\/dK c (rootOf a j)\/H.next<=rootOf a j)
theorem bT.refl(S:Nat->Prop)(H:Heap):bT S H H:=⟨bS _,λ_ _ _=>rfl,λ_ _ _=>rfl,λ_ _=>rfl⟩
section
variable{K K':aY}{Y A:cm}{B ω':aJ}{H H':Heap}{S:Nat->Prop}
theorem gN.mono(m:bo K K')(b:aX Y A){l:ao}{e o:Nat}{c:aI}(h:gN K Y l e o c):gN K' A l e o c:=⟨h.1,h.2.1,h.2.2.1,λi x j d a f g k=>(h.2.2.2 i x j d a f g k).mono m b⟩
theorem lN{H:Heap}{i:Nat}{l f e}(h:H.get i=J (.cells l r f e)):rootOf H i=r:=by grind[rootOf]
theorem A0.keep(i:bg H)(k:bT S H H')(p:bo K K')(b:aX Y A){d:DV}(q:¬S r)(h:A0 K Y H r d a e):A0 K' A H' r d a e:=by
 obtain⟨l,s,id,o,c,cells,fl,g,j,f,m,t,u,n,v⟩:=h.ex;have hid:=i.get _ _ f;have E:r<H.next:=by have:=(i.root _ _ _ _ _ f).1;omega
 have w:=k.dp r E q;refine⟨l,s,id,o,c,cells,fl,g,j,?_,m,ai,ai,n.mono p b,?_⟩;.rw[k.get id hid (by grind[lN])];omega
 grind[GS]
theorem J9.keep(i:bg H)(k:bT S H H')(g:¬S r)(h:J9 H r a e):J9 H' r a e:=by
 obtain⟨id,o,len,c,s,cells,fl,d,b,f,j,m,l⟩:=h.ex;have hid:=i.get _ _ b;have E:r<H.next:=by have:=(i.root _ _ _ _ _ b).1;omega
 have n:=k.dp r E g;refine⟨id,o,len,c,s,cells,fl,d,?_,f,ai,ai,?_⟩;.rw[k.get id hid (by grind[lN])];omega
 grind[GS]
theorem cO.keep(m:bg H)(k:bT S H H')(f:bo K K')(c:aX Y A){q:Pk}{d:DV}{o:aM}(n:∀r b,B p=J (r,b)->ω' q=J (r,b)/\¬S r)(h:cO K Y B H p d a o):cO K' A ω' H' q d a o:=by cases o with|no=>exact DR.mono f c h|any=>exact h|full e=>exact⟨DR.mono f c h.1,h.2⟩|ty e=>refine⟨DR.mono f c h.1,h.2.imp id ?_⟩;rintro⟨r,b,g,i⟩;obtain⟨j,l⟩:=n r b g;exact⟨r,b,j,i.keep m k l⟩|ex e=>refine Or.imp id ?_ h;rintro⟨r,g,i⟩;obtain⟨j,l⟩:=n r V g;exact⟨r,j,i.keep m k f c l⟩
theorem po.keep(q:bg H)(k:bT S H H')(w:bo K K')(g:aX Y A){p:Nat->Pk}{b:LB}{i:Nat}(l:¬S i)(z:∀o r c,B (p o)=J (r,c)->ω' (p o)=J (r,c)/\¬S r)(h:po K Y B H p b i):po K' A ω' H' p b i:=by obtain⟨m,fl,e,f,s,t,u,v,j⟩:=h;have hid:=q.get _ _ f;have n:=k.dp i hid l;refine⟨m,fl,e,?_,s,by rw[n];exact t,by rw[n];exact u,v,λo d a x y=>⟨(j o d a x y).1,(j o d a x y).2.keep q k w g (z o)⟩⟩;rw[k.get i hid (by rw[lN f];exact l)];exact f
theorem xF.mono(d:bo K K')(b:aX Y A){s:cX}(h:xF K Y tm s):xF K' A tm s:=by
 intro t sv l;obtain⟨a,f,c⟩:=h t sv l;refine⟨a,f,?_⟩;split at c;.grind[DR.mono]
 .omega
 .obtain⟨id,o,cells,e,g1,g2,g3,g4,g5⟩:=c;exact⟨id,o,cells,e,g1,d _ _ g2,g3,g4,g5.mono d b⟩
 all_goals omega
theorem AT.keep(p:bg H)(k:bT S H H')(g:bo K K')(d:aX Y A){l:Nat}{o:GO}{i:Nat}(D:¬S i)(E:∀f r c,B (.gc l f)=J (r,c)->ω' (.gc l f)=J (r,c)/\¬S r)(h:AT K Y B H l o i):AT K' A ω' H' l o i:=by
 rcases o with b|⟨G,F⟩|r;.exact po.keep p k g d D E h
 .obtain⟨s,m,n,e⟩:=h;refine⟨s,?_,n,λj x y a b=>⟨(e j x y a b).1.mono g d,(e j x y a b).2.1.mono g d,(e j x y a b).2.2⟩⟩;rw[k.get i (p.get _ _ m) (by grind[rootOf])];omega
 obtain⟨R,m,n,e,q,t,u,v,w,z⟩:=h;refine⟨R,?_,n,e,q,t,u,v,w,z.mono g d⟩;rw[k.get i (p.get _ _ m) (by grind[rootOf])];omega
theorem me{a:Type}(l:List (Nat×a))(n:Nat)(x:a)(m:Nat):look (put l n x) m=if m=n then J x else look l m:=by induction l<;>grind[bR,look,put]
theorem qQ{a b:Type}(l:List (Nat×a))(f:a->b)(m:Nat):look (l.map λx=>(x.1,f x.2)) m=(look l m).map f:=by induction l<;>grind[look]
theorem my.keep(w:bg H)(k:bT S H H')(z:bo K K')(g:aX Y A){q:Tr AV}(F:∀p r b,(p=.sl t\/∃j,p=.tp t j)->B p=J (r,b)->ω' p=J (r,b)/\¬S r)(I:∀s f i b,sv=.lp s f->ω' (.lb s)=J (i,b)->B (.lb s)=J (i,b))(L:∀s,(sv=.sr s\/∃i f,sv=.se s i f)->q.get s=tm.get s)(G:∀id f i,sv=.gr id f->Y id=J i->¬S (rootOf H i))(h:my K Y B H tm t sv a):my K' A ω' H' q t sv a:=by
 rcases sv with⟨d,o⟩|l|⟨s,f⟩|d|s|⟨s,i,f⟩|⟨id,f⟩|n|_;.exact cO.keep w k z g (λr b=>F _ r b (.inl rfl)) h
 .obtain⟨m,u,v,E⟩:=h;exact⟨m,u,v,λj x y a b=>cO.keep w k z g (λr b=>F _ r b (.inr ⟨j,rfl⟩)) (E j x y a b)⟩
 .exactλi b w=>h i b (I s f i b rfl w)
 .obtain⟨id,f,cells,e,g1,g2,g3,g4,g5⟩:=h;exact⟨id,f,cells,e,g1,z _ _ g2,g3,g4,g5.mono z g⟩
 .show q.get s=J a;rw[L s (.inl rfl)];exact h
 .obtain⟨id,M,len,c,D,u,v⟩:=h;exact⟨id,M,len,c,D,ai,v⟩
 .obtain⟨i,m,root,fl,e,u,v,E⟩:=h;refine⟨i,m,root,fl,e,g _ _ u,?_,E⟩;rw[k.get i (w.get _ _ v) (G id f i rfl u)];omega
 .exact h
 trivial
end
section
variable{P:aH}{K K':aY}{Y A:cm}{B ω':aJ}{H H':Heap}{S:Nat->Prop}
theorem DR.qS{d:DV}(h:DR K Y d a):a≠.top:=by intro e;obtain⟨m,b,_⟩:=h.cells;grind[AV.cells]
theorem cO.qS{d:DV}{o:aM}(h:cO K Y B H p d a o):a≠.top:=by cases o with|no=>exact DR.qS h|any=>have:=h.2;grind|full e=>exact DR.qS h.1|ty e=>exact DR.qS h.1|ex e=>
 rcases h with h|⟨r,_,h⟩;.grind
 .obtain⟨l,s,id,f,c,cells,fl,_,b,_⟩:=h.ex;grind
theorem xh{sl:cX}{d:Nat}(w:bg H)(F:bZ K Y B H tm sl)(k:bT S H H')(q:bo K K')(f:aX Y A)(z:∀p r b,(∀j,p≠.tp d j)->p≠.sl d->((∃t,p=.sl t)\/∃t j,p=.tp t j)->B p=J (r,b)->ω' p=J (r,b)/\¬S r)(y:∀s i b,ω' (.lb s)=J (i,b)->B (.lb s)=J (i,b))(u:∀id i,Y id=J i->¬S (rootOf H i))(N:sv≠.dd->a≠.top)(O:my K' A ω' H' (tm.ins d a) d sv a):bZ K' A ω' H' (tm.ins d a) (put (iu sl d) d sv):=by
 intro t G h;rw[me]at h;by_cases e:t=d;.grind[Tr.lF]
 .rw[if_neg e]at h;unfold iu at h;rw[qQ sl (pP d)]at h;cases g:look sl t with|none=>grind|some E=>
 rw[g]at h;obtain⟨c,L,m,n⟩:=F t E g;have W:(tm.ins d a).get t=J c:=by grind[Tr.jy]
 by_cases hd:G=.dd;.subst hd;exact⟨c,W,λx=>absurd rfl x,trivial⟩
 . have I:E=G/\∀s,(E=.sr s\/∃i o,E=.se s i o)->s≠d:=by have l:pP d E=G:=bE h;cases E with|sr s=>grind[pP,bR]|se s i o=>grind[pP,bR]|_=>exact⟨l,λP x=>aT⟩
   obtain⟨rfl,D⟩:=I;refine⟨c,W,m,n.keep w k q f (λp r b M=>z p r b ?_ ?_ ?_) (λs o i b _=>y s i b) (λs v=>Tr.jy _ _ (λx=>D s v x.symm)) (λid o i _=>u id i)⟩;all_goals grind
def aJJ{s:cX}{d:Nat}{x:DV}(i:bg H)(c:bZ K Y B H tm s)(b:DR K Y x a):bZ K Y B H (tm.ins d a) (put (iu s d) d (.dv x .no)):=xh (S:=λ_=>False) i c (bT.refl _ _) (bo.refl _) (aX.refl _) (λ_ _ _ _ _ _ h=>⟨h,id⟩) (λ_ _ _ h=>h) (λ_ _ _=>id) (λ_=>b.qS) b
def dw(P:aH)(K:aY)(b:cm)(a:Nat->ah ao):Prop:=(∀g l,a g=J l->g<P.globals.size/\(∀y,y∈l->y.aU=V)/\∃cells e,K g=J (cells,e)/\bK K b l cells)/\∀(g:Nat)(x:aI×an),gl[g]?=J x->K g=J x
theorem dw.mono{q:Nat->ah ao}(a:bo K K')(b:aX Y A)(h:dw P K Y q):dw P K' A q:=⟨λg l j=>let⟨c,d,cells,e,f,i⟩:=h.1 g l j
 ⟨c,d,cells,e,a _ _ f,i.mono a b⟩,λg x k=>a _ _ (h.2 g x k)⟩
theorem ah7(h:tm.get t=J a)(b:a≠.top):AM.bJ P tm (.tmp t)=J a:=by show(match(tm.get t).getD fC with|.top=>Z|v=>J v)=J a;grind
theorem qU{q:Nat->ah ao}(n:dw P K Y q){s:St}(o:bZ K Y B H tm s.sl){x:aK}(h:cU q s x=J sv):∃a,AM.bJ P tm x=J a/\a≠.top/\((∃t,x=.tmp t/\look s.sl t=J sv/\tm.get t=J a/\my K Y B H tm t sv a)\/((∀t,x≠.tmp t)/\((∃d,sv=.dv d (ua d)/\DR K Y d a)\/(∃d f,x=.func f/\d=.func f [] []/\sv=.dv d .no/\DR K Y d a)\/∃g l cells e,sv=.ev (.agg l)/\a=.ptr g 0/\K g=J (cells,e)/\(∀y,y∈l->y.aU=V)/\bK K Y l cells))):=by
 rcases x with t|v|g|f
 . have h:(match look s.sl t with|some .dd=>Z|r=>r)=J sv:=h;split at h;.grind
   .rename_i p;obtain⟨a,j,b,c⟩:=o t sv h;simp_all[ah7]
 . have h:((w9 v).bind λa=>(A6 a).map λd=>SV.dv d (ua d))=J sv:=h;obtain⟨a,m,h⟩:=aE h;rcases hd:A6 a with _|d;.grind
   rw[hd]at h;cases h;have hr:=Cy (K:=K) (Y:=Y) hd;exact⟨a,m,hr.qS,.inr ⟨aP,.inl ⟨d,rfl,hr⟩⟩⟩
 . have h:(q g).map (λl=>SV.ev (.agg l))=J sv:=h;rcases i:q g with _|l;.grind
   rw[i]at h;cases h;obtain⟨j,b,cells,e,c,k⟩:=n.1 g l i;refine⟨.ptr g 0,?_,aP,.inr ⟨aP,.inr (.inr ⟨g,l,cells,e,rfl,rfl,c,b,k⟩)⟩⟩;show(bif ct g P.globals.size then J (AV.ptr g 0)else Z)=_;grind[eQ]
 obtain rfl:=bE (show J (SV.dv (.func f [] []) .no)=J sv from h);refine⟨.func f [] [],rfl,aP,.inr ⟨aP,.inr (.inl ⟨_,f,rfl,rfl,rfl,?_⟩)⟩⟩;exact .func f [] [] [] [] rfl rfl aP aP
def aJ.set(a:aJ)(p:Pk)(v:ah (Nat×Bool)):aJ:=λq=>if q=p then v else a q
theorem aJ.nQ(a:aJ)(p:Pk)(v:ah (Nat×Bool)):a.set p v p=v:=by simp[aJ.set]
theorem aJ.lf(a:aJ){q:Pk}(v:ah (Nat×Bool))(h:q≠p):a.set p v q=a q:=by grind[aJ.set]
def Pk.slot:Pk->Prop|.sl _|.tp _ _=>True|_=>False
theorem HR.uZ(h:HR K Y B H lb g)(j:bo K K')(D:∀q,¬q.slot->ω' q=B q)(t:∀id cells e,K' id=J (cells,e)->∃root fl,H.get id=J (.cells cells root fl e)/\(H.bp root).1<=id)(n:∀p q r b c,ω' p=J (r,b)->ω' q=J (r,c)->p=q)(l:∀p r id x,ω' p=J (r,V)->K' id=J x->rootOf H id≠r)(m:∀p r b,ω' p=J (r,b)->r<H.next):HR K' Y ω' H lb g where
 inv:=h.inv
 dm:=t
 inj:=n
 clean:=l
 cC:=m
 box:=λs b v=>by obtain⟨i,a,d⟩:=h.box s b v;exact⟨i,by rw[D _ (by simp[Pk.slot])];exact a,d.keep (S:=λ_=>False) h.inv (bT.refl _ _) j (aX.refl _) id λf r c x=>⟨by rw[D _ (by simp[Pk.slot])];exact x,id⟩⟩
 jf:=λk o w=>by obtain⟨i,a,d,u⟩:=h.jf k o w;exact⟨i,a,by rw[D _ (by simp[Pk.slot])];exact d,u.keep (S:=λ_=>False) h.inv (bT.refl _ _) j (aX.refl _) id λf r c x=>⟨by rw[D _ (by simp[Pk.slot])];exact x,id⟩⟩
 mW:=h.mW
 gW:=h.gW
def aY.add(K:aY)(d:Nat)(x:aI×an):aY:=λi=>if i=d then J x else K i
theorem aY.A3{d:Nat}{x:aI×an}(h:K d=Z):bo K (K.add d x):=λi y a=>by grind[aY.add]
theorem A0.dm(h:HR K Y B H lb g){d:DV}(D:B p=J (r,V))(A:A0 K Y H r d a e):∃id cells,K id=Z/\rootOf H id=r/\(∃fl,H.get id=J (.cells cells r fl e))/\(H.bp r).1<=id/\DR (K.add id (cells,e)) Y d a/\J9 H r a e:=by
 obtain⟨l,s,id,o,c,cells,fl,v,m,f,w,n,y,b,q⟩:=A.ex;have Q:=lN f;have u:K id=Z:=by
  rcases t:K id with _|x;.rfl
  exact absurd Q (h.clean p r id x D t)
 have W:bo K (K.add id (cells,e)):=aY.A3 u;refine⟨id,cells,u,Q,⟨fl,f⟩,n,?_,⟨id,o,l.length,c,s,cells,fl,m,f,w,n,y,q⟩⟩;subst v;subst m;refine .ay l e s id o c cells (by simp[aY.add]) b.1 b.2.1 ?_ b.2.2.1 λi x j d a x1 x2 x3=>(b.2.2.2 i x j d a x1 x2 x3).mono W (aX.refl _);intro k t;rcases q with⟨z,_⟩|z<;>grind
def sT(H:Heap):aY:=λid=>match H.get id with|some (.cells cells _ _ e)=>J (cells,e)|_=>Z
theorem P7{i:Nat}{c:aI}{r f e}(h:H.get i=J (.cells c r f e)):sT H i=J (c,e):=by grind[sT]
theorem HR.fX(h:HR K Y B H lb g)(k:bT S H H'){a:aJ}:tu a H H' K K:=λj x b=>by obtain⟨cells,e⟩:=x;obtain⟨r,fl,c,_⟩:=h.dm j cells e b;exact⟨gx (h.inv.get _ _ c) k.next,.inl b⟩
theorem HR.sub(h:HR K Y B H lb g):bo K (sT H):=λid x a=>by obtain⟨cells,e⟩:=x;obtain⟨r,fl,b,_⟩:=h.dm id cells e a;grind[P7]
theorem cO.look(h:HR K Y B H lb g){d:DV}{o:aM}(b:cO K Y B H p d a o):DR (sT H) Y d a:=by cases o with|no=>exact DR.mono h.sub (aX.refl _) b|any=>obtain⟨rfl,rfl⟩:=b;exact .nl|full e=>exact DR.mono h.sub (aX.refl _) b.1|ty e=>exact DR.mono h.sub (aX.refl _) b.1|ex e=>
 rcases b with⟨rfl,rfl⟩|⟨r,f,j⟩;.exact .nl
 . obtain⟨id,cells,n,_,⟨fl,l⟩,_,k,_⟩:=j.dm h f;refine k.mono (λi x c=>?_) (aX.refl _);unfold aY.add at c;by_cases e:i=id;.grind[P7]
   .rw[if_neg e]at c;exact h.sub i x c
theorem cO.share(h:HR K Y B H lb g)(M:p.slot){d:DV}{o:aM}(f:cO K Y B H p d a o):∃K' ω',oI B H K K'/\HR K' Y ω' H lb g/\(∀q,q≠p->ω' q=B q)/\(∀q r b,ω' q=J (r,b)->∃s,B q=J (r,s))/\cO K' Y ω' H p d a (oC o)/\DR K' Y d a:=by cases o with|no=>exact⟨K,B,oI.refl _ _ _,h,λ_ _=>rfl,λ_ _ b x=>⟨b,x⟩,f,f⟩|any=>obtain⟨rfl,rfl⟩:=f;exact⟨K,B,oI.refl _ _ _,h,λ_ _=>rfl,λ_ _ b x=>⟨b,x⟩,⟨rfl,rfl⟩,.nl⟩|full e=>exact⟨K,B,oI.refl _ _ _,h,λ_ _=>rfl,λ_ _ b x=>⟨b,x⟩,f,f.1⟩|ty e=>exact⟨K,B,oI.refl _ _ _,h,λ_ _=>rfl,λ_ _ b x=>⟨b,x⟩,f,f.1⟩|ex e=>
 rcases f with⟨rfl,rfl⟩|⟨r,t,A⟩;.exact⟨K,B,oI.refl _ _ _,h,λ_ _=>rfl,λ_ _ b x=>⟨b,x⟩,⟨.nl,.inl rfl⟩,.nl⟩
 . obtain⟨id,cells,G,Q,⟨fl,O⟩,F,v,D⟩:=A.dm h t;have W:bo K (K.add id (cells,e)):=aY.A3 G;refine⟨K.add id (cells,e),B.set p (J (r,C)),⟨W,λj x E=>?_⟩,h.uZ W (λq u=>aJ.lf _ _ λx=>u (x▸M)) ?_ ?_ ?_ ?_,λq u=>aJ.lf _ _ u,?_,⟨v,.inr ⟨r,C,aJ.nQ _ _ _,D⟩⟩,v⟩
   . unfold aY.add at E;by_cases e1:j=id;.subst e1;exact .inr ⟨p,V,ai⟩
     grind
   . intro i cs w l;unfold aY.add at l;by_cases x:i=id;.grind
     .rw[if_neg x]at l;exact h.dm i cs w l
   . intro m I r1 b c x y;have back:∀z b,B.set p (J (r,C)) z=J (r1,b)->∃s,B z=J (r1,s):=by grind[aJ.nQ,aJ.lf]
     obtain⟨L,k1⟩:=back m b x;obtain⟨N,k2⟩:=back I c y;exact h.inj _ _ _ _ _ k1 k2
   . intro m r1 i x k l;have n:m≠p:=λe=>by grind[aJ.nQ]
     rw[aJ.lf _ _ n]at k;unfold aY.add at l;by_cases y:i=id;.subst y;rw[Q];intro e;subst e;exact n (h.inj _ _ _ _ _ k t)
     .rw[if_neg y]at l;exact h.clean m r1 i x k l
   . intro m r1 b k;by_cases e:m=p;.subst e;rw[aJ.nQ]at k;obtain⟨rfl,_⟩:=jd (bE k);exact h.cC _ _ _ t
     .rw[aJ.lf _ _ e]at k;exact h.cC _ _ _ k
   grind[aJ.nQ,aJ.lf]
end
def fN(K:aY)(g:cm)(f:aJ)(H:Heap)(s:St)(t:Tr AV)(c:Heap):Prop:=∃d e a,bo K d/\tu f H c K d/\aX g e/\HR d e a c s.lb s.g/\bZ d e a c t s.sl/\bT (dK f) H c/\∀p r b,a p=J (r,b)->dK f r\/H.next<=r
section
variable{P:aH}{K K':aY}{Y A:cm}{B ω':aJ}{H H':Heap}{S:Nat->Prop}
theorem qZ(a:bg H){i:Nat}(h:i<H.next):rootOf H i<H.next:=by
 unfold rootOf;split;.rename_i g;have:=(a.root _ _ _ _ _ g).1;omega
 omega
theorem bT.trans{f:aJ}{H1 g:Heap}(j:bg H)(a:bT (dK f) H H1)(d:∀p r b,ω1 p=J (r,b)->dK f r\/H.next<=r)(b:bT (dK ω1) H1 g):bT (dK f) H g where
 next:=gw a.next b.next
 get:=λid h n=>by
  have i:=a.get id h n;rw[<-i];refine b.get id (gx h a.next) λ⟨p,c,e⟩=>?_;have hr:rootOf H1 id=rootOf H id:=by unfold rootOf;rw[i]
  rw[hr]at e;rcases d _ _ _ e with x|x;.exact n x
  .have:=qZ j h;omega
 dp:=λr h n=>by
  rw[<-a.dp r h n];refine b.dp r (gx h a.next) λ⟨p,c,e⟩=>?_;rcases d _ _ _ e with x|x;.exact n x
  .omega
 root:=λid h=>by rw[b.root id (gx h a.next),a.root id h]
theorem fN.trans{s:St}{n:Tr AV}{H1 i:Heap}{K1:aY}{φ1:cm}(F:bg H)(E:bo K K1)(I:tu B H H1 K K1)(a:aX Y φ1)(k:bT (dK B) H H1)(e:∀p r b,ω1 p=J (r,b)->dK B r\/H.next<=r)(b:fN K1 φ1 ω1 H1 s n i):fN K Y B H s n i:=by
 obtain⟨m,f,g,t,o,u,v,w,l,z⟩:=b;refine⟨m,f,g,E.trans t,λj x G=>?_,a.trans u,v,w,k.trans F e l,λp r c x=>?_⟩
 . obtain⟨A,h⟩:=o j x G;refine⟨A,?_⟩;rcases h with h|⟨p,c,h⟩|h;.obtain⟨D,L⟩:=I j x h;rw[l.root j D];omega
   .grind
   .exact .inr (.inr (gw k.next h))
 . rcases z p r c x with⟨q,d,y⟩|y;.grind
   .exact .inr (gw k.next y)
theorem oI.fX{a:aY}(e:oI B H K a)(X:HR a Y ω1 H lb g):tu B H H K a:=λj x h=>by obtain⟨cells,t⟩:=x;obtain⟨r,fl,b,_⟩:=X.dm j cells t h;exact⟨X.inv.get _ _ b,(e.2 j _ h).imp_right .inl⟩
theorem oz{q:Nat->ah ao}(r:dw P K Y q){s:St}(c:HR K Y B H s.lb s.g)(u:bZ K Y B H tm s.sl){x:aK}{d:DV}(h:bj q s x=J d):∃a,AM.bJ P tm x=J a/\a≠.top/\DR (sT H) Y d a:=by unfold bj at h;obtain⟨sv,j,k⟩:=aE h;obtain⟨a,m,n,p⟩:=qU r u j;refine⟨a,m,n,?_⟩;cases sv with
 |dv i o=>
 obtain rfl:=bE (show J i=J d from k);rcases p with⟨t,_,_,_,b⟩|⟨_,⟨d2,e,b⟩|⟨d2,f,_,e1,e2,b⟩|⟨g,l,cells,e,e1,_⟩⟩;.exact cO.look c b
 .obtain⟨rfl,_⟩:=SV.dv.inj e;exact b.mono c.sub (aX.refl _)
 .obtain⟨rfl,_⟩:=SV.dv.inj e2;exact b.mono c.sub (aX.refl _)
 grind|_=>grind[CK]
theorem DC{d:Nat}(h:F9 d sv=C):∀s,(sv=.sr s\/∃i o,sv=.se s i o)->s≠d:=by intro s a e;subst e;rcases a with rfl|⟨i,o,rfl⟩<;>simp[F9]at h
theorem yL{a s:St}{d:ah Tmp}(h:aG a d sv=J s):(d=Z/\s=a)\/∃t,d=J t/\t<a.n/\F9 t sv=C/\s={a with sl:=put (iu a.sl t) t sv}:=by cases d<;>grind[aG,eQ]
def gR(t:Tr AV)(d:ah Tmp)(v:AV):Tr AV:=match d with|some d=>t.ins d v|none=>t
theorem Jw{l:cX}{d:Nat}(n:bg H)(u:bZ K Y B H tm l)(m:bo K K')(q:∀p r b,(∀j,p≠.tp d j)->p≠.sl d->p.slot->B p=J (r,b)->ω' p=J (r,b))(w:∀s,ω' (.lb s)=B (.lb s))(W:tm.get d=J a)(y:sv≠.dd->a≠.top)(z:my K' Y ω' H tm d sv a):bZ K' Y ω' H tm (put l d sv):=by
 intro t G h;rw[me]at h;by_cases e:t=d;.grind
 . rw[if_neg e]at h;obtain⟨c,f,g,k⟩:=u t G h;refine⟨c,f,g,k.keep (S:=λ_=>False) n (bT.refl _ _) m (aX.refl _) (λp r b o x=>⟨q p r b ?_ ?_ ?_ x,id⟩) (λs v i b _ x=>ai) (λ_ _=>rfl) (λ_ _ _ _ _=>id)⟩;.grind
   .grind
   .rcases o with rfl|⟨A,rfl⟩<;>exact trivial
def jK(s:St)(x:aK):Prop:=∀t d e,x=.tmp t->look s.sl t=J (.dv d (.ex e))->d=.nl
theorem ZG{c:St}(u:HR K Y B H c.lb c.g)(w:bZ K Y B H tm c.sl)(x:aK):∃K' ω',oI B H K K'/\HR K' Y ω' H (aQ share c x).lb (aQ share c x).g/\bZ K' Y ω' H tm (aQ share c x).sl/\(∀q r b,ω' q=J (r,b)->∃j,B q=J (r,j))/\jK (aQ share c x) x/\(aQ share c x).n=c.n/\(aQ share c x).fn=c.fn/\(∀y,jK c y->jK (aQ share c x) y):=by
 have i:∀(m:aQ share c x=c)(g:jK c x),∃K' ω',oI B H K K'/\HR K' Y ω' H (aQ share c x).lb (aQ share c x).g/\bZ K' Y ω' H tm (aQ share c x).sl/\(∀q r b,ω' q=J (r,b)->∃j,B q=J (r,j))/\jK (aQ share c x) x/\(aQ share c x).n=c.n/\(aQ share c x).fn=c.fn/\(∀y,jK c y->jK (aQ share c x) y):=by grind[oI.refl]
 cases x with
 |tmp t=>cases E:look c.sl t with|none=>refine i (by grind[aQ]) λv d e m g=>?_;grind|some sv=>
 have e1:aQ share c (.tmp t)={c with sl:=put c.sl t (share sv)}:=by grind[aQ]
 obtain⟨a,g1,g2,g3⟩:=w t sv E;have f:∀y,jK c y->(∀d e,share sv≠.dv d (.ex e))->jK {c with sl:=put c.sl t (share sv)} y:=by
  intro y k n v d e m g;rw[show({c with sl:=put c.sl t (share sv)}:St).sl=put c.sl t (share sv)from rfl,me]at g;by_cases D:v=t;.grind
  .rw[if_neg D]at g;exact k v d e m g
 have self:(∀d e,share sv≠.dv d (.ex e))->jK {c with sl:=put c.sl t (share sv)} (.tmp t):=by intro n v d e m g;grind[me]
 have keep:(n:share sv=sv\/share sv=.dd)->(∀d e,share sv≠.dv d (.ex e))->∃K' ω',oI B H K K'/\HR K' Y ω' H (aQ share c (.tmp t)).lb (aQ share c (.tmp t)).g/\bZ K' Y ω' H tm (aQ share c (.tmp t)).sl/\(∀q r b,ω' q=J (r,b)->∃j,B q=J (r,j))/\jK (aQ share c (.tmp t)) (.tmp t)/\(aQ share c (.tmp t)).n=c.n/\(aQ share c (.tmp t)).fn=c.fn/\(∀y,jK c y->jK (aQ share c (.tmp t)) y):=by
  intro n S;rw[e1];refine⟨K,B,oI.refl _ _ _,u,Jw u.inv w (bo.refl _) (λ_ _ _ _ _ _ h=>h) (λ_=>rfl) g1 (λh=>g2 ?_) ?_,λq r b h=>⟨b,h⟩,self S,rfl,rfl,λy k=>f y k S⟩;.grind
  . rcases n with n|n;.grind
    .rw[n];exact trivial
 cases sv with|dv d o=>
  obtain⟨K',ω',A,F,G,I,L,M⟩:=cO.share u (p:=.sl t) trivial g3;have n:∀z e,share (.dv d o)≠.dv z (.ex e):=by intro z e h;have:oC o=.ex e:=(SV.dv.inj h).2;cases o<;>simp[oC]at this
  rw[e1];refine⟨K',ω',A,F,Jw u.inv w A.1 (λp r b _ g _ h=>aT) (λs=>G _ aP) g1 (λ_=>M.qS) L,I,self n,rfl,rfl,λy k=>f y k n⟩|tp l=>grind[share]|_=>grind[share]
 |_=>exact i rfl (λt d e h=>aT)
theorem A4{O s:St}{d:ah Tmp}{x:DV}(c:HR K Y B H O.lb O.g)(f:bZ K Y B H tm O.sl)(h:aG O d (.dv x .no)=J s)(g:DR K Y x a):fN K Y B H s (gR tm d a) H:=by
 rcases yL h with⟨rfl,rfl⟩|⟨t,rfl,i,_,rfl⟩;.exact⟨K,Y,B,bo.refl _,c.fX (bT.refl (λ_=>False) _),aX.refl _,c,f,bT.refl _ _,λp r b e=>.inl ⟨p,b,e⟩⟩
 .exact⟨K,Y,B,bo.refl _,c.fX (bT.refl (λ_=>False) _),aX.refl _,c,aJJ c.inv f g,bT.refl _ _,λp r b e=>.inl ⟨p,b,e⟩⟩
def uf(t d:Nat):Pk->ah Pk|.sl x=>if x=d then J (.sl t)else if x=t then Z else J (.sl x)|.tp x j=>if x=d then J (.tp t j)else if x=t then Z else J (.tp x j)|p=>J p
def pS(t:Nat):Pk->ah Pk|.sl x=>if x=t then Z else J (.sl x)|.tp x j=>if x=t then Z else J (.tp x j)|p=>J p
def aJ.of(a:aJ)(s:Pk->ah Pk):aJ:=λp=>(s p).bind a
structure Src(src:Pk->ah Pk):Prop where
 inj:∀p q x,src p=J x->src q=J x->p=q
 base:∀p,¬p.slot->src p=J p
theorem ajt(t d:Nat):Src (uf t d)where
 inj:=λp q x a b=>by
  cases p<;>cases q<;>simp only[uf]at a b;all_goals(try split at a)<;>(try split at a)<;>(try split at b)<;>(try split at b)<;>simp_all
  all_goals(subst a;simp_all)
 base:=λp h=>by cases p<;>simp_all[Pk.slot,uf]
theorem ZM(t:Nat):Src (pS t)where
 inj:=λp q x a b=>by
  cases p<;>cases q<;>simp only[pS]at a b;all_goals(try split at a)<;>(try split at b)<;>simp_all
  all_goals(subst a;simp_all)
 base:=λp h=>by cases p<;>simp_all[Pk.slot,pS]
theorem aJ.iG{s:Pk->ah Pk}{b:Bool}(h:B.of s p=J (r,b)):∃q,s p=J q/\B q=J (r,b):=aE h
theorem HR.of(h:HR K Y B H lb g){s:Pk->ah Pk}(e:Src s):HR K Y (B.of s) H lb g:=by
 refine h.uZ (bo.refl _) (λq l=>by unfold aJ.of;rw[e.base q l];rfl) h.dm ?_ ?_ ?_;.intro p q r b c x y;obtain⟨f,i,a⟩:=aJ.iG x;obtain⟨q0,j,k⟩:=aJ.iG y;have:=h.inj _ _ _ _ _ a k;subst this;exact e.inj _ _ _ i j
 .intro p r id x d m;obtain⟨f,_,a⟩:=aJ.iG d;exact h.clean _ _ _ _ a m
 .intro p r b d;obtain⟨f,_,a⟩:=aJ.iG d;exact h.cC _ _ _ a
theorem my.aBH{g:Tr AV}{d:Nat}(h:my K Y B H tm t sv a)(v:ω' (.sl d)=B (.sl t))(w:∀j,ω' (.tp d j)=B (.tp t j))(E:∀s,ω' (.lb s)=B (.lb s))(A:∀s,(sv=.sr s\/∃i f,sv=.se s i f)->g.get s=tm.get s):my K Y ω' H g d sv a:=by
 have u:∀{p q:Pk}{x:DV}{y:AV}{o:aM},ω' q=B p->cO K Y B H p x y o->cO K Y ω' H q x y o:=by intro p q x y o G k;cases o with|no=>exact k|any=>exact k|full e=>exact k|ty e=>exact⟨k.1,k.2.imp id λ⟨r,b,x1,x2⟩=>⟨r,b,ai,x2⟩⟩|ex e=>exact Or.imp id (λ⟨r,x1,x2⟩=>⟨r,ai,x2⟩) k
 rcases sv with⟨x,o⟩|l|⟨s,f⟩|x|s|⟨s,i,f⟩|⟨id,f⟩|n|_;.exact u v h
 .obtain⟨m,g1,g2,g3⟩:=h;exact⟨m,g1,g2,λj x y a b=>u (w j) (g3 j x y a b)⟩
 .exactλi b F=>h i b ai
 .exact h
 .show g.get s=J a;rw[A s (.inl rfl)];exact h
 .obtain⟨id,D,len,c,z,g1,g2⟩:=h;exact⟨id,D,len,c,z,ai,g2⟩
 .exact h
 .exact h
 trivial
theorem aAd(h:my K Y B H tm t sv a):my K Y (B.of (pS t)) H tm t (leave sv) a:=by
 rcases sv with⟨x,o⟩|l|⟨s,f⟩|x|s|⟨s,i,f⟩|⟨id,f⟩|n|_;.cases o with|no=>exact h|any=>obtain⟨rfl,rfl⟩:=h;exact .nl|full e=>exact h.1|ty e=>exact h.1|ex e=>
  rcases h with⟨rfl,rfl⟩|⟨r,_,d⟩;.exact .jk _ rfl rfl
  .obtain⟨l,z,id,f,c,cells,fl,g,d,_⟩:=d.ex;subst d;exact .jk _ rfl rfl
 .trivial
 .exactλi b j=>h i b (by grind[aJ.iG,pS])
 .exact h
 .exact h
 .exact h
 .exact h
 .exact h
 trivial
theorem RA{c:St}(f:HR K Y B H c.lb c.g)(g:bZ K Y B H tm c.sl)(l:look c.sl t=J sv)(d:tm.get t=J a)(y:a≠.top)(v:my K Y B H tm t sv a):bZ K Y (B.of (pS t)) H tm (put c.sl t (leave sv)):=by
 refine Jw f.inv g (bo.refl _) (λp r b i k e h=>?_) (λs=>rfl) d (λ_=>y) (aAd v);cases p<;>simp only[Pk.slot]at e;.rename_i x;show(pS t (.sl x)).bind B=_;grind[pS]
 .rename_i x j;show(pS t (.tp x j)).bind B=_;grind[pS]
theorem ag0{c:St}{d:Nat}(g:HR K Y B H c.lb c.g)(k:bZ K Y B H tm c.sl)(w:look c.sl t=J sv)(W:tm.get t=J a)(A:sv≠.dd)(y:a≠.top)(v:my K Y B H tm t sv a)(L:∀s,(sv=.sr s\/∃i o,sv=.se s i o)->s≠d):∃ω',HR K Y ω' H c.lb c.g/\bZ K Y ω' H (tm.ins d a) (put (iu (put c.sl t (leave sv)) d) d sv)/\∀p r b,ω' p=J (r,b)->∃q,B q=J (r,b):=by
 refine⟨B.of (uf t d),g.of (ajt t d),?_,λp r b h=>let⟨q,_,f⟩:=aJ.iG h;⟨q,f⟩⟩;have m:=RA g k w W y v;refine xh (S:=λ_=>False) (sl:=put c.sl t (leave sv)) g.inv m (bT.refl _ _) (bo.refl _) (aX.refl _) (λp r b f n u h=>⟨?_,id⟩) (λs i b h=>h) (λ_ _ _=>id) (λ_=>y) ?_
 . obtain⟨q,g1,g2⟩:=aJ.iG h;rcases u with⟨x,rfl⟩|⟨x,j,rfl⟩
   . simp only[pS]at g1;split at g1;.grind
     .cases g1;rename_i z;have l:x≠d:=λe=>n ai;show(uf t d (.sl x)).bind B=_;grind[uf]
   . simp only[pS]at g1;split at g1;.grind
     .cases g1;rename_i z;have l:x≠d:=λe=>f j ai;show(uf t d (.tp x j)).bind B=_;grind[uf]
 .refine v.aBH (by show(uf t d (.sl d)).bind B=_;simp[uf]) (λj=>by show(uf t d (.tp d j)).bind B=_;simp[uf]) (λs=>rfl) λs k=>Tr.jy _ _ (λe=>L s k e.symm)
end
end Go.VM
namespace Go.AM
open Go
variable{r:AV}{H':Heap}{x:aK}{t:an}
section
variable{P:aH}{S:Nat->Prop}{Y:bc}{H:Heap}{w:aV}{tm:Tr AV}{ρ:aK->aD}
variable(hi:bg H)(hs:bQ S Y H w)(hg:iX P Y)(hr:Reads ρ)
include hi hs hg hr
theorem asa{q:ah aK}(h:GL P tm H t q=J (.val r H'))(o:∀x,q=J x->fj Y tm ρ x):dB P S Y H w (Instr.makeMap t (q.map ρ)) r H':=by
 unfold GL at h;obtain⟨d,a,b⟩:=Ms (P:=P) hi hs (.map [] 0) _ rfl ⟨rfl,#[],xd w _,⟨rfl,aP⟩⟩;have fin:∀(s:Sem _),s.run P w=.ok _ _->dB P S Y H w s _ _:=λs j=>⟨_,_,_,j,.map _ _ a,b⟩;rcases q with _|x;.simp_all[Instr.makeMap]
 simp only at h;split at h;.rename_i e f k n u c;have v:=(fH hg hr (o x rfl) c).1;simp only[gJ];generalize ρ x=g at v;cases v;simp_all[Instr.makeMap,dD,asInt,asIntOf]
 grind
theorem ar9{f:bW}{s c:Array aK}(o:∀x,x∈s.toList->fj Y tm ρ x)(U:∀x,x∈c.toList->fj Y tm ρ x)(h:GK P tm H f s c=J (.val r H')):dB P S Y H w (Instr.makeFunc (.func f) (s.map ρ) (c.map ρ)) r H':=by obtain⟨a,k,h⟩:=aE h;obtain⟨b,l,h⟩:=aE h;obtain⟨j,rfl⟩:=mJ h;cases j;have e:=MD hg hr o k;have g:=MD hg hr U l;refine dB.read hi hs (by rfl) ?_;exact .func f a b _ _ (by simpa using e.1) (by simpa using g.1) (λi x v d m=>e.2 i x v d ai) (λi x v d m=>g.2 i x v d ai)
theorem asf{o:aB}(i:o.op=.nilCheck x)(b:fj Y tm ρ x)(h:DX P tm H x=J (.val r H')):tw P S Y H w (execOp ρ o) r H':=by
 unfold DX at h;split at h;iterate 3·rename_i c;obtain⟨a,rfl⟩:=mJ h;cases a;have v:=(fH hg hr b c).1;refine⟨Y,.value _,w,?_,v,ig.refl hi hs⟩;simp only[execOp,i];generalize ρ x=d at v;cases v;rfl
 grind
theorem arR{p:BinOp}{y:aK}(m:fj Y tm ρ x)(o:fj Y tm ρ y)(h:GC P tm H p t x y=J (.val r H')):dB P S Y H w (do eqGuard p t x y (ρ x) (ρ y);binOp p t (ρ x) (ρ y)) r H':=by obtain⟨a,d,h⟩:=aE h;obtain⟨b,e,h⟩:=aE h;obtain⟨c,rfl⟩:=mJ h;obtain⟨U,v⟩:=fH hg hr m d;obtain⟨k,j⟩:=fH hg hr o e;obtain⟨z,f,g⟩:=amc c U k v j;simp_all[dB.read]
theorem asm{o:UnOp}(m:fj Y tm ρ x)(h:GN P tm H o x=J (.val r H')):dB P S Y H w (Op.unary o (ρ x)) r H':=by obtain⟨a,c,h⟩:=aE h;obtain⟨b,rfl⟩:=mJ h;grind[dB.vV,aL3,fH]
theorem SM{q:ah aK}{b:ah AV}(h:(match q with|some x=>(bJ P tm x).map J|none=>J Z)=J b)(o:∀x,q=J x->fj Y tm ρ x):qx Y b (q.map ρ):=by
 rcases q with _|x;.cases h;trivial
 simp only[iI]at h;obtain⟨v,a,rfl⟩:=h;exact(fH hg hr (o x rfl) a).1
theorem asj{a c b:ah aK}(B:fj Y tm ρ x)(L:∀y,a=J y->fj Y tm ρ y)(K:∀y,c=J y->fj Y tm ρ y)(E:∀y,b=J y->fj Y tm ρ y)(f:∀id o,bJ P tm x=J (.ptr id o)->S (rootOf H id))(h:NR P tm H t x a c b=J (.val r H')):dB P S Y H w (Instr.sliceAt t (ρ x) (a.map ρ) (c.map ρ) (b.map ρ)) r H':=by obtain⟨v,k,h⟩:=aE h;obtain⟨l,g,h⟩:=aE h;obtain⟨u,j,h⟩:=aE h;obtain⟨m,i,h⟩:=aE h;obtain⟨d,rfl⟩:=mJ h;obtain⟨z,n,p⟩:=aJB hs d (fH hg hr B k).1 (SM hi hs hg hr g L) (SM hi hs hg hr j K) (SM hi hs hg hr i E) (λid o e=>f id o ai);grind[dB.read]
theorem ar0{s:an}{f:Nat}(m:fj Y tm ρ x)(h:DS P tm H s x f=J (.val r H')):dB P S Y H w (Instr.fieldAt s (ρ x) f) r H':=by
 unfold DS at h;split at h
 . obtain⟨d,b,h⟩:=aE h;obtain⟨n,c,h⟩:=aE h;split at h;.obtain⟨a,rfl⟩:=mJ h;grind[dB.vV,asL,fH]
   grind
 grind
theorem arZ{f:Nat}(m:fj Y tm ρ x)(h:GI P tm H t x f=J (.val r H')):dB P S Y H w (Instr.field t (ρ x) f) r H':=by
 unfold GI at h;split at h
 . obtain⟨d,b,h⟩:=aE h;split at h;.obtain⟨a,rfl⟩:=mJ h;grind[dB.vV,asN,fH]
   grind
 grind
theorem ar5{i:aK}(m:fj Y tm ρ x)(L:fj Y tm ρ i)(h:Ch P tm H t x i=J (.val r H')):dB P S Y H w (Instr.indexAt t (ρ x) (ρ i)) r H':=by
 unfold Ch at h;split at h
 . rename_i k n K;have O:=IH (fH hg hr L K).1;split at h
   . rename_i len e id o u g;obtain⟨sz,f,h⟩:=aE h;rw[eQ]at h;by_cases b:n<len;.simp only[b,eB,aR]at h;obtain⟨a,rfl⟩:=mJ h;grind[dB.vV,axS,fH]
     grind
   . rename_i e id o len c s u g;obtain⟨sz,f,h⟩:=aE h;rw[eQ,bR]at h;by_cases b:n<len
     . by_cases d:sz=s;.subst d;simp only[b,eB,xx,aR]at h;obtain⟨a,rfl⟩:=mJ h;grind[dB.vV,axU,fH]
       grind
     grind
   grind
 grind
theorem ar4{i:aK}(m:fj Y tm ρ x)(L:fj Y tm ρ i)(h:DT P tm H t x i=J (.val r H')):dB P S Y H w (Instr.index t (ρ x) (ρ i)) r H':=by
 unfold DT at h;split at h
 . rename_i k n c;have O:=IH (fH hg hr L c).1;split at h
   . rename_i len e s u d;rw[O];obtain⟨sz,f,h⟩:=aE h;rw[eQ]at h;by_cases b:n<len;.simp only[b,eB,aR]at h;obtain⟨a,rfl⟩:=mJ h;exact dB.vV hi hs (axW u f b (fH hg hr m d).1 a)
     .simp[b]at h
   .obtain⟨a,rfl⟩:=mJ h;grind[iI,dB.vV,axX,fH]
   grind
 grind
theorem arY{i:Nat}(m:fj Y tm ρ x)(h:JS P tm H x i=J (.val r H')):dB P S Y H w (Instr.extract (ρ x) i) r H':=by
 unfold JS at h;split at h;.obtain⟨a,rfl⟩:=mJ h;grind[dB.vV,asC,fH]
 grind
end
end Go.AM
namespace Go.AM
open Go
variable{r:AV}{H':Heap}{k m x:aK}{t:an}
section
variable{P:aH}{S:Nat->Prop}{Y:bc}{H:Heap}{w:aV}{tm:Tr AV}{ρ:aK->aD}
variable(hi:bg H)(hs:bQ S Y H w)(hg:iX P Y)(hr:Reads ρ)
include hi hs hg hr
theorem arV{s d:an}(m:fj Y tm ρ x)(h:GG P tm H s d x=J (.val r H')):dB P S Y H w (convert s d (ρ x)) r H':=by
 obtain⟨v,a,h⟩:=aE h;have j:=(fH hg hr m a).1;split at h;.obtain⟨b,rfl⟩:=mJ h;grind[dB.vV,aoo]
 all_goals grind[aop]
theorem asb{l c:aK}(W:fj Y tm ρ l)(UY:fj Y tm ρ c)(h:GM P tm H t l c=J (.val r H')):dB P S Y H w (Instr.makeSlice t (ρ l) (ρ c)) r H':=by
 unfold GM at h;split at h
 . rename_i m I;split at h
   . rename_i i kl b kc cn X hl hc;have mX:=IH (fH hg hr W hl).1;have U:=IH (fH hg hr UY hc).1;rw[bR,dj,dj,dj,bR]at h;by_cases ko:i.size≠0/\b<=cn/\cn*i.bytes<=bm/\cn<=bm
     . obtain⟨q,u,E,F⟩:=ko;have e3:decide (ft cn _<=bm)=V:=mz E;rw[Bd q,mz u,e3,mz F]at h;obtain⟨z,K,h⟩:=aE h;have y:∃(j:Array _)(s:Array _),((cn*i.size=0->j=#[])/\(cn*i.size≠0->∃o,(zeroValue m).run P w=.ok o w/\o.cells=j))/\s=(Array.range (cn*i.size)).map (j[.%j.size]!)/\ba Y (jP cn z) s.toList/\(∀x,x∈jP cn z->x.aU=V)/\(cn=0\/z.length=i.size):=by
         by_cases v:cn=0;.simp_all[ba.nil,Rf]
         . simp only[v,lA,bX]at K;obtain⟨a,ha,qH⟩:=aE K;obtain⟨o,A,B⟩:=Gg (Y:=Y) ha w;obtain⟨c1,c2⟩:=B.cells qH;rw[bR,dT,Bd v]at h;have mc:z.length=i.size:=by grind
           have cD:=λe=>(Nat.mul_eq_zero.1 e).elim v q;refine⟨_,_,⟨λe=>absurd e cD,λ_=>⟨o,A,rfl⟩⟩,rfl,?_,Rg c2 cn,.inr mc⟩;grind[akp]
       obtain⟨j,s,k1,k2,k3,k4,k5⟩:=y;have T:(decide (cn=0)||aw (fc z) i.size)=V:=by grind
       rw[T]at h;obtain⟨rfl,rfl⟩:=fh.val.inj (bE h);obtain⟨p,p1,p2,p3,p4,R,p6⟩:=QI hi hs _ _ _ s k3 k4;have yd:s.size=cn*i.size:=ai;have D:aW P m=J i.size:=by grind[aW]
       have G:(jP cn z).length=cn*i.size:=by have:=k3.1;grind
       refine⟨_,.slice (J ⟨p.aZ,0,Z⟩) b cn,_,?_,?_,p6⟩
       . rw[mX,U];have sR:cn<=1099511627776:=F;have U6:cn*i.bytes<=1099511627776:=E;have wr:∀n:Nat,n<=1099511627776->IntKind.i64.wrap (dk n)=dk n:=λn hn=>by rw[<-Ce];show(bif ct n 9223372036854775808 then dk n else _)=_;grind[eQ]
         have w1:=wr cn sR;have w2:=wr b ab;have M:¬((cn:Int)<0):=ab;have N:¬((b:Int)<0):=ab;have O:¬((cn:Int)<(b:Int)):=ab;have Q:¬((281474976710656:Int)<(i.bytes:Int)*(cn:Int)):=by grind
         have d:IntKind.i64.wrap (cn:Int)=(cn:Int):=w1;have g:IntKind.i64.wrap (b:Int)=(b:Int):=w2;unfold Instr.makeSlice;by_cases e:cn*i.size=0;.have:=k1.1 e;subst this;simp[dD I,asInt,asIntOf,B8 X,d,g,M,N,O,Q,askRoom,mg D];have L:cn=0:=(Nat.mul_eq_zero.1 e).resolve_right q;subst L;have v:s=#[]:=ai;subst v;have e0:∀f:Nat->aD,Array.map f (Array.range 0)=#[]:=λf=>aP;rw[Nat.zero_mul,if_pos rfl,e0,R];rfl
         .obtain⟨o,A,B⟩:=k1.2 e;subst B;have L:cn≠0:=λe'=>e ai;have pK:¬(cn=0\/i.size=0):=ab;simp[dD I,asInt,asIntOf,B8 X,d,g,M,N,O,Q,askRoom,mg D,A,<-k2,R];omega
       .have hp:fo Y H.next p H.next=J p:=jH _ _ _;have aOd:b*i.size<=cn*i.size:=lU _ u;refine .sl H.next 0 b (J cn) i.size p _ cn hp u ab (λk hk=>?_) (λhk=>ab) (λ_=>ai) (Nat.pos_of_ne_zero q) ?_<;>grind
     grind
   grind
 grind
theorem ar7{d:Bool}(B:fj Y tm ρ x)(X:fj Y tm ρ k)(y:∀m o,bJ P tm x=J (.map m)->H.jO m=J o->S (rootOf H m))(h:Ci P tm H t x k d=J (.val r H')):dB P S Y H w (Instr.lookup t (ρ x) (ρ k) d) r H':=by
 unfold Ci at h;split at h
 . rename_i g n u;obtain⟨s,b,h⟩:=aE h;obtain⟨v,F,h⟩:=aE h;rcases f:ql P g v with _|_;.grind
   simp only[f,aR]at h;have e:Ai P g n s v d=J r/\H=H':=by
    unfold Ai;obtain⟨q,O,h⟩:=aE h;rcases q with _|R;.obtain⟨z,Q,h⟩:=aE h;grind[mJ]
    grind[mJ]
   obtain⟨l,rfl⟩:=e;have I:=(fH hg hr X F).1;split at b;.rename_i a;cases b;have j:=(fH hg hr B a).1;generalize ρ x=K at j;cases j;obtain⟨z,L,M⟩:=VD (w:=w) u (.inr ⟨rfl,rfl⟩) ⟨rfl,aP⟩ I f l;grind[dB.read]
   .rename_i m a;simp only[iI]at b;obtain⟨o,A,rfl⟩:=b;obtain⟨s,c⟩:=o;have j:=(fH hg hr B a).1;generalize ρ x=K at j;cases j with|map _ p G=>obtain⟨i,D,E,N⟩:=Al hs G (y m _ a A) (sW A);obtain⟨z,L,M⟩:=VD u (.inl ⟨_,c,rfl,D⟩) E I f l;grind[dB.read]
   grind
 grind
theorem adE(j:∀r,S r)(F:fj Y tm ρ m)(X:fj Y tm ρ k)(E:fj Y tm ρ x)(h:DU P tm H t m k x=J (.val r H')):tw P S Y H w (do Instr.mapUpdate t (ρ m) (ρ k) (ρ x);pure .skip) r H':=by
 unfold DU at h;split at h
 . rename_i D M G z o;obtain⟨I,B,h⟩:=aE h;obtain⟨v,n,h⟩:=aE h;obtain⟨N,A,h⟩:=aE h;rcases f:ql P D v with _|_;.grind
   simp only[f,aR]at h;obtain⟨q,y,h⟩:=aE h;have s:=(fH hg hr F o).1;generalize ρ m=K at s;cases s with|map _ p u=>
   rcases aMf hi hs z u (j _) (sW B) (fH hg hr X n).1 f (fH hg hr E A).1 y with⟨rfl,d,g,a,b,c⟩|⟨i,e,rfl,l⟩;.obtain⟨rfl,rfl⟩:=fh.val.inj (bE h);exact⟨Y,.skip,d,aT,rfl,a,b.up aT,c⟩
   . rcases L:sameKey e.1 v with _|_;.grind
     simp only[L,aR]at h;obtain⟨rfl,rfl⟩:=fh.val.inj (bE h);obtain⟨d,g,a,b,c⟩:=l L;exact⟨Y,.skip,d,aT,rfl,a,b.up aT,c⟩
 grind
theorem asd(y:∀r x,bJ P tm m=J (.map r)->H.jO r=J x->S (rootOf H r))(K:fj Y tm ρ m)(X:fj Y tm ρ k)(h:JT P tm H t m k=J (.val r H')):dB P S Y H w (Instr.mapEntry t (ρ m) (ρ k)) r H':=by
 unfold JT at h;split at h
 . rename_i I Q s F n;obtain⟨x,A,h⟩:=aE h;obtain⟨v,B,h⟩:=aE h;rcases l:ql P I v with _|_;.grind
   simp only[l,aR]at h;obtain⟨q,E,h⟩:=aE h;have O:=(fH hg hr K n).1;generalize ρ m=N at O;cases O with|map _ p D=>
   have M:∀o,(H.put s s o).next=H.next:=λo=>rfl;rcases aqd hi hs F D (y _ _ n A) (sW A) (fH hg hr X B).1 l E with⟨rfl,g⟩|⟨i,e,rfl,g⟩;.simp only[iI]at h;obtain⟨z,G,h⟩:=h;obtain⟨rfl,rfl⟩:=fh.val.inj h;obtain⟨u,j,c,b,a,d,f⟩:=g z G;exact⟨Y,u,j,c,b,a,d.grow a aT,f⟩
   . rcases L:sameKey e.1 v with _|_;.grind
     simp only[L,aR]at h;obtain⟨rfl,rfl⟩:=fh.val.inj (bE h);obtain⟨u,j,c,b,a,d,f⟩:=g L;exact⟨Y,u,j,c,b,a,d.grow a aT,f⟩
 grind
theorem arX{s:aK}(e:∀r,S r)(v:fj Y tm ρ m)(F:fj Y tm ρ s)(B:fj Y tm ρ x)(h:R0 P tm H m s x=J (.val r H')):tw P S Y H w (do Instr.entryStore t (ρ m) (ρ s) (ρ x);pure .skip) r H':=by
 unfold R0 at h;split at h;.rename_i y k b g f;obtain⟨z,A,h⟩:=aE h;obtain⟨E,l,h⟩:=aE h;simp only[iI]at h;obtain⟨q,i,h⟩:=h;obtain⟨rfl,rfl⟩:=fh.val.inj h;have O:=(fH hg hr v g).1;have u:=IH (fH hg hr F f).1;generalize ρ m=D at O;cases O with|map _ p j=>obtain⟨n,o,a,c,d⟩:=aqb (P:=P) (t:=t) (kk:=k) hi hs j (e _) (sW A) (fH hg hr B l).1 i;exact⟨Y,.skip,n,aT,rfl,a,c.up aT,d⟩
 grind
theorem asi(i:∀r,S r)(B:fj Y tm ρ x)(h:R5 P tm H t x=J (.val r H')):dB P S Y H w (Instr.range t (ρ x)) r H':=by
 unfold R5 at h;split at h;.rename_i k v d e;obtain⟨rfl,rfl⟩:=fh.val.inj (bE h);obtain⟨u,g,f,a,b,c⟩:=aG2 hi hs d (fH hg hr B e).1;exact⟨g,u,f,a,b,c⟩
 .rename_i k v m d e;simp only[iI]at h;obtain⟨o,A,h⟩:=h;obtain⟨rfl,rfl⟩:=fh.val.inj h;have s:=(fH hg hr B e).1;generalize ρ x=l at s;cases s with|map _ p j=>obtain⟨u,g,f,a,b,c⟩:=aG1 hi hs d j (i _) (sW A);exact⟨g,u,f,a,b,c⟩
 grind
end
end Go.AM
namespace Go.AM
open Go
variable{r:AV}{H':Heap}
section
variable{P:aH}{S:Nat->Prop}{Y:bc}{H:Heap}{w:aV}{tm:Tr AV}{ρ:aK->aD}
theorem bQ.eqw{a:aV}(s:bQ S Y H w)(h:a=w\/a=w.drew):bQ S Y H a:=by
 rcases h with rfl|rfl;.omega
 .exact s.drew
theorem ig.eqw{a:aV}(i:bg H)(s:bQ S Y H w)(h:a=w\/a=w.drew):ig S Y H w Y H a:=by
 rcases h with rfl|rfl;.grind[ig.refl]
 .exact ig.drew (ig.refl i s.drew)
section one
variable(hi:bg H)(hs:bQ S Y H w)(hg:iX P Y)(hr:Reads ρ)
include hi hs hg hr
theorem ase{i:aK}{t:an}(f:∀r,S r)(D:fj Y tm ρ i)(h:R4 P tm H i=J (.val r H')):dB P S Y H w (Instr.next (ρ i) C t) r H':=by
 unfold R4 at h;split at h;.rename_i id hit;have v:=(fH hg hr D hit).1;generalize ρ i=O at v;cases v with|ptr _ _ p j=>
  split at h;.rename_i d;obtain⟨n,rfl⟩:=mJ h;obtain⟨u,a,b⟩:=aCe (P:=P) (ty:=t) hs j (f _) d;grind[dB.read]
  . rename_i m s seen x d;obtain⟨I,F,h⟩:=aE h;obtain⟨A,c⟩:=I;generalize o:(aw c _&&(aw _ _&&lu _ A))=cond at h;rcases cond with _|_;.grind
    simp only[bR,gu,jV,qB,AW,eQ]at o;obtain⟨rfl,rfl,G⟩:=o;have L:=sW F;have B:∃q,Y m=J q:=by obtain⟨_,Q,_,N⟩:=ME hs j (f _) d rfl;grind
    obtain⟨q,E⟩:=B;obtain⟨K,M⟩:=aCc (P:=P) (ty:=t) hi hs j (f _) d E (f _) L G;split at h;.rename_i l;obtain⟨n,rfl⟩:=mJ h;cases n;obtain⟨u,k,a,b,g⟩:=K l;exact⟨Y,u,k,a,b,ig.eqw hi hs g⟩
    .rename_i e l;obtain⟨rfl,rfl⟩:=fh.val.inj (bE h);obtain⟨u,k,a,b,g,y,z⟩:=M e l;exact⟨Y,u,k,a,b,g,y.up ai,z⟩
    grind
  grind
 grind
theorem arW{i:aK}(d:∀r,S r)(o:fj Y tm ρ i)(h:RZ P tm H i=J (.val r H')):dB P S Y H w (Instr.entry (ρ i)) r H':=by
 unfold RZ at h;split at h;.rename_i id hit;have v:=(fH hg hr o hit).1;generalize ρ i=B at v;cases v with|ptr _ _ p j=>
  split at h
  . rename_i m a seen D W;obtain⟨n,A,h⟩:=aE h;obtain⟨b,c⟩:=n;rw[bR]at h;by_cases f:c=D
    . simp only[f,eB,aR]at h;rcases seen with _|⟨s,seen⟩;.grind
      cases seen with|cons=>grind|nil=>
      rcases b with _|⟨e,b⟩;.grind
      cases b with|cons=>grind|nil=>
      simp only[bR]at h;by_cases g:e.2.2=s
      . simp only[g,eB,aR]at h;obtain⟨y,rfl⟩:=mJ h;subst f;have k:∃q,Y m=J q:=by obtain⟨_,E,_,z⟩:=ME hs j (d _) W rfl;grind
        obtain⟨q,l⟩:=k;obtain⟨u,t,x⟩:=aKB (P:=P) hs j (d _) W l (d _) (sW A) g;grind[dB.read]
      grind
    grind
  grind
 grind
theorem zR{o:aB}(f:JX P S tm H o)(q:oA o.op=C)(n:eC P tm H o=Z):∀r,S r:=by rcases f with h|h<;>grind
theorem HP{o:aB}{l:List (Touch×Nat)}(f:JX P S tm H o)(q:oA o.op=C)(n:eC P tm H o=J l):∀t,t∈l->S t.2:=by rcases f with h|h<;>grind
end one
theorem M9{m:Nat}{o:List eI×Nat}(h:H.jO m=J o):rootOf H m=m:=by exact yF (sW h) rfl
set_option maxHeartbeats 4000000 in theorem adG(j:bg H)(p:bQ S Y H w)(u:iX P Y)(z:Reads ρ){ak:cj}{G:aB}(g:∀x,x∈G.op.operands.toList->fj Y tm ρ x)(A:JX P S tm H G)(hc:∀c,G.op=.call c->∃b,c.callee=.builtin b)(h:dS P ak tm H G=J (.val r H')):tw P S Y H w (execOp ρ G) r H':=by
 have h0:=h;obtain⟨od,op,T,QS,oa,og⟩:=G;simp only[dS]at h;cases op<;>(try simp only at h)<;>(try simp only[execOp]);case move x=>exact adF j p u z (g x (by simp[eL])) h
 case assign x=>exact adF j p u z (g x (by simp[eL])) h
 case pick c a b=>exact ash j p u z (g c (by simp[eL])) (g a (by simp[eL])) (g b (by simp[eL])) h
 case alloc e=>exact(arQ j p h).next
 case box e x=>exact(arS j p u z (g x (by simp[eL])) h).next
 case build t ps=>exact(arT j p u z (λx F=>g _ (by grind[eL])) h).next
 case buildSlice t n ps=>exact(arU j p u z (λx F=>g _ (by grind[eL])) h).next
 case load t a=>
  refine(ar6 j p u z (g a (by simp[eL])) (λid K D=>?_) h).next;rcases EY:s8 H id with _|q;.exact zR j p u z A rfl (by grind[eC]) _
  have:=HP j p u z A rfl (l:=[(.rd,q)]) (by grind[eC]) (.rd,q) aP;grind[aiW]
 case store t a x=>
  refine asl j p u z (g a (by simp[eL])) (g x (by simp[eL])) (λid K D=>?_) h;rcases EY:s8 H id with _|q;.exact zR j p u z A rfl (by grind[eC]) _
  have:=HP j p u z A rfl (l:=[(.wr,q)]) (by grind[eC]) (.wr,q) aP;grind[aiW]
 case nilCheck x=>exact asf (o:=⟨od,_,T,QS,oa,og⟩) j p u z rfl (g x (by simp[eL])) h
 case binOp op t x y yt=>exact(arR j p u z (g x (by simp[eL])) (g y (by simp[eL])) h).next
 case unOp op t x=>exact(asm j p u z (g x (by simp[eL])) h).next
 case convert s d x=>exact(arV j p u z (g x (by simp[eL])) h).next
 case makeFunc f a b=>cases f with|func f=>exact(ar9 j p u z (λx F=>g x (by grind[eL])) (λx F=>g x (by grind[eL])) h).next|_=>grind
 case makeMap t q=>exact(asa j p u z h (λx F=>g x (by grind[eL]))).next
 case makeSlice t l c=>exact(asb j p u z (g l (by simp[eL])) (g c (by simp[eL])) h).next
 case slice t x lo cK mx=>refine(asj j p u z (g x (by simp[eL])) (λy X=>g y (by grind[eL])) (λy X=>g y (by grind[eL])) (λy X=>g y (by grind[eL])) (λid K F=>?_) h).next;exact zR j p u z A rfl (by grind[eC]) _
 case fieldAddr s x f=>exact(ar0 j p u z (g x (by simp[eL])) h).next
 case field s x f=>exact(arZ j p u z (g x (by simp[eL])) h).next
 case indexAddr t x i=>exact(ar5 j p u z (g x (by simp[eL])) (g i (by simp[eL])) h).next
 case index t x i=>exact(ar4 j p u z (g x (by simp[eL])) (g i (by simp[eL])) h).next
 case lookup t x k ok=>
  have E:∃B,bJ P tm k=J B:=by cases E:bJ P tm k with|some B=>grind|none=>simp only[Ci]at h;split at h<;>simp_all
  obtain⟨B,E⟩:=E;refine(ar7 j p u z (g x (by simp[eL])) (g k (by simp[eL])) (λm L W I=>?_) h).next;rw[M9 I];cases ok with|true=>exact HP j p u z A rfl (l:=[(.rd,m)]) (by grind[eC]) (.rd,m) aP|false=>exact HP j p u z A rfl (l:=[(bif Gi P t B then .look t B else .rd,m)]) (by grind[eC]) (bif Gi P t B then .look t B else .rd,m) aP
 case mapUpdate t m k x=>exact adE j p u z (zR j p u z A rfl rfl) (g m (by simp[eL])) (g k (by simp[eL])) (g x (by simp[eL])) h
 case insert t m k x=>exact adE j p u z (zR j p u z A rfl rfl) (g m (by simp[eL])) (g k (by simp[eL])) (g x (by simp[eL])) h
 case mapEntry t m k=>
  have E:∃B,bJ P tm k=J B:=by cases E:bJ P tm k with|some B=>grind|none=>simp only[JT]at h;split at h<;>simp_all
  obtain⟨B,E⟩:=E;refine(asd j p u z (λr L W I=>?_) (g m (by simp[eL])) (g k (by simp[eL])) h).next;rw[M9 I];exact HP j p u z A rfl (l:=[(.entry t B,r)]) (by grind[eC]) (.entry t B,r) aP
 case entryStore t m s x=>exact arX j p u z (zR j p u z A rfl rfl) (g m (by simp[eL])) (g s (by simp[eL])) (g x (by simp[eL])) h
 case range t x=>exact(asi j p u z (zR j p u z A rfl rfl) (g x (by simp[eL])) h).next
 case next Q Qf=>
  cases Qf;case true=>grind
  exact(ase j p u z (zR j p u z A rfl rfl) (g Q (by simp[eL])) h).next
 case entry Q=>exact(arW j p u z (zR j p u z A rfl rfl) (g Q (by simp[eL])) h).next
 case extract t i=>exact(arY j p u z (g t (by simp[eL])) h).next
 case call c=>
  obtain⟨b,U⟩:=hc c rfl;obtain⟨callee,args,N⟩:=c;subst U;obtain⟨d,hd,h⟩:=aE h;obtain⟨M,D,hd⟩:=aE hd;cases hd;have Db:=MD u z (λx F=>g x (by grind[eL,Call.operands])) D;have O:ba Y M (args.map ρ).toList:=aT;have R:iz P H b N M=J (r,H'):=by simp_all[uN]
  have hS:(∀r,S r)\/(b=.len/\∀m L,M=[.map m]->H.jO m=J L->S (rootOf H m))\/b=.cap:=by
   cases b;case len=>
    right;left;refine⟨rfl,λm L W I=>?_⟩;rw[M9 I];rcases hl:args.toList with _|⟨x,t⟩;.grind[Fv]
    rw[hl,Qy]at D;obtain⟨v,hv,D⟩:=aE D;obtain⟨t',ht,D⟩:=aE D;have htn:t=[]:=by have:=(Fw ht).1;grind
    exact HP j p u z A rfl (l:=[(.rd,m)]) (by grind[eC]) (.rd,m) aP
   case cap=>grind
   all_goals exact .inl (zR j p u z A rfl rfl)
  have U:=λaa=>am1 (ty:=T) (cs:=aa) j p hS R O;change tw P S Y H w (builtin b _ T _ _) r H';grind
 all_goals grind
end
end Go.AM
namespace Go.AM
open Go
variable{v:AV}{ops:Array aB}{H H':Heap}{k:List Item}{cs:List di}{S:Nat->Prop}{rec:Rec}{tm:Tr AV}{P:aH}{w:aV}{Y A:bc}{F:di}
def gI:Nat->Prop:=λ_=>True
def fW(d:bc)(H:Heap)(w:aV)(c:bc)(a:Heap)(b:aV):Prop:=bg a/\bQ gI c a b/\Fr d H w c a b
def zr(a:bc):ah Nat->ah Nat->Prop|none,Z=>True|some l,J b=>∃p,a l=J p/\b=p.aZ|_,_=>False
structure iW(Y:bc)(fr:cG)(F:di)(todo:List Item):Prop where
 fn:F.fn=fr.fn
 tmps:rB Y fr.n fr.tmps F.tmps
 todo:fr.mode=.run->F.todo=todo
 defers:zf Y fr.defers F.defers
 mode:F.mode=fr.mode
 kind:F.kind=.normal
 round:zr Y fr.roundOf F.roundOf
theorem zr.mono(h:Ext Y A){a b:ah Nat}(r:zr Y a b):zr A a b:=by cases a<;>cases b<;>simp only[zr]at r|-;obtain⟨p,c,d⟩:=r;exact⟨p,h _ _ c,d⟩
theorem iW.mono(h:Ext Y A){f:cG}(r:iW Y f F k):iW A f F k:=⟨r.fn,r.tmps.mono h,r.todo,r.defers.mono h,r.mode,r.kind,r.round.mono h⟩
def bQ.SD{n:Nat}(h:bQ (AM.more S n) Y H w)(a:∀r,S r):bQ gI Y H w:=h.up λr _=>.inl (a r)
def ig.SD{a:aV}(h:ig S Y H w A H' a)(b:∀r,S r):fW Y H w A H' a:=⟨h.1,h.2.1.SD b,h.2.2⟩
theorem fW.refl(h:bg H)(s:bQ gI Y H w):fW Y H w Y H w:=⟨h,s,Fr.refl Y H w⟩
def fW.trans{d:bc}{H1 a:Heap}{b c:aV}(i:bg H)(s:bQ gI Y H w)(h:fW Y H w A H1 b)(k:fW A H1 b d a c):fW Y H w d a c:=⟨k.1,k.2.1,h.2.2.trans k.2.2 (λid p e=>s.stat.lt i e) (λid p e=>h.2.1.stat.lt h.1 e)⟩
def kF(P:aH)(d:bc)(H:Heap)(w:aV)(f:cG)(F:di)(s:List di):Out->Prop|.ret v H'=>∃A b u,fW d H w A H' b/\VR A v u/\(f.roundOf=Z->∃a,Steps P (ff F s w) (ff a s b)/\a.fn=F.fn/\a.mode=.returning/\a.defers=[]/\a.kind=.normal/\∃fn,P.funcs[a.fn]?=J fn/\(results fn a.tmps).run P b=.ok u b)/\(f.roundOf≠Z->∀c rest,s=c::rest->Steps P (ff F s w) (ff (c.finish u) rest b))
def nz(P:aH)(r:Rec):Prop:=∀(fr:cG)(H:Heap)(out:Out),r fr H=J out->∀(Y:bc)(w:aV)(F:di)(cs:List di),bg H->bQ gI Y H w->iX P Y->iW Y fr F fr.todo->kF P Y H w fr F cs out
theorem kF.after{d:Heap}{b:aV}{f fr1:cG}{a:di}{o:Out}(p:bg H)(t:bQ gI Y H w)(r:fW Y H w A d b)(q:Steps P (ff F cs w) (ff a cs b))(s:fr1.roundOf=f.roundOf)(B:a.fn=F.fn)(h:kF P A d b fr1 a cs o):kF P Y H w f F cs o:=by obtain⟨x,v,u,i,j,k,y⟩:=h;refine⟨x,v,u,r.trans p t i,j,λn=>?_,λn c rest e=>q.trans aT⟩;obtain⟨g,l,z,m⟩:=k (s.trans n);exact⟨g,q.trans l,aT,m⟩
theorem kF.back{f:cG}{c:di}{r:List di}(h:kF P Y H w f F (c::r) (.ret v H')):∃A a u,fW Y H w A H' a/\VR A v u/\Steps P (ff F (c::r) w) (ff (c.finish u) r a):=by
 obtain⟨A,a,u,b,d,e,p⟩:=h;refine⟨A,a,u,b,d,?_⟩;by_cases n:f.roundOf=Z;.obtain⟨o,g,q,i,j,k,fn,l,m⟩:=e n;exact g.trans (Steps.one (step_leave_returned ⟨i,j,k,fn,l,m⟩))
 grind
section
variable{P:aH}{Y:bc}{H:Heap}{w:aV}
theorem rB.set{n:Nat}{t:Tr AV}{c:Array aD}(h:rB Y n t c){d:Nat}{a:AV}{v:aD}(f:VR Y a v)(e:d<n):rB Y n (t.ins d a) (c.setIfInBounds d v):=by
 refine⟨by simp[h.1],λi=>?_⟩;by_cases b:d=i
 . subst b;rw[Tr.lF];have:d<c.size:=by rw[h.1];omega
   simp_all
 .rw[Tr.jy _ _ b];have:=h.2 i;simp_all
theorem JJ:VR Y fC undef:=ba.cL (ba.nil Y) #[] rfl
theorem O3{f E:cG}{i:Nat}{r:aC}{o:aB}{u:aD}(g:ops[i]?=J o)(m:f.mode=.run)(h:ta f o.dst v=J E)(a:iW Y f F (.inRegion ops (i::r)::k))(c:VR Y v u):iW Y E (F.finish u) (.inRegion ops r::k)/\E.mode=.run/\E.todo=f.todo/\E.roundOf=f.roundOf/\(F.finish u).fn=F.fn:=by
 have t:=a.todo m;rw[DH]at h;rcases hd:o.dst with _|d
 . rw[hd]at h;cases h;have e:F.finish u={F with todo:=.inRegion ops r::k}:=by grind[Frame.finish]
   rw[e];exact⟨⟨a.fn,a.tmps,λ_=>rfl,a.defers,a.mode,a.kind,a.round⟩,m,rfl,rfl,rfl⟩
 rw[hd]at h;simp only[eQ]at h;by_cases b:d<f.n
 . simp only[b,eB,aR]at h;cases h;have e:F.finish u={F with tmps:=F.tmps.setIfInBounds d u,todo:=.inRegion ops r::k}:=by grind[Frame.finish]
   rw[e];exact⟨⟨a.fn,a.tmps.set c b,λ_=>rfl,a.defers,a.mode,a.kind,a.round⟩,m,rfl,rfl,rfl⟩
 grind
theorem JO{o:aB}{b:Bool}{c:Array aD}(h:wi ops tm o=J b)(g:∀j w d,o.guard=J (j,w)->(ops[j]?).bind (·.dst)=J d->VR Y ((tm.get d).getD fC) (c.getD d undef)):Region.wanted o (yielded ops c)=b:=by
 unfold wi at h;unfold Region.wanted;rcases u:o.guard with _|i;.grind
 obtain⟨j,w⟩:=i;rw[u]at h;simp only at h|-;unfold yielded;rcases hd:(ops[j]?).bind _ with _|d;.grind
 rw[hd]at h;have e:=g j _ d u hd;simp only[cR,GQ]at h e|-;rcases t:tm.get d with _|a
 . rw[t]at h e;obtain rfl:C=b:=ai;rcases f:c[d]? with _|v;.rfl
   rw[f]at e;cases v<;>simp;cases e
 rw[t]at h e;rcases f:c[d]? with _|v;.rw[f]at e;cases a<;>simp at h e<;>first|(cases e;done)|grind|skip
 rw[f]at e;cases a<;>simp at h;all_goals(subst h;cases e<;>simp)
theorem aHF{j:aK->aD}{c:Call}{ty:an}{d:R9}(k:iX P Y)(r:Reads j)(o:∀x,x∈c.operands.toList->fj Y tm j x)(h:yE P tm c=J d):∃e,(∀w:aV,(resolve j c ty).run P w=.ok e w)/\akq Y d e:=by obtain⟨S,m,h⟩:=aE h;obtain⟨callee,args,s⟩:=c;cases callee with|builtin b=>cases h;have D:=MD k r (λx A=>o x (by grind[Call.operands])) m;exact⟨_,λw=>rfl,.builtin b _ _ _,aT⟩|invoke=>grind|value f=>
 have D:=MD k r (λx A=>o x (by grind[Call.operands])) m;obtain⟨F,u,h⟩:=aE h;have R:=(fH k r (o f (by simp[Call.operands])) u).1;split at h;.rename_i g first t;cases h;simp only[resolve];generalize j f=q at R;cases R with|func _ _ _ B n G H g1 g2=>refine⟨_,λw=>by rfl,.fn g _ n ⟨ab,λi a v x y=>g2 i a v x ai⟩,?_⟩;have E:ba Y _ _:=⟨ab,λi a v x y=>g1 i a v x ai⟩;simp only[ly];rw[Array.toList_append];exact E.append aT
 .rename_i l;cases h;simp only[resolve];generalize j f=q at R;cases R with|yield _ p z=>exact⟨_,λw=>by rfl,.yield l p z,aT⟩
 grind
theorem alX:∀(l:aI)(t:Tr AV)(k:Nat),(fS (λ(p:Tr AV×Nat)a=>(p.1.ins p.2 a,fg p.2)) l (t,k)).2=k+l.length/\∀i,((fS (λ(p:Tr AV×Nat)a=>(p.1.ins p.2 a,fg p.2)) l (t,k)).1.get i)=if k<=i/\i<k+l.length then l[i-k]? else t.get i:=by intro l;induction l with|nil=>grind[pF]|cons a l d=>
 intro t k;rw[pF]at*;simp only[AX];obtain⟨h,b⟩:=d (t.ins k a) (fg k);rw[pF]at h b;refine⟨by rw[h];simp;omega,λi=>?_⟩;rw[b i];by_cases c:k+1<=i/\i<k+1+l.length;.rw[if_pos c,if_pos (by simp;omega)];have:i-k=(i-(k+1))+1:=ab;rw[this,J1]
 grind[Tr.lF,Tr.jy]
theorem KG{f:bW}{a:aI}{d:Array aD}{r:cG}(h:wG P f a=J r)(c:ba Y a d.toList):iW Y r (Frame.enter P f d .normal) r.todo/\r.mode=.run/\r.roundOf=Z/\∃fn b,P.funcs[f]?=J fn/\fn.body=J b:=by
 obtain⟨fn,e,h⟩:=aE h;obtain⟨b,k,h⟩:=aE h;rw[dj,dT]at h;by_cases l:a.length<=fn.ntmps
 . simp only[l,eB,aR]at h;cases h;refine⟨⟨rfl,⟨?_,λi=>?_⟩,λ_=>by grind[Frame.enter],trivial,rfl,rfl,trivial⟩,rfl,rfl,fn,b,e,k⟩;.have:=c.1;grind[Frame.enter]
   . obtain⟨_,j⟩:=alX _ _ 0;rw[j i,Tr.get_nil];have n:=c.1;simp at n;simp only[Frame.enter,e,GQ];by_cases m:i<a.length;.have g:=dA m;obtain⟨v,u,t⟩:=c.get g;grind
     grind[JJ]
 grind
def ru(P:aH):Prop:=∀(f:Nat)(fn:Func),P.funcs[f]?=J fn->fn.body.isSome=V->fn.name≠ "runtime.NumGoroutine"
theorem Kn(c:ru P){f:bW}{n:Func}{b:bM}(h:P.funcs[f]?=J n)(d:n.body=J b)(a:Array aD)(w:aV):(callFunc f a).run P w=.ok (.enter f a) w:=by have:=c f n h ai;simp_all[callFunc]
end
def zl(x:ah fh):Prop:=∀r,x=J r->∃v H,r=.val v H
theorem ayo:zl Z:=λr h=>ai
def ayq(v:AV)(H:Heap):zl (J (.val v H)):=λr h=>⟨v,H,(bE h).symm⟩
theorem ayp(H:Heap)(v:ah AV):zl (eY H v):=λr h=>by unfold eY at h;cases v<;>grind
theorem ayl{b:Type}(x:ah b)(f:b->ah fh)(h:∀a,zl (f a)):zl (x.bind f):=λr hr=>by obtain⟨a,_,c⟩:=aE hr;exact h a r c
theorem ayn{b:Type}(x:ah b)(f:b->fh)(h:∀a,∃v H,f a=.val v H):zl (x.map f):=λr hr=>by simp only[iI]at hr;obtain⟨a,_,rfl⟩:=hr;simp_all
theorem aym(c:Bool)(a b:ah fh)(h:zl a)(d:zl b):zl (bif c then a else b):=ai
theorem TQ{k:cj}{o:aB}(h:∀c,o.op≠.call c):zl (dS P k tm H o):=by unfold dS;split<;>first
 |exact absurd ‹_› (h _)
 | (try simp only[DW,Cj,GB,GD,Cf,GF,GJ,DY,DX,GC,GN,GG,GK,GL,GM,NR,DS,GI,Ch,DT,Ci,DU,JT,R0,R5,R4,RZ,JS]
    repeat' first|exact ayo|exact ayq _ _|exact ayp _ _|(apply ayn;grind)|(apply ayl;intro a)|apply aym|(dsimp only;done)|split)
def jL(P:aH)(k:cj):Prop:=∀(f:bW)(args:aI)(H:Heap)(v:AV)(H':Heap),k f args H=J (J (v,H'))->∀(Y:bc)(w:aV)(a:Array aD)(c:di)(cs:List di),bg H->bQ gI Y H w->iX P Y->ba Y args a.toList->∃A b u,fW Y H w A H' b/\VR A v u/\((callFunc f a).run P w=.ok (.value u) b\/((callFunc f a).run P w=.ok (.enter f a) w/\Steps P (ff (Frame.enter P f a .normal) (c::cs) w) (ff (c.finish u) cs b)))
section
variable{P:aH}{Y:bc}{H:Heap}{w:aV}
def Frame.reads(F:di):Reads F.eval:=⟨λ_=>rfl,λ_=>rfl,λ_=>rfl⟩
theorem Gs{i:Nat}{r:aC}{o:aB}(m:F.mode=.run)(d:F.todo=.inRegion ops (i::r)::k)(b:ops[i]?=J o)(g:Region.wanted o (yielded ops F.tmps)=V)(h:∀c,o.op≠.defer c){n:Next}{w':aV}(j:(execOp F.eval o).run P w=.ok n w'):(∀v,n=.value v->step P (ff F cs w)=.next (ff (F.finish v) cs w'))/\(n=.skip->step P (ff F cs w)=.next (ff (F.finish undef) cs w'))/\(∀f args,n=.enter f args->step P (ff F cs w)=.next (ff (Frame.enter P f args .normal) (F::cs) w'))/\(∀l f t a body,n=.round l f t a body->step P (ff F cs w)=.next (ff (Frame.round l f t a body .normal) (F::cs) w')):=by
 have q:stepG P V {frame:=F,callers:=cs,status:=.running,dying:=Z} w=stepG.apply P V F cs Z (execOp F.eval o) w:=by grind[stepG,stepG.oper,ug,Frame.oper?]
 refine⟨λv e=>?_,λe=>?_,λf args e=>?_,λl f t a body e=>?_⟩<;>subst e<;>exact step_lone_go (by simp_all[stepG.apply])
theorem atu(h:∀r,S r)(t:Tr AV)(H:Heap)(o:aB):JX P S t H o:=by right;grind
theorem aFN:∀(s:List Tmp)(S:aI)(b:List aD)(n:Nat)(t:Tr AV)(c:Array aD),ba Y S b->s.length=S.length->rB Y n t c->rB Y n (fS (λt(p:Tmp×AV)=>bif ct p.1 n then t.ins p.1 p.2 else t) (List.zip s S) t) ((List.zip s b).foldl (λm(x:Tmp×aD)=>m.setIfInBounds x.1 x.2) c):=by intro s;induction s with|nil=>simp[pF]|cons p s o=>intro S b n t c f l d;cases S with|nil=>grind|cons a S=>
 obtain⟨v,g,rfl,e,i⟩:=f.cons_inv;rw[pF];simp only[List.zip_cons_cons,AX];have k:rB Y n (bif ct p n then t.ins p a else t) (c.setIfInBounds p v):=by
  rw[eQ];by_cases h:p<n;.simp only[h,eB,aR];exact d.set e h
  . simp only[h,lA,bX];have:c.setIfInBounds p v=c:=by have j:=d.1;grind
    grind
 grind[pF]
theorem aMl{i:Nat}{e:aC}{o:aB}(m:F.mode=.run)(t:F.todo=.inRegion ops (i::e)::k)(q:ops[i]?=J o)(s:Region.wanted o (yielded ops F.tmps)=V)(l:∀c,o.op≠.defer c)(h:tw P gI Y H w (execOp F.eval o) v H'):∃A a u,fW Y H w A H' a/\VR A v u/\Steps P (ff F cs w) (ff (F.finish u) cs a):=by obtain⟨A,n,a,j,b,d⟩:=h;obtain⟨f,g,_⟩:=Gs m t q s l j;have p:fW Y H w A H' a:=⟨d.1,d.2.1.up (λr _=>.inl trivial),d.2.2⟩;cases n with|value u=>exact⟨A,a,u,p,b,Steps.one (f u rfl)⟩|skip=>subst b;exact⟨A,a,_,p,JJ,Steps.one (g rfl)⟩|_=>simp only[D7]at b
set_option maxHeartbeats 1600000 in theorem Wf{ak:cj}(eW:nz P rec)(oU:jL P ak)(hn:ru P){i:Nat}{K:aC}{o:aB}(Q:bg H)(D:bQ gI Y H w)(y:iX P Y)(z:F.mode=.run)(E:F.todo=.inRegion ops (i::K)::k)(B:ops[i]?=J o)(G:Region.wanted o (yielded ops F.tmps)=V)(vD:∀x,x∈o.op.operands.toList->fj Y tm F.eval x)(h:fB P ak rec tm H o=J (.val v H')):∃A M u,fW Y H w A H' M/\VR A v u/\Steps P (ff F cs w) (ff (F.finish u) cs M):=by
 have hr:=Frame.reads F;unfold fB at h;obtain⟨x,a,h⟩:=aE h;have hd:∀c,o.op≠.defer c:=λc e=>by grind[dS]
 by_cases BE:(∃v H',x=.val v H')/\∀c,o.op=.call c->∃b,c.callee=.builtin b;.obtain⟨⟨v,H',rfl⟩,hb⟩:=BE;obtain⟨rfl,rfl⟩:=D8.val.inj (bE h);exact aMl z E B G hd (adG Q D y hr vD (atu (λ_=>trivial) _ _ _) hb a)
 by_cases eV:∃c,o.op=.call c
 . obtain⟨c,hc⟩:=eV;obtain⟨callee,args,T⟩:=c;have LP:=a;simp only[dS,hc,Cg]at a;obtain⟨d,I,a⟩:=aE a;have U:∀x,x∈(Call.operands ⟨callee,args,T⟩).toList->fj Y tm F.eval x:=λx a=>vD x (by rw[hc];exact a);obtain⟨e,he,Pp⟩:=aHF (ty:=o.type) y hr U I;obtain⟨dt,O⟩:=d;obtain⟨et,n⟩:=e;have S:=Pp.args;have W:=Pp.target;have N:(execOp F.eval o).run P w=(invoke et n).run P w:=by simp_all[execOp]
   cases W with
   |builtin b ts t css=>simp only[uN,iI]at a;obtain⟨aS,ha,I⟩:=aE I;cases callee with|builtin b'=>grind|invoke=>grind|value f=>obtain⟨fv,hf,I⟩:=aE I;grind
   |fn g j s jX=>
   simp only[uN]at a;have kp:ba Y (dy O j) (n++s).toList:=by rw[ly,Array.toList_append];exact S.append jX
   have hinv:(invoke (.fn (.func g) _) n).run P w=(callFunc g (n++s)).run P w:=rfl;unfold xQ at a;split at a
   . rename_i rp PN;rcases rp with _|vh;.grind
     obtain⟨v,H'⟩:=vh;obtain⟨A,M,u,p1,p2,p3⟩:=oU g _ H v H' PN Y w _ F cs Q D y kp;rcases p3 with p3|⟨p3,p4⟩;.obtain⟨a1,_⟩:=Gs (cs:=cs) z E B G hd (by rw[N,hinv];omega);grind[Steps.one]
     .obtain⟨_,_,a3,_⟩:=Gs (cs:=cs) z E B G hd (by rw[N,hinv];omega);grind[Steps.head]
   .simp only[iI]at a;obtain⟨fE,Bs,rfl⟩:=a;obtain⟨⟨v',H1⟩,yj,h⟩:=aE h;obtain⟨e1,e4,e7,fn,b,e5,e6⟩:=KG Bs kp;obtain⟨_,_,a3,_⟩:=Gs (cs:=cs) z E B G hd (by rw[N,hinv];exact Kn hn e5 e6 _ w);obtain⟨A,M,u,q1,q2,q3⟩:=kF.back (eW _ H _ yj Y w _ (F::cs) Q D y e1);grind[Steps.head]|yield l p hp=>
   simp only[uN]at a;split at a
   . rename_i lp oc;rw[bR,dT,dT]at a;by_cases q:O.length=lp.params.length
     . simp only[q,eB,aR]at a;cases a;obtain⟨⟨v',H1⟩,yj,h⟩:=aE h;obtain⟨hb0,R,hR,L⟩:=D.obj l p _ hp trivial (by intro l' r fl e Ib;grind) oc;have aOi:=L.params;have fL:n.size=R.params.size:=by have h1:=S.1;grind
       have hinv:(invoke (.fn (.yield p.aZ) #[]) n).run P w=.ok (.round p.aZ R.fn ((R.params.zip n).foldl (λm(x:Tmp×aD)=>m.setIfInBounds x.1 x.2) R.tmps) R.assign R.body) w:=by have dW:(getObj _).run P w=.ok _ w:=yH hR aP;simp[invoke,Instr.yield,Instr.getLoop,dW,fL]
       obtain⟨_,_,_,a4⟩:=Gs (cs:=cs) z E B G hd (by rw[N];omega);have X:rB Y lp.n (fS (λt(p:Tmp×AV)=>bif ct p.1 lp.n then t.ins p.1 p.2 else t) (List.zip lp.params O) lp.tmps) ((R.params.zip n).foldl (λm(x:Tmp×aD)=>m.setIfInBounds x.1 x.2) R.tmps):=by have:=aFN _ O _ _ _ _ S q.symm L.tmps;grind[Array.toList_zip]
       obtain⟨A,M,u,q1,q2,q3⟩:=kF.back (eW _ H _ yj Y w (Frame.round p.aZ R.fn ((R.params.zip n).foldl (λm(x:Tmp×aD)=>m.setIfInBounds x.1 x.2) R.tmps) R.assign R.body .normal) (F::cs) Q D y ⟨L.fn,X,λ_=>by simp[Frame.round,L.assign,L.body],trivial,rfl,rfl,⟨p,hp,rfl⟩⟩);grind[Steps.head]
     grind
   grind
 .obtain⟨v,H',rfl⟩:=TQ (λc e=>eV ⟨c,e⟩) x a;grind
end
structure jT(fr fE:cG):Prop where
 mode:fE.mode=.run
 todo:fE.todo=fr.todo
 round:fE.roundOf=fr.roundOf
def jT.trans{a b c:cG}(h:jT a b)(k:jT b c):jT a c:=⟨k.mode,k.todo.trans h.todo,k.round.trans h.round⟩
section
variable{P:aH}{Y:bc}{H:Heap}{w:aV}
theorem aJa{f E:cG}{d:ah Tmp}(h:ta f d v=J E)(m:f.mode=.run):jT f E/\E.defers=f.defers/\E.n=f.n/\E.fn=f.fn:=by
 rw[DH]at h;rcases d with _|d;.cases h;exact⟨⟨m,rfl,rfl⟩,rfl,rfl,rfl⟩
 simp only[eQ]at h;by_cases b:d<f.n;.simp only[b,eB,aR]at h;cases h;exact⟨⟨m,rfl,rfl⟩,rfl,rfl,rfl⟩
 grind
theorem iW.run{f:cG}(h:iW Y f F k)(m:f.mode=.run):F.mode=.run:=h.mode.trans m
theorem iW.aCw{f:cG}(h:iW Y f F k)(r:f.roundOf=Z):F.roundOf=Z:=by have:=h.round;grind[zr]
def J6(P:aH)(d:bc)(H:Heap)(w:aV)(r:cG)(F:di)(c:List di)(t:List Item):AZ->Prop|.next f H'=>∃A b a,Steps P (ff F c w) (ff a c b)/\fW d H w A H' b/\iW A f a t/\jT r f/\a.fn=F.fn
theorem Ry{f E:cG}{i:Nat}{r:aC}{o:aB}(j:bg H)(s:bQ gI Y H w)(l:ops[i]?=J o)(m:f.mode=.run)(a:iW Y f F (.inRegion ops (i::r)::k))(n:Region.wanted o (yielded ops F.tmps)=C)(h:ta f o.dst fC=J E):J6 P Y H w f F cs (.inRegion ops r::k) (.next E H):=by obtain⟨b,c,d,e,g⟩:=O3 l m h a JJ;have t:=a.run m;have O:=a.todo m;exact⟨Y,w,_,Steps.one (step_lone_go (by simp_all[stepG,ug])),fW.refl j s,b,⟨c,d,e⟩,g⟩
theorem aoQ{c:cj}(W:nz P rec)(U:jL P c)(K:ru P){f:cG}{i:Nat}{s:aC}{o:aB}{r:AZ}(I:bg H)(L:bQ gI Y H w)(G:iX P Y)(g:ops[i]?=J o)(m:f.mode=.run)(a:iW Y f F (.inRegion ops (i::s)::k))(h:Bf P c rec ops f H o=J r):J6 P Y H w f F cs (.inRegion ops s::k) r:=by
 rw[KA]at h;obtain⟨b,E,h⟩:=aE h;have M:=JO E (λj n d _ _=>a.tmps.2 d);rcases b with _|_;.grind[iI,Ry]
 obtain⟨⟨v,H'⟩,N,h⟩:=aE h;obtain⟨A,Q,u,q,O,q3⟩:=Wf W U K I L G (a.run m) (a.todo m) g M (λy _ t e=>by subst e;exact a.tmps.2 t) N;simp only[iI]at h;obtain⟨R,D,rfl⟩:=h;obtain⟨l,p,x,z,B⟩:=O3 g m D (a.mono q.2.2.ext) O;exact⟨A,Q,_,q3,q,l,⟨p,x,z⟩,B⟩
theorem aH9{c:cj}(W:nz P rec)(U:jL P c)(t:ru P):∀(l:List aB)(i:Nat),ops.toList.drop i=l->∀(fr:cG)(H:Heap)(r:AZ),Aw P c rec ops l fr H=J r->∀(Y:bc)(w:aV)(F:di)(cs:List di),bg H->bQ gI Y H w->iX P Y->fr.mode=.run->iW Y fr F (.inRegion ops (List.range' i l.length)::k)->J6 P Y H w fr F cs (.inRegion ops []::k) r:=by intro l;induction l with|nil=>intro i _ fr H r h Y w F cs a s g m b;cases h;exact⟨Y,w,F,Steps.refl P _,fW.refl a s,b,⟨m,rfl,rfl⟩,rfl⟩|cons o l v=>
 intro i N fr H r h Y w F cs a s g m b;have u:ops[i]?=J o:=by have:(ops.toList.drop i)[0]?=J o:=ai;grind
 have y:ops.toList.drop (i+1)=l:=by have:(ops.toList.drop i).drop 1=l:=ai;grind[D2]
 obtain⟨⟨n,j⟩,x,q⟩:=aE h;obtain⟨A,K,e,G,p,f1,d,B⟩:=aoQ W U t a s g u m b x;have:=v _ y _ j r q A K e cs p.1 p.2.1 (g.mono p.2.2.ext) d.mode f1;obtain⟨M,L,f,I,E,f2,z,D⟩:=this;exact⟨M,L,f,G.trans I,p.trans a s E,f2,d.trans z,D.trans B⟩
end
end Go.AM
namespace Go.VM
open Go Go.AM
variable{a:AV}{g:GH}{I:Nat}{R:Nat->Prop}{p:Pk}{sv:SV}{m:aI}{x:aK}{dst:ah Tmp}{e t:an}{lb:dV}
structure uk(B:aJ)(k:Kd)(app:Bool)(H H':Heap):Prop where
 bA:H'.bA=H.bA
 wl:k≠.wr->∀r,r∈H'.bV->r∈H.bV
 gl:k≠.wr->app=C->∀r,r∈H'.cI->r∈H.cI
 wall:∀r,r∈H'.bV->r∈H.bV\/(r<H.bA/\dK B r)aeo:∀r,r∈H'.cI->r∈H.cI\/(r<H.bA/\dK B r)
theorem uk.refl{b:aJ}(k:Kd)(a:Bool)(H:Heap):uk b k a H H:=⟨rfl,λ_ _ h=>h,λ_ _ _ h=>h,λ_ h=>.inl h,λ_ h=>.inl h⟩
section
variable{P:aH}{ak:cj}{rec:Rec}{cf:bU}{K K':aY}{Y A:cm}{B ω':aJ}{H H':Heap}
def eO(P:aH)(k:cj)(r:Rec)(c:bU)(K:aY)(b:cm)(a:aJ)(H:Heap)(st0 t s:St)(m:Tr AV)(o:aB):Prop:=∃v H',fB P k r m H o=J (.val v H')/\(∀d,o.dst=J d->d<t.n)/\fN K b a H s (gR m o.dst v) H'/\s.n=t.n/\s.fn=t.fn/\uk a (kindOf c st0 o.op) (isApp o.op) H H'
theorem nP{a s:St}{d:ah Tmp}(h:aG a d sv=J s):(∀t,d=J t->t<a.n)/\s.n=a.n/\s.fn=a.fn/\s.lb=a.lb/\s.g=a.g:=by grind[yL]
theorem sj{b s t:St}{m:Tr AV}{o:aB}{x:DV}(f:HR K Y B H s.lb s.g)(g:bZ K Y B H m s.sl)(j:dS P ak m H o=J (.val a H))(h:aG s o.dst (.dv x .no)=J t)(i:DR K Y x a):eO P ak rec cf K Y B H b s t m o:=by obtain⟨c,d,e,_⟩:=nP h;exact⟨a,H,by grind[fB],c,A4 f g h i,d,e,uk.refl _ _ _⟩
variable{aq:Nat->ah ao}{gs cr:aC}{fk:bW->Nat}{later:List aB}{st0 O st':St}{tm:Tr AV}{o:aB}
theorem amz(g:dw P K Y aq)(c:HR K Y B H O.lb O.g)(s:bZ K Y B H tm O.sl){p:BinOp}{u:an}{y:aK}(j:o.op=.binOp p t x y u)(h:dC P aq fk gs cr later O o=J st'):eO P ak rec cf K Y B H st0 O st' tm o:=by unfold dC at h;rw[j]at h;obtain⟨a,f,h⟩:=aE h;obtain⟨b,i,h⟩:=aE h;obtain⟨v,k,h⟩:=aE h;obtain⟨l,m,n,d⟩:=oz g c s f;obtain⟨q,w,z,e⟩:=oz g c s i;obtain⟨r,r1,r2⟩:=amd (xo:=x) (yo:=y) k d e;refine sj c s ?_ h (r2 _ _);simp_all[dS,GC,eY]
theorem aL7(g:dw P K Y aq)(b:HR K Y B H O.lb O.g)(s:bZ K Y B H tm O.sl){p:UnOp}(e:o.op=.unOp p t x)(h:dC P aq fk gs cr later O o=J st'):eO P ak rec cf K Y B H st0 O st' tm o:=by unfold dC at h;rw[e]at h;obtain⟨a,d,h⟩:=aE h;obtain⟨v,f,h⟩:=aE h;obtain⟨i,j,k,c⟩:=oz g b s d;obtain⟨r,r1,r2⟩:=aL4 f c;refine sj b s ?_ h (r2 _ _);simp_all[dS,GN,eY]
theorem sX(q:dw P K Y aq)(w:bZ K Y B H tm O.sl){d:DV}(v:jK O x)(h:bj aq O x=J d):∃a,AM.bJ P tm x=J a/\a≠.top/\DR K Y d a:=by obtain⟨sv,j,k⟩:=aE h;obtain⟨a,m,n,p⟩:=qU q w j;refine⟨a,m,n,?_⟩;cases sv with
 |dv i o=>
 obtain rfl:=bE (show J i=J d from k);rcases p with⟨t,rfl,u,_,b⟩|⟨_,⟨d2,e,b⟩|⟨d2,f,_,e1,e2,b⟩|⟨g,l,cells,e,e1,_⟩⟩;.cases o with|no=>exact b|any=>obtain⟨rfl,rfl⟩:=b;exact .nl|full e=>exact b.1|ty e=>exact b.1|ex e=>
  have hd:=v t i e rfl u;subst hd;rcases b with⟨_,rfl⟩|⟨r,_,b⟩;.exact .nl
  .obtain⟨l,s,id,I,c,cells,y,e1,_⟩:=b.ex;grind
 all_goals grind|_=>grind[CK]
theorem VF(g:dw P K Y aq)(b:bZ K Y B H tm O.sl):∀(l:List aK)(s:ao),(∀x,x∈l->jK O x)->cw (bj aq O) l=J s->∃m,cw (AM.bJ P tm) l=J m/\bK K Y s m:=by intro l;induction l with|nil=>intro s _ h;obtain rfl:=bE (show J []=J s from h);exact⟨[],rfl,bK.nil⟩|cons x l i=>intro s n h;have a:=h;obtain⟨d,hd,a⟩:=aE a;obtain⟨t,c,a⟩:=aE a;grind[sX,gv,bK.cons,cw]
theorem aub(g:dw P K Y aq)(p:HR K Y B H O.lb O.g)(s:bZ K Y B H tm O.sl){f:bW}{i c:Array aK}(q:o.op=.makeFunc (.func f) i c)(n:∀x,x∈o.op.operands.toList->jK O x)(h:dC P aq fk gs cr later O o=J st'):eO P ak rec cf K Y B H st0 O st' tm o:=by have I:∀x,x∈i.toList->jK O x:=λx r=>n x (by grind[eL]);have S:∀x,x∈c.toList->jK O x:=λx r=>n x (by grind[eL]);unfold dC at h;rw[q]at h;obtain⟨a,l,h⟩:=aE h;obtain⟨b,m,h⟩:=aE h;obtain⟨j,t,d⟩:=VF g s _ _ I l;obtain⟨k,u,e⟩:=VF g s _ _ S m;refine sj p s ?_ h (.func f a b j k d.1 e.1 d.2 e.2);simp_all[dS,GK,eY]
end
section
variable{P:aH}{ak:cj}{rec:Rec}{cf:bU}{K K':aY}{Y A:cm}{B ω':aJ}{H H':Heap}
variable{aq:Nat->ah ao}{gs cr:aC}{fk:bW->Nat}{later:List aB}{st0 O st':St}{tm:Tr AV}{o:aB}
theorem xI(c:HR K Y B H O.lb O.g)(s:bZ K Y B H tm O.sl)(h:aG O dst sv=J st')(f:a≠.top)(v:∀d,dst=J d->F9 d sv=C->my K Y B H (tm.ins d a) d sv a):fN K Y B H st' (gR tm dst a) H:=by
 rcases yL h with⟨rfl,rfl⟩|⟨t,rfl,_,hr,rfl⟩;.exact⟨K,Y,B,bo.refl _,c.fX (bT.refl (λ_=>False) _),aX.refl _,c,s,bT.refl _ _,λp r b e=>.inl ⟨p,b,e⟩⟩
 .exact⟨K,Y,B,bo.refl _,c.fX (bT.refl (λ_=>False) _),aX.refl _,c,xh c.inv s (bT.refl _ _) (bo.refl _) (aX.refl _) (λ_ _ _ _ _ _ h=>⟨h,id⟩) aT aT (λ_=>f) (v t rfl hr),bT.refl _ _,λp r b e=>.inl ⟨p,b,e⟩⟩
def free:SV->Prop|.dv _ .no|.dv _ .any|.lp ..|.ev _|.sr _|.se ..|.gr ..|.hd _=>True|_=>False
theorem my.copy{t d:Nat}(f:free sv)(h:my K Y B H tm t sv a)(r:F9 d sv=C):my K Y B H (tm.ins d a) d sv a:=by
 have D:=DC r;rcases sv with⟨x,o⟩|l|⟨s,I⟩|x|s|⟨s,i,I⟩|⟨id,I⟩|n|_;.cases o<;>first|exact h|exact f.elim
 .exact f.elim
 .exact h
 .exact h
 .show(tm.ins d a).get s=J a;rw[Tr.jy _ _ ai];exact h
 .obtain⟨id,b,len,c,e,g1,g2⟩:=h;exact⟨id,b,len,c,_,by grind[Tr.jy],g2⟩
 .exact h
 .exact h
 exact f.elim
theorem aaQ(n:dw P K Y aq)(o:HR K Y B H O.lb O.g)(s:bZ K Y B H tm O.sl)(p:cU aq O x=J sv)(i:free sv)(h:aG O dst sv=J st'):∃a,AM.bJ P tm x=J a/\fN K Y B H st' (gR tm dst a) H:=by
 obtain⟨a,j,k,m⟩:=qU n s p;refine⟨a,j,xI o s h k λd _ hr=>?_⟩;rcases m with⟨t,_,_,_,b⟩|⟨_,⟨q,rfl,b⟩|⟨q,f,_,_,rfl,b⟩|⟨g,l,cells,e,rfl,rfl,b,r,c⟩⟩;.exact b.copy i hr
 . unfold ua at i|-;split;.cases b;exact⟨rfl,rfl⟩
   .exact b
 .exact b
 .exact⟨g,0,_,e,by rfl,b,by simp[DV.flat];rw[c.1];omega,by grind[DV.flat],by show bK K Y l ((cells.drop 0).take l.length);rw[xC,c.1,D6];omega⟩
theorem aaT(u:dw P K Y aq)(c:HR K Y B H O.lb O.g)(s:bZ K Y B H tm O.sl)(k:cU aq O x=J sv)(h:aG (aQ leave O x) dst sv=J st'):∃a,AM.bJ P tm x=J a/\fN K Y B H st' (gR tm dst a) H:=by
 obtain⟨a,m,n,i⟩:=qU u s k;rcases i with⟨t,rfl,v,W,o⟩|⟨U,i⟩
 . have A:sv≠.dd:=by intro e;have E:(match look O.sl t with|some .dd=>Z|r=>r)=J _:=k;grind
   have e1:aQ leave O (.tmp t)={O with sl:=put O.sl t (leave sv)}:=by grind[aQ]
   rw[e1]at h;rcases yL h with⟨rfl,rfl⟩|⟨d,rfl,_,hr,rfl⟩;.refine⟨a,m,K,Y,_,bo.refl _,c.fX (bT.refl (λ_=>False) _),aX.refl _,c.of (ZM t),?_,bT.refl _ _,λp r b j=>let⟨q,_,h⟩:=aJ.iG j;.inl ⟨q,b,h⟩⟩;exact RA c s v W n o
   .obtain⟨ω',w,y,z⟩:=ag0 c s v W A n o (DC hr);exact⟨a,m,K,Y,_,bo.refl _,c.fX (bT.refl (λ_=>False) _),aX.refl _,w,y,bT.refl _ _,λp r b j=>let⟨q,h⟩:=z p r b j;.inl ⟨q,b,h⟩⟩
 . have e1:aQ leave O x=O:=by cases x<;>first|rfl|grind
   rw[e1]at h;refine aaQ u c s k ?_ h;rcases i with⟨D,rfl,_⟩|⟨D,f,_,_,rfl,_⟩|⟨g,l,cells,e,rfl,_⟩;.unfold ua;split<;>trivial
   .trivial
   .trivial
theorem ag6(b:o.op=.move x\/o.op=.assign x)(h:AM.bJ P tm x=J a):dS P ak tm H o=J (.val a H):=by unfold dS;simp only[DW];rcases b with b|b<;>rw[b]<;>simp only[h,eY,gJ]
theorem al4(g:dw P K Y aq)(c:HR K Y B H O.lb O.g)(s:bZ K Y B H tm O.sl)(e:o.op=.assign x)(h:dC P aq fk gs cr later O o=J st'):eO P ak rec cf K Y B H st0 O st' tm o:=by
 unfold dC at h;rw[e]at h;obtain⟨sv,f,h⟩:=aE h;obtain⟨a,i,b⟩:=aaT g c s f h;obtain⟨f1,f2,f3,_⟩:=nP h;have n:(aQ leave O x).n=O.n/\(aQ leave O x).fn=O.fn:=by unfold aQ;grind
 exact⟨a,H,by simp_all[fB,ag6],λd hd=>ai,b,ab,ai,uk.refl _ _ _⟩
theorem BT(f:SV->SV)(s:St)(x:aK):(aQ f s x).n=s.n/\(aQ f s x).fn=s.fn/\(aQ f s x).lb=s.lb/\(aQ f s x).g=s.g:=by unfold aQ;grind
theorem Mg{x:DV}{n:Nat}(h:nd x=J n)(b:DR K Y x a):nJ a=J n:=by
 unfold nd at h;split at h;iterate 3·cases b;exact h
 grind
theorem ale(j:dw P K Y aq){x:DV}{w:aM}{y:aK}(c:HR K Y B H O.lb O.g)(l:bZ K Y B H tm O.sl)(v:cU aq O y=J (.dv x w))(h:aG (aQ share O y) dst (.dv x .no)=J st'):∃a,AM.bJ P tm y=J a/\fN K Y B H st' (gR tm dst a) H:=by
 obtain⟨t,q,s,d,e,m,n,z,A,_⟩:=ZG c l y;have o:bj aq (aQ share O y) y=J x:=by unfold bj;cases y<;>grind[aQ,share,CK,me,cU]
 obtain⟨a,f,u,g⟩:=sX (j.mono s.1 (aX.refl _)) e n o;exact⟨a,f,fN.trans c.inv s.1 (s.fX d) (aX.refl _) (bT.refl _ _) (λp r b k=>let⟨i,h⟩:=m p r b k;.inl ⟨p,i,h⟩) (A4 d e h g)⟩
theorem aJH{l a:cX}(h:∀u,look l u=look a u)(s:bZ K Y B H tm l):bZ K Y B H tm a:=λt sv b=>s t sv ai
theorem aBG(m:dw P K Y aq)(c:HR K Y B H O.lb O.g)(s:bZ K Y B H tm O.sl)(ho:o.op=.move x)(h:dC P aq fk gs cr later O o=J st'):eO P ak rec cf K Y B H st0 O st' tm o:=by unfold dC at h;rw[ho]at h;simp only at h;obtain⟨sv,k,h⟩:=aE h;have fin:∀{a:AV},AM.bJ P tm x=J a->(∀d,o.dst=J d->d<O.n)->fN K Y B H st' (gR tm o.dst a) H->st'.n=O.n->st'.fn=O.fn->eO P ak rec cf K Y B H st0 O st' tm o:=λj N h3 E h5=>⟨_,H,by simp_all[fB,ag6],N,h3,E,h5,uk.refl _ _ _⟩;cases hd:o.dst with|none=>rw[hd]at h;cases h;obtain⟨a,j,N,_⟩:=qU m s k;refine fin j (λd e=>aT) ?_ rfl rfl;rw[hd];exact⟨K,Y,B,bo.refl _,c.fX (bT.refl (λ_=>False) _),aX.refl _,c,s,bT.refl _ _,λp r b v=>.inl ⟨p,b,v⟩⟩|some d=>
 rw[hd]at h;simp only at h;have take:∀{A:St},aG (aQ leave O x) (J d) sv=J A->A=st'->eO P ak rec cf K Y B H st0 O st' tm o:=by grind[aaT,nP,BT]
 have copy:free sv->aG O (J d) sv=J st'->eO P ak rec cf K Y B H st0 O st' tm o:=by grind[aaQ,nP]
 split at h;.simp_all
 . rename_i dd w;have X:∀n,nd dd=J n->aG O (J d) (.hd n)=J st'->eO P ak rec cf K Y B H st0 O st' tm o:=by
    intro n R h;obtain⟨f1,f2,f3,_⟩:=nP h;have hv:bj aq O x=J dd:=by unfold bj;rw[k];rfl
    obtain⟨a,D,f,g⟩:=oz (P:=P) m c s hv;exact fin D (λi I=>f1 i (hd.symm.trans I)) (by rw[hd];exact xI c s h f λ_ _ _=>Mg R g) f2 f3
   have aOK:∀t,x=.tmp t->aG O (J d) (.sr t)=J st'->eO P ak rec cf K Y B H st0 O st' tm o:=by
    intro t T h;obtain⟨a,D,f,g⟩:=qU (P:=P) m s k;obtain⟨f1,f2,f3,_⟩:=nP h;rcases g with⟨t',e1,_,W,_⟩|⟨UU,_⟩
    . rw[T]at e1;obtain rfl:=Operand.tmp.inj e1;have aeJ:fN K Y B H st' (gR tm (J d) a) H:=by refine xI c s h f λi lJ hr=>?_;show(tm.ins i a).get t=J a;grind[Tr.jy,DC]
      simp_all
    simp_all
   have aOP:aG (aQ share O x) (J d) (.dv dd .no)=J st'->eO P ak rec cf K Y B H st0 O st' tm o:=by grind[ale,nP,BT]
   have U:∀e,w=.ex e->(aG O (J d) (.dv dd w)).map (λO=>aQ (λ_=>.sr d) O x)=J st'->eO P ak rec cf K Y B H st0 O st' tm o:=by intro e he h;cases j:aG O (J d) (.dv dd w)with|none=>simp_all|some z=>
      rw[j]at h;cases h;obtain⟨f1,f2,f3,_⟩:=nP j;obtain⟨g1,g2,g3,g4⟩:=BT (λ_=>SV.sr d) z x;obtain⟨a,D,f,g⟩:=qU (P:=P) m s k;refine fin D (λi I=>f1 i (hd.symm.trans I)) ?_ ai ai;rw[hd];show fN K Y B H (aQ (λ_=>SV.sr d) z x) (gR tm (J d) a) H;rcases g with⟨t,rfl,F,W,E⟩|⟨_,⟨x',e1,_⟩|⟨_,_,_,_,e1,_⟩|⟨_,_,_,_,e1,_⟩⟩
      . rcases yL j with⟨e1,_⟩|⟨i,e1,_,hr,rfl⟩;.grind
        . cases e1;by_cases M:t=d
          . subst M;have e2:aQ (λ_=>SV.sr t) {O with sl:=put (iu O.sl t) t (.dv dd w)} (.tmp t)={O with sl:=put (put (iu O.sl t) t (.dv dd w)) t (.sr t)}:=by simp[aQ,me]
            rw[e2];have jB:bZ K Y B H (tm.ins t a) (put (iu O.sl t) t (.dv dd w)):=xh (S:=λ_=>False) c.inv s (bT.refl _ _) (bo.refl _) (aX.refl _) (λ_ _ _ _ _ _ h=>⟨h,id⟩) (λ_ _ _ h=>h) (λ_ _ _=>id) (λ_=>f) E;exact⟨K,Y,B,bo.refl _,c.fX (bT.refl (λ_=>False) _),aX.refl _,c,Jw c.inv jB (bo.refl _) (λ_ _ _ _ _ _ h=>h) (λ_=>rfl) (Tr.lF _ _ _) (λ_=>f) (Tr.lF _ _ _),bT.refl _ _,λp r b v=>.inl ⟨p,b,v⟩⟩
          . obtain⟨ω',m1,m2,m3⟩:=ag0 c s F W aP f E (DC hr);have bY:look (put (iu O.sl d) d (SV.dv dd w)) t=J (.dv dd w):=by rw[me,if_neg M];unfold iu;rw[qQ O.sl (pP d),F];rfl
            have e2:aQ (λ_=>SV.sr d) {O with sl:=put (iu O.sl d) d (.dv dd w)} (.tmp t)={O with sl:=put (put (iu O.sl d) d (.dv dd w)) t (.sr d)}:=by grind[aQ]
            rw[e2];have G:(tm.ins d a).get t=J a:=by grind[Tr.jy]
            have s2:=Jw (sv:=.sr d) c.inv m2 (bo.refl _) (λ_ _ _ _ _ _ h=>h) (λ_=>rfl) G (λ_=>f) (Tr.lF _ _ _);refine⟨K,Y,ω',bo.refl _,c.fX (bT.refl (λ_=>False) _),aX.refl _,m1,aJH (λu=>?_) s2,bT.refl _ _,λp r b v=>let⟨q,h⟩:=m3 p r b v;.inl ⟨q,b,h⟩⟩;rw[me,me,me,me];by_cases L:u=t;.grind
            . rw[if_neg L,if_neg L];by_cases y:u=d;.grind
              .rw[if_neg y,if_neg y];unfold iu;rw[qQ (put O.sl t _) (pP d),qQ O.sl (pP d),me,if_neg L]
      all_goals grind[ua]
   split at h;.grind
   .simp_all
   .obtain⟨n,R,h⟩:=aE h;simp_all
   .simp_all
   .exact copy trivial h
   simp_all
 .rename_i n1 n2;refine copy ?_ h;cases sv with
   |tp l=>exact absurd rfl (n1 _)|dv a b=>exact absurd rfl (n2 _ _)|dd=>
    exfalso;obtain⟨a,_,_,g⟩:=qU (P:=P) m s k;rcases g with⟨t,rfl,F,_⟩|⟨_,⟨_,e,_⟩|⟨_,_,_,_,e,_⟩|⟨_,_,_,_,e,_⟩⟩;.have Q:(match look O.sl t with|some .dd=>Z|r=>r)=J SV.dd:=k;rw[F]at Q;simp at Q
    .simp at e
    .simp at e
    .simp at e|_=>trivial
end
section
variable{P:aH}{ak:cj}{rec:Rec}{cf:bU}{K K':aY}{Y A:cm}{B ω':aJ}{H H':Heap}{S:Nat->Prop}
variable{aq:Nat->ah ao}{gs cr:aC}{fk:bW->Nat}{later:List aB}{st0 O st':St}{tm:Tr AV}{o:aB}
theorem j9(H:Heap)(o:ch)(S:Nat->Prop):bT S H (H.alloc o)where
 next:=J4 _
 get:=λid h _=>nG H o ab
 dp:=λr _ _=>rfl
 root:=λid h=>by unfold rootOf;rw[nG H o ab]
theorem NH(i:bg H)(u:pC H)(o:ch)(d:∀l r f e,o=.cells l r f e->r=H.next):pC (H.alloc o):=λid l r f e h=>by
 by_cases n:id=H.next;.grind[mA]
 .rw[nG H o n]at h;obtain⟨c,a,b⟩:=u id l r f e h;exact⟨c,_,by rw[nG H o (by have:=i.get _ _ b;omega)];omega⟩
theorem aJI{l:cX}{d:Nat}(q:bg H)(w:bZ K Y B H tm l)(k:bT S H H')(n:bo K K')(a:aX Y A)(v:∀p r b,p.slot->B p=J (r,b)->ω' p=J (r,b)/\¬S r)(E:∀s,s≠d->ω' (.lb s)=B (.lb s))(z:∀id i,Y id=J i->¬S (rootOf H i)):bZ K' A ω' H' tm (EC l d):=by
 intro t sv h;unfold EC at h;rw[qQ l _]at h;rcases f:look l t with _|o;.grind
 obtain⟨c,e,g,m⟩:=w t _ f;by_cases hd:sv=.dd;.subst hd;exact⟨c,e,λx=>absurd rfl x,trivial⟩
 . have y:o=sv/\∀s I,o=.lp s I->s≠d:=by cases o<;>grind[vL,bR]
   obtain⟨rfl,D⟩:=y;exact⟨c,e,g,m.keep q k n a (λp r b u=>v p r b (by rcases u with rfl|⟨j,rfl⟩<;>trivial)) aT aT ai⟩
theorem aB5{d:Nat}{l:ao}(f:HR K Y B H O.lb O.g)(N:bZ K Y B H tm O.sl)(G:bK K Y l m)(W:∀x,x∈l->x.aU=V):fN K Y B H {O with sl:=put (iu (EC O.sl d) d) d (.lp d 0),lb:=put O.lb d ⟨l,[]⟩} (tm.ins d (.ptr H.next 0)) (H.cQ m .ex e):=by
 have u:bT (λ_=>False) H (H.cQ m .ex e):=j9 H _ _;have E:bg (H.cQ m .ex e):=wA f.inv _ aT;let ω':aJ:=λp=>match p with|.lb s=>if s=d then J (H.next,V)else B (.lb s)|.lc s I=>if s=d then Z else B (.lc s I)|p=>B p;have D:ω' (.lb d)=J (H.next,V):=ai;have back:∀p r b,ω' p=J (r,b)->(p=.lb d/\r=H.next/\b=V)\/(p≠.lb d/\B p=J (r,b)):=by grind
 have Q:∀id x,K id=J x->rootOf (H.cQ m .ex e) id=rootOf H id/\rootOf H id<H.next:=by intro id x g;obtain⟨z,A⟩:=x;obtain⟨r,F,g1,_⟩:=f.dm id z A g;have hid:=f.inv.get _ _ g1;refine⟨?_,qZ f.inv hid⟩;unfold rootOf;rw[u.get id hid (λh=>h)]
 have P:HR K Y ω' (H.cQ m .ex e) (put O.lb d ⟨l,[]⟩) O.g:=by
   refine⟨E,?_,?_,?_,?_,?_,?_,f.mW,NH f.inv f.gW _ aT⟩;.intro id z A g;obtain⟨r,F,g1,g2⟩:=f.dm id z A g;exact⟨r,F,by rw[u.get id (f.inv.get _ _ g1) (λh=>h)];omega,g2⟩
   . intro p q r b c x y;rcases back p r b x with⟨rfl,rfl,_⟩|⟨v,j⟩
     . rcases back q _ c y with⟨rfl,_,_⟩|⟨_,n⟩;.rfl
       .have:=f.cC _ _ _ n;omega
     . rcases back q r c y with⟨rfl,rfl,_⟩|⟨_,n⟩;.have:=f.cC _ _ _ j;omega
       .exact f.inj _ _ _ _ _ j n
   . intro p r id x t g;obtain⟨v,j⟩:=Q id x g;rw[v];rcases back p r _ t with⟨_,rfl,_⟩|⟨_,n⟩;.omega
     .exact f.clean p r id x n g
   . intro p r b t;have U:(H.cQ m .ex e).next=H.next+1:=rfl;rcases back p r b t with⟨_,rfl,_⟩|⟨_,n⟩;.omega
     .have:=f.cC _ _ _ n;omega
   . intro s b w;rw[me]at w;by_cases e1:s=d
     . rw[if_pos e1]at w;cases w;subst e1;refine⟨_,D,m,_,e,mA H _,⟨rfl,aP⟩,?_,?_,G.1,λI x a g M=>⟨ai,?_⟩⟩;.show(H.bp _).1<=H.next;rw[Bk f.inv ab];omega
       .show(H.bp _).2=H.next;rw[Bk f.inv ab]
       .have hr:=G.2 _ x a g M;have X:=g;unfold eu;rw[X];cases x<;>first|exact hr|(cases hr;exact⟨rfl,rfl⟩)
     .rw[if_neg e1]at w;obtain⟨i,v,j⟩:=f.box s b w;refine⟨i,ai,j.keep f.inv u (bo.refl _) (aX.refl _) id λI r c x=>⟨ai,id⟩⟩
   .intro k o S;obtain⟨i,v,j,L⟩:=f.jf k o S;exact⟨i,v,j,L.keep f.inv u (bo.refl _) (aX.refl _) id λI r c x=>⟨x,id⟩⟩
 refine⟨K,Y,_,bo.refl _,f.fX u,aX.refl _,P,?_,j9 H _ _,λp r b t=>?_⟩;.have R:bZ K Y ω' _ tm (EC _ d):=aJI f.inv N u (bo.refl _) (aX.refl _) (λp r b t h=>⟨by cases p<;>first|exact h|exact t.elim,id⟩) ai aT;exact xh E R (bT.refl _ _) (bo.refl _) (aX.refl _) (λ_ _ _ _ _ _ h=>⟨h,id⟩) aT aT aT (by intro i b T;grind)
 . rcases back p r b t with⟨_,rfl,_⟩|⟨_,h⟩;.omega
   .exact .inl ⟨p,b,h⟩
theorem QG{x:ch}{y:GO}(d:HR K Y B H lb g)(F:bg (H.alloc x))(O:rootOf (H.alloc x) H.next=H.next)(u:∀(a:cm)(ω':aJ),aX Y a->(∀I,ω' (.gc g.next I)=Z)->AT K a ω' (H.alloc x) g.next y H.next):∃a ω',aX Y a/\a g.next=J H.next/\HR K a ω' (H.alloc x) lb (g.alloc y)/\(∀p r b,p.slot->B p=J (r,b)->ω' p=J (r,b))/\(∀s,ω' (.lb s)=B (.lb s))/\∀p r b,ω' p=J (r,b)->(∃q,B q=J (r,b))\/r=H.next:=by
 have m:bT (λ_=>False) H (H.alloc x):=j9 H _ _;let a:=λk=>if k=g.next then J H.next else Y k;let ω':aJ:=λp=>match p with|.g k=>if k=g.next then J (H.next,V)else B (.g k)|.gc k I=>if k=g.next then Z else B (.gc k I)|p=>B p;have f:aX Y a:=λk i h=>by
   by_cases e:k=g.next;.rw[d.mW k ab]at h;grind
   grind
 have w:a g.next=J H.next:=ai;have back:∀p r b,ω' p=J (r,b)->(p=.g g.next/\r=H.next/\b=V)\/(p≠.g g.next/\B p=J (r,b)):=by grind
 have Q:∀k y,K k=J y->rootOf (H.alloc x) k=rootOf H k/\rootOf H k<H.next:=by intro k y u;obtain⟨A,D⟩:=y;obtain⟨r,E,g1,_⟩:=d.dm k A D u;have hid:=d.inv.get _ _ g1;refine⟨?_,qZ d.inv hid⟩;unfold rootOf;rw[m.get k hid (λh=>h)]
 refine⟨_,ω',f,w,⟨F,?_,?_,?_,?_,?_,?_,?_,NH d.inv d.gW _ (λl r E e g=>by grind[lN,mA])⟩,?_,λs=>rfl,?_⟩;.intro k A D M;obtain⟨r,E,g1,g2⟩:=d.dm k A D M;exact⟨r,E,by rw[m.get k (d.inv.get _ _ g1) (λh=>h)];omega,g2⟩
 . intro p q r b c x y;rcases back p r b x with⟨rfl,rfl,_⟩|⟨n,o⟩
   . rcases back q _ c y with⟨rfl,_,_⟩|⟨_,j⟩;.rfl
     .have:=d.cC _ _ _ j;omega
   . rcases back q r c y with⟨rfl,rfl,_⟩|⟨_,j⟩;.have:=d.cC _ _ _ o;omega
     .exact d.inj _ _ _ _ _ o j
 . intro p r k y t u;obtain⟨n,o⟩:=Q k y u;rw[n];rcases back p r _ t with⟨_,rfl,_⟩|⟨_,j⟩;.omega
   .exact d.clean p r k y j u
 . intro p r b t;have N:(H.alloc x).next=H.next+1:=rfl;rcases back p r b t with⟨_,rfl,_⟩|⟨_,j⟩;.omega
   .have:=d.cC _ _ _ j;omega
 .intro s b L;obtain⟨i,n,o⟩:=d.box s b L;exact⟨i,n,o.keep d.inv m (bo.refl _) f id λI r c x=>⟨x,id⟩⟩
 . intro k z v;have v:look (put _ _ y) k=J z:=v;rw[me]at v;by_cases e:k=g.next;.subst e;grind
   .rw[if_neg e]at v;obtain⟨i,n,o,G⟩:=d.jf k z v;refine⟨i,f _ _ n,ai,G.keep d.inv m (bo.refl _) f id λI r c x=>⟨ai,id⟩⟩
 .intro k m;have m:g.next+1<=k:=m;show(if k=g.next then _ else _)=_;rw[if_neg ab];exact d.mW k ab
 .intro p r b t h;cases p<;>first|exact h|exact t.elim
 grind
theorem abF{c:ao}{f:fQ}{p:Nat->Pk}{o:List (Nat×aM)}(g:o=[]\/o=[(c.length,.full e)])(q:bg H)(n:f.wr=V)(d:bK K Y c m)(r:∀x,x∈c->x.aU=V)(l:∀I,B (p I)=Z):po K Y B (H.cQ m f e) p ⟨c,o⟩ H.next:=by
 refine⟨m,_,e,mA H _,⟨n,λk t h=>by rcases g with rfl|rfl<;>simp_all⟩,?_,?_,d.1,λI x a b j=>⟨ai,?_⟩⟩;.show(H.bp _).1<=H.next;grind[Bk]
 .show(H.bp _).2=H.next;grind[Bk]
 . have hr:=d.2 _ x a b j;have X:=b;have i:=(am.1 b).1;have E:look o I=Z:=by
    rcases g with rfl|rfl;.rfl
    .show(bif aw c.length I then _ else _)=Z;rw[bR,Bd (by have:I<c.length:=i;omega)];rfl
   unfold eu;rw[X];simp only[E];cases x<;>first|exact hr|(cases hr;exact⟨rfl,rfl⟩)
theorem aB4{d:Nat}{c:ao}(a:HR K Y B H O.lb O.g)(D:bZ K Y B H tm O.sl)(A:bK K Y c m)(E:∀x,x∈c->x.aU=V):fN K Y B H {O with sl:=put (iu O.sl d) d (.dv (.ptr O.g.next 0) .no),g:=O.g.alloc (.box ⟨c,[]⟩)} (tm.ins d (.ptr H.next 0)) (H.cQ m .ex e):=by
 have s:bg (H.cQ m .ex e):=wA a.inv _ (λl r G F g=>ai);obtain⟨n,ω',o,u,v,w,I,z⟩:=QG (y:=.box _) a s (lN (mA H _)) λn ω' i k=>abF (.inl rfl) a.inv rfl (A.mono (bo.refl _) i) E k;refine⟨K,_,_,bo.refl _,a.fX (j9 H _ (λ_=>False)),o,v,?_,j9 H _ _,λp r b f=>?_⟩;.refine xh a.inv D (j9 H _ _) (bo.refl _) o (λp r b _ _ f h=>⟨w p r b ?_ h,id⟩) aT aT aT (DR.ptr _ _ _ u);rcases f with⟨t,rfl⟩|⟨t,j,rfl⟩<;>trivial
 . rcases z p r b f with⟨q,h⟩|rfl;.exact .inl ⟨q,b,h⟩
   omega
theorem ahh{f:Bool}{c:ao}(a:HR K Y B H O.lb O.g)(s:bZ K Y B H tm O.sl)(b:bK K Y c m)(i:∀x,x∈c->x.aU=V)(h:Dn f O dst c=J st'):(∀d,dst=J d->d<O.n)/\fN K Y B H st' (gR tm dst (.ptr H.next 0)) (H.cQ m .ex e)/\st'.n=O.n/\st'.fn=O.fn:=by
 unfold Dn at h;rcases dst with _|d;.grind
 simp only[eQ]at h;by_cases hd:d<O.n;.simp only[hd,eB,aR]at h;cases f with|true=>cases h;exact⟨λt e=>ai,aB4 a s b i,rfl,rfl⟩|false=>cases h;exact⟨λt e=>ai,aB5 a s b i,rfl,rfl⟩
 grind
def Fq(k:Kd)(a:Bool)(H:Heap)(o:ch):uk B k a H (H.alloc o):=⟨rfl,λ_ _ h=>h,λ_ _ _ h=>h,λ_ h=>.inl h,λ_ h=>.inl h⟩
theorem alw(c:HR K Y B H O.lb O.g)(s:bZ K Y B H tm O.sl)(d:o.op=.alloc e)(h:dC P aq fk gs cr later O o=J st'):eO P ak rec cf K Y B H st0 O st' tm o:=by unfold dC at h;rw[d]at h;obtain⟨z,b,h⟩:=aE h;obtain⟨a,i,b⟩:=aE b;obtain⟨m,j,f,g⟩:=(Cy b).cells;obtain⟨f1,f2,f3,f4⟩:=ahh (e:=e) c s f g h;refine⟨_,_,?_,f1,f2,f3,f4,Fq _ _ _ _⟩;simp_all[fB,dS,GB,ml]
theorem amQ(g:dw P K Y aq)(c:HR K Y B H O.lb O.g)(s:bZ K Y B H tm O.sl)(d:o.op=.box e x)(n:jK O x)(h:dC P aq fk gs cr later O o=J st'):eO P ak rec cf K Y B H st0 O st' tm o:=by unfold dC at h;rw[d]at h;obtain⟨z,f,h⟩:=aE h;obtain⟨a,k,l,b⟩:=sX g s n f;obtain⟨m,p,i,j⟩:=b.cells;obtain⟨f1,f2,f3,f4⟩:=ahh (e:=e) c s i j h;refine⟨_,_,?_,f1,f2,f3,f4,Fq _ _ _ _⟩;simp_all[fB,dS,GD]
end
section
variable{P:aH}{K K':aY}{Y A:cm}{B ω':aJ}{H H':Heap}{S:Nat->Prop}
open Classical in def aY.plus(K:aY)(H:Heap)(R:Nat->Prop):aY:=λi=>match K i with|some x=>J x|none=>if R (rootOf H i)/\(H.bp (rootOf H i)).2=i/\(H.bp (rootOf H i)).1<=i then sT H i else Z
open Classical in def aJ.plus(a:aJ)(R:Nat->Prop):aJ:=λp=>(a p).map λx=>(x.1,if R x.1 then C else x.2)
theorem aY.pc(K:aY)(H:Heap)(R:Nat->Prop):bo K (K.plus H R):=λi x h=>by grind[aY.plus]
theorem aY.Wo{K:aY}{H:Heap}{j:Nat}{x:aI×an}(h:K.plus H R j=J x):K j=J x\/R (rootOf H j):=by grind[aY.plus]
theorem aJ.FW{r:Nat}{b:Bool}(h:B.plus R p=J (r,b)):∃a,B p=J (r,a)/\(b=V->a=V/\¬R r):=by cases o:B p<;>grind[aJ.plus]
theorem aJ.QY{r:Nat}{b:Bool}(h:B p=J (r,b)):∃a,B.plus R p=J (r,a)/\(¬R r->a=b):=by grind[aJ.plus]
theorem QX(a:HR K Y B H lb g)(R:Nat->Prop)(n:∀r,R r->∃p,B p=J (r,V)):(∀i cells e,K.plus H R i=J (cells,e)->∃root l,H.get i=J (.cells cells root l e)/\(H.bp root).1<=i)/\(∀p q r b c,B.plus R p=J (r,b)->B.plus R q=J (r,c)->p=q)/\(∀p r i x,B.plus R p=J (r,V)->K.plus H R i=J x->rootOf H i≠r)/\∀p r b,B.plus R p=J (r,b)->r<H.next:=by
 refine⟨?_,?_,?_,?_⟩;.intro i cells e h;unfold aY.plus at h;cases k:K i with|some x=>rw[k]at h;cases h;exact a.dm i _ e k|none=>grind[sT,lN]
 .intro p q r b c d f;obtain⟨j,k1,_⟩:=aJ.FW d;obtain⟨m,k2,_⟩:=aJ.FW f;exact a.inj _ _ _ _ _ k1 k2
 .intro p r i x d f;obtain⟨j,k1,k2⟩:=aJ.FW d;obtain⟨rfl,o⟩:=k2 rfl;unfold aY.plus at f;cases k:K i with|some y=>exact a.clean p r i y k1 k|none=>grind
 .intro p r b h;obtain⟨j,k1,_⟩:=aJ.FW h;exact a.cC _ _ _ k1
theorem cO.MM{d:DV}{o:aM}(q:∀r,B p=J (r,V)->¬R r)(h:cO K Y B H p d a o):cO (K.plus H R) Y (B.plus R) H p d a o:=by cases o with|no=>exact DR.mono (aY.pc _ _ _) (aX.refl _) h|any=>exact h|full e=>exact⟨DR.mono (aY.pc _ _ _) (aX.refl _) h.1,h.2⟩|ty e=>refine⟨DR.mono (aY.pc _ _ _) (aX.refl _) h.1,h.2.imp id ?_⟩;rintro⟨r,b,f,g⟩;obtain⟨k,j,_⟩:=aJ.QY (R:=R) f;grind|ex e=>refine Or.imp id ?_ h;rintro⟨r,f,g⟩;obtain⟨k,j,n⟩:=aJ.QY f;have:=n (q r f);subst this;obtain⟨l,s,i,I,c,cells,m,g1,g2,g3,g4,g5,g6,g7,g8⟩:=g.ex;exact⟨r,j,⟨l,_,i,_,c,_,m,g1,g2,g3,g4,g5,g6,g7.mono (aY.pc _ _ _) (aX.refl _),g8⟩⟩
theorem cO.FV(s:HR K Y B H lb g){d:DV}{o:aM}(W:∀r,B p=J (r,V)->R r)(h:cO K Y B H p d a o):cO (K.plus H R) Y (B.plus R) H p d a (oC o)/\DR (K.plus H R) Y d a:=by cases o with|no=>exact⟨DR.mono (aY.pc _ _ _) (aX.refl _) h,DR.mono (aY.pc _ _ _) (aX.refl _) h⟩|any=>obtain⟨rfl,rfl⟩:=h;exact⟨⟨rfl,rfl⟩,.nl⟩|full e=>exact⟨⟨DR.mono (aY.pc _ _ _) (aX.refl _) h.1,h.2⟩,DR.mono (aY.pc _ _ _) (aX.refl _) h.1⟩|ty e=>refine⟨⟨DR.mono (aY.pc _ _ _) (aX.refl _) h.1,h.2.imp id ?_⟩,DR.mono (aY.pc _ _ _) (aX.refl _) h.1⟩;rintro⟨r,b,f,m⟩;obtain⟨u,w,_⟩:=aJ.QY (R:=R) f;grind|ex e=>
 rcases h with⟨rfl,rfl⟩|⟨r,f,m⟩;.exact⟨⟨.nl,.inl rfl⟩,.nl⟩
 . obtain⟨i,cells,T,X,⟨L,O⟩,F,M,N⟩:=m.dm s f;obtain⟨l,z,t,I,c,S,v,g1,g2,g3,g4,g5,g6,g7,g8⟩:=m.ex;have G:bo (K.add (H.bp r).2 (S,e)) (K.plus H R):=by
    intro j y n;unfold aY.add at n;by_cases q:j=(H.bp r).2
    . have D:=q.trans g6;subst D;have U:=lN g3;unfold aY.plus;have P:K j=Z:=by
       rcases E:K j with _|x;.rfl
       exact absurd U (s.clean p r j x f E)
      grind[P7]
    .rw[if_neg q]at n;exact aY.pc _ _ _ j y n
   have Q:DR (K.plus H R) Y d a:=by subst g1;subst g2;refine .ay l e _ t _ c _ (G t _ (by grind[aY.add])) g7.1 g7.2.1 ?_ g7.2.2.1 λk x j d a x1 x2 x3=>(g7.2.2.2 k x j d a x1 x2 x3).mono (aY.pc _ _ _) (aX.refl _);rcases g8 with⟨A,_⟩|A<;>grind
   obtain⟨u,w,_⟩:=aJ.QY (R:=R) f;exact⟨⟨Q,aT⟩,Q⟩
end
section
variable{P:aH}{ak:cj}{rec:Rec}{cf:bU}{K K':aY}{Y A:cm}{B ω':aJ}{H H':Heap}{S:Nat->Prop}
variable{aq:Nat->ah ao}{gs cr:aC}{fk:bW->Nat}{later:List aB}{st0 O st':St}{tm:Tr AV}{o:aB}
inductive Loc where|l(s:Nat)|g(id:Nat)deriving DecidableEq
def Loc.pk:Loc->Nat->Pk|.l s,I=>.lc s I|.g id,I=>.gc id I
def Loc.top:Loc->Pk|.l s=>.lb s|.g id=>.g id
theorem Loc.aLU{x y:Loc}(h:x.top=y.top):x=y:=by cases x<;>cases y<;>simp_all[Loc.top]
theorem Loc.aLT{x:Loc}{i:Nat}(h:Pk.g i=x.top):x=.g i:=by cases x<;>grind[Loc.top]
def St.at(t:St):Loc->ah LB|.l s=>look t.lb s|.g id=>match t.g.get id with|some (.box b)=>J b|_=>Z
def St.setAt(t:St)(x:Loc)(b:LB):St:=match x with|.l s=>{t with lb:=put t.lb s b}|.g id=>{t with g:=t.g.set id (.box b)}
theorem ZB(s:St)(x:Loc)(b:LB):(s.setAt x b).n=s.n/\(s.setAt x b).fn=s.fn/\(s.setAt x b).sl=s.sl:=by cases x<;>exact⟨rfl,rfl,rfl⟩
theorem HR.at{x:Loc}{b:LB}(d:HR K Y B H O.lb O.g)(h:O.at x=J b):∃i,B x.top=J (i,V)/\po K Y B H x.pk b i/\∀id,x=.g id->Y id=J i:=by
 rcases x with s|id;.obtain⟨i,c,a⟩:=d.box s b h;exact⟨i,c,a,λid e=>ai⟩
 unfold St.at at h;simp only at h;split at h;.rename_i j g;cases h;obtain⟨i,c,a,f⟩:=d.jf id _ g;exact⟨i,a,f,λq e=>ai⟩
 grind
theorem HR.Gj{x:Loc}{b b':LB}{i:Nat}(D:HR K Y B H O.lb O.g)(hb:O.at x=J b)(hi:B x.top=J (i,V))(W:bo K K')(k:bT S H H')(cK:bg H')(hu:pC H')(dm:∀id cells e,K' id=J (cells,e)->∃root T,H'.get id=J (.cells cells root T e)/\(H'.bp root).1<=id)(L:∀p q r b c,ω' p=J (r,b)->ω' q=J (r,c)->p=q)(z:∀p r id x,ω' p=J (r,V)->K' id=J x->rootOf H' id≠r)(X:∀p r b,ω' p=J (r,b)->r<H'.next)(yl:∀s,ω' (.lb s)=B (.lb s))(Q:∀id,ω' (.g id)=B (.g id))(P:∀y I d a o,y≠x->cO K Y B H (Loc.pk y I) d a o->cO K' Y ω' H' (Loc.pk y I) d a o)(hS:∀p r b,(∃s,p=.lb s)\/(∃id,p=.g id)->p≠x.top->B p=J (r,b)->¬S r)(lI:po K' Y ω' H' x.pk b' i):HR K' Y ω' H' (O.setAt x b').lb (O.setAt x b').g:=by
 have f:∀(y:Loc)(n:LB)(j:Nat),y≠x->B y.top=J (j,V)->po K Y B H y.pk n j->po K' Y ω' H' y.pk n j:=by intro y n j hy N h;obtain⟨m,T,e,t,w,A,h4,U,M⟩:=h;have F:¬S j:=hS y.top j V (by cases y;exact .inl ⟨_,rfl⟩;exact .inr ⟨_,rfl⟩) (λe=>hy (Loc.aLU e)) N;have hid:=D.inv.get _ _ t;have hf:=k.dp j hid F;refine⟨m,T,e,?_,w,ai,ai,U,λI d a u v=>⟨(M I d a u v).1,P y I d a _ hy (M I d a u v).2⟩⟩;rw[k.get j hid (by grind[lN])];omega
 have aNv:∀(id:Nat)(E:GO)(j:Nat),x≠.g id->B (.g id)=J (j,V)->AT K Y B H id E j->AT K' Y ω' H' id E j:=by intro id E j hx N h;have F:¬S j:=hS (.g id) j V (.inr ⟨_,rfl⟩) (λe=>hx (Loc.aLT e)) N;cases E with|box n=>exact f (.g id) n j (λe=>hx e.symm) N h|map es S8=>obtain⟨fs,t,w,A⟩:=h;refine⟨fs,?_,w,λj x y a b=>⟨(A j x y a b).1.mono W (aX.refl _),(A j x y a b).2.1.mono W (aX.refl _),(A j x y a b).2.2⟩⟩;rw[k.get j (D.inv.get _ _ t) (by grind[rootOf])];omega|loop r=>obtain⟨R,t,w,A,h4,U,M,h7,h8,h9⟩:=h;refine⟨R,?_,w,A,h4,U,M,h7,h8,h9.mono W (aX.refl _)⟩;rw[k.get j (D.inv.get _ _ t) (by grind[rootOf])];omega
 cases x with|l s0=>
 refine⟨cK,dm,L,z,X,λs n h=>?_,λid E h=>?_,D.mW,hu⟩
 . have h:look (put O.lb s0 b') s=J n:=h;rw[me]at h;by_cases e:s=s0;.rw[if_pos e]at h;cases h;subst e;exact⟨i,by rw[yl];exact hi,lI⟩
   .rw[if_neg e]at h;obtain⟨j,t,w⟩:=D.box s n h;exact⟨j,ai,f (.l s) n j (λx=>e (Loc.l.inj x)) t w⟩
 .obtain⟨j,t,w,A⟩:=D.jf id E h;grind|g G=>
 refine⟨cK,dm,L,z,X,λs n h=>?_,λid E h=>?_,D.mW,hu⟩;.obtain⟨j,t,w⟩:=D.box s n h;exact⟨j,ai,f (.l s) n j aP t w⟩
 . have h:look (put O.g.kb G (.box b')) id=J E:=h;rw[me]at h;by_cases e:id=G;.rw[if_pos e]at h;cases h;subst e;obtain⟨j,t,w,A⟩:=D.at hb;have:j=i:=ai;subst this;exact⟨j,A id rfl,by rw[Q];exact hi,lI⟩
   .rw[if_neg e]at h;obtain⟨j,t,w,A⟩:=D.jf id E h;grind
theorem Loc.BX{x y:Loc}{i j:Nat}(h:x.pk i=y.pk j):x=y/\i=j:=by cases x<;>cases y<;>simp_all[Loc.pk]
theorem Loc.As(x:Loc)(i:Nat):¬(x.pk i).slot:=by cases x<;>exact id
theorem Loc.BY(x:Loc)(i s:Nat):x.pk i≠.lb s:=by cases x<;>simp[Loc.pk]
theorem Loc.MK(x:Loc)(i s:Nat):x.pk i≠.g s:=by cases x<;>simp[Loc.pk]
theorem ajm{g:cX}(E:bZ K Y B H tm g)(f:∀p r,p.slot->B p=J (r,V)->¬R r):bZ (K.plus H R) Y (B.plus R) H tm g:=by
 intro t sv D;obtain⟨a,q,w,c⟩:=E t sv D;refine⟨a,q,w,?_⟩;rcases sv with⟨d,o⟩|l|⟨s,I⟩|d|s|⟨s,i,I⟩|⟨id,I⟩|n|_;.exact cO.MM (λr h=>f (.sl t) r trivial h) c
 .obtain⟨m,g1,g2,g3⟩:=c;exact⟨m,g1,g2,λj x y u v=>cO.MM (λr h=>f (.tp t j) r trivial h) aT⟩
 .intro i b A;obtain⟨k,z,_⟩:=aJ.FW A;exact c i k z
 .obtain⟨id,I,cells,e,g1,g2,g3,g4,g5⟩:=c;exact⟨id,_,_,e,g1,aY.pc _ _ _ _ _ g2,g3,g4,g5.mono (aY.pc _ _ _) (aX.refl _)⟩
 .exact c
 .exact c
 .exact c
 .exact c
 trivial
theorem aFm(b:LB)(o:Nat):eu {b with own:=b.own.map λ(x:Nat×aM)=>(x.1,oC x.2)} o=oC (eu b o):=by unfold eu;cases b.cells[o]? with|none=>dsimp only;rw[qQ b.own oC];cases look b.own o<;>rfl|some d=>cases d<;>first|rfl|(dsimp only;rw[qQ b.own oC];cases look b.own o<;>rfl)
theorem agN{a:Type}(l:List (Nat×a))(f:Nat->Bool){n:Nat}(h:f n=V):look (l.filter λx=>f x.1) n=look l n:=by induction l<;>grind[look,bR]
theorem agL(l:List (Nat×aM)){n:Nat}(h:n≠I):look (cY l I 1) n=look l n:=by refine agN l (λk=>ct k _||bt _ k) ?_;grind[eQ,dj]
theorem amR{x:Loc}{b:LB}{i:Nat}(c:HR K Y B H O.lb O.g)(Q:bZ K Y B H tm O.sl)(M:O.at x=J b)(N:B x.top=J (i,V))(T:po K Y B H x.pk b i):∃K' ω',oI B H K K'/\HR K' Y ω' H (O.setAt x {b with own:=b.own.map λ(x:Nat×aM)=>(x.1,oC x.2)}).lb (O.setAt x {b with own:=b.own.map λ(x:Nat×aM)=>(x.1,oC x.2)}).g/\bZ K' Y ω' H tm O.sl/\(∀p r b,ω' p=J (r,b)->∃k,B p=J (r,k))/\∀m,(∃r l e,H.get i=J (.cells m r l e))->bK K' Y b.cells m:=by
 let R:Nat->Prop:=λr=>∃I,B (x.pk I)=J (r,V);have t:∀r,R r->∃p,B p=J (r,V):=λr⟨I,h⟩=>⟨_,h⟩;have U:∀p r,(∀I,p≠x.pk I)->B p=J (r,V)->¬R r:=λp r g h⟨I,f⟩=>g I (c.inj _ _ _ _ _ h f);obtain⟨z,A,c3,D⟩:=QX c R t;have e2:∀p,(∀I,p≠x.pk I)->B.plus R p=B p:=by
   intro p g;unfold aJ.plus;rcases h:B p with _|y;.rfl
   obtain⟨r,W⟩:=y;have:¬R r:=λ⟨I,f⟩=>g I (c.inj _ _ _ _ _ h f);grind
 obtain⟨m,l,e,n,f,G,L,o,q⟩:=T;refine⟨_,_,⟨aY.pc _ _ _,λj x P=>(aY.Wo P).imp_right λh=>let⟨p,h⟩:=t _ h;⟨p,_,h⟩⟩,?_,ajm Q λp r g h=>U p r (λI e=>Loc.As x I (e▸g)) h,λp r b h=>let⟨k,F,_⟩:=aJ.FW h;⟨k,F⟩,?_⟩
 . refine HR.Gj (S:=λ_=>False) c M N (aY.pc _ _ _) (bT.refl _ _) c.inv c.gW z A c3 D (λs=>e2 _ λI=>(Loc.BY x I s).symm) (λid=>e2 _ λI=>(Loc.MK x I id).symm) ?_ (λ_ _ _ _ _ _=>id) ?_;.grind[cO.MM,Loc.BX]
   .refine⟨m,l,e,n,f.share,G,L,o,λI d a u v=>⟨(q I d a u v).1,?_⟩⟩;grind[aFm,cO.FV]
 .rintro m'⟨r,E,X,w⟩;rw[n]at w;obtain⟨rfl,_⟩:=ch.cells.inj (bE w);exact⟨o,λI d a u v=>(cO.FV c (λr hr=>⟨I,hr⟩) (q I d a u v).2).2⟩
theorem anJ{x:Loc}{b:LB}{i:Nat}{d:DV}{r0 Q N}(c:HR K Y B H O.lb O.g)(hs:bZ K Y B H tm O.sl)(hb:O.at x=J b)(hi:B x.top=J (i,V))(lI:po K Y B H x.pk b i)(A:H.get i=J (.cells m r0 Q N))(z:b.cells[I]?=J d)(X:m[I]?=J a)(ho:eu b I=.ex e):∃K' ω',oI B H K K'/\HR K' Y ω' H (O.setAt x {b with own:=(I,.ty e)::cY b.own I 1}).lb (O.setAt x {b with own:=(I,.ty e)::cY b.own I 1}).g/\bZ K' Y ω' H tm O.sl/\(∀p r b,ω' p=J (r,b)->∃k,B p=J (r,k))/\DR K' Y d a:=by
 let R:Nat->Prop:=λr=>B (x.pk I)=J (r,V);have w:∀r,R r->∃p,B p=J (r,V):=λr h=>⟨_,h⟩;have yj:∀p r,p≠x.pk I->B p=J (r,V)->¬R r:=λp r g h f=>g (c.inj _ _ _ _ _ h f);obtain⟨D,E,c3,G⟩:=QX c R w;have e2:∀p,p≠x.pk I->B.plus R p=B p:=by
   intro p g;unfold aJ.plus;rcases h:B p with _|y;.rfl
   obtain⟨r,bb⟩:=y;have:¬R r:=λf=>g (c.inj _ _ _ _ _ h f);grind
 obtain⟨m',l,M,q,f,T,U,W,t⟩:=lI;rw[q]at A;obtain⟨rfl,_⟩:=ch.cells.inj (bE A);have L:=cO.FV c (R:=R) (λr hr=>hr) (t I d a z X).2;refine⟨_,_,⟨aY.pc _ _ _,λj x hj=>(aY.Wo hj).imp_right λh=>let⟨p,h⟩:=w _ h;⟨p,V,h⟩⟩,?_,ajm hs λp r g h=>yj p r (λe=>Loc.As x I (e▸g)) h,λp r b h=>let⟨k,S,_⟩:=aJ.FW h;⟨k,S⟩,L.2⟩;refine HR.Gj c hb hi (aY.pc _ _ _) (bT.refl _ _) c.inv c.gW D E c3 G (λs=>e2 _ (Loc.BY x _ s).symm) (λid=>e2 _ (Loc.MK x _ id).symm) ?_ (λ_ _ _ _ _ _=>id) ?_;.grind[cO.MM,Loc.BX]
 . refine⟨m',l,M,q,f.aoV _ _,T,U,W,λF o n u v=>⟨(t F o n u v).1,?_⟩⟩;by_cases P:F=I
   . subst P;obtain rfl:d=o:=ai;obtain rfl:a=n:=ai;rw[ho]at L;unfold eu;show cO _ _ _ _ _ _ _ (match b.cells[F]? with|some .nl=>aM.any|_=>(look ((F,aM.ty e)::cY b.own F 1) F).getD .no);rw[z];have pK:d≠.nl:=by grind[eu]
     cases d<;>first|exact absurd rfl pK|(simp only[look,bR,eB,aR,D9];exact L.1)
   grind[eu,look,bR,agL,cO.MM,Loc.BX]
theorem Oq{i:Nat}{r f e}(h:H.get i=J (.cells m r f e))(l:(H.bp r).1<=i):H.cellsOf i=J m:=by grind[Heap.cellsOf,dj]
theorem agD{i n:Nat}{r f e}(h:H.get i=J (.cells m r f e))(l:(H.bp r).1<=i)(c:AM.isAgg P t=J V)(a:aW P t=J n)(b:I+n<=m.length):AM.loadVar P H t i I=J (AV.agg ((m.drop I).take n)):=by
 unfold AM.loadVar;have:H.load i I n=J ((m.drop I).take n):=by unfold Heap.load;rw[Oq h l];grind[dj,dT,pV,qD]
 grind
theorem Vy{i:Nat}{r f e}(g:H.get i=J (.cells m r f e))(l:(H.bp r).1<=i)(b:AM.isAgg P t=J C)(h:m[I]?=J a):AM.loadVar P H t i I=J a:=by unfold AM.loadVar;rw[b];simp only[Oq g l,cR,w8,h]
def AE(x:Loc)(o:Nat)(d:ah Nat):Pk->ah Pk:=λp=>if(∃k,d=J k/\p=.sl k)then J (x.pk o)else if p=x.pk o then Z else J p
theorem aJV{x:Loc}{d:ah Nat}:∀p q y,AE x I d p=J y->AE x I d q=J y->p=q:=by
 intro p q y h b;unfold AE at h b;by_cases a:∃k,d=J k/\p=.sl k;.grind
 . rw[if_neg a]at h;split at h;.grind
   .by_cases c:∃k,d=J k/\q=.sl k<;>grind
theorem aJW(x:Loc)(o d:Nat):AE x o (J d) (.sl d)=J (x.pk o):=by simp[AE]
theorem Gp{x:Loc}{d:ah Nat}(h:∀k,d=J k->p≠.sl k)(a:p≠x.pk I):AE x I d p=J p:=by grind[AE]
theorem V'(a:HR K Y B H lb g){src:Pk->ah Pk}(k:∀p q y,src p=J y->src q=J y->p=q):(∀p q r b c,B.of src p=J (r,b)->B.of src q=J (r,c)->p=q)/\(∀p r id x,B.of src p=J (r,V)->K id=J x->rootOf H id≠r)/\∀p r b,B.of src p=J (r,b)->r<H.next:=by
 refine⟨λp q r b c x y=>?_,λp r id x d f=>?_,λp r b d=>?_⟩;.obtain⟨l,i,h⟩:=aJ.iG x;obtain⟨q0,j,e⟩:=aJ.iG y;obtain rfl:=a.inj _ _ _ _ _ h e;grind
 .obtain⟨_,_,h⟩:=aJ.iG d;exact a.clean _ _ _ _ h f
 .obtain⟨_,_,h⟩:=aJ.iG d;exact a.cC _ _ _ h
theorem cO.uZ{q:Pk}{d:DV}{o:aM}(h:ω' q=B p)(c:cO K Y B H p d a o):cO K Y ω' H q d a o:=by cases o with|no=>exact c|any=>exact c|full e=>exact c|ty e=>exact⟨c.1,c.2.imp id λ⟨r,b,x1,x2⟩=>⟨r,b,ai,x2⟩⟩|ex e=>exact Or.imp id aT c
theorem aFk(b:LB)(c:ao){n:Nat}(h:n≠I)(a:c[n]?=b.cells[n]?):eu {cells:=c,own:=cY b.own I 1} n=eu b n:=by grind[eu,agL]
theorem abT{f:Loc}{b:LB}{i:Nat}{D g:DV}{N:aM}{r0 fl e0}(l:HR K Y B H O.lb O.g)(hs:bZ K Y B H tm O.sl)(hb:O.at f=J b)(hi:B f.top=J (i,V))(lI:po K Y B H f.pk b i)(X:H.get i=J (.cells m r0 fl e0))(W:b.cells[I]?=J D)(ha:m[I]?=J a)(ho:eu b I=N)(lJ:DR K Y g a)(il:g.aU=V)(Ip:g≠.nl)(h:aG (O.setAt f {cells:=iH b.cells I g,own:=cY b.own I 1}) dst (.dv D N)=J st'):fN K Y B H st' (gR tm dst a) H:=by
 obtain⟨m',L,e',Q,R,M,h4,h5,U⟩:=lI;rw[Q]at X;obtain⟨rfl,_⟩:=ch.cells.inj (bE X);have T:=(U I D a W ha).2;rw[ho]at T;obtain⟨c2,c3,c4⟩:=V' l (aJV (x:=f) (I:=I) (d:=dst));have cD:∀k,dst=J k->∀y j,Loc.pk y j≠.sl k:=λk _ y j e=>Loc.As y j (e▸trivial);have hlen:I<b.cells.length:=(am.1 W).1;have z:∀n,n≠I->(iH b.cells I g)[n]?=b.cells[n]?:=by grind[iH]
 have A:(iH b.cells I g)[I]?=J g:=by grind[iH]
 have oj:HR K Y (B.of (AE f I dst)) H (O.setAt f {cells:=iH b.cells I g,own:=cY b.own I 1}).lb (O.setAt f {cells:=iH b.cells I g,own:=cY b.own I 1}).g:=by
   refine HR.Gj (S:=λ_=>False) l hb hi (bo.refl _) (bT.refl _ _) l.inv l.gW l.dm c2 c3 c4 (λs=>?_) (λid=>?_) ?_ (λ_ _ _ _ _ _=>id) ?_;.unfold aJ.of;rw[Gp (λk _=>aP) (Loc.BY f I s).symm];rfl
   .unfold aJ.of;rw[Gp (λk _=>aP) (Loc.MK f I id).symm];rfl
   .intro y F d1 G o1 hy w;exact w.uZ (by grind[aJ.of,Gp,Loc.BX])
   . refine⟨m',L,e',Q,R.drop _ _,M,h4,?_,λF d1 G u v=>?_⟩;.grind[iH]
     . have u:(iH b.cells I g)[F]?=J d1:=u;by_cases E:F=I
       . subst E;rw[A]at u;cases u;obtain rfl:a=G:=ai;refine⟨il,?_⟩;have:eu {cells:=iH b.cells F g,own:=cY b.own F 1} F=.no:=by
          unfold eu;show(match(iH b.cells F g)[F]? with|some .nl=>aM.any|_=>(look (cY b.own F 1) F).getD .no)=_;rw[A];have Bx:look (cY b.own F 1) F=Z:=by unfold cY;induction b.own<;>grind[look,eQ,dj,bR]
          grind
         rw[this];exact lJ
       .rw[z F E]at u;obtain⟨k1,k2⟩:=U F d1 G u v;refine⟨k1,?_⟩;rw[aFk b _ E (z F E)];exact k2.uZ (by grind[aJ.of,Gp,Loc.BX])
 have dY:(O.setAt f {cells:=iH b.cells I g,own:=cY b.own I 1}).sl=O.sl:=(ZB O f _).2.2;have P:∀p r c,B.of (AE f I dst) p=J (r,c)->dK B r\/H.next<=r:=λp r c w=>let⟨q,_,h⟩:=aJ.iG w;.inl ⟨q,c,h⟩;have o:∀p r c,p.slot->(∀k,dst=J k->p≠.sl k)->B p=J (r,c)->B.of (AE f I dst) p=J (r,c):=by intro p r c w hk h;unfold aJ.of;rw[Gp hk (λe=>Loc.As f I (e▸w))];grind
 rcases yL h with⟨rfl,rfl⟩|⟨k,rfl,_,hr,rfl⟩;.refine⟨K,Y,_,bo.refl _,l.fX (bT.refl (λ_=>False) _),aX.refl _,oj,?_,bT.refl _ _,P⟩;rw[dY];intro t sv hl;obtain⟨a0,g1,g2,g3⟩:=hs t sv hl;refine⟨a0,g1,g2,g3.keep (S:=λ_=>False) l.inv (bT.refl _ _) (bo.refl _) (aX.refl _) (λp r c w h=>⟨o p r c (by rcases w with rfl|⟨j,rfl⟩<;>trivial) (λk e=>ai) h,id⟩) (λs F i' b' _ h=>?_) (λ_ _=>rfl) (λ_ _ _ _ _=>id)⟩;grind[aJ.iG,Gp,Loc.BY]
 . refine⟨K,Y,_,bo.refl _,l.fX (bT.refl (λ_=>False) _),aX.refl _,oj,?_,bT.refl _ _,P⟩;show bZ _ _ _ _ _ (put (iu (O.setAt f _).sl k) k (.dv D N));rw[dY];refine xh (S:=λ_=>False) l.inv hs (bT.refl _ _) (bo.refl _) (aX.refl _) (λp r c _ R M h=>⟨o p r c ?_ (λk' e=>ai) h,id⟩) (λs i' b' h=>?_) (λ_ _ _=>id) (λ_=>T.qS) ?_;.rcases M with⟨t,rfl⟩|⟨t,j,rfl⟩<;>trivial
   .obtain⟨q,q1,q2⟩:=aJ.iG h;rw[Gp (λk e=>aP) (Loc.BY f I s).symm]at q1;grind
   .exact T.uZ (by simp[aJ.of,aJW])
theorem HR.same{x:Loc}{b:LB}{i:Nat}(a:HR K Y B H O.lb O.g)(c:O.at x=J b)(d:B x.top=J (i,V))(l:po K Y B H x.pk b i):HR K Y B H (O.setAt x b).lb (O.setAt x b).g:=HR.Gj (S:=λ_=>False) a c d (bo.refl _) (bT.refl _ _) a.inv a.gW a.dm a.inj a.clean a.cC (λ_=>rfl) (λ_=>rfl) (λ_ _ _ _ _ _ h=>h) (λ_ _ _ _ _ _=>id) l
theorem Ju{l:ao}{i:Nat}{d:DV}(h:l[i]?=J d):iH l i d=l:=by grind[iH,D3,G3]
theorem aFl{b:LB}{d:DV}(a:b.cells[I]?=J d)(h:eu b I≠.any):d≠.nl:=by grind[eu]
theorem cO.jk{d:DV}(h:cO K Y B H p d a (.ex e)):DR K Y .jk a:=by
 rcases h with⟨_,rfl⟩|⟨r,_,b⟩;.exact .jk _ rfl rfl
 .obtain⟨l,s,id,I,c,cells,f,_,rfl,_⟩:=b.ex;exact .jk _ rfl rfl
theorem agB{x:Loc}{b:LB}{i:Nat}{u:iK}{r:SV×LB}(j:HR K Y B H O.lb O.g)(E:bZ K Y B H tm O.sl)(q:O.at x=J b)(s:B x.top=J (i,V))(o:po K Y B H x.pk b i)(l:fF P u t b I=J r)(h:aG (O.setAt x r.2) dst r.1=J st'):∃a,AM.loadVar P H t i I=J a/\fN K Y B H st' (gR tm dst a) H:=by have G:=o;obtain⟨m,fl,e,v,h2,X,h4,h5,h6⟩:=G;have dY:∀M,(O.setAt x M).sl=O.sl:=λM=>(ZB O x M).2.2;unfold fF at l;cases R:AM.isAgg P t with|none=>grind|some ag=>rw[R]at l;cases ag with
 |true=>
 simp only at l;obtain⟨n,D,l⟩:=aE l;rw[dj]at l;by_cases ji:I+n<=b.cells.length;.simp only[ji,eB,aR]at l;cases l;obtain⟨K1,W,z,A,s3,S,U⟩:=amR j E q s o;have hd:=U m ⟨_,fl,e,v⟩;refine⟨_,agD v X R D ab,fN.trans j.inv z.1 (z.fX A) (aX.refl _) (bT.refl _ _) (λp r c Q=>let⟨L,N⟩:=S p r c Q;.inl ⟨p,L,N⟩) (A4 A ai h ?_)⟩;exact((hd.drop I).take n).agg λy hy=>by obtain⟨k,hk⟩:=a8.1 (List.mem_of_mem_drop (List.mem_of_mem_take hy));have kL:k<m.length:=ai;exact(h6 k y m[k] hk (dA kL)).1
 grind|false=>simp only at l;cases hd:b.cells[I]? with|none=>grind|some d=>
 rw[hd]at l;obtain⟨Iq,_⟩:=am.1 hd;have w:m[I]?=J m[I]:=dA ab;obtain⟨il,T⟩:=h6 I d _ hd w;refine⟨_,Vy v X R w,?_⟩;have plain:∀(sv:DV)(F:aM),eu b I=F->(∀e,F≠.ex e)->aG (O.setAt x b) dst (.dv d .no)=J st'->fN K Y B H st' (gR tm dst m[I]) H:=by intro _ F g cD h;rw[g]at T;refine A4 (HR.same j q s o) ai h ?_;cases F with|no=>exact T|any=>obtain⟨rfl,hx⟩:=T;rw[hx];exact .nl|full e=>exact T.1|ty e=>exact T.1|ex e=>grind
 have share:∀e,eu b I=.ex e->aG (O.setAt x {b with own:=(I,.ty e)::cY b.own I 1}) dst (.dv d .no)=J st'->fN K Y B H st' (gR tm dst m[I]) H:=by intro e g h;obtain⟨K1,W,z,A,s3,S,U⟩:=anJ j E q s o v hd w g;exact fN.trans j.inv z.1 (z.fX A) (aX.refl _) (bT.refl _ _) (λp r c Q=>let⟨L,N⟩:=S p r c Q;.inl ⟨p,L,N⟩) (A4 A ai h U)
 have f:pg u b I d (eu b I)=r:=bE l;cases g:eu b I with
 |ex e=>rw[g]at f;cases u with
  |take=>subst f;exact abT j E q s o v hd w g (cO.jk (by rw[g]at T;omega)) rfl aP h|len=>have f:(match nd d with|some n=>(SV.hd n,b)|none=>(.dv d .no,{b with own:=(I,.ty e)::cY b.own I 1}))=r:=f;cases D:nd d with|none=>grind|some n=>rw[D]at f;subst f;refine xI (HR.same j q s o) ai h T.qS λ_ _ _=>?_;exact(Mg D (cO.look j T):nJ m[I]=J n)
  |none=>subst f;exact share e g h|ref=>subst f;exact share e g h|copy=>subst f;exact share e g h
 |ty e=>rw[g]at f;cases u with|take=>
  subst f;have gQ:DR K Y d m[I]:=by rw[g]at T;exact T.1
  refine abT j E q s o v hd w g gQ il (aFl hd ai) ?_;rw[Ju hd];exact h|none=>subst f;exact plain d _ g aP h|len=>subst f;exact plain d _ g aP h|ref=>subst f;exact plain d _ g aP h|copy=>subst f;exact plain d _ g aP h
 |full e=>rw[g]at f;cases u<;>(subst f;exact plain d _ g aP h)|no=>rw[g]at f;cases u<;>(subst f;exact plain d _ g aP h)|any=>rw[g]at f;cases u with|take=>subst f;rw[g]at T;refine xI (HR.same j q s o) aT h (by rw[T.2];simp) λ_ _ _=>T|none=>subst f;exact plain d _ g aP h|len=>subst f;exact plain d _ g aP h|ref=>subst f;exact plain d _ g aP h|copy=>subst f;exact plain d _ g aP h
end
end Go.VM
