/- Proved: the value machine is sound over the abstract one (a part of the proof of FeasiblePlansUptoCardSaid, whose theorem stands in the last text). -/
import Derived.Test.YtilblajffdkccaaGreatDoorAd
open Option renaming some->J,none->Z
open Bool renaming true->V,false->C
open Bool renaming noConfusion->mK
open Go renaming TypeId->al,Value->aB,Oper->aC,Operand->aH,Program->aM,World->aT,Code->bz,FuncId->bS,Frame->cZ,lone->eT,IntKind->gZ,MapEntry->kZ
open Go.Builtin renaming zeroCells->nR,firstCells->oE,append_->s8,copy_->zF
open Go.Lib renaming compact->tb
open Go.Op renaming operands->eB,mapUpdate->rC
open Go.Proofs.Tryz renaming prog->eS
open Go.Region renaming binds->uq
open Go.stepG renaming exec->ug
open Int renaming ofNat->dI,sub->nS
open List renaming rec->kG,append->qA
open Nat renaming beq->aw,ble->bV,blt->cM,succ->eU,add->im,mul->jD
open SizeOf renaming sizeOf->kb
open UInt8 renaming toNat->nU
noncomputable section set_option linter.all false
namespace Go.AM
open Go
variable{H:Heap}{r:Nat}{tm:Tr AV}{u:aB}{w w0:aT}{O ψ:aZ}{t:al}{a ord:an}{F F0:cZ}
section
variable{P:aM}{ak:bZ}{rec:Rec}{ops:Array aC}{ws:Tr Nat}{R:cW}{φ0:aZ}
theorem z'(T:gJ P ak rec ops ws R φ0){i:Nat}{o:aC}(a:ops[i]?=J o)(h:r∈R.wr i\/r∈R.gr i):R.K i=.act/\ov o.op=C/\yW o.op=C:=by
 have K:R.K i=.act:=by grind[cW.wr,cW.gr]
 have s:=(T.ok.step i o a).act K;grind[tX,cW.wr,cW.gr]
theorem aKw{j:Nat}(h:JC ops.toList j=V):∀(p:Nat)(q:aC),ops[p]?=J q->ov q.op=V\/yW q.op=V\/p=j\/sA ops p j\/sA ops j p:=by have:=(ae7 (Q:=λ(o:aC)(p:Nat)=>(ov o.op||yW o.op||aw p j||tied (EE ops.toList).1 p j)=V) _ ae aP _ _ h).2;intro p q b;have a:=this p q aj;grind[bN,tied,Hr]
theorem afn(T:gJ P ak rec ops ws R φ0){i:Nat}{o:aC}(a:ops[i]?=J o)(h:r∈R.gr i):JC ops.toList i=V/\ey P (R.fr i).tmps (R.H i) o=Z:=by obtain⟨K,_,_⟩:=z' T a (.inr h);have s:=(T.ok.step i o a).act K;grind[sI,cW.gr,cW.gL]
theorem Ts(T:gJ P ak rec ops ws R φ0){b:an}{i c n:Nat}{o:aC}(l:ru ops ord)(q:ord=a++i::b)(e:ops[i]?=J o)(j:c∈a)(z:c<ops.size)(p:i<c)(m:r∈R.wr i\/r∈R.gr i)(d:n∈R.gr c):False:=by
 obtain⟨K,s,v⟩:=z' T e m;have X:ops[c]?=J ops[c]:=np z;obtain⟨k,_⟩:=afn T X d;have B:i∉a:=λh=>by have:=l.nodup;grind
 rcases aKw k i o e with h|h|h|h|h;.grind
 .grind
 .omega
 .obtain⟨f,g,rfl⟩:=J5 j;have:=l.CL h f (g++i::b) aj;grind
 .have:=T.qY.lt h;omega
def beyond(R:cW)(i:Nat)(a b:aZ):aZ:=λid=>if(R.H i).next<=id/\id<(R.H (i+1)).next then b id else a id
theorem gJ.amY(T:gJ P ak rec ops ws R φ0)(I:Inv P ops ws R φ0 w0 F0 a O w F){b:aZ}{n:aT}{d m:Nat}{p q:Pl}{o:bQ}(e:O d=J p)(l:m<=ops.size)(X:d<(R.H m).next)(v:(R.H m).get d=J o)(u:jr (R.H m) d)(h:mn b n o q):mn (oJ (R.H m).next b) n o q:=by
 obtain⟨ψ,z,k,c,s,x1,x,_⟩:=T.txt m l;have f:∃g,ψ d=J g:=by
  rcases I.cq d p e with⟨j,t⟩|⟨_,i,hi,y,j,_⟩;.exact⟨p,x1 _ _ t⟩
  .exact x d (gv (T.next ae ae) j) X
 obtain⟨g,r⟩:=f;exact(s.obj d g o r trivial u v).cut (λd p h=>s.stat.lt (T.hinv m l) h) h
theorem gJ.acw(T:gJ P ak rec ops ws R φ0){i:Nat}{t:Tmp}{v:aB}(a:i<=ops.size)(h:VR O (((R.fr i).tmps.get t).getD fR) v):VR (oJ (R.H i).next O) (((R.fr i).tmps.get t).getD fR) v:=by obtain⟨ψ,w,k,c,s,x1,b,t1⟩:=T.txt i a;exact(t1.2 t).cut (λid p h=>s.stat.lt (T.hinv i a) h) h
theorem Inv.Be(T:gJ P ak rec ops ws R φ0){i:Nat}(I:Inv P ops ws R φ0 w0 F0 a O w F)(B:i<ops.size){S:Nat->Prop}(u:∀r,S r->Valid R ops.size a r i):bA S (oJ (R.H i).next O) (R.H i).fresh w:=by
 have c:=(gI.fresh (R.H i)).symm;refine bA.DY c ⟨⟨λid p h=>?_,λid p l r A e h n=>?_,λx y p q b d m Z=>?_,λx y p q b d m Z z=>?_⟩,λid p o h t s n=>?_⟩;.obtain⟨b,d⟩:=uw h;obtain⟨o,v,_⟩:=I.obj id p d i ae b;exact⟨I.aW id p d,aj⟩
 .obtain⟨b,d⟩:=uw h;obtain⟨o,v,C⟩:=I.obj id p d i ae b;grind
 .obtain⟨f,g⟩:=uw b;obtain⟨j,k⟩:=uw d;rw[<-T.root ae (bo _) f,<-T.root ae (bo _) j];exact I.inj x y p q g k m i ae f Z
 .obtain⟨f,g⟩:=uw b;obtain⟨j,k⟩:=uw d;exact I.mono x y p q g k m z i ae j Z
 .obtain⟨b,d⟩:=uw h;rw[<-T.root ae (bo _) b]at t;exact T.amY I d ae b n s (I.cont id p d i ae (u _ t) b o n s)
theorem Inv.aB7(T:gJ P ak rec ops ws R φ0){i:Nat}(I:Inv P ops ws R φ0 w0 F0 a O w F)(v:i<ops.size)(B:i∉a):∀(id:Nat)(p:Pl),O id=J p->(R.H i).next<=rootOf (R.H ops.size) id->rootOf (R.H ops.size) id<(R.H (i+1)).next->False:=by
 intro id;refine Nat.strongRecOn id ?_;intro id x p c r s;rcases I.cq id p c with⟨d,f⟩|⟨_,b,t,U,d,f⟩
 . have:rootOf (R.H ops.size) id<=id:=by obtain⟨o,h,_⟩:=I.obj id p c _ (bo _) (fj d (T.next (kH _) (bo _)));cases g:o.dQ with|true=>cases o<;>simp[bQ.dQ]at g;rw[qp h];exact((T.hinv _ ae).root id _ _ _ _ h).1|false=>grind[yY]
   have:=T.next (kH i) ae;omega
 . have l:rootOf (R.H ops.size) id<=id:=by obtain⟨o,h,_⟩:=I.obj id p c _ (bo _) (fj f (T.next ae (bo _)));cases g:o.dQ with|true=>cases o<;>simp[bQ.dQ]at g;rw[qp h];exact((T.hinv _ ae).root id _ _ _ _ h).1|false=>grind[yY]
   by_cases e:b=i;.grind
   . by_cases X:b<i;.have:=T.next (m:=b+1) (m':=i) ae ae;omega
     .have u:=T.next (m:=i+1) (m':=b) ae ae;have q:=I.own id p c b t U d f ae;obtain⟨_,z,y,j,k,n⟩:=I.map b t U _ (.inr q);grind
theorem S4{i d:Nat}(h:¬((R.H i).next<=d/\d<(R.H (i+1)).next)):beyond R i O ψ d=O d:=by grind[beyond]
theorem acd{i d:Nat}(h:(R.H i).next<=d/\d<(R.H (i+1)).next):beyond R i O ψ d=ψ d:=by grind[beyond]
theorem UH{i:Nat}{b:an}{k:List Item}(h:F.todo=.inRegion ops (i::b)::k):(F.finish u).tmps=(match(ops[i]?).bind (·.dst)with|some d=>F.tmps.setIfInBounds d u|none=>F.tmps):=by grind[Frame.finish]
theorem HZ{i:Nat}{b:an}{k:List Item}(h:F.todo=.inRegion ops (i::b)::k):(F.finish u).fn=F.fn/\(F.finish u).mode=F.mode/\(F.finish u).kind=F.kind/\(F.finish u).roundOf=F.roundOf/\(F.finish u).defers=F.defers/\(F.finish u).todo=.inRegion ops b::k:=by grind[Frame.finish]
theorem gJ.n(T:gJ P ak rec ops ws R φ0):∀j,j<=ops.size->(R.fr j).n=(R.fr 0).n:=by intro j;induction j with|zero=>intro _;rfl|succ j i=>
 intro a;have o:ops[j]?=J _:=np ae;have h:=(T.ok.step j _ o).slot;rw[<-i ae];rw[D1]at h;split at h
 . rename_i d _;simp only[fB]at h;by_cases b:d<(R.fr j).n;.simp only[b,eu,aL]at h;rw[<-br h]
   .simp[b]at h
 .rw[<-br h]
set_option maxHeartbeats 4000000 in theorem Inv.step(T:gJ P ak rec ops ws R φ0){w':aT}{b:an}{i:Nat}{o:aC}{k:List Item}{S:Nat->Prop}(I:Inv P ops ws R φ0 w0 F0 a O w F)(hl:ru ops ord)(he:ord=a++i::b)(ho:ops[i]?=J o)(ht:F.todo=.inRegion ops (i::b)::k)(hSV:∀r,S r->Valid R ops.size a r i)(PC:∀r,r∈R.wr i->S r)(Ic:∀r,r∈R.gr i->∀r',S r')(hp:ir S (oJ (R.H i).next O) (R.H i).fresh w ψ (R.HX i) w')(hv:∀d,o.dst=J d->VR ψ (R.v i) u):Inv P ops ws R φ0 w0 F0 (a++[i]) (beyond R i O ψ) w' (F.finish u):=by
 have hi:i<ops.size:=(Array.getElem?_eq_some_iff.1 ho).1;have B3:i∉a:=λh=>by have:=hl.nodup;grind
 obtain⟨Iv,jS,fr⟩:=hp;have n01:=T.next (m:=0) (m':=i) ae ae;have ni1:=T.next (m:=i) (m':=i+1) ae ae;have yD:(R.HX i).next=(R.H (i+1)).next:=((T.same i hi).2.2).symm;have Gr:∀id,id<(R.H i).next->rootOf (R.H i).fresh id=rootOf (R.H ops.size) id:=λid h=>by rw[(gI.fresh (R.H i)).root];exact(T.root ae (bo _) h).symm
 have Jm:∀id,id<(R.H (i+1)).next->rootOf (R.HX i) id=rootOf (R.H ops.size) id:=λid h=>by rw[<-(T.same i hi).root];exact(T.root ae (bo _) h).symm
 have ψlt:∀id p,ψ id=J p->id<(R.H (i+1)).next:=λid p h=>by rw[<-yD];exact jS.stat.lt Iv h
 have aOr:∀id p,ψ id=J p->id<(R.H i).next->O id=J p:=λid p h X=>by cases hc:oJ (R.H i).next O id with|some q=>have:=fr.ext _ _ hc;grind[uw]|none=>have h5:(R.H i).next<=id:=(fr.new id p h hc).1;omega
 have aLM:∀id p,O id=J p->¬((R.H i).next<=id/\id<(R.H (i+1)).next):=λid p h hh=>by
   rcases I.cq id p h with⟨g,_⟩|⟨_,z,tF,mU,c,D⟩;.omega
   . by_cases e:z=i;.grind
     . by_cases X:z<i;.have:=T.next (m:=z+1) (m':=i) ae ae;omega
       .have:=T.next (m:=i+1) (m':=z) ae ae;omega
 have E1:Ext O (beyond R i O ψ):=λid p h=>by grind[S4]
 have E2:Ext ψ (beyond R i O ψ):=λid p h=>by grind[acd,S4]
 have v:∀id p,beyond R i O ψ id=J p->((R.H i).next<=id/\id<(R.H (i+1)).next/\ψ id=J p)\/(¬((R.H i).next<=id/\id<(R.H (i+1)).next)/\O id=J p):=λid p h=>by grind[acd,S4]
 have NY:∀id,(R.H i).next<=id->oJ (R.H i).next O id=Z:=λid h=>by grind[oJ]
 have aOp:∀id,(R.H i).next<=id->id<(R.H (i+1)).next->φ0 id=Z:=λid g f=>by cases hc:φ0 id with|none=>rfl|some p=>exact absurd ⟨g,f⟩ (aLM id p (I.ext _ _ hc))
 have G:∀id p,O id=J p->(R.H (i+1)).next<=id->∃N,N∈a/\N<ops.size/\i<N/\(R.H N).next<=id/\id<(R.H (N+1)).next:=λid p h Fg=>by
   rcases I.cq id p h with⟨g,_⟩|⟨_,z,tF,mU,c,D⟩;.omega
   .refine⟨z,tF,mU,?_,c,D⟩;apply zG;intro E;have:=T.next (m:=z+1) (m':=i+1) ae ae;omega
 have aaW:∀bk,bk<w.heap.size->w'.heap[bk]?=w.heap[bk]?\/∃B Q,B<(R.H i).next/\O B=J Q/\Q.aW=bk/\¬fJ (R.H i) B/\(rootOf (R.H ops.size) B∈R.wr i\/rootOf (R.H ops.size) B∈R.gr i):=λbk M=>by
   rcases fr.nA bk M with h|⟨B,Q,g,f,c,D⟩;.grind
   . obtain⟨a1,a2⟩:=uw g;refine .inr ⟨B,Q,a1,a2,f,λhr=>c (((gI.fresh (R.H i)).ro B).2 hr),?_⟩;rw[Gr B a1,N6,G3]at D;rcases D with D|D
     . have:rootOf (R.H ops.size) B<(R.H i).next:=by rw[T.root ae (bo _) a1];exact qZ (T.hinv i ae) a1
       have h4':(R.H i).next<=rootOf (R.H ops.size) B:=D;omega
     omega
 have aKW:∀id p,O id=J p->(R.H (i+1)).next<=id->w'.heap[p.aW]?=w.heap[p.aW]?:=λid p h Fg=>by
   rcases aaW p.aW (I.aW id p h)with E|⟨B,Q,g,f,c,D,h5⟩;.omega
   . exfalso;have hr:=I.inj B id Q p f h c i ae g D;obtain⟨N,H,K,c3,U,L⟩:=G id p h Fg;have aM6:rootOf (R.H ops.size) B<(R.H i).next:=by rw[T.root ae (bo _) g];exact qZ (T.hinv i ae) g
     have:=T.next (m:=i) (m':=N) ae ae;have hg:=I.own id p h N H K U L ae;grind[Ts]
 have W:∀x px,(R.H i).next<=x->x<(R.H (i+1)).next->ψ x=J px->px.aW<w.heap.size->∃j q,j<(R.H i).next/\O j=J q/\q.aW=px.aW/\¬fJ (R.H i) j/\rootOf (R.H ops.size) j=rootOf (R.H ops.size) x/\rootOf (R.H ops.size) j∈R.gr i:=λx px g f c X=>by
   obtain⟨_,D⟩:=fr.new x px c (NY x g);rcases D with D|⟨j,q,H,K,c3,U,L⟩;.omega
   . obtain⟨d1,d2⟩:=uw H;refine⟨j,q,d1,d2,K,λhr=>c3 (((gI.fresh (R.H i)).ro j).2 hr),?_,?_⟩;.grind
     . rw[Gr j d1,G3]at L;rcases L with L|L
       . have:rootOf (R.H ops.size) j<(R.H i).next:=by rw[T.root ae (bo _) d1];exact qZ (T.hinv i ae) d1
         have c5':(R.H i).next<=rootOf (R.H ops.size) j:=L;omega
       omega
 have aBF:∀x px y py,(R.H i).next<=x->x<(R.H (i+1)).next->ψ x=J px->O y=J py->py.aW=px.aW->rootOf (R.H ops.size) y=rootOf (R.H ops.size) x/\y<(R.H i).next:=λx px y py g f c D h5=>by
   obtain⟨j,q,H,K,c3,U,L,c6⟩:=W x px g f c (by rw[<-h5];exact I.aW y py D);have hr:=I.inj j y q py K D (c3.trans h5.symm) i ae H U;refine⟨hr.symm.trans L,?_⟩;apply zG;intro Fg;have PL:(R.H (i+1)).next<=y:=by grind
   obtain⟨N,d1,d2,d3,d4,d5⟩:=G y py D PL;have aM7:rootOf (R.H ops.size) j<(R.H i).next:=by rw[T.root ae (bo _) H];exact qZ (T.hinv i ae) H
   have:=T.next (m:=i) (m':=N) ae ae;have hg:=I.own y py D N d1 d2 d4 d5 ae;exact Ts T hl he ho d1 d2 d3 (.inr c6) hg
 have FM:∀x,x∈a++[i]↔x∈a\/x=i:=λx=>aO;have fI:w.heap.size<=w'.heap.size:=fr.size;have No:∀x n,x<(R.H (i+1)).next->i+1<=n->n<=ops.size->¬fJ (R.H n) x->¬fJ (R.HX i) x:=λx n g f c D h5=>D (T.ro f c g (((T.same i hi).ro x).2 h5));have idx:∀x n,(R.H i).next<=x->n<=ops.size->x<(R.H n).next->i+1<=n:=λx n g f c=>by apply zG;intro E;have:=T.next (m:=n) (m':=i) ae ae;omega
 have vS:∀r n,S r->Valid R ops.size (a++[i]) r n->i+1<=n->∀s,i+1<=s->s<n->s<ops.size->r∉R.wr s:=λr n hS hV A s g f c hw=>by
   have e1:=(hV s c hw).2 f;rcases(FM s).1 e1 with e1|e1;.have:=(hSV r hS s c hw).1 e1;omega
   omega
 refine{ext:=I.ext.trans E1,aW:=?_,cq:=?_,obj:=?_,inj:=?_,mono:=?_,cont:=?_,size:=gv I.size fI,os:=fr.os.trans I.os,tape:=fr.tape.trans I.tape,output:=fr.output.trans I.output,nA:=?_,new:=?_,mD:=?_,own:=?_,map:=?_,cover:=?_,NK:=?_,ND:=?_,JD:=?_,fn:=?_,mode:=?_,kind:=?_,round:=?_,defers:=?_}
 . intro id p h;rcases v id p h with⟨_,_,c⟩|⟨_,c⟩;.exact(jS.stat.cq id p c).1
   .exact fj (I.aW id p c) fI
 . intro id p h;rcases v id p h with⟨g,f,c⟩|⟨_,c⟩;.grind
   .rcases I.cq id p c with hd|⟨hd,z,b1,b2⟩;all_goals grind
 . intro id p h n A X;rcases v id p h with⟨g,f,c⟩|⟨_,c⟩;.have kB:=idx id n g A X;obtain⟨_,P7⟩:=jS.stat.cq id p c;cases hg:(R.HX i).get id with|none=>grind|some o1=>
       have my:(R.H (i+1)).get id=J o1:=by rw[(T.same i hi).get];omega
       obtain⟨o2,g2,l2⟩:=T.keep kB A f my;refine⟨o2,g2,λl r fl e he=>?_⟩;subst he;cases hc:o1.dQ with|true=>cases o1<;>simp[bQ.dQ]at hc;obtain⟨l',fl',e1,e2⟩:=l2.1 _ _ _ _ rfl;obtain⟨rfl,rfl,rfl,rfl⟩:=bQ.cells.inj e1;rw[e2];exact jS.stat.len id p _ _ _ _ c hg|false=>exfalso;exact l2.2 (λl r fl e he=>by grind[bQ.dQ]) l r fl e rfl
   .exact I.obj id p c n A X
 . intro x y p q E Y M n A X dZ;rcases v x p E with⟨g,f,c⟩|⟨g1,c⟩
   . rcases v y q Y with⟨k1,k2,k3⟩|⟨k1,k3⟩;.have:=jS.stat.inj x y p q c k3 M (No x n f (idx x n g A X) A dZ);grind
     grind
   . rcases v y q Y with⟨k1,k2,k3⟩|⟨k1,k3⟩;.grind
     .exact I.inj x y p q c k3 M n A X dZ
 . intro x y p q E Y M xk n A X dZ;rcases v x p E with⟨g,f,c⟩|⟨g1,c⟩
   . rcases v y q Y with⟨k1,k2,k3⟩|⟨k1,k3⟩;.have kB:=idx y n k1 A X;exact jS.stat.mono x y p q c k3 M (dZ.imp (No x n f kB A) (No y n k2 kB A)) xk
     grind
   . rcases v y q Y with⟨k1,k2,k3⟩|⟨k1,k3⟩;.have axm:=(aBF y q x p k1 k2 k3 c M).2;have kB:=idx y n k1 A X;have hψx:ψ x=J p:=fr.ext _ _ (Ai axm c);exact jS.stat.mono x y p q hψx k3 M (dZ.imp (No x n ae kB A) (No y n k2 kB A)) xk
     .exact I.mono x y p q c k3 M xk n A X dZ
 . intro id p h n A hV X o' hg ha;have take:S (rootOf (R.H ops.size) id)\/(R.H i).next<=rootOf (R.H ops.size) id->id<(R.H (i+1)).next->ψ id=J p->(R.H (i+1)).get id=J o'->jr (R.H (i+1)) id->mn (beyond R i O ψ) w' o' p:=λhS hid hψ my Vc=>by
     have Vp:(R.HX i).get id=J o':=by rw[<-(T.same i hi).get];omega
     have Vd:jr (R.HX i) id:=((T.same i hi).alive id).1 Vc;exact(jS.obj id p o' hψ (by rw[Jm id hid];exact hS) Vd Vp).mono E2 rfl
   by_cases hw:rootOf (R.H ops.size) id∈R.wr i
   . have hS:=PC _ hw;have him:i<n:=(hV i hi hw).1 ((FM i).2 (.inr rfl));have af3:id<(R.H (i+1)).next:=by
       rcases v id p h with⟨_,f,_⟩|⟨_,c⟩;.omega
       . apply zG;intro Fg;obtain⟨N,H,K,c3,U,L⟩:=G id p c ae;have aw1:rootOf (R.H ops.size) id<(R.H i).next:=by
           have:rootOf (R.H ops.size) id∈(R.HX i).bK:=by grind[N6]
           rcases fr.vl _ this with E|⟨E,_⟩;.grind[Heap.fresh]
           .exact E
         have:=T.next (m:=i) (m':=N) ae ae;have qe:=I.own id p c N H K U L ae;grind[Ts]
     have hψ:ψ id=J p:=by
       rcases v id p h with⟨_,_,c⟩|⟨hn,c⟩;.omega
       .exact fr.ext _ _ (Ai (by omega) c)
     have hex:∃o1,(R.H (i+1)).get id=J o1:=by obtain⟨_,km⟩:=jS.stat.cq id p hψ;cases E:(R.HX i).get id with|none=>grind|some o1=>exact⟨o1,by rw[(T.same i hi).get];omega⟩
     obtain⟨o1,my⟩:=hex;obtain⟨e1,e2⟩:=T.view (m:=i+1) (m':=n) ae A af3 (λs g f xj=>by rw[<-T.root (m:=i+1) ae (bo _) af3]at xj;grind) my;grind
   . have Vb:Valid R ops.size a (rootOf (R.H ops.size) id) n:=λs kA xj=>by have:=hV s kA xj;rw[FM]at this;have cA:s≠i:=λe=>hw aj;constructor;all_goals grind
     rcases v id p h with⟨g,f,c⟩|⟨hn,c⟩;.
       have kB:=idx id n g A X;have awG:∀s,i+1<=s->s<n->rootOf (R.H (i+1)) id∉R.wr s:=λs g1 g2 xj=>by
         rw[<-T.root (m:=i+1) ae (bo _) f]at xj;by_cases LQ:rootOf (R.H ops.size) id<(R.H i).next
         . have qe:rootOf (R.H ops.size) id∈R.gr i:=by have:=(fr.mD id p c (NY id g) (by rw[Jm id f];exact LQ)).1;grind[G3]
           grind
         .have vJ:=(Vb s ae xj).2 g2;obtain⟨_,tO,p',b1,b2,b3⟩:=I.map s vJ ae _ (.inl xj);refine I.aB7 T hi B3 tO p' b1 ae ?_;rw[b3,T.root (m:=i+1) ae (bo _) f];exact qZ (T.hinv (i+1) ae) f
       obtain⟨_,km⟩:=jS.stat.cq id p c;cases E:(R.HX i).get id with|none=>grind|some o1=>
         have my:(R.H (i+1)).get id=J o1:=by rw[(T.same i hi).get];omega
         obtain⟨e1,e2⟩:=T.view (m:=i+1) (m':=n) kB A f awG my;rw[hg]at e1;cases e1;refine take ?_ f c my (e2.2 ha);by_cases LQ:rootOf (R.H ops.size) id<(R.H i).next;.left;have:=(fr.mD id p c (NY id g) (by rw[Jm id f];exact LQ)).1;grind[G3]
         omega
     . have je:=I.cont id p c n A Vb X o' hg ha;by_cases av0:(R.H (i+1)).next<=id;.exact je.mono E1 (aKW id p c av0)
       . have L7:id<(R.H i).next:=by omega
         rcases aaW p.aW (I.aW id p c)with E|⟨B,Q,g1,g2,g3,g4,g5⟩;.exact je.mono E1 E
         .have hr:=I.inj B id Q p g2 c g3 i ae g1 g4;rw[hr]at g5;have qe:rootOf (R.H ops.size) id∈R.gr i:=g5.resolve_left hw;have hS:=Ic _ qe;have hVi:=hSV _ (hS (rootOf (R.H ops.size) id));obtain⟨oi,LM,_⟩:=I.obj id p c i ae L7;obtain⟨e1,e2⟩:=T.aK7 Vb hVi A ae X L7 rfl hg ⟨oi,LM⟩;obtain⟨f1,f2⟩:=T.view (m:=i) (m':=i+1) ae ae L7 (λs q1 q2 xj=>by have:s=i:=ae;subst this;rw[<-T.root (m:=s) ae (bo _) L7]at xj;grind) e1;exact take (.inl (hS _)) ae (fr.ext _ _ (Ai L7 c)) f1 (f2.1 (e2.1 ha))
 . intro bk M;rcases I.nA bk M with E|⟨id,p,g,f,c,z,b1,b2,b3⟩
   . rcases aaW bk (fj M I.size)with Y|⟨B,Q,g1,g2,g3,g4,g5⟩;.grind
     .right;cases FD:φ0 B with|some q=>
         have e:=I.ext _ _ FD;rw[g2]at e;cases e;have Im:B<(R.H 0).next:=by rcases I.cq B Q g2 with⟨hd,_⟩|⟨hd,_⟩;all_goals grind
         refine⟨B,Q,FD,g3,λhr=>g4 (T.ro (kH i) ae Im hr),i,aO,hi,?_⟩;rw[<-T.root (m:=0) (kH _) (bo _) Im];omega|none=>
         rcases I.new B Q g2 FD with Y|⟨j,q,H,K,c3,U,L⟩;.omega
         . have Im:j<(R.H 0).next:=by rcases I.cq j q (I.ext _ _ H)with⟨hd,_⟩|⟨hd,_⟩;all_goals grind
           refine⟨j,q,H,K.trans g3,c3,i,aO,hi,?_⟩;rw[<-T.root (m:=0) (kH _) (bo _) Im,U];omega
   grind
 . intro id p h FD;rcases v id p h with⟨g,f,c⟩|⟨_,c⟩
   . by_cases M:w.heap.size<=p.aW;.exact .inl (gv I.size M)
     .obtain⟨j,q,H,K,c3,U,L,c6⟩:=W id p g f c ae;cases qf:φ0 j with|some q'=>
         have e:=I.ext _ _ qf;rw[K]at e;cases e;have Im:j<(R.H 0).next:=by rcases I.cq j q K with⟨hd,_⟩|⟨hd,_⟩;all_goals grind
         exact .inr ⟨j,q,qf,c3,λhr=>U (T.ro (kH i) ae Im hr),L,i,aO,hi,c6⟩|none=>
         rcases I.new j q K qf with Y|⟨j',q',d1,d2,d3,d4,z,d5,d6⟩;.omega
         grind
   . rcases I.new id p c FD with Y|⟨j,q,H,K,c3,U,z,L,c6⟩;.omega
     grind
 . intro id p h FD hr;rcases v id p h with⟨g,f,c⟩|⟨_,c⟩;.obtain⟨_,j,q,H,K⟩:=fr.mD id p c (NY id g) (by rw[Jm id f];exact fj hr n01);obtain⟨d1,d2⟩:=uw H;rw[Gr j d1,Jm id f]at K;cases qf:φ0 j with|some q'=>grind|none=>obtain⟨j',q',e1,e2⟩:=I.mD j q d2 qf ae;grind
   .exact I.mD id p c FD hr
 . intro id p h z tF mU g f hr;rcases(FM z).1 tF with LD|rfl
   . rcases v id p h with⟨k1,k2,k3⟩|⟨_,c⟩
     . exfalso;by_cases X:z<i;.grind
       .have cA:z≠i:=λe=>B3 aj;have:=T.next (m:=i+1) (m':=z) ae ae;omega
     .exact I.own id p c z LD mU g f hr
   . rcases v id p h with⟨k1,k2,k3⟩|⟨hn,c⟩;.have:=(fr.mD id p k3 (NY id g) (by rw[Jm id f];exact hr)).1;grind[G3]
     omega
 . intro z tF mU r hr;rcases(FM z).1 tF with LD|rfl;.obtain⟨g,id,p,f,c⟩:=I.map z LD mU r hr;exact⟨g,id,p,E1 _ _ f,c⟩
   . have key:r<(R.H z).next/\∃id p,oJ (R.H z).next O id=J p/\rootOf (R.H z).fresh id=r:=by
       rcases hr with hr|hr;.rw[<-N6]at hr;rcases fr.vl r hr with E|⟨E,Y⟩;all_goals grind[Heap.fresh]
       .rw[<-G3]at hr;rcases fr.vF r hr with E|⟨E,Y⟩;all_goals grind[Heap.fresh]
     obtain⟨g,id,p,f,c⟩:=key;obtain⟨d1,d2⟩:=uw f;exact⟨g,id,p,E1 _ _ d2,d1,aP⟩
 . intro z tF mU id g f;rcases(FM z).1 tF with LD|rfl;.obtain⟨p,hp⟩:=I.cover z LD mU id g f;exact⟨p,E1 _ _ hp⟩
   .obtain⟨p,hp⟩:=fr.cover id g ae;exact⟨p,E2 _ _ hp⟩
 .rw[UH ht];rw[ho];cases hd:o.dst<;>simp[hd,I.NK]
 . intro t s kA vJ;obtain⟨ok,cY,hdk⟩:=T.qY.only t s kA;have hkn:s<ops.size:=(Array.getElem?_eq_some_iff.1 cY).1;have PH:=T.Z6 kA ops.size hkn (bo _);rw[UH ht,ho];by_cases hd:o.dst=J t
   . have PO:s=i:=by have:=T.qY.writes i o t ho hd;simp_all
     rw[PO]at PH;have X:t<F.tmps.size:=by have:=(T.ok.step i o ho).slot;rw[D1]at this;rw[hd]at this;simp only[fB]at this;rw[I.NK,<-T.n i ae];grind
     rw[PH];simp only[cU,hd];rw[GY,Array.getElem?_setIfInBounds_self_of_lt X];exact(hv t hd).mono E2
   . have cA:s≠i:=λe=>by simp_all
     have g:=(I.ND t s kA aP).mono E1;have f:(match(J o).bind (·.dst)with|some d=>F.tmps.setIfInBounds d u|none=>F.tmps).getD t undef=F.tmps.getD t undef:=by cases vM:o.dst with|none=>grind|some d=>have:d≠t:=λe=>hd aP;simp only[cU,vM,GY];grind
     grind
 . intro t kA;have hd:o.dst≠J t:=λhd=>kA i (T.qY.writes i o t ho hd) aO;rw[UH ht,ho];have f:(match(J o).bind (·.dst)with|some d=>F.tmps.setIfInBounds d u|none=>F.tmps).getD t undef=F.tmps.getD t undef:=by cases vM:o.dst with|none=>grind|some d=>have:d≠t:=λe=>hd aP;simp only[cU,vM,GY];grind
   rw[f];exact(I.JD t (λk'' h E=>kA k'' h ((FM k'').2 (.inl E)))).mono E1
 .rw[(HZ ht).1];exact I.fn
 .rw[(HZ ht).2.1];exact I.mode
 .rw[(HZ ht).2.2.1];exact I.kind
 .rw[(HZ ht).2.2.2.1];exact I.round
 .rw[(HZ ht).2.2.2.2.1];exact I.defers
theorem Ws(x:Nat)(l:an):Cg x l=V↔x∈l:=by grind[Cg,rI,bN]
theorem ac2{w:an}{r:ah (List (Touch×Nat))}{x:Nat}(h:AM.clear w r=V)(a:x∈w):∃l,r=J l/\∀t,t∈l->t.2≠x:=by unfold AM.clear at h;grind[rI,Ws]
theorem Ko{a b:jL}(h:apart a b=V):(AM.clear a.writes b.reads=V/\AM.clear b.writes a.reads=V/\∀x,x∈a.writes->x∉b.writes)\/QA a b=V:=by grind[apart,rI,Ws]
theorem Pq{o:aC}{k:AV}(h:ey P tm H o=J [(.look t k,r)]):yW o.op=V/\∃m x,o.op=.lookup t m x C/\bu P tm m=J (.map r)/\bu P tm x=J k/\Gv P t k=V:=by
 obtain⟨g,op,j,Q,f,i⟩:=o;unfold ey at h;cases op<;>simp only at h<;>try(simp at h;done)
 case load=>split at h<;>simp at h
 case store=>split at h<;>simp at h
 case slice=>split at h<;>simp at h
 case mapEntry=>grind
 case lookup e m x ok=>cases ok with|true=>grind|false=>
  simp only at h;split at h
  . rename_i l d b c;simp only[xU,Sx,Kc,and_true]at h;obtain⟨a,rfl⟩:=h;rcases s:Gv P e d with _|_;.grind
    rw[s]at a;obtain⟨rfl,rfl⟩:=Touch.look.inj a;exact⟨rfl,m,x,rfl,b,c,s⟩
  all_goals grind
 grind
theorem atI{o:aC}{k:AV}(h:ey P tm H o=J [(.entry t k,r)]):∃m x,o.op=.mapEntry t m x/\bu P tm m=J (.map r)/\bu P tm x=J k:=by
 obtain⟨d,op,b,Q,a,g⟩:=o;unfold ey at h;cases op<;>simp only at h<;>try(simp at h;done)
 case load=>split at h<;>simp at h
 case store=>split at h<;>simp at h
 case slice=>split at h<;>simp at h
 all_goals grind
theorem Mn{a b:jL}(h:QA a b=V):∃t k c r,a.reads=J [(.look t k,r)]/\b.reads=J [(.entry t c,r)]/\sameKey k c=V:=by grind[QA,bN]
theorem JQ{i:Nat}(h:r∈R.wr i):R.K i=.act:=by grind[cW.wr]
theorem JR{i:Nat}{o:aC}(h:R.K i=.act):(R.gL P i o).writes=R.wr i:=by grind[cW.gL,cW.wr]
theorem atJ(T:gJ P ak rec ops ws R φ0){b:an}{i:Nat}{o:aC}(d:ru ops ord)(v:ord=a++i::b)(f:ops[i]?=J o)(K:R.K i=.act)(G:(R.gL P i o).reads=Z\/∃l t,(R.gL P i o).reads=J l/\t∈l/\t.2=r):Valid R ops.size a r i\/∃t k,(R.gL P i o).reads=J [(.look t k,r)]:=by
 have A:i∉a:=λh=>by have:=d.nodup;grind
 have B:∀w,AM.clear w (R.gL P i o).reads=V->r∉w:=λw F g=>by grind[ac2]
 by_cases s:∃t k,(R.gL P i o).reads=J [(.look t k,r)];.grind
 left;intro k x g;have c:=np x;generalize ops[k]=q at c;have E:=JQ g;rcases Nat.lt_trichotomy k i with X|heq|j
 . refine⟨λ_=>X,λ_=>?_⟩;rcases T.ok.pair k i q o c f X E K with p|p
   . rcases Ko p with⟨e,_,_⟩|e;.grind[JR]
     .obtain⟨t,H,y,I,u,D,_⟩:=Mn e;obtain⟨O,_⟩:=Pq u;grind[z']
   .exact d.CL (NG T.qY p X) a b v
 .grind
 . refine⟨λz=>?_,λh=>ae⟩;rcases T.ok.pair i k o q f c j K E with p|p;.grind[Ko,JR,Mn]
   .obtain⟨m,n,rfl⟩:=J5 z;have:=d.CL (NG T.qY p j) m (n++i::b) aj;grind
theorem aBb{p:Nat->Prop}(n:Nat)(b:∀j,p j->j<n):(∃j,p j)->∃j,p j/\∀a,p a->a<=j:=by induction n with|zero=>grind|succ n i=>
 rintro⟨j,h⟩;by_cases c:p n;.grind
 .exact i aj ⟨j,h⟩
theorem ajK{a b:AV}(h:zd a b=V):a=b:=by unfold zd at h;grind[CZ,Al]
theorem aGE:∀(s a:aD),s.length=a.length->(List.zip s a).all (λp=>zd p.1 p.2)=V->s=a:=by intro s;induction s with|nil=>grind|cons x s i=>
 intro a h k;rcases a with _|⟨y,a⟩;.grind
 simp at h k;grind[ajK]
theorem aGC{a b:AV}(h:sameKey a b=V):a=b:=by unfold sameKey at h;grind[bN,ef,rI,aGE,ajK]
theorem atb{k:AV}{e:ew}:∀(s:List ew)(i:Nat),oM P t k s i=J Z->mQ P 50 t k e.1=J V->∃j,oM P t k (s++[e]) i=J (J (j,e)):=by intro s;induction s with|nil=>intro i _ h;refine⟨i,?_⟩;show((mQ P 50 t k _).bind _)=_;grind|cons x s f=>intro i a c;have Q:=a;obtain⟨b,d,Q⟩:=aE Q;cases b<;>simp_all[oM]
theorem aAP(T:gJ P ak rec ops ws R φ0){b:an}{i:Nat}{o:aC}{B:AV}(n:ru ops ord)(O:ord=a++i::b)(A:ops[i]?=J o)(K:R.K i=.act)(W:(R.gL P i o).reads=J [(.look t B,r)])(L:¬Valid R ops.size a r i):∃m,i<m/\m<=ops.size/\Valid R ops.size a r m/\∀j,i<=j->j<m->r∈R.wr j->∃q,ops[j]?=J q/\R.K j=.act/\(R.gL P j q).reads=J [(.entry t B,r)]:=by
 have hi:i<ops.size:=(Array.getElem?_eq_some_iff.1 A).1;have B3:i∉a:=λh=>by have:=n.nodup;grind
 have vO:yW o.op=V:=(Pq W).1;have M:∀w,AM.clear w (R.gL P i o).reads=V->r∉w:=λw N c=>by obtain⟨l,f,g⟩:=ac2 N c;simp_all
 have U:r∉R.wr i:=λh=>by grind[z']
 have v:∀k,k<ops.size->r∈R.wr k->k<i->k∈a:=λk d c X=>by
  have Y:ops[k]?=J ops[k]:=np d;generalize ops[k]=q at Y;have E:=JQ c;rcases T.ok.pair k i q o Y A X E K with p|p;.grind[Ko,JR,Mn]
  .exact n.CL (NG T.qY p X) a b O
 have D:∀k,k<ops.size->r∈R.wr k->i<k->k∈a->∃q,ops[k]?=J q/\R.K k=.act/\(R.gL P k q).reads=J [(.entry t B,r)]:=λk d c G vJ=>by
  have Y:ops[k]?=J ops[k]:=np d;generalize ops[k]=q at Y;have E:=JQ c;rcases T.ok.pair i k o q A Y G K E with p|p;.grind[Ko,JR,Mn,aGC]
  .exfalso;obtain⟨s,u,rfl⟩:=J5 vJ;have:=n.CL (NG T.qY p G) s (u++i::b) aj;grind
 have H:∃j,j<ops.size/\j∈a/\r∈R.wr j/\i<j:=by apply zG;intro sL;apply L;intro k d c;grind
 obtain⟨j,⟨x,y,z,Q⟩,PT⟩:=aBb ops.size (λj h=>h.1) H;have F:Valid R ops.size a r (j+1):=λk d c=>by
  constructor;.grind
  . intro X;rcases Nat.lt_trichotomy k i with h|h|h;.grind
    .grind
    . by_cases S:k=j;.grind
      . have Y:ops[k]?=J ops[k]:=np d;have I:ops[j]?=J ops[j]:=np x;rcases T.ok.pair k j _ _ Y I ae (JQ c) (JQ z)with p|p
        . exfalso;rcases Ko p with⟨_,_,f⟩|f;.grind[JR,JQ]
          .obtain⟨_,_,_,_,g,_,_⟩:=Mn f;have:=(z' T Y (.inl c)).2.2;rw[(Pq g).1]at this;grind
        .obtain⟨s,u,rfl⟩:=J5 y;have:=n.CL (NG T.qY p ae) s (u++i::b) aj;grind
 refine⟨_,ae,ae,F,λk f g c=>?_⟩;have cA:k≠i:=λe=>aj;exact D k ae c ae ((F k ae c).2 g)
theorem aAR(T:gJ P ak rec ops ws R φ0){i w:Nat}{u A:al}{k v:AV}(jz:P.underlying t=J (.map u A))(H:mQ P 50 u k k=J V)(Q:i<=w)(W:w<=ops.size)(I:∀j,i<=j->j<w->r∈R.wr j->∃q,ops[j]?=J q/\R.K j=.act/\(R.gL P j q).reads=J [(.entry t k,r)])(h:∃s c,(R.H i).jT r=J (s,c)/\AR P u A s k C=J v):∃s c,(R.H w).jT r=J (s,c)/\AR P u A s k C=J v:=by
 have sM:r<(R.H i).next:=by obtain⟨s,c,n,_⟩:=h;exact(T.hinv i ae).get r _ (sR n)
 induction w with|zero=>have:i=0:=ae;subst this;exact h|succ j ih=>
 by_cases e:i=j+1;.subst e;exact h
 . obtain⟨s,c,n,g⟩:=ih ae ae (λj' a b=>I j' a ae);have S:=sR n;have G:rootOf (R.H j) r=r:=Np n;have M:r<(R.H j).next:=(T.hinv j ae).get r _ S;by_cases E:r∈R.wr j;.obtain⟨q,X,K,vO⟩:=I j ae ae E;obtain⟨mm,x,jR,kB,jH⟩:=atI vO;have p:=((T.ok.step j q X).run (by rw[K];simp)).2;unfold fP at p;obtain⟨y,d,p⟩:=aE p;simp only[dV,jR,JY]at d;rw[jz,kB]at d;simp only at d;obtain⟨mo,kC,d⟩:=aE d;have L:(R.H j).jT r=J mo:=kC;rw[n]at L;cases L;rw[jH]at d;simp only[cU]at d;cases D:ql P u k with|false=>rw[D]at d;simp at d|true=>
    rw[D]at d;simp only[aL]at d;obtain⟨O,o,d⟩:=aE d;have qQ:=T.same j ae;have sJ:R.HX j=R.H' j:=by unfold cW.HX;rw[K]
    have fin:∀f l,R.H' j=(R.H j).fresh.put r r (.map f l)->(R.H (j+1)).jT r=J (f,l):=λf l e=>by unfold Heap.jT;rw[qQ.get,sJ,e];have:((R.H j).fresh.put r r (.map f l)).get r=J (.map f l):=Tr.lL _ _ _;rw[this]
    cases O with
    |some ie=>obtain⟨ii,N⟩:=ie;simp only at d;cases B:sameKey N.1 k with|false=>rw[B]at d;simp at d|true=>rw[B]at d;simp only[aL]at d;cases d;obtain⟨_,e2⟩:=Ez.val.inj (br p);exact⟨s,c,fin s c e2.symm,g⟩
    |none=>simp only[jE]at d;obtain⟨z,Y,rfl⟩:=d;obtain⟨_,e2⟩:=Ez.val.inj (br p);refine⟨cQ s [(k,z,c)],eU c,fin _ _ e2.symm,?_⟩;unfold AR at g|-;rw[o]at g;simp only[cU,Y]at g;obtain⟨jj,U⟩:=atb (P:=P) (e:=(k,z,c)) s 0 o H;rw[lQ,U];simp only[cU];exact g
   .obtain⟨f1,_⟩:=T.view (m:=j) (m':=j+1) ae W M (λk' a b F=>by have:k'=j:=ae;subst this;rw[G]at F;exact E F) S;refine⟨s,c,?_,g⟩;unfold Heap.jT;rw[f1]
theorem atF(t:Tr AV)(H:Heap)(o:aC):ey P t H.fresh o=ey P t H o:=rfl
theorem aG6{k:AV}(h:Gv P t k=V):∃a e,P.underlying t=J (.map a e)/\mQ P 50 a k k=J V:=by grind[Gv]
theorem atH{o:aC}{c:Call}(h:o.op=.call c)(d:¬∃b,c.callee=.builtin b):ey P tm H o=Z:=by obtain⟨f,op,t,Q,e,g⟩:=o;subst h;obtain⟨callee,args,a⟩:=c;cases callee with|builtin b=>grind|_=>rfl
theorem asH{f:Heap}{o:aC}{v:AV}(k:∀c,o.op=.call c->∃b,c.callee=.builtin b)(h:fP P ak rec tm H o=J (.val v f)):dV P ak tm H o=J (.val v f):=by unfold fP at h;obtain⟨x,a,h⟩:=aE h;rw[a];cases x with|val q g=>grind|call c g=>
 exfalso;by_cases W:∃c,o.op=.call c;.obtain⟨c,u⟩:=W;obtain⟨b,j⟩:=k c u;simp only[dV,u,Eh]at a;obtain⟨d,i,a⟩:=aE a;unfold A6 at i;rw[j]at i;obtain⟨S,m,i⟩:=aE i;grind[vU,jE]
 .obtain⟨p,l,n⟩:=Uz (λc e=>W ⟨c,e⟩) _ a;simp_all
theorem aAM{d:Heap}{o:aC}{b f:al}{m x:aH}{k v:AV}(j:o.op=.lookup t m x C)(u:P.underlying t=J (.map b f))(i:bu P tm m=J (.map r))(n:bu P tm x=J k)(h:fP P ak rec tm H o=J (.val v d)):d=H/\ql P b k=V/\∃s c,H.jT r=J (s,c)/\AR P b f s k C=J v:=by unfold fP at h;obtain⟨y,a,h⟩:=aE h;simp only[dV,j,CB]at a;rw[u,i]at a;simp only at a;obtain⟨s,R,a⟩:=aE a;rw[n]at a;simp only[cU]at a;cases g:ql P b k with|false=>grind|true=>
 rw[g]at a;simp only[aL]at a;simp only[jE]at R;obtain⟨B,E,rfl⟩:=R;obtain⟨s,c⟩:=B;obtain⟨q,l,a⟩:=aE a;have A:d=H/\AR P b f s k C=J v:=by unfold AR;rw[l];simp only[cU];cases q with|none=>simp only at a|-;obtain⟨z,p,a⟩:=aE a;rw[p];cases a;simp_all|some w=>obtain⟨D,e⟩:=w;simp only at a|-;cases a;simp_all
 grind
theorem Inv.aq(T:gJ P ak rec ops ws R φ0)(I:Inv P ops ws R φ0 w0 F0 a O w F)(d:jc P φ0)(b:∀id p,φ0 id=J p->id<(R.H 0).next){i:Nat}(e:i<=ops.size):jc P (oJ (R.H i).next O):=λg D=>by obtain⟨p,h,c⟩:=d g D;exact⟨p,Ai (fj (b g p h) (T.next ae e)) (I.ext _ _ h),c⟩
set_option maxHeartbeats 1600000 in theorem aDf(dC:nw P rec)(oT:kJ P ak)(hn:rA P)(T:gJ P ak rec ops ws R φ0){H:List cZ}{b:an}{f:Nat}{k:List Item}(hg:jc P φ0)(h0:∀id p,φ0 id=J p->id<(R.H 0).next)(I:Inv P ops ws R φ0 w0 F0 a O w F)(s:ru ops ord)(E:ord=a++f::b)(G:F.todo=.inRegion ops (f::b)::k)(hm:F.mode=.run):∃K B u,Steps P (eT F H w) (eT (F.finish u) H B)/\Inv P ops ws R φ0 w0 F0 (a++[f]) K B (F.finish u):=by
 have hi:f<ops.size:=(s.all f).2 aj;have g:ops[f]?=J ops[f]:=np hi;generalize ops[f]=o at g;have st:=T.ok.step f o g;have oc:=I.aq T hg h0 (i:=f) ae;have hinv:ba (R.H f).fresh:=(T.hinv f ae).fresh;have vM:∀y,y∈o.op.operands.toList->eX (oJ (R.H f).next O) (R.fr f).tmps F.eval y:=λy hy t e=>by subst e;exact T.acw ae (I.operand T s E g (T.qY.reads f o t g hy))
 have Q:∀{bb:Bool},wC ops (R.fr f).tmps o=J bb->Region.wanted o (yielded ops F.tmps)=bb:=λhb=>by refine JO (O:=O) (c:=F.tmps) hb (λj X d U D=>?_);have avr:=T.qY.guard f o j X g U;cases Is:ops[j]? with|none=>grind|some q=>rw[Is]at D;exact I.operand T s E g (.inr ⟨j,T.qY.writes j q d Is D,.inr (.inl avr)⟩)
 by_cases hK:R.K f=.skip
 . obtain⟨U,D,h3⟩:=st.skip hK;have hw:=Q U;have A:R.HX f=(R.H f).fresh:=by grind[cW.HX]
   refine⟨_,w,undef,Steps.one (step_lone_go (by simp_all[stepG,ug])),Inv.step T (S:=λ_=>False) (ψ:=oJ (R.H f).next O) I s E g G (λ_ h=>h.elim) (λr h=>?_) (λr h=>?_) ?_ (λd _=>by grind[JI])⟩;.grind[z']
   .have:=(z' T g (.inr h)).1;grind
   .rw[A];exact ir.refl hinv (I.Be T hi (λ_ h=>h.elim))
 . obtain⟨U,D⟩:=st.run hK;have hw:=Q U;have hd:=aDd D;have plain:∀M:Nat->Prop,(∀r,M r->Valid R ops.size a r f)->J4 P M (R.fr f).tmps (R.H f).fresh o->(∀c,o.op=.call c->∃b,c.callee=.builtin b)->R.HX f=R.H' f->(∀r,r∈R.wr f->M r)->(∀r,r∈R.gr f->∀L,M L)->∃K B u,Steps P (eT F H w) (eT (F.finish u) H B)/\Inv P ops ws R φ0 w0 F0 (a++[f]) K B (F.finish u):=λM hS hf hc A PC Y=>by have hex:dV P ak (R.fr f).tmps (R.H f).fresh o=J (.val (R.v f) (R.H' f)):=asH hc D;obtain⟨ψ,n,B,r1,r2,r3⟩:=aeC hinv (I.Be T hi hS) oc (Frame.reads F) vM hf hc hex;obtain⟨a1,a2,_⟩:=GA (cs:=H) hm G g hw hd r1;cases n with|value u=>exact⟨_,B,u,Steps.one (a1 u rfl),Inv.step T I s E g G hS PC Y aj (λd _=>r2)⟩|skip=>simp only[Ey]at r2;exact⟨_,B,undef,Steps.one (a2 rfl),Inv.step T I s E g G hS PC Y (by rw[A];omega) (λd _=>by grind[JI])⟩|_=>simp only[Ey]at r2
   cases PB:R.K f with|skip=>grind|quiet=>
   obtain⟨q1,q2⟩:=st.quiet PB;have U6:=WX q1 D;have A:R.HX f=R.H' f:=by grind[cW.HX]
   refine plain (λ_=>False) (λ_ h=>h.elim) (.inl q1) (λc e=>by grind[ov]) A (λr h=>?_) (λr h=>?_);.grind[z']
   .have:=(z' T g (.inr h)).1;grind|act=>
   obtain⟨q1,q2,q3,q4,q5⟩:=st.act PB;have A:R.HX f=R.H' f:=by grind[cW.HX]
   have vO:(R.gL P f o).reads=ey P (R.fr f).tmps (R.H f) o:=rfl;have Az:=λr=>atJ T s E g PB (r:=r);have N:(R.gL P f o).reads=Z->∀r,Valid R ops.size a r f:=λxf r=>by grind
   have Y:∀r,r∈R.gr f->∀L,Valid R ops.size a L f:=λr h L=>N (afn T g h).2 L;by_cases fW:∀c,o.op=.call c->∃b,c.callee=.builtin b
   . by_cases aw6:∃t kk r,(R.gL P f o).reads=J [(.look t kk,r)]/\¬Valid R ops.size a r f
     . obtain⟨t,kk,r,hr,Vz⟩:=aw6;obtain⟨dZ,mm,x,jR,kB,jH,LV⟩:=Pq (vO▸hr);obtain⟨kt,et,hu,heq⟩:=aG6 LV;obtain⟨U6,vK,es,c,kC,LI⟩:=aAM jR hu kB jH D;obtain⟨ad,g1,g2,g3,g4⟩:=aAP T s E g PB hr Vz;obtain⟨es',c',LL,awp⟩:=aAR T hu heq ae g2 g4 ⟨es,c,kC,LI⟩;have W:=(fL oc (Frame.reads F) (vM mm (by grind[eB])) kB).1;have hvk:=(fL oc (Frame.reads F) (vM x (by grind[eB])) jH).1;have sM:r<(R.H f).next:=(T.hinv f ae).get r _ (sR kC);have qP:r<(R.H ad).next:=fj sM (T.next ae g2);have Fw:rootOf (R.H ops.size) r=r:=by rw[T.root (m:=ad) g2 (bo _) qP];grind[Np]
       have Ij:execOp F.eval o=(do pure (.value (<-Instr.lookup t (F.eval mm) (F.eval x) C))):=by grind[execOp]
       generalize F.eval mm=af at W Ij;cases W with|map _ p hp=>
         obtain⟨_,Fs⟩:=uw hp;obtain⟨_,aa,ha,Ii⟩:=I.cont r p Fs ad g2 aj qP _ (sR LL) (λl L fl e h=>by rw[sR LL]at h;grind);obtain⟨z,z1,z2⟩:=Wl (P:=P) (w:=w) (O:=O) (arr:=aa) (mv:=.map (J p.aW)) hu (.inl ⟨p.aW,c',rfl,ha⟩) Ii (hvk.mono (λid q h=>(uw h).2)) vK awp;obtain⟨a1,_⟩:=GA (P:=P) (w:=w) (cs:=H) (n:=.value z) (w':=w) hm G g hw hd aP;refine⟨_,w,z,Steps.one (a1 z rfl),Inv.step T (S:=λ_=>False) (ψ:=oJ (R.H f).next O) I s E g G (λ_ h=>h.elim) (λr h=>?_) (λr h=>?_) ?_ (λd Lv=>?_)⟩;.grind[z']
         .grind
         .rw[A,U6];exact ir.refl hinv (I.Be T hi (λ_ h=>h.elim))
         . have P6:(R.fr (f+1)).tmps.get d=J (R.v f):=by rw[T.slot g d,if_pos Lv]
           have:=T.acw (O:=O) (i:=f+1) (t:=d) (v:=z) ae aP;rw[P6]at this;have yD:(R.H (f+1)).next=(R.H f).next:=by rw[(T.same f hi).2.2,A,U6];rfl
           grind
     . refine plain (λr=>Valid R ops.size a r f) (λ_ h=>h) (.inr ?_) fW A (λr h=>?_) Y
       . rw[atF,<-vO];have ha:∀l t,(R.gL P f o).reads=J l->t∈l->Valid R ops.size a t.2 f:=λl t Fi tI=>by rcases Az t.2 (.inr ⟨l,t,Fi,tI,rfl⟩)with h|⟨t',kk,h⟩;all_goals grind
         grind
       .cases pG:(R.gL P f o).reads with|none=>simp_all|some l=>unfold within at q5;rw[pG]at q5;simp only[rI,um]at q5;have:=(Ws _ _).1 (q5 r (by grind[JR]));rw[Ce,List.mem_map]at this;obtain⟨t,tI,B6⟩:=this;rcases Az r (.inr ⟨l,t,pG,tI,B6⟩)with hx|⟨t',kk,hx⟩;all_goals grind
   . have⟨c,hc,hb⟩:∃c,o.op=.call c/\¬∃b,c.callee=.builtin b:=by simp_all
     have xf:(R.gL P f o).reads=Z:=atH hc hb;have hV:=N xf;have cY:=WZ (cs:=H) dC oT hn hinv (I.Be T hi (S:=gR) (λr _=>hV r)) oc hm G g hw vM D;obtain⟨ψ,B,u,p1,p2,p3⟩:=cY;refine⟨_,B,u,p3,Inv.step T (S:=gR) I s E g G (λr _=>hV r) (λ_ _=>trivial) (λ_ _ _=>trivial) ?_ (λd _=>p2)⟩;rw[A];exact⟨p1.1,p1.2.1.up (λ_ _=>trivial),p1.2.2⟩
theorem aCa{b x:Nat}{l:an}:x∈Heap.note b r l↔x∈l\/(x=r/\r<b):=by
 constructor;.intro h;rcases vZ h with h|⟨a,c⟩<;>grind
 grind[QG,FW]
theorem QQ{b x:Nat}:∀(s l:an),x∈fV (λl r=>Heap.note b r l) s l↔x∈l\/(x∈s/\x<b):=by intro s;induction s with|nil=>simp[pA]|cons y a i=>grind[Heap.note,pA,aCa]
theorem aLh(c:Kh P ak rec ops R):∀j,j<=ops.size->(R.H j).bn=(R.H 0).bn/\(∀r,r∈(R.H j).bK↔r∈(R.H 0).bK\/(r<(R.H 0).bn/\∃i,i<j/\r∈R.wr i))/\(∀r,r∈(R.H j).cK↔r∈(R.H 0).cK\/(r<(R.H 0).bn/\∃i,i<j/\r∈R.gr i)):=by intro j;induction j with|zero=>grind|succ j d=>
 intro l;obtain⟨b,f,g⟩:=d ae;have o:ops[j]?=J _:=np ae;have st:=c.step j _ o;have a:R.H (j+1)=R.H j->R.K j≠.act->(R.H (j+1)).bn=(R.H 0).bn/\(∀r,r∈(R.H (j+1)).bK↔r∈(R.H 0).bK\/(r<(R.H 0).bn/\∃i,i<j+1/\r∈R.wr i))/\(∀r,r∈(R.H (j+1)).cK↔r∈(R.H 0).cK\/(r<(R.H 0).bn/\∃i,i<j+1/\r∈R.gr i)):=λe h=>by grind[cW.wr,cW.gr]
 rcases h:R.K j with _|_|_;.exact a (st.skip h).2.2 aj
 .exact a (st.quiet h).2 aj
 have e:=(st.act h).2.1;have w:R.wr j=(R.H' j).bK:=by grind[cW.wr]
 have k:R.gr j=(R.H' j).cK:=by grind[cW.gr]
 rw[e];refine⟨b,λr=>?_,λr=>?_⟩;.show r∈fV _ _ _↔_;grind[QQ]
 .show r∈fV _ _ _↔_;grind[QQ]
theorem Inv.first(T:gJ P ak rec ops ws R φ0){S:List Item}(s:bA gR φ0 (R.H 0) w)(B:jb φ0 (R.fr 0) F S):Inv P ops ws R φ0 w F [] φ0 w F:=by
 have c:∀id p,φ0 id=J p->id<(R.H 0).next:=λid p h=>s.stat.lt (T.hinv 0 ae) h;refine{ext:=Ext.refl _,aW:=λid p h=>(s.stat.cq id p h).1,cq:=λid p h=>.inl ⟨c id p h,h⟩,obj:=?_,inj:=?_,mono:=?_,cont:=?_,size:=bo _,os:=rfl,tape:=rfl,output:=rfl,nA:=λ_ _=>.inl rfl,new:=λid p h L=>aj,mD:=λid p h L=>aj,own:=λid p h i hi=>aj,map:=λi hi=>aj,cover:=λi hi=>aj,NK:=B.tmps.1,ND:=λt k _ hk=>aj,JD:=λt _=>B.tmps.2 t,fn:=rfl,mode:=rfl,kind:=rfl,round:=rfl,defers:=rfl}
 . intro id p h m d X;obtain⟨_,I⟩:=s.stat.cq id p h;rcases j:(R.H 0).get id with _|v;.grind
   obtain⟨U,g2,l2⟩:=T.keep (kH m) d (c id p h) j;refine⟨U,g2,λl r A e D=>?_⟩;subst D;cases Q:v.dQ with|true=>cases v<;>simp[bQ.dQ]at Q;obtain⟨l',K,e1,e2⟩:=l2.1 _ _ _ _ rfl;obtain⟨rfl,rfl,rfl,rfl⟩:=bQ.cells.inj e1;rw[e2];exact s.stat.len id p _ _ _ _ h j|false=>exfalso;exact l2.2 (λl r A e D=>by grind[bQ.dQ]) l r A e rfl
 .intro x y p q f g u m d X n;rw[T.root ae ae (c x p f),T.root ae ae (c y q g)];exact s.stat.inj x y p q f g u (λh=>n (T.ro ae d (c x p f) h))
 .intro x y p q f g u Y m d X n;exact s.stat.mono x y p q f g u (n.imp (λa b=>a (T.ro ae d (c x p f) b)) (λa b=>a (T.ro ae d (c y q g) b))) Y
 . intro id p h m d N X o j O;have E:=c id p h;obtain⟨_,I⟩:=s.stat.cq id p h;rcases z:(R.H 0).get id with _|v;.grind
   obtain⟨H,W⟩:=T.view (kH m) d E (λi h1 M G=>by rw[<-T.root ae (bo _) E]at G;have:=(N i ae G).2 M;grind) z;rw[j]at H;cases H;exact s.obj id p o h trivial (W.2 O) z
theorem aDg(l:nw P rec)(v:kJ P ak)(s:rA P)(T:gJ P ak rec ops ws R φ0){cs:List cZ}{k:List Item}(o:jc P φ0)(m:∀id p,φ0 id=J p->id<(R.H 0).next)(q:ru ops ord):∀(b a:an)(O:aZ)(w:aT)(F:cZ),ord=a++b->Inv P ops ws R φ0 w0 F0 a O w F->F.todo=.inRegion ops b::k->F.mode=.run->∃c d e,Steps P (eT F cs w) (eT e cs d)/\Inv P ops ws R φ0 w0 F0 ord c d e/\e.todo=.inRegion ops []::k:=by intro b;induction b with|nil=>grind[Steps.refl]|cons i b t=>intro a O w F n I h r;obtain⟨c,d,u,x,g⟩:=aDf l v s T o m I q n h r;have fr:=HZ (u:=u) h;obtain⟨A,z,f,y,j,t2⟩:=t _ _ d _ aj g fr.2.2.2.2.2 aj;exact⟨_,z,f,x.trans y,j,t2⟩
theorem gJ.aA4(T:gJ P ak rec ops ws R φ0){d:Nat}:∀n,n<=ops.size->(R.H 0).next<=d->d<(R.H n).next->∃i,i<n/\(R.H i).next<=d/\d<(R.H (i+1)).next:=by intro n;induction n<;>grind
set_option maxHeartbeats 1600000 in theorem ao5(dC:nw P rec)(oT:kJ P ak)(hn:rA P):J3 P ak rec:=by
 intro ops fr H r P4 hr O w F aa ord k hi hs hg Q m hl;obtain⟨R,e1,e2,rfl,N⟩:=aLj hr;subst e1;subst e2;obtain⟨ws,D⟩:=ajj P4;have hFt:jb O (R.fr 0) {F with todo:=.inRegion ops (List.range' 0 ops.size)::k} (.inRegion ops (List.range' 0 ops.size)::k):=⟨m.fn,m.tmps,λ_=>rfl,m.defers,m.mode,m.kind,m.round⟩;have K:=aLk (cs:=aa) dC oT hn N hi hs hg Q hFt;have T:gJ P ak rec ops ws R O:={
  ok:=N
  qY:=D
  hinv:=λj hj=>(K j hj).1.elim λ_ h=>h.elim λ_ h=>h.elim λ_ h=>h.1
  af:=λi u=>(K (i+1) ae).2.2.2.2.2 i ae
  same:=λi u=>akC N (np u)
  txt:=λi u=>by obtain⟨ψ,A,F',_,g,f,s,z⟩:=(K i u).1;exact⟨ψ,A,_,_,g,f,s,z.tmps⟩};have h0:∀id p,O id=J p->id<(R.H 0).next:=λid p h=>hs.stat.lt hi h;have tE:=m.run Q;have tJ:=m.todo Q;obtain⟨ψ,A,F',v,I,ht⟩:=aDg (cs:=aa) dC oT hn T hg h0 hl ord [] O w F rfl (Inv.first T hs m) tJ tE;obtain⟨_,m1,m3,m4,m5,_⟩:=K ops.size (bo _);have M:∀i,i<ops.size->i∈ord:=λi h=>(hl.all i).1 h;obtain⟨lg1,X,Y⟩:=aLh N ops.size (bo _);have agz:(R.H 0).bn<=(R.H 0).next:=hi.bn;have rt0:∀id,id<(R.H 0).next->rootOf (R.H ops.size) id=rootOf (R.H 0) id:=λid h=>T.root (kH _) (bo _) h;have lt0:∀id,id<(R.H 0).next->id<(R.H ops.size).next:=λid h=>fj h (T.next (kH _) (bo _));have B:∀id p,ψ id=J p->id<(R.H ops.size).next:=λid p h=>by
  rcases I.cq id p h with⟨g,_⟩|⟨_,i,_,u,_,f⟩;.grind
  .exact fj f (T.next ae (bo _))
 have n:∀id p,ψ id=J p->rootOf (R.H ops.size) id<(R.H 0).next->∃j q,O j=J q/\rootOf (R.H 0) j=rootOf (R.H ops.size) id:=λid p h bX=>by
  rcases I.cq id p h with⟨g,f⟩|⟨W,_⟩;.grind
  .obtain⟨j,q,a,b⟩:=I.mD id p h W bX;grind
 have G:Stat ψ (R.H ops.size) A.heap.size:={
  cq:=λid p h=>by obtain⟨o,ho,_⟩:=I.obj id p h ops.size (bo _) (B id p h);exact⟨I.aW id p h,aj⟩
  len:=λid p l r fl e h lj=>by obtain⟨o,ho,hlen⟩:=I.obj id p h ops.size (bo _) (B id p h);grind
  inj:=λx y p q S U E dZ=>I.inj x y p q S U E ops.size (bo _) (B x p S) dZ
  mono:=λx y p q S U E dZ xk=>I.mono x y p q S U E xk ops.size (bo _) (B y q U) dZ};have Be:bA gR ψ (R.H ops.size) A:=⟨G,λid p o h _ ha lj=>I.cont id p h ops.size (bo _) (λi u _=>⟨λ_=>u,λ_=>M i u⟩) (B id p h) o lj ha⟩;have frm:Fr O (R.H 0) w ψ (R.H ops.size) A:={
  ext:=I.ext
  size:=I.size
  os:=I.os
  tape:=I.tape
  output:=I.output
  next:=T.next (kH _) (bo _)
  bn:=lg1
  bK:=λr h=>(X r).2 (.inl h)
  cK:=λr h=>(Y r).2 (.inl h)
  root:=λid h=>rt0 id h
  view:=λid o g f s z=>by obtain⟨a,b⟩:=T.view (kH ops.size) (bo _) g (λi _ L hw=>s ((X _).2 (.inr ⟨f,i,L,hw⟩))) z;simp_all
  nA:=λbk E=>by
   rcases I.nA bk E with h|⟨id,p,g,f,s,i,z,L,h6⟩;.grind
   grind
  new:=λid p h W=>by
   rcases I.cq id p h with⟨_,f⟩|⟨_,i,_,u,f,_⟩;.grind
   . refine⟨gv (T.next (kH i) ae) f,?_⟩;rcases I.new id p h W with s|⟨j,q,s,z,L,h6,i',h7,h8,h9⟩;.omega
     .refine .inr ⟨j,q,s,z,L,aj,?_⟩;grind
  ro:=λid g f=>T.ro (kH _) (bo _) g f
  keep:=λid o g f=>T.keep (kH _) (bo _) g f
  cover:=λid g f=>by obtain⟨i,a,b,c⟩:=T.aA4 ops.size (bo _) g f;exact I.cover i (M i a) a id b c
  mD:=λid p h W bX=>by
   rcases I.cq id p h with⟨_,f⟩|⟨_,i,B3,u,f,s⟩;.grind
   .have:=T.next (kH i) (by omega:i<=ops.size);have qe:=I.own id p h i B3 u f s ae;exact⟨(Y _).2 (.inr ⟨bX,i,u,qe⟩),n id p h ae⟩
  vl:=λr h=>by
   rcases(X r).1 h with h|⟨g,i,f,s⟩;.grind
   .obtain⟨_,id,p,a,_,c⟩:=I.map i (M i f) f r (.inl s);obtain⟨j,q,d,e⟩:=n id p a ae;grind
  vF:=λr h=>by
   rcases(Y r).1 h with h|⟨g,i,f,s⟩;.grind
   .obtain⟨_,id,p,a,_,c⟩:=I.map i (M i f) f r (.inr s);obtain⟨j,q,d,e⟩:=n id p a ae;grind};refine⟨ψ,A,F',v,⟨T.hinv _ (bo _),Be,frm⟩,?_,m1,I.fn⟩;refine⟨by rw[I.fn,m.fn,m5],⟨by rw[I.NK,m4],λt=>?_⟩,λ_=>ht,by rw[I.defers,m3];exact m.defers.mono I.ext,?_,by rw[I.kind,m.kind],by rw[I.round,m1.round];exact m.round.mono I.ext⟩;.cases IB:ws.get t with|none=>rw[T.Z5 t ops.size (bo _) (λk h=>aj)];exact I.JD t (λk h=>aj)|some k'=>obtain⟨o,ho,_⟩:=D.only t k' IB;exact I.ND t k' IB (M k' (Array.getElem?_eq_some_iff.1 ho).1)
 .rw[I.mode,m1.mode,m.mode,Q]
theorem Ux{a:bZ}(o:kJ P a)(b:rA P)(h:P.follows .mixedOrders=V)(n:Nat):nw P (AM.run P a n):=by grind[aGe,ao5,aAr]
end
end Go.AM
namespace Go.VM
open Go Go.AM
variable{α β:Type}{x y:ah α}
def Le{a:Type}(x y:ah a):Prop:=∀o,x=J o->y=J o
theorem Le.refl(x:ah α):Le x x:=λ_ h=>h
theorem Le.none(y:ah α):Le Z y:=λ_ h=>aj
theorem Le.bind{f g:α->ah β}(h:Le x y)(k:∀a,Le (f a) (g a)):Le (x.bind f) (y.bind g):=λo b=>by obtain⟨a,c,b⟩:=aE b;rw[h a c,cU];exact k a o b
theorem Le.Hs(x:ah α){f g:α->ah β}(k:∀a,Le (f a) (g a)):Le (x.bind f) (x.bind g):=(Le.refl x).bind k
theorem Le.cond(b:Bool){a c:ah α}(h:Le x a)(k:Le y c):Le (bif b then x else y) (bif b then a else c):=aj
theorem Le.map(f:α->β)(h:Le x y):Le (x.map f) (y.map f):=λo b=>by
 rcases x with _|a;.grind
 rw[h a rfl];omega
section
variable{P:aM}{ak:bZ}{rec DS:Rec}(h:∀fr H,Le (rec fr H) (DS fr H))
include h
theorem WY(t:Tr AV)(H:Heap)(o:aC):Le (fP P ak rec t H o) (fP P ak DS t H o):=by refine Le.Hs _ λr=>?_;cases r with|call c H=>exact(h c H).bind λa=>Le.refl _|_=>simp[Le.refl]
theorem ao2(p:Array aC)(f:cu)(H:Heap)(o:aC):Le (BQ P ak rec p f H o) (BQ P ak DS p f H o):=by refine Le.Hs _ λw=>?_;exact Le.cond _ ((WY h _ _ _).bind λa=>Le.refl _) (Le.refl _)
theorem ajE(o:Array aC):∀(l:List aC)(fr:cu)(H:Heap),Le (Ba P ak rec o l fr H) (Ba P ak DS o l fr H)|[],_,_=>Le.refl _|_::l,_,_=>(ao2 h _ _ _ _).bind λ|.next _ _=>ajE o l _ _
theorem Rs(p:Array aC):∀(l:List aC)(j:Nat)(g:List (Nat×jL))(fr:cu)(H:Heap),Le (va P ak rec p l j g fr H) (va P ak DS p l j g fr H)|[],_,_,_,_=>Le.refl _|o::l,j,g,fr,H=>by rw[Gs,Gs];exact Le.Hs _ λw=>Le.cond _ (Le.Hs _ λfr=>Rs p l _ _ _ _) ((WY h _ _ _).bind λ|.val _ _=>Le.Hs _ λ_=>Le.cond _ (Rs p l _ _ _ _) (Le.cond _ (Rs p l _ _ _ _) (Le.refl _)))
theorem amZ(f:cu)(H:Heap):Le (body P ak rec f H) (body P ak DS f H):=by
 unfold body;split;.unfold vw wO xZ ya yb Ks BJ;repeat' first|exact Le.refl _|exact h _ _|exact Rs h _ _ _ _ _ _|exact ajE h _ _ _ _|refine Le.cond _ ?_ ?_|refine Le.Hs _ λ_=>?_|refine Le.bind ?_ λ_=>?_|split|dsimp only
 all_goals grind[EH,Le.refl]
end
theorem aGp{P:aM}{a:bZ}:∀(n:Nat)(fr:cu)(H:Heap),Le (AM.run P a n fr H) (AM.run P a (n+1) fr H):=by intro n;induction n with|zero=>intro fr H;exact Le.none _|succ n i=>intro fr H;exact amZ i fr H
theorem Jp{P:aM}{a:bZ}{n m:Nat}(h:n<=m)(f:cu)(H:Heap):Le (AM.run P a n f H) (AM.run P a m f H):=by induction h with|refl=>simp[Le.refl]|step _ i=>exactλo b=>aGp _ _ _ o (i o b)
end Go.VM
namespace Go.VM
open Go Go.AM
variable{α:Type}{a:AV}{ops:Array aC}{j:CE}{H0:Heap}{it:Item}{r:Nat}{G:Out->Prop}{p:Pk}{rc:Rec}{v:SV}{st1:St}{captured:aA}{aS:aD}{x:aH}{ow:aX}{K0:aY}{o0:bQ}{f h:bS}
def wG(P:aM)(m:bZ)(i:cj):Prop:=∀st f x aS st1 v,Qm i st f x aS=J (st1,v)->∀K e l H t j,Ok K e l H st t->dD P K (λ_=>Z) i.aq->bH K e aS j->∀d s,aJ {st1 with sl:=cV st1.sl} d v=J s->∃h a c g k b,AM.bu P t x=J h/\Ev P m f (h::j) H a c/\Nx K e l H g k b c/\Ok g k b c s (iz t d a)/\st1.n=st.n/\st1.fn=st.fn
section
variable{P:aM}{ak:bZ}{rec:eK}{cf:cj}{K K' K1 K2:aY}{O ψ φ0:bY}{ω ω' ω0 gu ω1:aG}{H H':Heap}{lb:dX}{g g':GH}{M st' st2:St}{tm:Tr AV}{o:aC}{aq:Nat->ah aA}
theorem anq(h:Ev P ak f aS H a H'):(∃fr,AM.yd P ak f aS H=J (.call fr H)/\ak f aS H=Z/\∃n,AM.run P ak n fr H=J (.ret a H'))\/AM.yd P ak f aS H=J (.val a H'):=by
 rcases h with h|⟨b,fr,d,n,c⟩;.simp_all[AM.yd]
 .refine .inl ⟨fr,?_,b,n,c⟩;simp_all[AM.yd]
theorem QT{c:Call}{b:aH}{i p:aD}(r:o.op=.call c)(l:c.callee=.value b)(q:AM.bu P tm b=J (.func f i p))(k:cE (AM.bu P tm) c.args.toList=J aS)(u:Ev P ak f (i++aS++p) H a H'):∃j,∀n,j<=n->fP P ak (AM.run P ak n) tm H o=J (.val a H'):=by
 have hr:A6 P tm c=J {target:=.fn f p,args:=i++aS}:=by grind[A6,lQ]
 have e:dV P ak tm H o=AM.yd P ak f (i++aS++p) H:=by simp_all[dV,Eh,vU,lQ]
 rcases anq u with⟨fr,h,_,n,d⟩|h;.refine⟨n,λm g=>?_⟩;unfold fP;rw[e,h];simp only[cU];rw[Jp g fr H _ d];rfl
 simp_all[fP]
theorem aDe{c:Call}{b:aH}{i:Nat}(f:o.op=.call c)(k:c.callee=.value b)(l:AM.bu P tm b=J (.yield i))(j:cE (AM.bu P tm) c.args.toList=J aS)(u:YEv P ak i aS H a H'):∃g,∀n,g<=n->fP P ak (AM.run P ak n) tm H o=J (.val a H'):=by
 obtain⟨fr,h,n,d⟩:=u;have hr:A6 P tm c=J {target:=.yield i,args:=aS}:=by grind[A6]
 refine⟨n,λm e=>?_⟩;unfold fP dV;rw[f];simp only[Eh];simp only[hr,cU,h];rw[Jp e fr H _ d];rfl
theorem IZ(s:ch K O ω H tm M.sl){d:DV}(g:bp aq M x=J d)(f:∀l e n,d≠.ay l e n):jN M x:=by
 intro t b e e1 e2;have:bp aq M (.tmp t)=J b:=by show Option.bind (match look M.sl t with|some .dd=>Z|r=>r) _=J b;rw[e2];rfl
 obtain⟨a,_,_,h⟩:=s t _ e2;rcases h with⟨h,_⟩|⟨r,_,h⟩;.omega
 .obtain⟨l,_,_,_,_,_,_,c,_⟩:=h.ex;grind
theorem Lm{l c:aA}(h:DR K O (.func f l c) a):∃m b,a=.func f m b/\bH K O l m/\bH K O c b:=by cases h with|func _ _ _ m b d e g1 g2=>exact⟨m,b,rfl,⟨d,g1⟩,⟨e,g2⟩⟩
theorem pV.WS{r:aA}(h:bH K O r aS):pV K O ω H r .no aS:=⟨h.1,λi d a x y=>by have:=h.2 i d a x y;split<;>exact this⟩
def EB(P:aM)(a:bZ)(c:cj)(K:aY)(e:bY)(f:aG)(H:Heap)(t s:St)(m:Tr AV)(o:aC):Prop:=∃v H' K' ψ ω',(∃b,∀n,b<=n->fP P a (AM.run P a n) m H o=J (.val v H'))/\(∀d,o.dst=J d->d<t.n)/\Nx K e f H K' ψ ω' H'/\Ok K' ψ ω' H' s (iz m o.dst v)/\s.n=t.n/\s.fn=t.fn/\((match kindOf c t o.op with|.wr=>False|_=>True)->(∀r,r∈H'.bK->r∈H.bK)/\(isApp o.op=C->∀r,r∈H'.cK->r∈H.cK))
theorem Wt{c:Call}{i:aH}(h:c.callee=.value i)(a:x∈c.args.toList):x∈handsOn (.call c):=by cases c<;>grind[handsOn,eB,Call.operands]
theorem Ju{s a:St}{d:ah Tmp}(h:aJ s d v=J a){n:Nat}{fn:bS}(b:s.n=n)(c:s.fn=fn):(∀t,d=J t->t<n)/\a.n=n/\a.fn=fn:=by grind[qq]
theorem Ti{a:aA}{g:GH}{k:SV->GH->ah α}{x:α}(h:ku cf rec f a ow g k=J x):∃v g2,ku cf rec f a ow g (λv g=>J (v,g))=J (v,g2)/\k v g2=J x:=by unfold ku at h|-;cases p:cf.eF f with
 |true=>
 rw[p]at h;rcases d:cF _ with _|_;.grind
 rw[d]at h;obtain⟨r,hr,h⟩:=aE h;grind|false=>rw[p]at h;obtain⟨r,hr,h⟩:=aE h;grind
theorem qb(h:dD P K (λ_=>Z) aq):dD P K O aq:=h.mono (bl.refl _) (λid x h=>aj)
theorem QF(g:dD P K O aq)(s:ch K O ω H tm M.sl){l:List aH}{d:aA}(n:∀x,x∈l->jN M x)(h:cE (bp aq M) l=J d):∃m,cE (AM.bu P tm) l=J m/\bH K O d m:=by grind[Wp]
theorem anH(I:rl P ak cf rec)(k:Ok K O ω H M tm)(X:dD P K (λ_=>Z) cf.aq){c:Call}{n:aH}{f S:aA}{j:GH}(Q:o.op=.call c)(L:c.callee=.value n)(l:bp cf.aq M n=J (.func h f captured))(s:cE (bp cf.aq ((handsOn o.op).foldl (aQ share) M)) c.args.toList=J S)(W:ku cf rec h (f++S++captured) .no ((handsOn o.op).foldl (aQ share) M).g (λv g=>J (v,g))=J (v,j))(G:aJ {((handsOn o.op).foldl (aQ share) M)with sl:=cV ((handsOn o.op).foldl (aQ share) M).sl,g:=j} o.dst v=J st')(N:(match kindOf cf M o.op with|.wr=>False|_=>True)->cf.eF h=V):EB P ak cf K O ω H M st' tm o:=by obtain⟨K1,ω1,d,e,i,q,t,u,w,_⟩:=Nu tm _ K ω M k.hr k.sl;have y:=X.mono d.1 (aU.refl _);obtain⟨af,f1,_,f3⟩:=sU (qb X) k.sl (IZ k.sl l (λ_ _ _=>aO)) l;obtain⟨T,U,rfl,k1,k2⟩:=Lm f3;obtain⟨m,y1,y2⟩:=QF (qb y) i (λx hx=>t x (by grind[Wt])) s;have R:bH K1 O (f++S++captured) (T++m++U):=((k1.mono d.1 (aU.refl _)).append y2).append (k2.mono d.1 (aU.refl _));obtain⟨a,H',K',ψ,ω',A,_,B,D,E⟩:=acA I ⟨e,i⟩ (qb y) y W G (λ_ _ h=>aj) (λ_=>rfl) (λ_ _=>pV.WS R) (λp r b h=>let⟨z,F⟩:=q p r b h;⟨p,z,F⟩) (λ_ _ h=>aj);obtain⟨Y,s2,s3⟩:=Ju G u w;exact⟨a,H',K',ψ,_,QT Q L f1 y1 A,Y,D K d.1 (d.gN e),B,s2,s3,λh=>let⟨w1,w2⟩:=E (N h) rfl;⟨w1,λ_=>w2⟩⟩
theorem anI(hC:rl P ak cf rec)(s:Ok K O ω H M tm)(X:dD P K (λ_=>Z) cf.aq){c:Call}{iP:aH}{xs:List aH}{S:aA}{d:DV}{g2:GH}(ho:o.op=.call c)(hc:c.callee=.value iP)(nH:c.args.toList=x::xs)(hf:bp cf.aq M iP=J (.func h [] captured))(hx:cP cf.aq M x=J (.dv d ow))(N:cE (bp cf.aq ((handsOn o.op).foldl (aQ share) (aQ leave M x))) xs=J S)(fW:ku cf rec h (d::(S++captured)) ow ((handsOn o.op).foldl (aQ share) (aQ leave M x)).g (λv g=>J (v,g))=J (v,g2))(jG:aJ {((handsOn o.op).foldl (aQ share) (aQ leave M x))with sl:=cV ((handsOn o.op).foldl (aQ share) (aQ leave M x)).sl,g:=g2} o.dst v=J st')(hk:kindOf cf M o.op=.wr):EB P ak cf K O ω H M st' tm o:=by
 obtain⟨af,f1,_,f3⟩:=sU (P:=P) (qb X) s.sl (IZ s.sl hf (λ_ _ _=>aO)) hf;obtain⟨m1,m2,rfl,k1,k2⟩:=Lm f3;obtain rfl:=k1.sT;obtain⟨t,z,pv,x1,_,x3,x4,x5⟩:=Wb (P:=P) (qb X) s.hr s.sl hx;obtain⟨e1,e2,e3,e4⟩:=DG leave M x;have LQ:HR K O (ω.of (uY z)) H (aQ leave M x).lb (aQ leave M x).g:=by rw[e3,e4];exact s.hr.of (Rh z)
 obtain⟨K1,ω1,k,Y,a3,a4,a5,a6,a7,_⟩:=Nu tm (handsOn o.op) K (ω.of (uY z)) (aQ leave M x) LQ x5;have R:=X.mono k.1 (aU.refl _);obtain⟨m,B,U⟩:=QF (P:=P) (qb R) a3 (λy hy=>a5 y (by grind[Wt])) N;have iH:bH K1 O (S++captured) (m++m2):=U.append (k2.mono k.1 (aU.refl _));have Dc:∃f:ah (Nat×Bool),(∀r b,f=J (r,b)->(∀q c,ω1 q≠J (r,c))/\r<H.next/\(b=V->∀j y,K1 j=J y->rootOf H j≠r))/\(ow.yK=V->f=Z)/\(∀ω0:aG,ω0 (.sl 0)=f->cJ K1 O ω0 H (.sl 0) d t ow)/\∀r b,f=J (r,b)->dH ω r:=by
  have uT:(∀ω0:aG,cJ K1 O ω0 H (.sl 0) d t ow)->∃f:ah (Nat×Bool),(∀r b,f=J (r,b)->(∀q c,ω1 q≠J (r,c))/\r<H.next/\(b=V->∀j y,K1 j=J y->rootOf H j≠r))/\(ow.yK=V->f=Z)/\(∀ω0:aG,ω0 (.sl 0)=f->cJ K1 O ω0 H (.sl 0) d t ow)/\∀r b,f=J (r,b)->dH ω r:=λh=>⟨Z,λ_ _ h=>aj,λ_=>rfl,λω0 _=>h ω0,λ_ _ h=>aj⟩;have W:∀r b,ω pv=J (r,b)->ow≠.no->ow≠.any->(∀ω0:aG,ω0 (.sl 0)=J (r,b)->cJ K1 O ω0 H (.sl 0) d t ow)->∃f:ah (Nat×Bool),(∀r b,f=J (r,b)->(∀q c,ω1 q≠J (r,c))/\r<H.next/\(b=V->∀j y,K1 j=J y->rootOf H j≠r))/\(ow.yK=V->f=Z)/\(∀ω0:aG,ω0 (.sl 0)=f->cJ K1 O ω0 H (.sl 0) d t ow)/\∀r b,f=J (r,b)->dH ω r:=by
   intro r b E tK Fy dP;obtain⟨A,AI,rfl⟩:∃A,z=J A/\pv=.sl A:=by grind
   have aNq:∀q c,ω.of (uY z) q≠J (r,c):=by intro q c hq;obtain⟨q0,B,U⟩:=aG.jC hq;obtain rfl:=s.hr.inj _ _ _ _ _ U E;rw[AI]at B;have B:pS A q=J (.sl A):=B;cases q<;>simp only[pS]at B<;>grind
   refine⟨J (r,b),λr' F h=>?_,λh=>by grind[aX.yK],dP,λr' F h=>?_⟩
   . obtain⟨rfl,rfl⟩:=j9 (br h);refine⟨λq c hq=>?_,s.hr.cq _ _ _ E,λhb j y Q=>?_⟩;.grind
     . subst hb;rcases k.2 j y Q with h|⟨q,c,h⟩;.exact s.hr.clean _ r j y E h
       grind
   .obtain⟨rfl,rfl⟩:=j9 (br h);exact⟨_,b,E⟩
  cases ow with|no=>exact uT λ_=>DR.mono k.1 (aU.refl _) x3|any=>exact uT λ_=>x3|full e=>exact uT λ_=>⟨DR.mono k.1 (aU.refl _) x3.1,x3.2⟩|ty e=>
   rcases x3.2 with h|⟨r,b,u,w⟩;.exact uT λ_=>⟨DR.mono k.1 (aU.refl _) x3.1,.inl h⟩
   .exact W r b u aO aO λω0 D=>⟨DR.mono k.1 (aU.refl _) x3.1,.inr ⟨r,b,D,w⟩⟩|ex e=>
   rcases x3 with h|⟨r,u,w⟩;.exact uT λ_=>.inl h
   .refine W r V u aO aO λω0 D=>.inr ⟨r,D,?_⟩;obtain⟨l,G,id,T,cc,cells,fl,t1,t2,t3,t4,t5,t6,t7,t8⟩:=w.ex;exact⟨l,G,id,T,cc,cells,fl,t1,t2,t3,t4,t5,t6,t7.mono k.1 (aU.refl _),t8⟩
 obtain⟨f,z1,z2,z3,z4⟩:=Dc;have Da:∀p r b,ω1 p=J (r,b)->dH ω r:=λp r b h=>by obtain⟨F,I⟩:=a4 p r b h;obtain⟨q,_,L⟩:=aG.jC I;exact⟨q,F,L⟩
 obtain⟨a,H',K',ψ,ω',b1,_,b2,b3,_⟩:=acA (st2:=(handsOn o.op).foldl (aQ share) (aQ leave M x)) (fa:=f) (ωo:=ω) hC ⟨Y,a3⟩ (qb R) R fW jG z1 z2 (λω0 D=>⟨by simp[iH.1],λi dd aa p q=>by
  rcases i with _|i;.grind
  exact iH.2 i dd aa aj aj⟩:∀ω0:aG,ω0 (.sl 0)=f->pV K1 O ω0 H (d::(S++captured)) ow (t::(m++m2))) Da z4;obtain⟨s1,s2,s3⟩:=Ju jG (n:=M.n) (fn:=M.fn) aj aj;have hI:ta ω H H K K1:=λj y Q=>by obtain⟨u,w⟩:=k.gN Y j y Q;refine⟨u,w.imp_right (Or.imp_left ?_)⟩;rintro⟨p,b,h⟩;obtain⟨q,_,I⟩:=aG.jC h;exact⟨q,b,I⟩
 have Dj:cE (AM.bu P tm) c.args.toList=J (t::m):=by simp_all[cE]
 refine⟨a,H',K',ψ,_,QT ho hc f1 Dj aj,s1,b3 K k.1 hI,b2,s2,s3,λh=>?_⟩;grind
theorem anJ(hY:wL P ak cf rec)(k:Ok K O ω H M tm)(X:dD P K (λ_=>Z) cf.aq){c:Call}{B:aH}{l:Nat}{S:aA}{j:GH}(ho:o.op=.call c)(hc:c.callee=.value B)(A:bp cf.aq M B=J (.dK l))(u:cE (bp cf.aq ((handsOn o.op).foldl (aQ share) M)) c.args.toList=J S)(Y:rec (.dK l S ((handsOn o.op).foldl (aQ share) M).g)=J (.val v j))(G:aJ {((handsOn o.op).foldl (aQ share) M)with sl:=cV ((handsOn o.op).foldl (aQ share) M).sl,g:=j} o.dst v=J st')(hk:kindOf cf M o.op=.wr):EB P ak cf K O ω H M st' tm o:=by
 obtain⟨K1,ω1,s,d,y,F,I,L,N,_⟩:=Nu tm _ K ω M k.hr k.sl;have E:=X.mono s.1 (aU.refl _);obtain⟨Q,f1,_,f3⟩:=sU (qb X) k.sl (IZ k.sl A (λ_ _ _=>aO)) A;obtain⟨i,hi,rfl⟩:∃i,O l=J i/\Q=.yield i:=by cases f3<;>simp_all
 obtain⟨m,y1,y2⟩:=QF (qb E) y (λx hx=>I x (by grind[Wt])) u;have hb:=d.callee C;obtain⟨a,H',K',ψ,ω',T,z,U,W⟩:=hY l S _ v j Y K1 O _ H m i hb E y2 hi;have n:∀q r b,(ω1.of (lN C)) q=J (r,b)->ω1 q=J (r,b)/\((∃id,q=.g id)\/∃id w,q=.gc id w):=by grind[aG.jC,MJ]
 have D:∀p r b,ω1 p=J (r,b)->dH ω r:=λp r b h=>let⟨R,h'⟩:=F p r b h;⟨p,R,h'⟩;have t:wE C K1 O _ H _ _ O _ K' ψ _ H' j:=⟨d,z,U,λ_=>rfl,by rintro p r b hp h⟨q,e,f⟩;obtain⟨h1,h3⟩:=n q r e f;have:=d.inj _ _ _ _ _ h h1;grind⟩;obtain⟨s1,s2,s3⟩:=Ju G L N;refine⟨a,H',K',_,_,aDe ho hc f1 y1 T,s1,z.up d.inv (λr⟨q,e,f⟩=>D _ _ _ (n q r e f).1) s.1 (s.gN d) t.ext (t.lR D λr⟨q,e,f⟩=>D _ _ _ (n q r e f).1),t.ok y W aP G,s2,s3,λh=>?_⟩;grind
theorem aml(G:dD P K O aq)(o:Ok K O ω H M tm){d:DV}(h:Ad aq M x=J d):∃a,AM.bu P tm x=J a/\DR (K.plus H λr=>∃p,ω p=J (r,V)) O d a:=by have B:∀{p:Pk}{dd:DV}{a:AV}{ow:aX},cJ K O ω H p dd a ow->DR (K.plus H λr=>∃p,ω p=J _) O dd a:=λh=>(cJ.Q0 o.hr (λr hr=>⟨_,hr⟩) h).2;have ext:=aY.pN K H λr=>∃p,ω p=J (r,V);obtain⟨R,N,h⟩:=aE h;obtain⟨a,F,W,k⟩:=qV G o.sl N;refine⟨a,F,?_⟩;cases R with
 |dv U ow=>
 obtain rfl:=br ae;rcases k with⟨t,_,_,_,c⟩|⟨_,⟨d2,e,c⟩|⟨d2,f,_,_,e,c⟩|⟨g,l,cells,e,e1,_⟩⟩;.exact B c
 .obtain⟨rfl,_⟩:=SV.dv.inj e;exact c.mono ext (aU.refl _)
 .obtain⟨rfl,_⟩:=SV.dv.inj e;exact c.mono ext (aU.refl _)
 grind|sr s=>
 obtain⟨y,q,rfl⟩:=Option.map_eq_some_iff.1 h;have c:tm.get s=J a:=by
  rcases k with⟨S,_,_,_,c⟩|⟨_,⟨_,e,_⟩|⟨_,_,_,_,e,_⟩|⟨_,_,_,_,e,_⟩⟩;.exact c
  all_goals grind
 unfold nB at q;split at q;.rename_i l e n w I;cases q;obtain⟨T,v,_,D⟩:=o.sl s _ I;rw[c]at v;cases v;exact B (ow:=.ex w) D
 grind|gr id u=>
 simp only at h;obtain⟨i,m,root,z,e,g1,g2,g3⟩:∃i m root z e,O id=J i/\H.get i=J (.cells m root z e)/\m[u]?=J a:=by
  rcases k with⟨S,_,_,_,c⟩|⟨_,⟨_,e,_⟩|⟨_,_,_,_,e,_⟩|⟨_,_,_,_,e,_⟩⟩;.exact c
  all_goals grind
 unfold EW at h;rcases A:M.g.get id with _|Q;.grind
 rw[A]at h;cases Q with|box b=>obtain⟨j,X,Y,L⟩:=o.hr.kj id _ A;obtain⟨m',E,w,k1,k2,k3,k4,k5,k6⟩:=L;grind|_=>grind
 |_=>grind
theorem aA5(g:dD P K O aq)(o:Ok K O ω H M tm):∀(l:List aH)(s:aA),cE (Ad aq M) l=J s->∃m,cE (AM.bu P tm) l=J m/\bH (K.plus H λr=>∃p,ω p=J (r,V)) O s m:=by intro l;induction l with|nil=>intro s h;obtain rfl:=br (show J []=J s from h);exact⟨[],rfl,bH.nil⟩|cons x l i=>intro s h;have a:((Ad _ M x).bind λb=>(cE _ l).bind _)=J s:=h;obtain⟨d,hd,a⟩:=aE a;obtain⟨t,c,a⟩:=aE a;grind[aml,bH.cons,cE]
theorem cJ.aij{q:Pk}{d:DV}(h:cJ K' ψ ω' H' p d a ow)(f:d.plain=V):cJ K O ω H q d a ow:=by
 have B:∀{id o len:Nat}{c:ah _}{s:Nat},DR K' ψ d (.sl id o len c s)->False:=by intro id o len c s h;cases h<;>simp[DV.plain]at f
 cases ow with|no=>exact DR.plain h f|any=>exact h|ty e=>
 refine⟨DR.plain h.1 f,?_⟩;rcases h.2 with g|⟨r,b,_,g⟩;.grind
 .obtain⟨id,o,len,c,s,cells,i,rfl,_⟩:=g.ex;exact(B h.1).elim|full e=>obtain⟨j,id,o,len,s,rfl⟩:=h;grind|ex e=>
 rcases h with h|⟨r,_,h⟩;.exact .inl h
 .obtain⟨l,s,id,o,c,cells,i,rfl,_⟩:=h.ex;grind[DV.plain]
theorem anC(hC:rl P ak cf rec)(k:Ok K O ω H M tm)(X:dD P K (λ_=>Z) cf.aq){c:Call}{G:aH}{f S:aA}{g2:GH}(ho:o.op=.call c)(hc:c.callee=.value G)(E:bp cf.aq M G=J (.func h f captured))(Q:cf.eF h=V)(sL:cf.ri h=C\/True)(e:cE (Ad cf.aq M) c.args.toList=J S)(W:ku cf rec h (f++S++captured) .no M.g (λv g=>J (v,g))=J (v,g2))(I:v.plain=V)(L:aJ {M with sl:=cV M.sl} o.dst v=J st'):EB P ak cf K O ω H M st' tm o:=by
 obtain⟨af,f1,_,f3⟩:=sU (qb X) k.sl (IZ k.sl E (λ_ _ _=>aO)) E;obtain⟨m1,m2,rfl,k1,k2⟩:=Lm f3;obtain⟨m,y1,y2⟩:=aA5 (qb X) k _ _ e;have ext:=aY.pN K H λr=>∃p,ω p=J (r,V);have iH:=((k1.mono ext (aU.refl _)).append y2).append (k2.mono ext (aU.refl _));unfold ku at W;rw[Q]at W;rcases w:cF (f++S++captured)with _|_;.grind
 rw[w]at W;obtain⟨n,hr,W⟩:=aE W;cases n with|out o=>grind|val t gg=>
 simp only at W;rcases F:t.pure with _|_;.grind
 rw[F]at W;obtain⟨rfl,_⟩:=j9 (br W);have z:HR _ _ (λ_=>Z) H [] .empty:=⟨k.hr.inv,(W8 k.hr _ λr h=>h).1,λp q r b c h=>aj,λp r id x h=>aj,λp r b h=>aj,λs b h=>by grind[look],λid ob h=>by grind[GH.get,GH.empty,look],λ_ _=>rfl,k.hr.iJ⟩;obtain⟨a,H',K',ψ,ω',T,_,d,U,Y⟩:=hC h _ _ _ t gg hr _ _ _ H _ z (X.mono ext (aU.refl _)) (pV.WS (aEM iH w));obtain⟨K2,ω2,d1,d2,d3⟩:=aiZ z d U Y F (λ_ r⟨q,b,i⟩=>aj);have A:bM (λ_=>False) H H':=d.keep.zo k.hr.inv λr _⟨q,b,i⟩=>aj;have w8:=k.hr.frame A d2.inv d2.iJ aP aP;have mA:=Ct k.hr.inv k.sl A (bl.refl _) (aU.refl _) aP (λ_ _ _ h=>h);have D:=Ab (M:={M with sl:=cV _}) w8 mA L d3.qU λdd _ _=>by cases u:ri _ t with|dv x ow=>rw[u]at d3 I;exact cJ.aij d3 I|tp l=>rw[u]at d3 I;obtain⟨mm,q1,q2,q3⟩:=d3;exact⟨mm,q1,q2,λj x y hx hy=>(q3 j x y hx hy).aij (List.all_eq_true.1 I x aj)⟩|_=>rw[u]at d3;exact d3.elim
 have B:(∀r,r∈H'.bK->r∈H.bK)/\∀r,r∈H'.cK->r∈H.cK:=⟨λr hr=>(d.log.2.1 r hr).resolve_right λ⟨_,q,b,i⟩=>aj,λr hr=>(d.log.2.2 r hr).resolve_right λ⟨_,q,b,i⟩=>aj⟩;obtain⟨N,ψ3,ω3,n1,n2⟩:=D.nx (rz.refl _ _);obtain⟨s1,s2,s3⟩:=Ju L rfl rfl;have R:Nx K O ω H K O ω H':=⟨bl.refl _,k.hr.gN A,aU.refl _,A.zo k.hr.inv λ_ _ h=>h.elim,λp r b h=>.inl ⟨p,b,h⟩,d.log.1,λr hr=>.inl (B.1 r hr),λr hr=>.inl (B.2 r hr)⟩;exact⟨a,H',N,_,_,QT ho hc f1 y1 T,s1,R.trans k.hr.inv n1,n2,s2,s3,λ_=>⟨B.1,λ_=>B.2⟩⟩
end
section
variable{P:aM}{ak:bZ}{rec:eK}{cf:cj}{K K' K1 K2:aY}{O ψ φ0:bY}{ω ω' ω0 gu ω1:aG}{H H':Heap}{lb:dX}{g g':GH}{M st' st2:St}{tm:Tr AV}{o:aC}{gs cr:an}{later:List aC}
theorem anz(hC:rl P ak cf rec)(hY:wL P ak cf rec)(hI:wG P ak cf)(k:Ok K O ω H M tm)(X:dD P K (λ_=>Z) cf.aq){c:Call}{i:aH}(q:o.op=.call c)(g:c.callee=.value i){r:St×SV}(h:qE cf rec M o.op i c.args.toList=J r)(G:aJ {r.1 with sl:=cV r.1.sl} o.dst r.2=J st'):EB P ak cf K O ω H M st' tm o:=by
 have F:∀{f:bS},i=.func f->kindOf cf M o.op=bif cf.eF f&&!(aw (cf.fk f) 1||aw (cf.fk f) 2)then .rd else .wr:=by intro f e;subst e;rw[q];cases c;simp only at g;subst g;rfl
 have A:(∀f,i≠.func f)->kindOf cf M o.op=.wr:=by intro cA;rw[q];cases c;simp only at g;subst g;cases i<;>first|rfl|simp_all
 have Ay:∀{f h:bS}{l1 l2:aA},i=.func f->bp cf.aq M i=J (.func h l1 l2)->h=f:=by intro f hq l1 l2 e h2;subst e;have:J (DV.func f [] [])=J (DV.func hq l1 l2):=h2;simp_all
 have Y:∀{h:bS}{l1 l2:aA},bp cf.aq M i=J (.func h l1 l2)->((match kindOf cf M o.op with|.wr=>False|_=>True)->cf.eF h=V/\aw (cf.fk h) 1=C/\aw (cf.fk h) 2=C):=by grind
 have U:∀{h:bS}{l1 l2:aA},bp cf.aq M i=J (.func h l1 l2)->(aw (cf.fk h) 1=V\/aw (cf.fk h) 2=V)->kindOf cf M o.op=.wr:=by grind
 unfold qE at h;obtain⟨v,t,h⟩:=aE h;split at h
 . rename_i j first captured;by_cases u:aw (cf.fk j) 1=V
   . rw[u]at h;simp only[aL]at h;split at h
     . rename_i x N L;obtain⟨aS,s,h⟩:=aE h;obtain⟨K1,ω1,z,D,E,S,T,a6,a7,_⟩:=Nu tm N K ω M k.hr k.sl;have I:=X.mono z.1 (aU.refl _);obtain⟨m,y1,y2⟩:=QF (P:=P) (qb I) E (λy hy=>T y hy) s;obtain⟨ax,a,H',K',ψ,ω',b1,b2,b3,b4,b5,b6⟩:=hI _ j x aS r.1 r.2 h K1 O ω1 H tm m ⟨D,E⟩ I y2 o.dst st' G;obtain⟨af,f1,_,f3⟩:=sU (P:=P) (qb X) k.sl (IZ k.sl t (λ_ _ _=>aO)) t;obtain⟨m1,m2,rfl,k1,k2⟩:=Lm f3;obtain rfl:=k1.sT;obtain rfl:=k2.sT;have Q:cE (AM.bu P tm) c.args.toList=J (ax::m):=by rw[L];grind[cE]
       obtain⟨s1,s2,s3⟩:=Ju G (n:=M.n) (fn:=M.fn) aj aj;have W:Nx K O ω H K1 O ω1 H:=⟨z.1,z.gN D,aU.refl _,bM.refl _ _,λp r b h=>let⟨b',h'⟩:=S p r b h;.inl ⟨p,b',h'⟩,rz.refl _ _⟩;refine⟨a,H',K',ψ,ω',QT q g f1 Q aj,s1,W.trans k.hr.inv b3,b4,s2,s3,λhk=>?_⟩;grind
     grind
   . have u:=Bool.eq_false_iff.2 u;rw[u]at h;simp only[bg]at h;by_cases w:aw (cf.fk j) 2=V
     . rw[w]at h;simp only[aL]at h;split at h
       . rename_i x N L;split at h;.rename_i d ow hx;obtain⟨aS,s,h⟩:=aE h;grind[Ti,anI]
         grind
       grind
     . have w:=Bool.eq_false_iff.2 w;rw[w]at h;simp only[bg]at h;by_cases q3:aw (cf.fk j) 3=V;.rw[q3]at h;simp only[aL]at h;cases R:cf.eF j with|false=>grind|true=>rw[R]at h;simp only[aL]at h;obtain⟨aS,s,h⟩:=aE h;grind[Ti,anC]
       .have q3:=Bool.eq_false_iff.2 q3;rw[q3]at h;simp only[bg]at h;obtain⟨aS,s,h⟩:=aE h;grind[Ti,anH]
 .rename_i l;obtain⟨aS,s,h⟩:=aE h;obtain⟨B,hr,h⟩:=aE h;cases B with|out o=>simp at h|val v2 g2=>cases h;refine anJ hY k X q g t s hr G (A λf e=>?_);subst e;have:J (DV.func f [] [])=J (DV.dK l):=t;simp at this
 grind
theorem aj4(t:rl P ak cf rec)(Y:wL P ak cf rec)(I:wG P ak cf)(k:Ok K O ω H M tm)(X:dD P K (λ_=>Z) cf.aq)(h:dN P cf rec gs cr later M o=J st'):EB P ak cf K O ω H M st' tm o:=by
 have plain:dM P cf.aq cf.fk gs cr later ((handsOn o.op).foldl (aQ share) M) o=J st'->EB P ak cf K O ω H M st' tm o:=by
  intro h;have hr:=λD=>aDb (ak:=ak) (rec:=D) (qb X) k.hr k.sl h;obtain⟨v,H',K',ψ,ω',g,i,j,l,m,p,d⟩:=(hr _).nx;refine⟨v,H',K',ψ,_,⟨0,λn q=>?_⟩,i,j,l,m,p,λw=>?_⟩;.exact WY (λfr H=>Jp q fr H) tm H o _ g
  .have A:kindOf cf M o.op≠.wr:=aj;exact⟨d.wl A,d.gl A⟩
 unfold dN at h;cases e:o.op with
 |call c=>cases u:c.callee with|value s=>
  have f:((qE cf rec M (.call c) s c.args.toList).bind λr=>aJ {r.1 with sl:=cV r.1.sl} o.dst r.2)=J st':=by cases c;grind
  obtain⟨r,hr,G⟩:=aE f;grind[anz]|builtin b=>grind|invoke a b=>grind
 |_=>rw[e]at h;refine plain ?_;rw[e];exact h
theorem JO{w:Bool}(s:ch K O ω H tm M.sl)(h:zn ops M o=J w):wC ops tm o=J w:=by
 unfold zn at h;unfold wC;rcases i:o.guard with _|k;.grind
 obtain⟨j,n⟩:=k;rw[i]at h;simp only at h|-;rcases hd:(ops[j]?).bind _ with _|d;.grind
 rw[hd]at h;simp only at h|-;split at h
 . rename_i b ow l;obtain⟨a,g,_,c⟩:=s d _ l;have:a=.bool b:=by cases ow with|no=>cases c;rfl|any=>obtain⟨f,_⟩:=c;grind|full e=>have c:=c.1;cases c;rfl|ty e=>have c:=c.1;cases c;rfl|ex e=>
    rcases c with⟨f,_⟩|⟨_,_,f⟩;.grind
    .obtain⟨_,_,_,_,_,_,_,p,_⟩:=f.ex;grind
   grind
 .rename_i l;obtain⟨a,g,_,m,rfl,f,_⟩:=s d _ l;grind
 grind
theorem RB{f:cu}{d:ah Tmp}{v:AV}(h:∀t,d=J t->t<f.n):sW f d v=J {f with tmps:=iz f.tmps d v}:=by rw[D1];unfold iz;cases d with|none=>rfl|some d=>simp only[fB,h d rfl,eu,aL]
theorem RC(o:Ok K O ω H M tm){d:ah Tmp}(h:aJ M d (.tp [])=J st'):∃K' ψ ω',Nx K O ω H K' ψ ω' H/\Ok K' ψ ω' H st' (iz tm d fR)/\st'.n=M.n/\st'.fn=M.fn/\∀t,d=J t->t<M.n:=by obtain⟨K',ψ,ω',a,b⟩:=(Km o.hr o.sl h).nx (rz.refl _ _);obtain⟨s,c,e⟩:=Ju h rfl rfl;grind
theorem aGl(F:rl P ak cf rec)(Y:wL P ak cf rec)(G:wG P ak cf):∀(l:List aC)(j:Nat)(K:aY)(O:bY)(ω:aG)(H:Heap)(M:St)(fr:cu),Ok K O ω H M fr.tmps->dD P K (λ_=>Z) cf.aq->fr.n=M.n->jW P cf rec gs cr C ops l j [] M=J st'->∃m H' K' ψ ω',(∃c,∀n,c<=n->Ba P ak (AM.run P ak n) ops l fr H=J (.next {fr with tmps:=m} H'))/\Nx K O ω H K' ψ ω' H'/\Ok K' ψ ω' H' st' m/\st'.n=M.n/\st'.fn=M.fn:=by intro l;induction l with|nil=>intro j K O ω H M fr ok X d h;obtain rfl:=br (show J M=J st' from h);exact⟨fr.tmps,H,K,O,ω,⟨0,λn _=>rfl⟩,Nx.refl ok.hr,ok,rfl,rfl⟩|cons o l N=>
 intro j K O ω H M fr ok X d h;unfold jW at h;obtain⟨w,L,h⟩:=aE h;have I:=JO ok.sl L;have r:∀{st1:St}{v:AV}{b:Heap}{K1:aY}{a:bY}{ω1:aG},(∃c,∀n,c<=n->BQ P ak (AM.run P ak n) ops fr H o=J (.next {fr with tmps:=iz fr.tmps o.dst v} b))->Nx K O ω H K1 a ω1 b->Ok K1 a ω1 b st1 (iz fr.tmps o.dst v)->st1.n=M.n->st1.fn=M.fn->jW P cf rec gs cr C ops l (j+1) [] st1=J st'->∃m H' K' ψ ω',(∃c,∀n,c<=n->Ba P ak (AM.run P ak n) ops (o::l) fr H=J (.next {fr with tmps:=m} H'))/\Nx K O ω H K' ψ ω' H'/\Ok K' ψ ω' H' st' m/\st'.n=M.n/\st'.fn=M.fn:=by intro st1 v b K1 a ω1⟨q,A⟩s B u D E;obtain⟨m,H',K',ψ,ω',⟨Q,g1⟩,g2,g3,g4,g5⟩:=N (j+1) K1 a ω1 b st1 {fr with tmps:=iz fr.tmps o.dst v} B (X.mono s.ext (aU.refl _)) (by rw[u];exact d) E;refine⟨m,H',K',ψ,ω',⟨max q Q,λn y=>?_⟩,s.trans ok.hr.inv g2,g3,by rw[g4,u],by rw[g5,D]⟩;show((BQ P ak (AM.run P ak n) ops fr H o).bind _)=_;rw[A n ae];exact g1 n ae
 cases w with|true=>simp only[aL,GZ,N2]at h;obtain⟨st1,x,h⟩:=aE h;obtain⟨v,b,K1,a,ω1,⟨q,e⟩,f,g,i,k,z,_⟩:=aj4 F Y G ok X x;refine r ⟨q,λn y=>?_⟩ g i k z h;rw[KS,I];simp only[cU,aL,e n y];rw[RB λt p=>by rw[d];exact f t p];rfl|false=>simp only[bg]at h;obtain⟨st1,x,h⟩:=aE h;obtain⟨K1,a,ω1,e,f,g,i,k⟩:=RC ok x;refine r (v:=fR) ⟨0,λn _=>?_⟩ e f g i h;rw[KS,I];simp only[cU,bg];rw[RB λt p=>by rw[d];exact k t p];rfl
def Er:Kd->jL->Prop|.no,d=>d.reads=J []/\d.writes=[]|.rd,d=>d.writes=[]|.wr,_=>True
theorem Tt(r:ah (List (AM.Touch×Nat))):clear [] r=V:=by rfl
theorem ac1(w:an):clear w (J [])=V:=by cases w<;>rfl
theorem ama{c k:Kd}{d a:jL}(e:Er c d)(b:Er k a)(h:Kd.apart c k=V):apart d a=V:=by
 have L:∀w,iw (λx=>!(Cg x [])) w=V:=by simp[rI,Cg]
 have left:d.writes=[]->a.writes=[]->apart d a=V:=by simp_all[apart,Tt]
 have o:d.reads=J []/\d.writes=[]->apart d a=V:=by rintro⟨e1,e2⟩;unfold apart;rw[e1,e2,Tt,ac1];rfl
 have n:a.reads=J []/\a.writes=[]->apart d a=V:=by simp_all[apart,Tt,ac1]
 rcases c with _|_|_;.exact o e
 . rcases k with _|_|_;.exact n b
   .exact left e b
   grind[Kd.apart]
 rcases k with _|_|_;.exact n b
 .grind[Kd.apart]
 grind[Kd.apart]
theorem aj7{t:al}{a:aH}{v:AV}(k:o.op=.store t a x)(h:fP P ak rc tm H o=J (.val v H')):H'.cK=H.cK/\∀r,r∈H'.bK->r∈H.bK\/∃id f,AM.bu P tm a=J (.ptr id f)/\ua H id=J r:=by
 unfold fP at h;obtain⟨r,hr,h⟩:=aE h;unfold dV at hr;rw[k]at hr;simp only[En]at hr;split at hr;.rename_i id f i;obtain⟨m,q,hr⟩:=aE hr;cases s:AM.storeVar P H t id f m with|none=>rw[s]at hr;simp at hr|some p=>rw[s]at hr;cases hr;obtain⟨_,rfl⟩:=Ez.val.inj (br h);unfold AM.storeVar at s;obtain⟨n,_,s⟩:=aE s;obtain⟨b,_,s⟩:=aE s;cases c:aw (eL b) n with|false=>rw[c]at s;simp at s|true=>
  rw[c]at s;simp only[aL]at s;unfold Heap.store at s;split at s;.rename_i l root g e j;simp only at s;generalize(bV (H.bh root).1 id&&(aw (H.bh root).2 id&&(bV (im f (eL b)) (eL l)&&g.wr)))=d at s;cases d with|false=>simp at s|true=>
   cases s;refine⟨BW ..,λr hr=>?_⟩;rw[zq]at hr;rcases vZ hr with h|⟨rfl,_⟩;.exact .inl h
   .exact .inr ⟨id,f,i,by unfold ua;rw[j]⟩
  .simp at s
 .simp at hr
theorem aA6{t:al}{m k:aH}{v:AV}(b:o.op=.mapUpdate t m k x)(h:fP P ak rc tm H o=J (.val v H')):H'.cK=H.cK:=by
 unfold fP at h;obtain⟨r,hr,h⟩:=aE h;unfold dV at hr;rw[b]at hr;simp only[Ek]at hr;split at hr;.obtain⟨g,_,hr⟩:=aE hr;obtain⟨a,_,hr⟩:=aE hr;obtain⟨j,_,hr⟩:=aE hr;generalize ql P _ a=c at hr;cases c with|false=>simp at hr|true=>simp only[aL]at hr;obtain⟨f,_,hr⟩:=aE hr;cases f with
 |some d=>obtain⟨i,e⟩:=d;simp only at hr;generalize sameKey e.1 a=c at hr;cases c with|false=>simp at hr|true=>cases hr;obtain⟨_,rfl⟩:=Ez.val.inj (br h);rfl
 |none=>cases hr;obtain⟨_,rfl⟩:=Ez.val.inj (br h);rfl
 .simp at hr
theorem MC{l:an}(h:∀r,r∈l->r∈([]:an)):l=[]:=by cases l<;>grind[eQ]
theorem ac0{j:Nat}{d:ah (List (AM.Touch×Nat))}(h:H'.bK=[])(a:H'.cK=[]):sI ops o j ⟨d,H'.bK⟩ H'=V/\tX o H'=V/\within ⟨d,H'.bK⟩=V:=by
 refine⟨by grind[sI],?_,?_⟩;.grind[tX]
 .rw[h];cases d<;>rfl
theorem ao6{v:AV}{j:Nat}(G:dN P cf rec gs cr later M o=J st')(A:ov o.op=C)(B:fP P ak rc tm H.fresh o=J (.val v H'))(p:(match kindOf cf M o.op with|.wr=>False|_=>True)->(∀r,r∈H'.bK->r∈H.fresh.bK)/\(isApp o.op=C->∀r,r∈H'.cK->r∈H.fresh.cK))(I:(isApp o.op||Md cf M o.op)=V->JC ops.toList j=V):Er (kindOf cf M o.op) ⟨ey P tm H o,H'.bK⟩/\sI ops o j ⟨ey P tm H o,H'.bK⟩ H'=V/\tX o H'=V/\within ⟨ey P tm H o,H'.bK⟩=V:=by
 have rd:kindOf cf M o.op=.rd->isApp o.op=C->Er (kindOf cf M o.op) ⟨ey P tm H o,H'.bK⟩/\sI ops o j ⟨ey P tm H o,H'.bK⟩ H'=V/\tX o H'=V/\within ⟨ey P tm H o,H'.bK⟩=V:=by intro e1 e2;obtain⟨k1,k2⟩:=p (by rw[e1];trivial);have w:=MC k1;rw[e1];exact⟨w,ac0 w (MC (k2 e2))⟩
 have no:kindOf cf M o.op=.no->isApp o.op=C->ey P tm H o=J []->Er (kindOf cf M o.op) ⟨ey P tm H o,H'.bK⟩/\sI ops o j ⟨ey P tm H o,H'.bK⟩ H'=V/\tX o H'=V/\within ⟨ey P tm H o,H'.bK⟩=V:=by intro e1 e2 e3;obtain⟨k1,k2⟩:=p (by rw[e1];trivial);have w:=MC k1;rw[e1];exact⟨⟨e3,w⟩,ac0 w (MC (k2 e2))⟩
 have y:∀{x:ah St},x=Z->x=J st'->False:=λF z=>by rw[F]at z;simp at z
 cases d:o.op with
 |alloc e=>rw[<-d];exact no (by rw[d];rfl) (by rw[d];rfl) (by unfold ey;rw[d])|box e x=>rw[<-d];exact no (by rw[d];rfl) (by rw[d];rfl) (by unfold ey;rw[d])|buildSlice t n Q=>rw[<-d];exact no (by rw[d];rfl) (by rw[d];rfl) (by unfold ey;rw[d])|makeMap t r=>rw[<-d];exact no (by rw[d];rfl) (by rw[d];rfl) (by unfold ey;rw[d])|load t a=>rw[<-d];exact rd (by rw[d];rfl) (by rw[d];rfl)|lookup t m k ok=>rw[<-d];exact rd (by rw[d];rfl) (by rw[d];rfl)|slice t x lo hi O=>rw[<-d];exact rd (by rw[d];rfl) (by rw[d];rfl)|convert s t x=>rw[<-d];exact rd (by rw[d];rfl) (by rw[d];rfl)|store t a x=>
  obtain⟨g1,g2⟩:=aj7 d B;have g1:H'.cK=[]:=g1;refine⟨trivial,by unfold sI;rw[g1],by unfold tX;rw[d];rfl,?_⟩;unfold within ey;rw[d];simp only;split;.rfl
  . rename_i l q;rw[rI];refine List.all_eq_true.2 λr hr=>?_;rcases g2 r hr with h|⟨id,N,K,u⟩;.exact absurd h (by show¬r∈[];simp)
    .have u:ua H id=J r:=u;rw[K]at q;simp only[u,iE]at q;cases q;unfold Cg;simp[Ce,rI,bN]|mapUpdate t m k x=>have g1:H'.cK=[]:=aA6 d B;exact⟨trivial,by unfold sI;rw[g1],by unfold tX;rw[d];rfl,by unfold within ey;rw[d]⟩|call c=>rw[<-d];cases i:c.callee with
  |builtin b=>
    have R:dM P cf.aq cf.fk gs cr later ((handsOn o.op).foldl (aQ share) M) o=J st':=by unfold dN at G;rw[d]at G|-;cases c;simp only at i;subst i;exact G
    unfold dM at R;rw[d]at R;simp only at R;split at R;.rename_i g;exact rd (by rw[d];cases c;simp only at g;subst g;rfl) (by rw[d];cases c;simp only at g;subst g;rfl)
    . rename_i g;have e1:kindOf cf M o.op=.rd:=by rw[d];cases c;simp only at g;subst g;rfl
      have e2:isApp o.op=V:=by rw[d];cases c;simp only at g;subst g;rfl
      have e3:yW o.op=C:=by rw[d];cases c;simp only at g;subst g;rfl
      have e4:ey P tm H o=Z:=by unfold ey;rw[d];cases c;simp only at g;subst g;rfl
      obtain⟨k1,_⟩:=p (by rw[e1];trivial);have w:=MC k1;rw[e1];refine⟨w,?_,by unfold tX;rw[e3];rfl,by unfold within;rw[e4]⟩;unfold sI;split;.rfl
      .rw[I (by rw[e2];rfl),e3,e4];rfl
    .rename_i g;exact rd (by rw[d];cases c;simp only at g;subst g;rfl) (by rw[d];cases c;simp only at g;subst g;rfl)
    .simp at R|value L=>
    have e2:isApp o.op=C:=by rw[d];cases c;simp only at i;subst i;rfl
    have e3:yW o.op=C:=by rw[d];cases c;simp only at i;subst i;rfl
    have e4:ey P tm H o=Z:=by unfold ey;rw[d];cases c;simp only at i;subst i;rfl
    cases D:kindOf cf M o.op with
    |no=>exfalso;rw[d]at D;cases c;simp only at i;subst i;cases L with|func f=>have:(bif cf.eF f&&!(aw (cf.fk f) 1||aw (cf.fk f) 2)then Kd.rd else Kd.wr)=Kd.no:=D;generalize(cf.eF f&&!(aw (cf.fk f) 1||aw (cf.fk f) 2))=E at this;cases E<;>simp at this|_=>simp[kindOf,ov]at D
    |rd=>rw[<-D];exact rd D e2|wr=>
      have e5:Md cf M o.op=V:=by
       have:Md cf M o.op=(match kindOf cf M o.op with|.wr=>V|_=>C):=by rw[d];cases c;simp only at i;subst i;rfl
       rw[this,D]
      refine⟨trivial,?_,by unfold tX;rw[e3];rfl,by unfold within;rw[e4]⟩;unfold sI;split;.rfl
      .rw[I (by rw[e5];simp),e3,e4];rfl
  |invoke a b=>exfalso;unfold dN at G;rw[d]at G;cases c;simp only at i;subst i;unfold dM at G;rw[d]at G;simp at G
 |_=>exfalso;first|(rw[d]at A;simp[ov]at A;done)|(unfold dN at G;rw[d]at G;unfold dM at G;rw[d]at G;simp at G)
end
section
variable{P:aM}{ak:bZ}{rec:eK}{cf:cj}{K K':aY}{O ψ:bY}{ω:aG}{H H':Heap}{M st':St}{tm:Tr AV}{o:aC}{gs cr:an}{later:List aC}
def Bq(a:bY)(k:Kx)(d:jL):Prop:=Er k.kd d/\match k with|.s _=>True|.pt t g _=>∃r,(∃c,d.reads=J [(c,r)])/\(∀x,x∈d.writes->x=r)/\(∀id,t=J id->a id=J r)/\∀id,(g.get id).isSome=V->t≠J id->∃i,a id=J i/\i≠r
theorem Bq.mono(h:aU O ψ){k:Kx}{d:jL}(x:Bq O k d):Bq ψ k d:=by
 refine⟨x.1,?_⟩;rcases k with k|⟨t,g,w⟩;.grind
 obtain⟨r,a,b,c,f⟩:=x.2;exact⟨r,a,b,λid e=>h _ _ (c id e),λid e k=>(f id e k).imp λi x=>⟨h _ _ x.1,x.2⟩⟩
theorem amb{k e:Kx}{d a:jL}(b:Bq O k d)(c:Bq O e a)(h:Kx.apart k e=V):apart d a=V:=by
 unfold Kx.apart at h;rw[Bool.or_eq_true]at h;rcases h with h|h;.exact ama b.1 c.1 h
 . unfold Kx.tC at h;split at h;.obtain⟨r1,⟨p,f⟩,g,i,j⟩:=b.2;obtain⟨r2,⟨q,l⟩,m,n,o⟩:=c.2;grind[br,clear,Cg,rI,bN,apart]
   grind
theorem ax7{g:GH}{i:Nat}(h:(g.get i).isSome=V):∃o,g.get i=J o:=Option.isSome_iff_exists.1 h
theorem UB(k:Ok K O ω H M tm){b:Bool}{t:ah Nat}(d:ω p=J (r,b))(e:∀id,p=.g id->t=J id):∀id,(M.g.get id).isSome=V->t≠J id->∃i,O id=J i/\i≠r:=by intro id h a;obtain⟨o,c⟩:=ax7 h;obtain⟨i,g1,g2,_⟩:=k.hr.kj id o c;refine⟨i,g1,?_⟩;rintro rfl;exact a (e id (k.hr.inj _ _ _ _ _ d g2))
theorem aiW(k:Ok K O ω H M tm)(c:dD P K (λ_=>Z) cf.aq){a:aH}{d o:Nat}{b:LB}(h:cP cf.aq M a=J (.dv (.ptr d o) ow))(g:M.g.get d=J (.box b)):∃i,AM.bu P tm a=J (.ptr i o)/\ua H i=J i/\O d=J i/\ω (.g d)=J (i,V):=by obtain⟨v,n,_,f⟩:=qm (qb c) k.hr k.sl (by unfold bp;rw[h];rfl);cases f with|ptr _ _ i hi=>obtain⟨j,g1,g2,g3⟩:=k.hr.kj d _ g;obtain⟨m,l,e,k1,_⟩:=g3;grind[ua]
theorem aoS{v:AV}(p:Ok K O ω H M tm)(X:dD P K (λ_=>Z) cf.aq)(G:dN P cf rec gs cr later M o=J st')(Y:fP P ak rc tm H.fresh o=J (.val v H'))(h:Er (kindOf cf M o.op) ⟨ey P tm H o,H'.bK⟩):Bq O (jI cf M o.op) ⟨ey P tm H o,H'.bK⟩:=by cases g:o.op with
 |load t a=>
  have j:dM P cf.aq cf.fk gs cr later M o=J st':=by unfold dN at G;rw[g]at G;exact G
  rw[g]at h;unfold jI;simp only;split
  . rename_i id f ow D;have k:∃b,M.g.get id=J (.box b):=by unfold dM at j;rw[g]at j;grind
    obtain⟨b,k⟩:=k;obtain⟨i,z,A,U,B⟩:=aiW p X D k;refine⟨h,i,⟨.rd,?_⟩,?_,?_,UB p B (λw e=>aP)⟩;.grind[ey]
    .have:H'.bK=[]:=h;simp_all
    simp_all
  .exact⟨h,trivial⟩|store t a x=>
  have j:dM P cf.aq cf.fk gs cr later M o=J st':=by unfold dN at G;rw[g]at G;exact G
  rw[g]at h;obtain⟨_,g2⟩:=aj7 g Y;unfold jI;simp only;unfold dM at j;rw[g]at j;simp only at j;obtain⟨sv,hx,j⟩:=aE j;cases sv with
  |dv d ow=>
    simp only at j;have wr:∀{i f r:Nat},AM.bu P tm a=J (.ptr i f)->ua H i=J r->(∃c,(jL.mk (ey P tm H o) H'.bK).reads=J [(c,r)])/\∀y,y∈(jL.mk (ey P tm H o) H'.bK).writes->y=r:=by
      intro i f r z A;refine⟨⟨.wr,?_⟩,?_⟩;.grind[ey]
      . intro y I;rcases g2 y I with h|⟨w,dT,e1,e2⟩;.exact absurd h (by show¬y∈[];simp)
        .rw[z]at e1;cases e1;have e2:ua H i=J y:=e2;simp_all
    split
    . rename_i id f ow' D;rw[D]at j;simp only at j;have k:∃b,M.g.get id=J (.box b):=by grind
      obtain⟨b,k⟩:=k;obtain⟨i,z,A,U,B⟩:=aiW p X D k;obtain⟨E,F⟩:=wr z A;exact⟨trivial,i,E,F,λw e=>aj,UB p B (λw e=>aj)⟩
    . rename_i s i f D;rw[D]at j;simp only at j;obtain⟨y,I,_⟩:=aE j;obtain⟨v',Q,_,W⟩:=qV (P:=P) (qb X) p.sl D;rcases W with⟨t',rfl,hl,ht,id,o0,len,c,T,e1,e2⟩|⟨_,⟨d',e,_⟩|⟨_,_,_,_,e,_⟩|⟨_,_,_,_,e,_⟩⟩
      . have N:∃l e n ow,look M.sl s=J (.dv (.ay l e n) (.ex ow)):=by
         have sP:∃l e n ow,look (aQ share M x).sl s=J (.dv (.ay l e n) (.ex ow)):=by grind[nB]
         obtain⟨l,e,n,ow,m⟩:=sP;refine⟨l,e,n,ow,?_⟩;unfold aQ at m;cases x with
         |tmp u=>
         simp only at m;split at m
         . rename_i v0 _;rw[mC]at m;split at m;.have:=br m;cases v0 with|dv d1 o1=>cases o1<;>simp[share,rf]at this|_=>simp[share]at this
           omega
         omega|_=>exact m
        obtain⟨l,e,n,ow,N⟩:=N;obtain⟨sa,L,_,q⟩:=p.sl s _ N;rw[e1]at L;cases L;rcases q with⟨q,_⟩|⟨r,q,s3⟩;.cases q
        .obtain⟨l2,S,id2,R,c2,cells,fl,q1,q2,q3,_⟩:=s3.ex;cases q2;obtain⟨E,F⟩:=wr (r:=r) (by rw[Q,e2]) (by unfold ua;rw[q3]);exact⟨trivial,r,E,F,(λw e=>by cases e),UB p q (λw e=>by cases e)⟩
      all_goals grind
    .exact⟨h,trivial⟩|_=>simp at j
 |_=>rw[g]at h;exact⟨h,trivial⟩
end
section
variable{P:aM}{ak:bZ}{rec:eK}{cf:cj}{K K' K1 K2:aY}{O ψ φ0 φ1:bY}{ω ω' ω0 gu ω1:aG}{H H' H1:Heap}{lb:dX}{g g':GH}{M st' st2:St}{tm:Tr AV}{o:aC}{gs cr:an}{later:List aC}
theorem ahH{b:Nat}:∀(w l:an),r∈fV (λl r=>Heap.note b r l) w l->r∈l\/(r∈w/\r<b):=by intro w;induction w with|nil=>intro l h;exact .inl h|cons x w i=>intro l h;have h:r∈fV _ w _:=h;grind[vZ]
theorem Nx.quiet(h:HR K O ω H lb g)(n:Nx K O ω H.fresh K1 φ1 ω1 H.fresh):Nx K O ω H K1 φ1 ω1 H:=⟨n.ext,n.di,n.nh,bM.refl _ _,n.lR,rz.refl _ _⟩
theorem Nx.resume(n:Nx K O ω H.fresh K1 φ1 ω1 H1):Nx K O ω H K1 φ1 ω1 (H.resume H1):=by
 refine⟨n.ext,n.di,n.nh,⟨n.keep.next,n.keep.get,n.keep.dh,n.keep.root⟩,n.lR,rfl,λr hr=>?_,λr hr=>?_⟩
 . rcases ahH _ _ hr with h|⟨a,b⟩;.grind
   . rcases n.log.2.1 r a with h|⟨_,h⟩;.exact absurd h (by show¬r∈[];simp)
     grind
 . rcases ahH _ _ hr with h|⟨a,b⟩;.grind
   . rcases n.log.2.2 r a with h|⟨_,h⟩;.exact absurd h (by show¬r∈[];simp)
     grind
theorem aGk(hC:rl P ak cf rec)(hY:wL P ak cf rec)(hI:wG P ak cf){s0:St}(Iy:∀i o,ops.toList[i]?=J o->(isApp o.op||Md cf s0 o.op)=V->JC ops.toList i=V):∀(l:List aC)(j:Nat)(d:List (Nat×Kx))(c:List (Nat×jL))(K:aY)(O:bY)(ω:aG)(H:Heap)(M:St)(fr:cu),ops.toList.drop j=l->(∀e,e∈c->∃k,(e.1,k)∈d/\Bq O k e.2)->Ok K O ω H M fr.tmps->dD P K (λ_=>Z) cf.aq->fr.n=M.n->jW P cf rec gs cr V ops l j d M=J st'->∃m H' K' ψ ω',(∃n0,∀n,n0<=n->va P ak (AM.run P ak n) ops l j c fr H=J (.next {fr with tmps:=m} H'))/\Nx K O ω H K' ψ ω' H'/\Ok K' ψ ω' H' st' m/\st'.n=M.n/\st'.fn=M.fn:=by intro l;induction l with|nil=>intro j d c K O ω H M fr D B ok X p h;obtain rfl:=br (show J M=J st' from h);exact⟨fr.tmps,H,K,O,ω,⟨0,λn _=>rfl⟩,Nx.refl ok.hr,ok,rfl,rfl⟩|cons o l F=>
 intro j d c K O ω H M fr D B ok X p h;have Y:ops.toList[j]?=J o:=by
  have:(ops.toList.drop j)[0]?=J o:=by rw[D];rfl
  rwa[zO,zU]at this
 have G:ops.toList.drop (j+1)=l:=by
  have:(ops.toList.drop j).drop 1=l:=by rw[D];rfl
  rwa[Et]at this
 unfold jW at h;obtain⟨w,hw,h⟩:=aE h;have I:=JO ok.sl hw;cases w with|false=>simp only[bg]at h;obtain⟨st1,u,h⟩:=aE h;obtain⟨K1,φ1,ω1,f,A,b,y,g⟩:=RC ok u;obtain⟨m,H',K',ψ,ω',⟨s,g1⟩,g2,g3,g4,g5⟩:=F (j+1) d c K1 φ1 ω1 H st1 {fr with tmps:=iz fr.tmps o.dst fR} G (λe a=>(B e a).imp λk x=>⟨x.1,x.2.mono f.nh⟩) A (X.mono f.ext (aU.refl _)) (by rw[b];exact p) h;refine⟨m,H',K',ψ,ω',⟨s,λn Q=>?_⟩,f.trans ok.hr.inv g2,g3,by rw[g4,b],by rw[g5,y]⟩;rw[Gs,I];simp only[cU,GZ,aL];rw[RB λt E=>by rw[p];exact g t E];exact g1 n Q|true=>simp only[aL,Bo,vp]at h;cases L:IP ops.toList d j (jI cf M o.op)with|false=>rw[L]at h;simp at h|true=>
  rw[L]at h;simp only[aL]at h;obtain⟨st1,u,h⟩:=aE h;have N:Ok K O ω H.fresh M fr.tmps:=ok.same (ajM H) (bo _);obtain⟨v,H1,K1,φ1,ω1,⟨r,f⟩,A,b,y,g,R,b7⟩:=aj4 hC hY hI N X u;have U:sW fr o.dst v=J {fr with tmps:=iz fr.tmps o.dst v}:=RB λt E=>by rw[p];exact A t E
  have q:∀{W:List (Nat×jL)},(∀e,e∈W->e∈c\/(e.1=j/\Bq O (jI cf M o.op) e.2))->∀e,e∈W->∃k,(e.1,k)∈(j,jI cf M o.op)::d/\Bq φ1 k e.2:=by
   intro W hA e a;rcases hA e a with h|⟨S,T⟩;.obtain⟨k,k1,k2⟩:=B e h;exact⟨k,iL _ k1,k2.mono b.nh⟩
   .exact⟨_,by rw[S];exact eQ,T.mono b.nh⟩
  cases z:ov o.op with|true=>have hH:H1=H.fresh:=WX z (f r (bo _));subst hH;have nx:=Nx.quiet ok.hr b;have xy:Ok K1 φ1 ω1 H st1 (iz fr.tmps o.dst v):=y.same (ajM H).symm ok.hr.inv.bn;obtain⟨m,H',K',ψ,ω',⟨s,g1⟩,g2,g3,g4,g5⟩:=F (j+1) ((j,jI cf M o.op)::d) c K1 φ1 ω1 H st1 {fr with tmps:=iz fr.tmps o.dst v} G (q λe a=>.inl a) xy (X.mono b.ext (aU.refl _)) (by rw[g];exact p) h;refine⟨m,H',K',ψ,ω',⟨max r s,λn Q=>?_⟩,nx.trans ok.hr.inv g2,g3,by rw[g4,g],by rw[g5,R]⟩;rw[Gs,I];simp only[cU,Bo,bg,f n ae,U,z,aL];exact g1 n ae|false=>
   obtain⟨d1,d2,d3,d4⟩:=ao6 (j:=j) (ops:=ops) u z (f r (bo _)) b7 (Iy j o Y);have d1:=aoS ok X u (f r (bo _)) d1;have nx:=Nx.resume b;have xy:Ok K1 φ1 ω1 (H.resume H1) st1 (iz fr.tmps o.dst v):=y.same (aGJ H H1) (by have S:=ok.hr.inv.bn;have T:H.next<=H1.next:=b.keep.next;show H.bn<=H1.next;omega);obtain⟨m,H',K',ψ,ω',⟨s,g1⟩,g2,g3,g4,g5⟩:=F (j+1) ((j,jI cf M o.op)::d) ((j,⟨ey P fr.tmps H o,H1.bK⟩)::c) K1 φ1 ω1 (H.resume H1) st1 {fr with tmps:=iz fr.tmps o.dst v} G (q λe a=>by
    rcases List.mem_cons.1 a with rfl|a;.exact .inr ⟨rfl,d1⟩
    .exact .inl a) xy (X.mono b.ext (aU.refl _)) (by rw[g];exact p) h;refine⟨m,H',K',ψ,ω',⟨max r s,λn Q=>?_⟩,nx.trans ok.hr.inv g2,g3,by rw[g4,g],by rw[g5,R]⟩;have vG:iw (λ(e:Nat×jL)=>apart e.2 ⟨ey P fr.tmps H o,H1.bK⟩||rj ops.toList e.1 j) c=V:=by
    rw[rI];refine List.all_eq_true.2 λe a=>?_;obtain⟨k,k1,k2⟩:=B e a;have:=List.all_eq_true.1 L _ k1;simp only[N1]at this|-;rcases this with h|h;.exact .inl (amb k2 d1 h)
    .exact .inr h
   rw[Gs,I];simp only[cU,Bo,bg,f n ae,U,z,vG,d2,d3,d4,zC,aL];exact g1 n ae
theorem ZL(g:rl P ak cf rec)(Y:wL P ak cf rec)(I:wG P ak cf){d:Bool}{fr:cu}(k:Ok K O ω H M fr.tmps)(c:dD P K (λ_=>Z) cf.aq)(j:fr.n=M.n)(h:(bif !d||oK cf M ops.toList then jW P cf rec gs cr d ops ops.toList 0 [] M else Z)=J st'):∃t H' K' ψ ω',(∃a,∀n,a<=n->(bif d then(bif wj ops.toList then va P ak (AM.run P ak n) ops ops.toList 0 [] fr H else Z)else Ba P ak (AM.run P ak n) ops ops.toList fr H)=J (.next {fr with tmps:=t} H'))/\Nx K O ω H K' ψ ω' H'/\Ok K' ψ ω' H' st' t/\st'.n=M.n/\st'.fn=M.fn:=by
 rcases d with _|_;.obtain⟨t,H',K',ψ,ω',⟨a,f⟩,b⟩:=aGl g Y I _ 0 K O ω H M fr k c j (by simpa using h);exact⟨_,H',K',ψ,_,⟨a,λn m=>f n m⟩,b⟩
 rcases hd:oK cf M ops.toList with _|_;.grind
 rw[hd]at h;unfold oK at hd;simp only[iC]at hd;obtain⟨t,H',K',ψ,ω',⟨a,f⟩,b⟩:=aGk (s0:=M) g Y I (λi o hi x=>by have:=List.all_eq_true.1 hd.2 _ (List.mk_mem_zipIdx_iff_getElem?.2 hi);grind) _ 0 [] [] K O ω H M fr rfl (λe l=>aj) k c j (by simpa using h);refine⟨_,H',K',ψ,_,⟨a,λn m=>?_⟩,b⟩;grind
end
def dY(P:aM)(a:bZ)(fr:cu)(H:Heap)(G:Out->Prop):Prop:=∃n o,AM.run P a n fr H=J o/\G o
section
variable{P:aM}{ak:bZ}{rec:eK}{cf:cj}{K K' K1 K2:aY}{O ψ φ0 φ1:bY}{ω ω' ω0 gu ω1:aG}{H H' H1:Heap}{lb:dX}{g g':GH}{M st' st2:St}{tm:Tr AV}{G:Out->Prop}{fr fC:cu}
theorem dY.step(a:Nat)(h:∀n,a<=n->body P ak (AM.run P ak n) fr H=AM.run P ak n fC H')(r:dY P ak fC H' G):dY P ak fr H G:=by obtain⟨n,o,b,c⟩:=r;refine⟨max a n+1,o,?_,c⟩;show body P _ (AM.run P _ _) fr H=J o;rw[h _ ae];exact Jp ae _ H' o b
theorem dY.same(h:∀rc,body P ak rc fr H=body P ak rc fC H')(r:dY P ak fC H' G):dY P ak fr H G:=by
 obtain⟨n,o,a,b⟩:=r;rcases n with _|n;.exact absurd a (by show¬(Z=J o);simp)
 exact⟨n+1,o,by show body P _ _ fr H=J o;rw[h];exact a,b⟩
theorem ajp:∀(n:Nat)(fr:cu)(H:Heap)(a b:List Item),fr.mode=.returning->AM.run P ak n {fr with todo:=a} H=AM.run P ak n {fr with todo:=b} H
 |0,_,_,_,_,_=>rfl|n+1,fr,H,a,b,h=>by
  have i:=ajp n;show body P ak (AM.run P ak n) _ H=body P ak (AM.run P ak n) _ H;obtain⟨fn,nn,tm,t,d,m,ro⟩:=fr;obtain rfl:m=.returning:=h;unfold body EH;simp only;split;.rfl
  . split
    . split;.exact i ⟨fn,nn,tm,t,‹an›,.returning,_⟩ _ a b rfl
      .rfl
    .rfl
def JF(o:eJ)(r:List Item):List Item:=match o with|.fO _=>r|.ext id _=>.code (.exit id)::r|.rt _=>.code .ret::r
def eJ.GB:eJ->St|.fO M|.ext _ M|.rt M=>M
theorem S8{I:Nat}{k:List Item}(h:fr.mode=.run):body P ak rc {fr with todo:=.code (.exit I)::k} H=(match exitTo I k with|some k=>rc {fr with todo:=k} H|none=>match fr.roundOf with|none=>Z|some l=>match H.get l with|some (.loop r)=>J (.ret (.bool C) (H.put l l (.loop {r with state:=.done,pending:=J (.exit I)})))|_=>Z):=by obtain⟨fn,nn,t,todo,d,m,o⟩:=fr;obtain rfl:m=.run:=h;rfl
theorem asO{d:Nat}{k:List Item}(h:fr.mode=.run)(t:∀i,it=.inBlock i->i≠d)(r:dY P ak {fr with todo:=.code (.exit d)::k} H G):dY P ak {fr with todo:=.code (.exit d)::it::k} H G:=by
 refine r.same λrc=>?_;rw[S8 h,S8 h];have:exitTo d (it::k)=exitTo d k:=by cases it<;>grind[exitTo]
 grind
theorem aF4{k:List Item}(m:fr.mode=.run)(r:dY P ak {fr with todo:=.code .ret::k} H G):dY P ak {fr with todo:=.code .ret::it::k} H G:=by
 obtain⟨n,o,h,a⟩:=r;rcases n with _|n;.exact absurd h (by show¬(Z=J o);simp)
 refine⟨n+1,o,?_,a⟩;rw[<-h];simp only[m];rcases fr.roundOf with _|l;.exact ajp n {fr with mode:=.returning,roundOf:=Z} H _ _ rfl
 rfl
theorem DJ{o:eJ}{k:List Item}(h:fr.mode=.run)(n:∀M,o≠.fO M)(t:∀i,it=.inBlock i->∀M,o≠.ext i M)(r:dY P ak {fr with todo:=JF o k} H G):dY P ak {fr with todo:=JF o (it::k)} H G:=by
 rcases o with M|⟨id,M⟩|M;.grind
 .exact asO h aj r
 exact aF4 h r
def N3(b:Nat)(a:aG)(H:Heap)(s:an):Prop:=s.Nodup/\∀r,r∈s->H.get r=J (.deferred V)/\¬dH a r/\b<=r
structure xQ(bs:Nat)(rd:ah Nat)(fr:cu)(M:St)(O:bY)(ω:aG)(H:Heap):Prop where
 fn:fr.fn=M.fn
 n:fr.n=M.n
 mode:fr.mode=.run
 base:bs<=H.next
 rd:match rd with|none=>fr.roundOf=Z/\N3 bs ω H fr.defers|some l=>∃i,O l=J i/\fr.roundOf=J i/\fr.defers=[]
theorem N3.nx{d:an}(i:ba H){s:Nat}(h:N3 s ω H d)(n:Nx K O ω H K' ψ ω' H'):N3 s ω' H' d:=by
 refine⟨h.1,λr hr=>?_⟩;obtain⟨a,f,c⟩:=h.2 r hr;have X:=i.get _ _ a;have j:rootOf H r=r:=by grind[rootOf]
 refine⟨by rw[n.keep.get r X aj];omega,λ⟨p,b,e⟩=>?_,c⟩;rcases n.lR p r b e with h|h<;>grind
theorem xQ.nx{b:Nat}{r:ah Nat}(d:ba H)(h:xQ b r fr M O ω H)(n:Nx K O ω H K' ψ ω' H')(a:st'.n=M.n)(c:st'.fn=M.fn)(tm':Tr AV)(td:List Item):xQ b r {fr with tmps:=tm',todo:=td} st' ψ ω' H':=by
 refine⟨by rw[c];exact h.fn,by rw[a];exact h.n,h.mode,gv h.base n.keep.next,?_⟩;have:=h.rd;rcases r with _|l;.exact⟨this.1,this.2.nx d n⟩
 obtain⟨i,k1,k2,k3⟩:=this;exact⟨i,n.nh _ _ k1,k2,k3⟩
def Bp(P:aM)(a:bZ)(b:Nat)(d:ah Nat)(K:aY)(c:bY)(e:aG)(H:Heap)(s:St)(f:cu)(r:List Item)(G:Out->Prop)(o:eJ):Prop:=∀K' ψ ω' H' t m,Nx K c e H K' ψ ω' H'->Ok K' ψ ω' H' o.GB t->o.GB.n=s.n->o.GB.fn=s.fn->xQ b d {f with tmps:=t,defers:=m} o.GB ψ ω' H'->dY P a {f with tmps:=t,defers:=m,todo:=JF o r} H' G
def Hb(P:aM)(a:bZ)(c:cj)(r:eK):Prop:=∀b M rd o,r (.loop b M rd)=J (.out o)->∀bs K O ω H fr rest G,Ok K O ω H M fr.tmps->dD P K (λ_=>Z) c.aq->xQ bs rd fr M O ω H->Bp P a bs rd K O ω H M fr rest G o->dY P a {fr with todo:=.code (.loop b)::rest} H G
theorem ahD(l:List (Nat×α)):∀(a:an)(t:Nat)(v:α),look (a.filterMap λs=>(look l s).map λv=>(s,v)) t=J v->look l t=J v:=by intro a;induction a with|nil=>simp[look]|cons k a i=>cases h:look l k<;>grind[look,bN]
theorem Wr{l:an}(o:Ok K O ω H M tm):Ok K O ω H (mask l M) tm where
 hr:=by obtain⟨a,c,d,e,f,g,i,j,k⟩:=o.hr;refine⟨a,c,d,e,f,λs b m=>g s b ?_,i,j,k⟩;exact ahD M.lb _ s b m
 sl:=λt v h=>o.sl t v (ahD M.sl _ t v h)
theorem ai3(a:ba H){i:Nat}{o:bQ}(g:H.get i=J o0)(k:o0.dQ=C)(m:o.dQ=C):ba (H.put i r o):=by
 refine⟨λj c h=>?_,λj l b n e1 h=>?_,λj l b n e1 h=>?_,a.dh,a.bn⟩
 . by_cases e:j=i;.rw[e];exact a.get _ _ g
   .rw[oY H r _ e]at h;exact a.get j c h
 . by_cases e:j=i;.grind[xG,bQ.dQ]
   .rw[oY H r _ e]at h;exact a.root j l b _ e1 h
 . by_cases e:j=i;.grind[xG,bQ.dQ]
   .rw[oY H r _ e]at h;obtain⟨q,f,d,p⟩:=a.oy j l b _ e1 h;grind[bQ.dQ,oY]
theorem Rc{i:Nat}{o:bQ}(g:H.get i=J o0)(h:o0.dQ=C)(a:o.dQ=C)(j:Nat):rootOf (H.put i r o) j=rootOf H j:=by grind[yY,xG,rootOf,oY]
theorem ai4{i:Nat}{o:bQ}(g:H.get i=J o0)(a:o0.dQ=C)(b:o.dQ=C):bM (λx=>x=i) H (H.put i r o)where
 next:=bo _
 get:=λj _ h=>oY H r _ (λx=>h (by subst x;exact yY g a))
 dh:=λc _ h=>rfl
 root:=λj _=>Rc g a b j
theorem akw(u:po H){i:Nat}{o:bQ}(m:H.get i=J o0)(d:o0.dQ=C)(g:o.dQ=C):po (H.put i r o):=λj l c f e h=>by
 by_cases a:j=i;.grind[xG,bQ.dQ]
 .rw[oY H r _ a]at h;obtain⟨n,b,k⟩:=u j l c f e h;grind[bQ.dQ,oY]
theorem Z0{d i:Nat}{R R':Bm}{y:GO}(A:Ok K O ω H M tm)(S:O d=J i)(N:ω (.g d)=J (i,V))(t:H.get i=J (.loop R))(T:Br K O ω (H.put i i (.loop R')) d y i):Ok K O ω (H.put i i (.loop R')) {M with sl:=cV M.sl,g:=M.g.set d y} tm/\Nx K O ω H K O ω (H.put i i (.loop R')):=by
 have a:=A.hr;have m:=ai4 (r:=i) (o:=.loop R') t rfl rfl;have B:∀q f b,q≠.g d->ω q=J _->¬f=i:=λq f b L h e=>by subst e;exact L (a.inj _ _ _ _ _ h N)
 have hr:HR K O ω (H.put i i (.loop R')) M.lb (M.g.set d y):=by
   refine⟨ai3 a.inv t rfl rfl,λj cells e1 G=>?_,a.inj,λp r1 j x w l=>by rw[Rc t rfl rfl];exact a.clean p r1 j x w l,a.cq,λs b F=>?_,λk z n=>?_,λk Q=>a.oQ k Q,akw a.iJ t rfl rfl⟩;.obtain⟨root,P,g1,g2⟩:=a.di j _ e1 G;exact⟨_,P,by grind[oY],g2⟩
   .obtain⟨j,l,u⟩:=a.box s b F;exact⟨j,l,u.keep a.inv m (bl.refl _) (aU.refl _) aj λv f c x=>⟨x,aj⟩⟩
   . have n:look (put _ d y) k=J z:=n;rw[mC]at n;by_cases e:k=d;.grind
     .rw[if_neg e]at n;obtain⟨j,l,u,E⟩:=a.kj k z n;exact⟨j,l,u,E.keep a.inv m (bl.refl _) (aU.refl _) aj λv f c x=>⟨x,aj⟩⟩
 refine⟨⟨hr,?_⟩,?_⟩;.exact Ct a.inv A.sl m (bl.refl _) (aU.refl _) (λp f b I h=>⟨h,B p f b (by intro e;subst e;exact I) h⟩) aj
 . refine⟨bl.refl _,a.gN m,aU.refl _,m.zo a.inv λr _ e=>⟨.g d,V,aj⟩,λp r b h=>.inl ⟨p,b,h⟩,rfl,λr hr=>?_,λr hr=>.inl hr⟩;rcases vZ hr with h|⟨w,D⟩;.grind
   .exact .inr ⟨D,.g d,V,aj⟩
theorem av5(k:Ok K O ω H M tm)(o:bQ)(n:o.dQ=C):Ok K O ω (H.alloc o) M tm/\Nx K O ω H K O ω (H.alloc o):=by
 have a:bM (λ_=>False) H (H.alloc o):=lx H _ _;have c:∀l r f e,o=.cells l r f e->r=H.next:=λl r f e h=>by grind[bQ.dQ]
 refine⟨⟨k.hr.frame a (xY k.hr.inv _ c) (NN k.hr.inv k.hr.iJ _ c) aj aj,λt s m=>?_⟩,bl.refl _,k.hr.gN a,aU.refl _,lx H _ _,λp r b h=>.inl ⟨p,b,h⟩,rfl,λr hr=>.inl hr,λr hr=>.inl hr⟩;obtain⟨d,g,i,j⟩:=k.sl t s m;exact⟨d,g,i,j.keep k.hr.inv a (bl.refl _) (aU.refl _) aj aj aj aj⟩
def aEf:SV->SV:=λv=>match v with|.dv d .no=>SV.dv d .no|.dv d .any=>.dv d .any|.ev d=>.ev d|_=>.dd
theorem aD9(l:cT):mc l=l.map λx=>(x.1,aEf x.2):=rfl
theorem aEi(s:ch K O ω H tm M.sl):xV K O tm (mc M.sl):=by
 intro t v h;rw[aD9,qT _ _]at h;rcases b:look M.sl t with _|A;.grind
 rw[b]at h;cases h;obtain⟨a,e,_,c⟩:=s t _ b;refine⟨a,e,?_⟩;cases A with
 |dv d o=>cases o<;>first|exact c|trivial
 |ev d=>exact c|_=>trivial
theorem aBE(o:Ok K O ω H M tm){r:aby}{R:Bm}(h:R.state=r.state/\R.pending=r.pending/\R.fn=r.fn/\R.n=r.n/\R.params=r.params/\R.assign=r.assign/\R.body=r.body)(c:xV K O R.tmps r.sl):∃a ω',a M.g.next=J H.next/\Ok K a ω' (H.alloc (.loop R)) {M with g:=M.g.alloc (.loop r)} tm/\Nx K O ω H K a ω' (H.alloc (.loop R)):=by
 have S:(H.alloc (.loop R)).get H.next=J (.loop R):=mS H _;have i:ba (H.alloc (.loop R)):=xY o.hr.inv _ (λl r A z g=>aj);obtain⟨a,ω',e,k,m,n,B,s⟩:=Ww (y:=.loop r) o.hr i (by grind[rootOf]) λa ω' d v=>⟨R,S,h.1,h.2.1,h.2.2.1,h.2.2.2.1,h.2.2.2.2.1,h.2.2.2.2.2.1,h.2.2.2.2.2.2,c.mono (bl.refl _) d⟩;refine⟨_,_,k,⟨m,λt w u=>?_⟩,bl.refl _,o.hr.gN (lx H _ (λ_=>False)),e,lx H _ _,λp r b c=>?_,rfl,λr hr=>.inl hr,λr hr=>.inl hr⟩;.obtain⟨f,g1,g2,g3⟩:=o.sl t w u;refine⟨f,g1,g2,g3.keep o.hr.inv (lx H _ _) (bl.refl _) e (λp r b c x=>⟨n p r b ?_ x,id⟩) aj aj aj⟩;rcases c with rfl|⟨j,rfl⟩<;>trivial
 . rcases s p r b c with⟨q,h⟩|rfl;.exact .inl ⟨q,b,h⟩
   omega
theorem aFd(hC:rl P ak cf rec){bs:Nat}{S:ah Nat}{f:aH}{m:Array Tmp}{D b:bz}{k:eJ->ah bt}{T:bt}{s:List Item}(A:Ok K O ω H M fr.tmps)(cX:dD P K (λ_=>Z) cf.aq)(u:xQ bs S fr M O ω H)(h:exec P cf rec S (.rangeFunc f m D b) M k=J T)(hk:∀o,k o=J T->Bp P ak bs S K O ω H M fr s G o):dY P ak {fr with todo:=.code (.rangeFunc f m D b)::s} H G:=by
 unfold exec at h;split at h;.rename_i hf first captured hv;cases lW:((cf.ko hf (first++[.dK M.g.next]++captured)).isSome||!(Cm S M.g))with|true=>grind|false=>
  rw[lW]at h;simp only[bg]at h;simp only[J1,Bool.not_eq_false']at lW;obtain⟨awS,vO⟩:=lW;have awS:cf.ko hf (first++[.dK M.g.next]++captured)=Z:=by simp_all
  obtain⟨rs,Dn,h⟩:=aE h;cases rs with|out o=>simp_all|val v g'=>
  simp only at h;obtain⟨af,f1,_,f3⟩:=sU (P:=P) (qb cX) A.sl (IZ A.sl hv (λ_ _ _=>aO)) hv;obtain⟨m1,m2,rfl,k1,k2⟩:=Lm f3;have made:∃(d0:Nat)(L:an)(j:Heap),(match fr.roundOf with
      |some l=>match H.get l with|some (.loop r)=>J (r.defers,([]:an),H)|_=>Z
      |none=>J (H.next,[H.next],H.alloc (.deferred V)))=J (d0,L,j)/\Ok K O ω j M fr.tmps/\Nx K O ω H K O ω j/\xQ bs S {fr with defers:=cQ L fr.defers} M O ω j:=by have ago:=u.rd;cases S with
    |none=>
      obtain⟨r1,r3,r4⟩:=ago;obtain⟨o1,n1⟩:=av5 A (.deferred V) rfl;refine⟨H.next,[H.next],H.alloc (.deferred V),aj,o1,n1,⟨u.fn,u.n,u.mode,gv u.base n1.keep.next,r1,?_,?_⟩⟩;all_goals simp only[lQ]
      .refine List.nodup_cons.2 ⟨λhm=>?_,aP⟩;have:=A.hr.inv.get _ _ (r4 _ hm).1;omega
      . intro r hr;rcases List.mem_cons.1 hr with rfl|hr;.exact⟨mS H _,λ⟨p,b,N⟩=>by have:=A.hr.cq p _ b N;omega,u.base⟩
        .obtain⟨h1,h2,h3⟩:=r4 r hr;exact⟨by rw[nE H _ (by have:=A.hr.inv.get _ _ h1;omega)];omega,h2,h3⟩|some l=>
      obtain⟨i,r1,r2,r3⟩:=ago;unfold Cm at vO;simp only at vO;split at vO;.rename_i r oc;obtain⟨i',q1,_,B,q2,_⟩:=A.hr.kj l _ oc;obtain rfl:i=i':=br (r1.symm.trans q1);refine⟨B.defers,[],H,aP,A,Nx.refl A.hr,⟨u.fn,u.n,u.mode,u.base,i,r1,r2,?_⟩⟩;grind[cQ]
      simp_all
  obtain⟨d0,L,j,PS,Y,WJ,fra⟩:=made;obtain⟨E,d,l1,U,QR⟩:=aBE Y (r:={state:=.ready,pending:=Z,fn:=M.fn,n:=M.n,sl:=mc M.sl,params:=m.toList,assign:=D,body:=b}) (R:={state:=.ready,pending:=Z,fn:=fr.fn,n:=fr.n,tmps:=fr.tmps,params:=m.toList,assign:=D,body:=b,defers:=d0}) ⟨rfl,rfl,u.fn,u.n,rfl,rfl,rfl⟩ (aEi Y.sl);have iH:bH K E (first++[.dK M.g.next]++captured) (m1++[.yield j.next]++m2):=((k1.mono (bl.refl _) (WJ.nh.trans QR.nh)).append (bH.cons (.dK _ _ l1) bH.nil)).append (k2.mono (bl.refl _) (WJ.nh.trans QR.nh));obtain⟨a,I,W,w,F,c1,c0,c2,c3,c4⟩:=hC hf _ .no _ v g' Dn K E _ _ _ (U.hr.callee C) cX (pV.WS iH);have C7:∀q r b,(d.of (lN C)) q=J (r,b)->d q=J (r,b)/\((∃id,q=.g id)\/∃id off,q=.gc id off):=by grind[aG.jC,MJ]
  have cr:wE C K E d (j.alloc (.loop {state:=.ready,pending:=Z,fn:=fr.fn,n:=fr.n,tmps:=fr.tmps,params:=m.toList,assign:=D,body:=b,defers:=d0})) M.lb (M.g.alloc (.loop {state:=.ready,pending:=Z,fn:=M.fn,n:=M.n,sl:=mc M.sl,params:=m.toList,assign:=D,body:=b})) E (d.of (lN C)) W w F I g':=⟨U.hr,c2,c3,λ_=>rfl,by rintro p r bb N h⟨q,cc,hq⟩;obtain⟨h1,h3⟩:=C7 q r cc hq;have:=U.hr.inj _ _ _ _ _ h h1;simp_all⟩;have DF:Ok W w (wP C Z d F) I {M with sl:=cV M.sl,g:=g'} fr.tmps:=cr.ok (dst:=Z) (M:={M with g:=M.g.alloc (.loop {state:=.ready,pending:=Z,fn:=M.fn,n:=M.n,sl:=mc M.sl,params:=m.toList,assign:=D,body:=b})}) U.sl c4 (λh=>aP) rfl;have Da:∀r,dH (d.of (lN C)) r->dH d r:=λr⟨q,cc,hq⟩=>⟨q,cc,(C7 q r cc hq).1⟩;have nx3:Nx K E d _ W w (wP C Z d F) I:=c2.up U.hr.inv Da (bl.refl _) (U.hr.gN (bM.refl (λ_=>False) _)) c2.nh (cr.lR (λp r bb h=>⟨p,bb,h⟩) Da);obtain⟨X,e1,n1,e2⟩:∃X,AM.yd P ak hf (m1++[.yield j.next]++m2) (j.alloc (.loop {state:=.ready,pending:=Z,fn:=fr.fn,n:=fr.n,tmps:=fr.tmps,params:=m.toList,assign:=D,body:=b,defers:=d0}))=J (.call X (j.alloc (.loop {state:=.ready,pending:=Z,fn:=fr.fn,n:=fr.n,tmps:=fr.tmps,params:=m.toList,assign:=D,body:=b,defers:=d0})))/\∃n,AM.run P ak n X (j.alloc (.loop {state:=.ready,pending:=Z,fn:=fr.fn,n:=fr.n,tmps:=fr.tmps,params:=m.toList,assign:=D,body:=b,defers:=d0}))=J (.ret a I):=by rcases c1 with c1|⟨p1,X,p2,n,p3⟩;all_goals grind[AM.yd]
  split at h
  . rename_i r oc;obtain⟨i,q1,qw,B,q2,q3,q4,q5,q6,q7,q8,q9,MW⟩:=DF.hr.kj _ _ oc;have hi:i=j.next:=by have:=c2.nh _ _ l1;simp_all
    subst hi;obtain⟨MG,nx4⟩:=Z0 (R':={B with state:=.exhausted}) (y:=.loop {r with state:=.exhausted}) DF q1 qw q2 ⟨_,xG _ _ _ _,rfl,q4,q5,q6,q7,q8,q9,MW⟩;have MG:Ok W w (wP C Z d F) (I.put j.next j.next (.loop {B with state:=.exhausted})) {M with sl:=cV M.sl,g:=g'.set M.g.next (.loop {r with state:=.exhausted})} fr.tmps:=by refine⟨MG.hr,λt sv Q=>MG.sl t sv ?_⟩;show look (cV (cV M.sl)) t=J sv;have Q:look (cV M.sl) t=J sv:=Q;unfold cV at Q|-;rw[qT (M.sl.map λx=>(x.1,pI x.2)) pI,Q];rw[qT M.sl pI]at Q;cases h0:look M.sl t with|none=>simp_all|some s0=>rw[h0]at Q;cases Q;cases s0<;>rfl
    have aCe:=((WJ.trans A.hr.inv QR).trans A.hr.inv nx3).trans A.hr.inv nx4;have aMn:xQ bs S {fr with tmps:=fr.tmps,defers:=cQ L fr.defers} {M with sl:=cV M.sl,g:=g'.set M.g.next (.loop {r with state:=.exhausted})} w (wP C Z d F) (I.put j.next j.next (.loop {B with state:=.exhausted})):=xQ.nx (st':={M with sl:=cV M.sl,g:=g'.set M.g.next (.loop {r with state:=.exhausted})}) (fr:={fr with defers:=cQ L fr.defers}) (tm':=fr.tmps) (td:=fr.todo) Y.hr.inv fra ((QR.trans Y.hr.inv nx3).trans Y.hr.inv nx4) rfl rfl;have step:∀(o:eJ),o.GB={M with sl:=cV M.sl,g:=g'.set M.g.next (.loop {r with state:=.exhausted})}->r.state≠.busy->k o=J T->(∀rc:Rec,(match B.pending with|some c=>rc {fr with todo:=.code c::s,defers:=cQ L fr.defers} (I.put j.next j.next (.loop {B with state:=.exhausted}))|none=>rc {fr with todo:=s,defers:=cQ L fr.defers} (I.put j.next j.next (.loop {B with state:=.exhausted})))=rc {fr with todo:=JF o s,defers:=cQ L fr.defers} (I.put j.next j.next (.loop {B with state:=.exhausted})))->dY P ak {fr with todo:=.code (.rangeFunc f m D b)::s} H G:=by intro o ho hb hko LY;have jx:=hk o hko W w _ _ fr.tmps (cQ L fr.defers) aCe aP aj aj aP;refine dY.step n1 (λn hn=>?_) jx;have KV:=Jp hn X _ _ e2;obtain⟨fn,nn,ad,todo,aa,mode,roundOf⟩:=fr;obtain rfl:mode=.run:=u.mode;unfold body vw Ks;simp only at f1 PS e1 KV LY|-;rw[f1];simp only;refine(fH (λz=>Option.bind z _) PS).trans ?_;simp only[cU,lQ]at e1 KV|-;rw[e1];simp only[KV,cU,q2];have hRb:B.state≠.busy:=aP;have P':=LY (AM.run P ak n);simp only[lQ]at P';cases hRs:B.state with|busy=>simp_all|ready=>exact P'|done=>exact P'|exhausted=>exact P'
    split at h;.simp_all
    . rename_i mV;split at h;.rename_i N;refine step (.fO _) rfl (λe=>mV e) h λrc=>?_;rw[q4,N];rfl
      .rename_i N;refine step (.rt _) rfl (λe=>mV e) h λrc=>?_;rw[q4,N];rfl
      .rename_i id N;refine step (.ext id _) rfl (λe=>mV e) h λrc=>?_;rw[q4,N];rfl
      simp_all
  simp_all
 simp_all
end
section
variable{P:aM}{ak:bZ}{rec:eK}{cf:cj}{K K' K1 K2:aY}{O ψ φ0 φ1:bY}{ω ω' ω0 gu ω1:aG}{H H' H1:Heap}{lb:dX}{g g':GH}{M st' st2:St}{tm:Tr AV}{fr fC:cu}{bs:Nat}{rd:ah Nat}
theorem dY.todo{d t:List Item}(m:fr.mode=.run)(h:∀(rc:Rec)(fr:cu),fr.mode=.run->body P ak rc {fr with todo:=d} H=rc {fr with todo:=t} H)(r:dY P ak {fr with todo:=t} H G):dY P ak {fr with todo:=d} H G:=r.step 0 λn _=>h _ fr m
theorem Bp.here{r:List Item}{o:eJ}(h:Bp P ak bs rd K O ω H M fr r G o)(k:Ok K O ω H M fr.tmps)(d:xQ bs rd fr M O ω H)(e:o.GB=M):dY P ak {fr with todo:=JF o r} H G:=h K O ω H fr.tmps fr.defers (Nx.refl k.hr) aj aj aj aP
theorem Bp.trans{r:List Item}{o:eJ}{w:Tr AV}{U:an}(h:Bp P ak bs rd K O ω H M fr r G o)(i:ba H)(n:Nx K O ω H K1 φ1 ω1 H1)(c:st1.n=M.n)(d:st1.fn=M.fn):Bp P ak bs rd K1 φ1 ω1 H1 st1 {fr with tmps:=w,defers:=U} r G o:=λK' ψ ω' H' t m a b e1 e2 f=>h K' ψ ω' H' t m (n.trans i a) b ae aj f
theorem Pd(hC:rl P ak cf rec)(hY:wL P ak cf rec)(hI:wG P ak cf)(hL:Hb P ak cf rec)(G:Out->Prop):∀(c:bz)(M:St)(k:eJ->ah bt)(s:bt)(K:aY)(O:bY)(ω:aG)(H:Heap)(fr:cu)(rest:List Item),exec P cf rec rd c M k=J s->Ok K O ω H M fr.tmps->dD P K (λ_=>Z) cf.aq->xQ bs rd fr M O ω H->(∀o,k o=J s->Bp P ak bs rd K O ω H M fr rest G o)->dY P ak {fr with todo:=.code c::rest} H G:=by intro c;induction c with
 |skip=>intro M k s K O ω H fr rest h ok X d j;exact dY.todo d.mode (λrc fr E=>by obtain⟨_,_,_,_,_,m,_⟩:=fr;obtain rfl:m=.run:=E;rfl) ((j _ h).here ok d rfl)|label l=>intro M k s K O ω H fr rest h ok X d j;exact dY.todo d.mode (λrc fr E=>by obtain⟨_,_,_,_,_,m,_⟩:=fr;obtain rfl:m=.run:=E;rfl) ((j _ h).here ok d rfl)|seq a b F L=>
 intro M k s K O ω H fr rest h ok X d j;refine dY.todo d.mode (λrc fr E=>by obtain⟨_,_,_,_,_,m,_⟩:=fr;obtain rfl:m=.run:=E;rfl) ?_;refine F M _ _ K O ω H fr _ h ok X d λo q=>?_;intro K' ψ ω' H' t B u D e1 e2 p;rcases o with st1|⟨id,st1⟩|st1;.exact L _ k _ K' ψ _ H' {fr with tmps:=t,defers:=B} _ q D (X.mono u.ext (aU.refl _)) p λo2 xg=>(j o2 xg).trans ok.hr.inv u e1 e2
 .exact DJ (fr:={fr with tmps:=t,defers:=B}) d.mode aO aO (j _ q K' ψ _ H' _ _ u D e1 e2 p)
 exact DJ (fr:={fr with tmps:=t,defers:=B}) d.mode aO aO (j _ q K' ψ _ H' _ _ u D e1 e2 p)|cond x a b F L=>
 intro M k s K O ω H fr rest h ok X d j;have h:(match bp _ M x with|some (.bool y)=>bif y then exec P cf _ rd a M k else exec P cf _ rd b M k|_=>Z)=J _:=h;split at h
 . rename_i y hx;obtain⟨av,Q,_,a3⟩:=qm (qb X) ok.hr ok.sl hx;obtain rfl:av=.bool y:=by cases a3;rfl
   cases y with|true=>refine dY.step 0 (λn _=>?_) (F M k _ K O ω H fr _ h ok X d j);obtain⟨_,_,_,_,_,m,_⟩:=fr;obtain rfl:m=.run:=d.mode;unfold body vw wO xZ ya yb BJ;simp only at Q|-;rw[Q];rfl|false=>refine dY.step 0 (λn _=>?_) (L M k _ K O ω H fr _ h ok X d j);obtain⟨_,_,_,_,_,m,_⟩:=fr;obtain rfl:m=.run:=d.mode;unfold body vw wO xZ ya yb BJ;simp only at Q|-;rw[Q];rfl
 grind|block id b T=>
 intro M k s K O ω H fr rest h ok X d j;refine dY.todo d.mode (λrc fr E=>by obtain⟨_,_,_,_,_,m,_⟩:=fr;obtain rfl:m=.run:=E;rfl) ?_;refine T M _ _ K O ω H fr _ h ok X d λo q=>?_;intro K' ψ ω' H' t B u D e1 e2 p;have pop:dY P _ _ H' G->dY P ak {fr with tmps:=t,defers:=B,todo:=.inBlock id::rest} H' G:=λr=>dY.todo (fr:={fr with tmps:=t,defers:=B}) d.mode (λrc fr E=>by obtain⟨_,_,_,_,_,m,_⟩:=fr;obtain rfl:m=.run:=E;rfl) r;rcases o with st1|⟨i,st1⟩|st1;.exact pop (j _ q K' ψ _ H' _ _ u D e1 e2 p)
 . have q:(bif aw i id then k _ else k _)=J _:=q;rw[bN]at q;by_cases e:i=id
   . simp only[e,eu,aL]at q;have r:=j _ q K' ψ _ H' _ _ u D e1 e2 p;refine r.step 0 λn _=>?_;have hb:=S8 (P:=P) (ak:=ak) (rc:=AM.run P ak n) (H:=H') (I:=i) (k:=.inBlock id::rest) (fr:={fr with tmps:=t,defers:=B}) d.mode;refine hb.trans ?_;have he:exitTo i (.inBlock id::rest)=J rest:=by grind[exitTo]
     rw[he];rfl
   .simp only[e,mO,bg]at q;exact DJ (fr:={fr with tmps:=t,defers:=B}) d.mode aO aP (j _ q K' ψ _ H' _ _ u D e1 e2 p)
 exact DJ (fr:={fr with tmps:=t,defers:=B}) d.mode aO aO (j _ q K' ψ _ H' _ _ u D e1 e2 p)|loop b _=>
 intro M k s K O ω H fr rest h ok X d j;obtain⟨r,hr,h⟩:=aE h;rcases r with⟨v,g⟩|o;.grind[jm]
 refine hL b _ rd o hr bs K O ω H fr _ G (Wr ok) X ⟨d.fn,d.n,d.mode,d.base,d.rd⟩ ?_;intro K' ψ ω' H' t B u D e1 e2 p;exact j o h K' ψ _ H' _ _ u D e1 e2 p|scope b T=>
 intro M k s K O ω H fr rest h ok X d j;refine dY.todo d.mode (λrc fr E=>by obtain⟨_,_,_,_,_,m,_⟩:=fr;obtain rfl:m=.run:=E;rfl) ?_;refine T M _ _ K O ω H fr _ h ok X d λo q=>?_;intro K' ψ ω' H' t B u D e1 e2 p;rcases o with st1|⟨i,st1⟩|st1;.exact dY.todo (fr:={fr with tmps:=t,defers:=B}) d.mode (λrc fr E=>by obtain⟨_,_,_,_,_,m,_⟩:=fr;obtain rfl:m=.run:=E;rfl) (j _ q K' ψ _ H' _ _ u D e1 e2 p)
 .exact DJ (fr:={fr with tmps:=t,defers:=B}) d.mode aO aO (j _ q K' ψ _ H' _ _ u D e1 e2 p)
 exact DJ (fr:={fr with tmps:=t,defers:=B}) d.mode aO aO (j _ q K' ψ _ H' _ _ u D e1 e2 p)|exit id=>intro M k s K O ω H fr rest h ok X d j;exact(j _ h).here ok d rfl|ret=>intro M k s K O ω H fr rest h ok X d j;exact(j _ h).here ok d rfl|region U ops A=>
 intro M k s K O ω H fr rest h ok X d j;have h:(bif !A||oK cf M _ then(jW P cf _ _ _ _ _ _ 0 [] M).bind _ else Z)=J _:=h;have h2:∃st1,(bif !A||oK cf M ops.toList then jW P cf rec (cf.uA M.fn) (cf.BN M.fn) A ops ops.toList 0 [] M else Z)=J st1/\k (.fO (mask (cf.keep M.fn U) st1))=J s:=by
   rcases hc:(!A||oK cf M _)with _|_;.grind
   simp_all[aE]
 obtain⟨st1,h3,h4⟩:=h2;obtain⟨t,H',K',ψ,ω',⟨n0,r1⟩,r2,r3,W,Y⟩:=ZL (fr:={fr with todo:=rest}) hC hY hI ok X d.n h3;have p:=d.nx ok.hr.inv r2 W Y t fr.todo;refine(j _ h4 K' ψ _ H' _ _ r2 (Wr r3) W Y ⟨p.fn,p.n,p.mode,p.base,p.rd⟩).step n0 λn hn=>?_;have:=r1 n hn;obtain⟨fn,nn,aa,todo,R,m,N⟩:=fr;obtain rfl:m=.run:=d.mode;exact fH (λz=>Option.bind z _) this|rangeFunc f S tv b _ _=>grind[aFd]|goto l=>intro M k s K O ω H fr rest h ok X d j;have h:(Z:ah _)=J _:=h;grind|refuse w=>intro M k s K O ω H fr rest h ok X d j;have h:(Z:ah _)=J _:=h;grind
end
section
variable{P:aM}{ak:bZ}{rec:eK}{cf:cj}{K K' K1 K2:aY}{O ψ φ0 φ1:bY}{ω ω' ω0 gu ω1:aG}{H H' H1:Heap}{lb:dX}{g g':GH}{M st' st2:St}{tm tm':Tr AV}{fr fC:cu}{rd:ah Nat}
def zJ(K:aY)(d:bY)(e:aG)(H:Heap)(x:DV×aX)(a:AV)(f:ah (Nat×Bool)):Prop:=(∀r b,f=J (r,b)->(∀q c,e q≠J (r,c))/\r<H.next/\(b=V->∀j y,K j=J y->rootOf H j≠r))/\∀(ω0:aG)(p:Pk),ω0 p=f->cJ K d ω0 H p x.1 a x.2
theorem aKr(n:HR K O ω H lb g){o:Pk}{d:DV}(h:cJ K O ω H o d a ow){src:Pk->ah Pk}(L:∀q,src q≠J o):∃f,zJ K O (ω.of src) H (d,ow) a f/\∀r b,f=J (r,b)->dH ω r:=by
 have uT:(∀(ω0:aG)(p:Pk),cJ K O _ H p d a ow)->∃f,zJ K O (ω.of src) H (d,ow) a f/\∀r b,f=J (r,b)->dH ω r:=λh=>⟨Z,⟨λ_ _ h=>aj,λω0 p _=>h ω0 p⟩,λ_ _ h=>aj⟩;have N:∀r b,ω o=J (r,b)->(∀(ω0:aG)(p:Pk),ω0 p=J (r,b)->cJ K O ω0 H p d a ow)->∃f,zJ K O (ω.of src) H (d,ow) a f/\∀r b,f=J (r,b)->dH ω r:=by
  intro r b k P;refine⟨_,⟨λx t e=>?_,P⟩,λx t e=>?_⟩;.obtain⟨rfl,rfl⟩:=j9 (br e);refine⟨λq c w=>?_,n.cq _ _ _ k,λu j y v=>by subst u;exact n.clean _ _ _ _ k v⟩;obtain⟨z,l,i⟩:=aG.jC w;obtain rfl:=n.inj _ _ _ _ _ i k;grind
  .obtain⟨rfl,rfl⟩:=j9 (br e);exact⟨_,b,k⟩
 cases ow with|no=>exact uT λ_ _=>h|any=>exact uT λ_ _=>h|full e=>exact uT λ_ _=>h|ty e=>
  obtain⟨l,i⟩:=h;rcases i with i|⟨r,b,m,s⟩;.exact uT λ_ _=>⟨l,.inl i⟩
  .exact N r b m λω0 p k=>⟨l,aP⟩|ex e=>
  rcases h with i|⟨r,m,s⟩;.exact uT λ_ _=>.inl i
  .exact N r _ m λω0 p k=>.inr ⟨r,k,s⟩
theorem zJ.nx{x:DV×aX}{g:ah (Nat×Bool)}(h:zJ K O ω H x a g)(l:ba H)(n:Nx K O ω H K' ψ ω' H):zJ K' ψ ω' H x a g:=by
 refine⟨λr b e=>?_,λω0 p o=>?_⟩
 . obtain⟨i,k,t⟩:=h.1 r b e;have Q:∀f,dH ω f->f≠r:=λf⟨q,c,d⟩e=>i q c (e▸d);refine⟨λq c d=>?_,k,λv j y m=>?_⟩;.rcases n.lR q r c d with⟨w,s,h⟩|h<;>grind
   .obtain⟨_,u⟩:=n.di j y m;grind
 .exact(h.2 _ p o).keep l (bM.refl _ _) n.ext n.nh λr b e=>⟨e,id⟩
theorem ajn{t:Tmp}{x:DV×aX}(k:Ok K O ω H M tm)(h:uZ M t=J (x,st1)):∃a f ω',tm.get t=J a/\Ok K O ω' H st1 tm/\zJ K O ω' H x a f/\(∀r b,f=J (r,b)->dH ω r)/\(∀p r b,ω' p=J (r,b)->dH ω r)/\st1.g=M.g:=by
 unfold uZ at h;split at h;.rename_i d o l;obtain⟨rfl,rfl⟩:=j9 (br h);obtain⟨a,c,g,e⟩:=k.sl t _ l;have y:=g aO;obtain⟨f,k1,k2⟩:=aKr (src:=pS t) k.hr e (λq i=>by cases q<;>simp only[pS]at i<;>grind);refine⟨a,f,_,c,⟨k.hr.of (aab t),RG k.hr k.sl l c y e⟩,k1,k2,λp r b h=>let⟨q,_,h⟩:=aG.jC h;⟨q,b,h⟩,rfl⟩
 grind
def Ni(P:aM)(m:Tr AV)(H:Heap):ResultVar->ah AV|.tmp t=>J ((m.get t).getD fR)|.cell a t=>match(m.get a).getD fR with|.ptr id o=>AM.loadVar P H t id o|_=>Z
theorem aFV{r:ResultVar}{z:DV×aX}(k:Ok K O ω H M tm')(N:tm'.get (A9 r)=tm.get (A9 r))(h:Ji P M r=J (z,st1)):∃a f K' ψ ω' w,Ni P tm H r=J a/\Nx K O ω H K' ψ ω' H/\Ok K' ψ ω' H st1 w/\zJ K' ψ ω' H z a f/\(∀r b,f=J (r,b)->dH ω r)/\(∀t,t≠A9 r->w.get t=tm'.get t):=by
 rcases r with t|⟨c,t⟩;.obtain⟨a,f,ω',B,D,E,F,I,_⟩:=ajn k (show uZ M t=J _ from h);refine⟨a,f,K,O,_,_,?_,⟨bl.refl _,k.hr.gN (bM.refl (λ_=>False) _),aU.refl _,bM.refl _ _,λp r b L=>.inl (I p r b L),rz.refl _ _⟩,D,E,F,λ_ _=>rfl⟩;show J _=J a;have N:tm'.get t=tm.get t:=N;grind
 have d:∀(y:Loc)(b:LB)(o i:Nat)(r:SV×LB)(st2:St),M.at y=J b->ω y.top=J (i,V)->pW K O ω H y.pk b i->tm'.get c=J (.ptr i o)->gP P .take t b o=J r->aJ (M.setAt y r.2) (J c) r.1=J st2->uZ st2 c=J (z,st1)->∃a f K' ψ ω' w,Ni P tm H (.cell c t)=J a/\Nx K O ω H K' ψ ω' H/\Ok K' ψ ω' H st1 w/\zJ K' ψ ω' H z a f/\(∀r b,f=J (r,b)->dH ω r)/\(∀v,v≠c->w.get v=tm'.get v):=by
   intro y b o i r st2 g hi lh U l G S;obtain⟨a,a1,T⟩:=ahr k.hr k.sl g hi lh l G;obtain⟨K1,ψ1,ω1,n,xy⟩:=T.nx (rz.refl _ _);obtain⟨a',f,ω2,B,D,E,F,I,_⟩:=ajn xy S;have:(tm'.ins c a).get c=J a:=Tr.lL _ _ _;rw[show iz _ _ a=tm'.ins c a from rfl,this]at B;obtain rfl:=br B;refine⟨a,f,K1,_,_,_,?_,⟨n.ext,n.di,n.nh,n.keep,λp r b L=>?_,n.log⟩,D,E,λr b e=>?_,λv yG=>Tr.jF _ _ aj⟩;.show(match(tm.get c).getD _ with|.ptr id o=>AM.loadVar P H t id _|_=>Z)=J a;rw[<-(show tm'.get c=tm.get c from N),U];grind
   .obtain⟨q,A,m⟩:=I p r b L;exact n.lR q r A m
   . obtain⟨q,A,m⟩:=F r b e;rcases n.lR q r A m with h|h;.omega
     .have:=xy.hr.cq _ _ _ m;omega
 have h:(match look M.sl c with|some (.lp s o)=>(look _ s).bind _|some (.dv (.ptr id o) _)=>(match M.g.get id with|some (.box b)=>(gP P _ t b _).bind _|_=>Z)|_=>Z)=J _:=h;split at h;.rename_i s o l;obtain⟨b,g,h⟩:=aE h;obtain⟨r,hr,h⟩:=aE h;obtain⟨st2,G,h⟩:=aE h;obtain⟨i,u,Q,_⟩:=k.hr.at (x:=.l s) g;obtain⟨a,g1,_,g3⟩:=k.sl c _ l;exact d (.l s) b _ i r _ g u Q (by rw[g1,g3 i _ u]) hr G h
 . rename_i id o ow l;split at h
   . rename_i b W;obtain⟨r,hr,h⟩:=aE h;obtain⟨st2,G,h⟩:=aE h;have R:M.at (.g id)=J b:=by grind[St.at]
     obtain⟨i,u,Q,Y⟩:=k.hr.at R;obtain⟨a,g1,_,g3⟩:=k.sl c _ l;have iH:=cJ.look k.hr g3;cases iH with|ptr _ _ j X=>have:=Y id rfl;rw[X]at this;obtain rfl:=br this;exact d _ b _ j r _ R u Q g1 hr G h
   grind
 grind
theorem aB6:∀{l:an},DD l=V->l.Nodup:=by intro l;induction l<;>grind[DD,bN]
theorem as8:∀(l:List ResultVar)(e:List (DV×aX))(M st2:St)(K:aY)(O:bY)(ω:aG)(tm':Tr AV),vE P l M=J (e,st2)->Ok K O ω H M tm'->(∀t,t∈l.map A9->tm'.get t=tm.get t)->(l.map A9).Nodup->∃(aS:aD)(s:List (ah (Nat×Bool)))(K':aY)(ψ:bY)(ω':aG)(B:Tr AV),cE (Ni P tm H) l=J aS/\Nx K O ω H K' ψ ω' H/\Ok K' ψ ω' H st2 B/\e.length=aS.length/\e.length=s.length/\(∀(j:Nat)(x:DV×aX)(a:AV)(g:ah (Nat×Bool)),e[j]?=J x->aS[j]?=J a->s[j]?=J g->zJ K' ψ ω' H x a g)/\(∀(j:Nat)(r:Nat)(b:Bool),s[j]?=J (J (r,b))->dH ω r)/\∀(i j:Nat)(r:Nat)(b c:Bool),s[i]?=J (J (r,b))->s[j]?=J (J (r,c))->i=j:=by intro l;induction l with|nil=>intro e M st2 K O ω tm' h ok _ _;obtain⟨rfl,rfl⟩:=j9 (br (show J ([],M)=J (e,st2)from h));exact⟨[],[],K,O,ω,tm',rfl,Nx.refl ok.hr,ok,rfl,rfl,λj x a g h=>aj,λj r b h=>aj,λi j r b c h=>aj⟩|cons r l T=>
 intro e M st2 K O ω tm' h ok L D;have h:((Ji P M r).bind λx=>(vE P l x.2).bind λy=>J (x.1::y.1,y.2))=J (e,st2):=h;obtain⟨⟨x,st1⟩,R,h⟩:=aE h;obtain⟨⟨W,Cv⟩,S,h⟩:=aE h;obtain⟨rfl,rfl⟩:=j9 (br h);rw[de,List.nodup_cons]at D;obtain⟨a,g,K1,m,ω1,U,X,p,u,v,Y,a6⟩:=aFV (tm:=tm) ok (L _ aO) R;obtain⟨aS,s,K2,n,o,B,b1,w,E,b4,b5,b6,z,b8⟩:=T W st1 Cv K1 m ω1 U S u (λt Q=>by grind) D.2;have N:∀(j:Nat)(d:Nat)(b c:Bool),g=J (d,b)->s[j]?=J (J (d,c))->False:=by intro j d b c e1 e2;obtain⟨q,F,k⟩:=z j d c e2;exact(v.1 d b e1).1 q F k
 refine⟨a::aS,g::s,K2,n,o,B,?_,p.trans ok.hr.inv w,E,aj,aj,?_,?_,?_⟩;.grind[cE]
 .intro j y c f A G I;cases j with|zero=>cases A;cases G;cases I;exact v.nx ok.hr.inv w|succ j=>grind
 .intro j d b A;cases j with|zero=>grind|succ j=>
  obtain⟨q,c,k⟩:=z j d b aj;rcases p.lR q d c k with h|h;.omega
  .have:=u.hr.cq _ _ _ k;omega
 grind
theorem HR.aof{l:Pk->ah (Nat×Bool)}(d:HR K O ω H lb g)(s:∀p x,l p=J x->p.slot)(Q:∀p r b,l p=J (r,b)->(∀q c,ω q≠J (r,c))/\r<H.next/\(b=V->∀j y,K j=J y->rootOf H j≠r))(M:∀p q r b c,l p=J (r,b)->l q=J (r,c)->p=q):HR K O (λp=>(l p).or (ω p)) H lb g:=by
 have back:∀p r b,(l p).or (ω p)=J (r,b)->l p=J (r,b)\/(l p=Z/\ω p=J (r,b)):=by simp_all
 refine d.uX (bl.refl _) (λq k=>?_) d.di ?_ ?_ ?_;.cases i:l q<;>grind
 . intro p q r b c a e;rcases back p r b a with h|⟨_,h⟩;.grind
   . rcases back q r c e with f|⟨_,f⟩;.grind
     .exact d.inj _ _ _ _ _ h f
 . intro p r j x a e;rcases back p r _ a with h|⟨_,h⟩;.grind
   .exact d.clean p r j x h e
 . intro p r b a;rcases back p r b a with h|⟨_,h⟩;.grind
   .exact d.cq _ _ _ h
def Bn(P:aM)(K:aY)(b:bY)(c:aG)(H:Heap)(v:SV)(g:GH)(o:Out):Prop:=∃a H' K' ψ ω',o=.ret a H'/\Nx K b c H K' ψ ω' H'/\HR K' ψ ω' H' [] g/\lF K' ψ ω' H' v a
theorem as9{n:Func}(S:Ok K O ω H M tm)(h:EZ P n M=J (.val v g')):∃a K' ψ ω',((cE (Ni P tm H) n.results.toList).map λ|[v]=>v|B=>.cw B)=J a/\Nx K O ω H K' ψ ω' H/\HR K' ψ ω' H [] g'/\lF K' ψ ω' H v a:=by unfold EZ at h;cases F:DD (n.results.toList.map A9)with|false=>grind|true=>rw[F]at h;simp only[aL]at h;cases E:vE P n.results.toList M with|none=>grind|some y=>
 obtain⟨i,st2⟩:=y;rw[E]at h;obtain⟨rfl,rfl⟩:=bt.val.inj (br h);obtain⟨aS,s,K',ψ,ω',W,Y,e,I,D,L,o,b7,b8⟩:=as8 (tm:=tm) _ _ _ _ K O ω tm E S (λ_ _=>rfl) (aB6 F);have G:=I.hr.callee C;have T:∀p r b,(ω'.of (lN C)) p=J (r,b)->ω' p=J (r,b):=λp r b h=>by grind[aG.jC,MJ]
 have g:∀(j:Nat)(f:ah (Nat×Bool)),s[j]?=J f->∃x a,i[j]?=J x/\aS[j]?=J a:=λj f k=>by have X:=(List.getElem?_eq_some_iff.1 k).1;exact⟨_,_,eZ ae,eZ ae⟩
 have fin:∀(l:Pk->ah (Nat×Bool))(A:Nat->Pk),(∀p x,l p=J x->∃j,p=A j/\s[j]?=J (J x))->(∀j,(A j).slot)->∃d,(∀p,d p=(l p).or ((ω'.of (lN C)) p))/\Nx K O ω H K' ψ d H/\HR K' ψ d H [] st2.g:=by
  intro l A U dP;refine⟨λp=>(l p).or ((ω'.of (lN C)) p),λ_=>rfl,⟨e.ext,e.di,e.nh,e.keep,λp r b h=>?_,e.log⟩,HR.aof G (λp x h=>?_) (λp r b h=>?_) (λp q r b c h1 h2=>?_)⟩;.cases Q:l p with|none=>rw[Q]at h;exact e.lR p r b (T p r b h)|some x=>grind
  .grind
  .obtain⟨j,_,k⟩:=U p (r,b) h;obtain⟨x,a,z,N⟩:=g j _ k;obtain⟨k1,k2,k3⟩:=(o j x a _ z N k).1 r b rfl;grind
  grind
 have cw:DH i=.tp i->aS.length≠1->∃a K' ψ ω',((cE (Ni P tm H) n.results.toList).map λ|[v]=>v|B=>AV.cw B)=J a/\Nx K O ω H K' ψ ω' H/\HR K' ψ ω' H [] st2.g/\lF K' ψ ω' H (DH i) a:=by
  intro e1 e2;obtain⟨d,u,w,c3⟩:=fin (λp=>match p with|.tp 0 j=>(s[j]?).join|_=>Z) (λj=>.tp 0 j) (λp x h=>by grind) (λ_=>trivial);refine⟨.cw aS,K',ψ,d,?_,w,c3,?_⟩;.grind
  .rw[e1];refine⟨aS,rfl,D,λj x y z R=>?_⟩;have X:j<s.length:=aj;refine(o j x y _ z R (eZ X)).2 d (.tp 0 j) ?_;rw[u];show((s[j]?).join).or _=_;rw[eZ X];show(s[j]).or ((ω'.of (lN C)) (.tp 0 j))=s[j];have:(ω'.of (lN C)) (.tp 0 j)=Z:=rfl;grind
 by_cases m:i.length=1
 .obtain⟨x,rfl⟩:=List.length_eq_one_iff.1 m;obtain⟨a,rfl⟩:=List.length_eq_one_iff.1 (by rw[<-D];exact m);obtain⟨f0,rfl⟩:=List.length_eq_one_iff.1 (by rw[<-L];exact m);obtain⟨d,u,w,c3⟩:=fin (λp=>match p with|.sl 0=>f0|_=>Z) (λ_=>.sl 0) (λp x h=>by cases p with
  |sl t=>cases t with|zero=>have h:f0=J x:=h;exact⟨0,rfl,aj⟩|succ t=>grind
  |_=>grind) (λ_=>trivial);refine⟨a,K',ψ,d,aj,w,c3,?_⟩;refine(o 0 x a f0 rfl rfl rfl).2 d (.sl 0) ?_;rw[u];show f0.or ((ω'.of (lN C)) (.sl 0))=f0;have:(ω'.of (lN C)) (.sl 0)=Z:=rfl;grind
 .refine cw ?_ ae;match i,m with|[],_=>rfl|[_],h=>grind|_::_::_,_=>rfl
end
def N7(P:aM)(k:bZ)(e:cj):Prop:=∀f args v,e.ko f args=J (J v)->∀ow,(e.fk f=2->v8 ow=V)->∀g K h j H aS,HR K h j H [] g->dD P K (λ_=>Z) e.aq->pV K h j H args ow aS->∃a c d i b,Ev P k f aS H a c/\Nx K h j H d i b c/\HR d i b c [] g/\lF d i b c v a
section
variable{P:aM}{ak:bZ}{rec:eK}{cf:cj}{K K' K1 K2:aY}{O ψ φ0 φ1:bY}{ω ω' ω0 gu ω1:aG}{H H' H1:Heap}{lb:dX}{g g':GH}{M st' st2:St}{tm tm':Tr AV}{fr fC:cu}{rd:ah Nat}
theorem dY.imp{a:Out->Prop}(h:∀o,G o->a o)(r:dY P ak fr H G):dY P ak fr H a:=let⟨n,o,b,c⟩:=r;⟨n,o,b,h o c⟩
theorem Bn.trans{o:Out}(i:ba H)(n:Nx K O ω H K1 φ1 ω1 H1)(h:Bn P K1 φ1 ω1 H1 v g' o):Bn P K O ω H v g' o:=by obtain⟨a,H',K',ψ,ω',b,c,d,e⟩:=h;exact⟨a,H',K',ψ,_,b,n.trans i c,d,e⟩
theorem av6{o:bQ}(k:Ok K O ω H M tm)(g:H.get r=J o0)(c:o0.dQ=C)(d:o.dQ=C)(Q:¬dH ω r)(n:Nx K0 φ0 ω0 H0 K O ω H)(P:H0.next<=r)(I:H0.bn<=H0.next):Ok K O ω (H.put r r o) M tm/\Nx K0 φ0 ω0 H0 K O ω (H.put r r o):=by
 have q:=ai4 (r:=r) g c d;have R:∀{id l a f e},H.get id=J (.cells l a f e)->a≠r:=by intro id l a f e h N;obtain⟨S,w,e2,y⟩:=k.hr.inv.oy _ _ _ _ _ h;grind[bQ.dQ]
 have u:∀id x,K id=J x->¬rootOf H id=r:=by intro id x F;obtain⟨cells,e⟩:=x;obtain⟨a,f,g1,_⟩:=k.hr.di id _ e F;grind[mF]
 have L:∀p a b,ω p=J _->¬a=r:=λp a b E e=>Q ⟨p,b,e▸E⟩;refine⟨⟨k.hr.frame q (ai3 k.hr.inv g c d) (akw k.hr.iJ g c d) L u,λt s B=>?_⟩,n.ext,λj x A=>?_,n.nh,?_,n.lR,n.log.1,λa hr=>?_,n.log.2.2⟩;.obtain⟨v,g1,g2,g3⟩:=k.sl t s B;refine⟨v,g1,g2,?_⟩;cases s with|gr id G=>obtain⟨i,m,root,f,e,k1,k2,k3⟩:=g3;refine⟨i,m,root,f,e,k1,?_,k3⟩;grind[oY,bQ.dQ]|_=>exact g3.keep k.hr.inv q (bl.refl _) (aU.refl _) aj aj aj aj
 .rw[Rc g c d];exact n.di j x A
 .refine⟨n.keep.next,λid hid D=>?_,n.keep.dh,λid hid=>by rw[Rc g c d];exact n.keep.root id hid⟩;rw[oY H r _ ae];exact n.keep.get id hid D
 . rcases vZ hr with h|⟨y,z⟩;.exact n.log.2.1 a h
   .rw[n.log.1]at z;omega
theorem aF3{b:Func}{nn:Nat}(D:ba H0)(A:P.funcs[f]?=J b)(p:EZ P b M=J (.val v g')):∀(s:an)(H:Heap)(t:List Item),Nx K0 φ0 ω0 H0 K O ω H->Ok K O ω H M tm->s.Nodup->(∀r,r∈s->H.get r=J (.deferred V)/\¬dH ω r/\H0.next<=r)->dY P ak {fn:=f,n:=nn,tmps:=tm,todo:=t,defers:=s,mode:=.returning,roundOf:=Z} H (Bn P K0 φ0 ω0 H0 v g'):=by intro s;induction s with
 |nil=>
 intro H t n ok _ _;obtain⟨a,K',ψ,ω',h,c,d,g⟩:=as9 ok p;refine⟨1,_,?_,a,H,K',ψ,_,rfl,n.trans D c,d,g⟩;show(Lj f λf=>P.funcs[f]?).bind _=_;rw[UT,A];have:Jj P b {fn:=f,n:=nn,tmps:=tm,todo:=t,defers:=[],mode:=.returning,roundOf:=Z} H=J a:=by refine Eq.trans ?_ h;rfl
 grind|cons r s i=>
 intro H t n ok q e;obtain⟨h,c,d⟩:=e r eQ;rw[List.nodup_cons]at q;obtain⟨FX,j⟩:=av6 (o:=.deferred C) ok h rfl rfl c n d D.bn;refine dY.step 0 (λm _=>?_) (i _ t j FX q.2 λk L=>?_);.show(match H.get r with|some (.deferred V)=>AM.run P _ m {fn:=f,n:=nn,tmps:=tm,todo:=t,defers:=s,mode:=.returning,roundOf:=Z} _|_=>Z)=_;grind
 grind[oY]
theorem amo:∀(aS:aD)(t0:Tr AV)(i t:Nat),(fV (λ(p:Tr AV×Nat)a=>(p.1.ins p.2 a,eU p.2)) aS (t0,i)).1.get t=if i<=t/\t<i+aS.length then aS[t-i]? else t0.get t:=by intro aS;induction aS with|nil=>intro t0 i t;rw[if_neg aj];rfl|cons a aS h=>intro t0 i t;have:(fV _ (a::aS) (t0,i))=fV (λ(p:Tr AV×Nat)a=>(p.1.ins p.2 a,eU p.2)) aS _:=rfl;grind[Tr.lL,Tr.jF]
theorem amm:∀(l:aA)(i:Nat)(ow:aX)(t:Nat)(s:SV),look (Ae i ow l) t=J s->∃d,i<=t/\l[t-i]?=J d/\s=.dv d (if t=i then ow else .no):=by intro l;induction l<;>grind[Ae,look,bN]
theorem anE(B:rl P ak cf rec)(Q:wL P ak cf rec)(D:wG P ak cf)(L:Hb P ak cf rec)(F:N7 P ak cf)(N:∀f args aS H,cf.ko f args=Z->ak f aS H=Z):rl P ak cf (zm P cf rec):=by intro f args ow g v g' h K O ω H aS j X i;simp only[zm]at h;cases k:cf.ko f _ with
 |some r=>
 rcases r with _|v0;.grind
 have W:cf.fk f=2->v8 ow=V:=λe=>by cases U:v8 ow<;>simp_all
 obtain⟨a,H',K',ψ,ω',h1,c,w,x⟩:=F f _ v0 k ow W g K O ω H aS j X i;grind|none=>
 rw[k]at h;obtain⟨fn,A,h⟩:=aE h;obtain⟨b,hb,h⟩:=aE h;rw[du]at h;by_cases l:args.length<=fn.ntmps
 . simp only[l,eu,aL]at h;have s:=N f args aS H k;have M:aS.length<=fn.ntmps:=by rw[<-i.1];omega
   have I:wT P f aS=J {fn:=f,n:=fn.ntmps,tmps:=(fV (λ(p:Tr AV×Nat)a=>(p.1.ins p.2 a,eU p.2)) aS (Tr.nil,0)).1,todo:=[.code b],defers:=[],mode:=.run,roundOf:=Z}:=by grind[wT,du,ef]
   have Y:Ok K O ω H {fn:=f,n:=fn.ntmps,sl:=Ae 0 ow args,lb:=[],g:=g} (fV (λ(p:Tr AV×Nat)a=>(p.1.ins p.2 a,eU p.2)) aS (Tr.nil,0)).1:=by
    refine⟨j,λt sv S=>?_⟩;obtain⟨d,_,c,rfl⟩:=amm _ _ _ _ _ S;rw[Nat.sub_zero]at c;have q:t<aS.length:=by rw[<-i.1];grind
    have R:aS[t]?=J aS[t]:=eZ q;have u:=i.2 t d _ c R;exact⟨aS[t],by grind[amo],λ_=>u.qU,u⟩
   have jx:=Pd (rd:=Z) (bs:=H.next) B Q D L (Bn P K O ω H v g') b _ _ _ K O ω H {fn:=f,n:=fn.ntmps,tmps:=(fV (λ(p:Tr AV×Nat)a=>(p.1.ins p.2 a,eU p.2)) aS (Tr.nil,0)).1,todo:=[.code b],defers:=[],mode:=.run,roundOf:=Z} [] h Y X ⟨rfl,rfl,rfl,bo _,rfl,G8,λr h=>aj⟩ (λo U=>by
    have go:∀st1,(o=.fO st1\/o=.rt st1)->EZ P fn st1=J (.val v g')->Bp P ak H.next Z K O ω H {fn:=f,n:=fn.ntmps,sl:=Ae 0 ow args,lb:=[],g:=g} {fn:=f,n:=fn.ntmps,tmps:=(fV (λ(p:Tr AV×Nat)a=>(p.1.ins p.2 a,eU p.2)) aS (Tr.nil,0)).1,todo:=[.code b],defers:=[],mode:=.run,roundOf:=Z} [] (Bn P K O ω H v g') o:=by
     intro st1 E pD K' ψ ω' H' tm' mP n' y e1 e2 z;obtain⟨_,r2,r3⟩:=z.rd;have G:o.GB=st1:=by rcases E with rfl|rfl<;>rfl
     rw[G]at y;have hr:=aF3 (ak:=ak) (nn:=fn.ntmps) j.inv A pD mP H' (JF o []) n' y r2 r3;refine dY.step 0 (λm _=>?_) hr;rcases E with rfl|rfl<;>rfl
    grind);obtain⟨n,o,T,a,H',K',ψ,ω',rfl,c,w,x⟩:=jx;exact⟨a,H',K',ψ,_,.inr ⟨s,_,I,n,T⟩,λ_=>s,c,w,x⟩
 grind
theorem aAW(C:rl P ak cf rec)(Y:wL P ak cf rec)(I:wG P ak cf)(L:Hb P ak cf rec):Hb P ak cf (zm P cf rec):=by
 intro b M rd o h bs K O ω H fr rest G ok X d c;refine dY.todo d.mode (λrc fr j=>by obtain⟨_,_,_,_,_,m,_⟩:=fr;obtain rfl:m=.run:=j;rfl) ?_;refine Pd C Y I L G b M _ _ K O ω H fr _ h ok X d λk a=>?_;intro K' ψ ω' H' tm' i n g e1 e2 f;rcases k with st1|⟨id,st1⟩|st1;.have hr:=L b _ rd o a bs K' ψ _ H' _ _ G (Wr g) (X.mono n.ext (aU.refl _)) ⟨f.fn,f.n,f.mode,f.base,f.rd⟩ (c.trans ok.hr.inv n (by rw[<-e1];rfl) (by rw[<-e2];rfl));refine dY.same (λrc=>?_) hr;obtain⟨fn,nn,t,todo,e,m,r⟩:=fr;obtain rfl:m=.run:=d.mode;rfl
 .obtain rfl:=bt.out.inj (br a);exact DJ (fr:={fr with tmps:=tm',defers:=i}) d.mode aO aO (c K' ψ _ H' _ _ n g e1 e2 f)
 obtain rfl:=bt.out.inj (br a);exact DJ (fr:={fr with tmps:=tm',defers:=i}) d.mode aO aO (c K' ψ _ H' _ _ n g e1 e2 f)
theorem aEh{s:cT}{p:Tmp}{d:DV}(h:xV K O tm s)(g:DR K O d a):xV K O (tm.ins p a) (put s p (.dv d .no)):=by
 intro t v l;rw[mC]at l;by_cases e:t=p;.subst e;rw[if_pos rfl]at l;cases l;grind[Tr.lL]
 .rw[if_neg e]at l;obtain⟨b,c,f⟩:=h t v l;grind[Tr.jF]
theorem aHg{n:Nat}:∀(s:List Tmp)(b:aA)(aS:aD)(sl:cT)(tm:Tr AV),xV K O tm sl->bH K O b aS->b.length=s.length->(∀p,p∈s->p<n)->xV K O (fV (λt(p:Tmp×AV)=>bif cM p.1 n then t.ins p.1 p.2 else t) (List.zip s aS) tm) (Cs s b sl):=by intro s;induction s with|nil=>intro b aS sl tm h _ _ _;exact h|cons p s i=>
 intro b aS sl tm h hd l e;rcases b with _|⟨d,b⟩;.grind
 obtain⟨a,t,rfl,c,P⟩:=hd.cons_inv;have:fV (λt(p:Tmp×AV)=>bif cM p.1 n then t.ins p.1 p.2 else t) (List.zip (p::s) (a::t)) tm=fV (λt(p:Tmp×AV)=>bif cM p.1 n then t.ins p.1 p.2 else t) (List.zip s t) (tm.ins p a):=by show fV _ (List.zip s t) (bif cM p n then tm.ins p a else tm)=_;grind[fB]
 rw[this];exact i b t _ _ (aEh h c) P aj λq f=>e q aj
theorem aEg{s:cT}(h:xV K O tm s):ch K O ω H tm s:=by intro t v l;obtain⟨a,c,b⟩:=h t v l;refine⟨a,c,?_⟩;cases v with
 |dv d o=>cases o with|no=>exact⟨λ_=>DR.qU b,b⟩|any=>exact⟨λ_=>aj,b⟩|_=>grind
 |ev d=>refine⟨λ_=>?_,b⟩;grind|dd=>exact⟨λh=>absurd rfl h,trivial⟩|_=>grind
def stY(p:ah bz):LoopState:=match p with|none=>.ready|some _=>.done
theorem UD{l i:Nat}{p:ah bz}(D:ba H0)(n:Nx K0 φ0 ω0 H0 K O ω H)(o:Ok K O ω H M tm)(e:O l=J i)(h:wV l M p=J (.val v g')):∃R,H.get i=J (.loop R)/\Bn P K0 φ0 ω0 H0 v g' (.ret (.bool p.isNone) (H.put i i (.loop {R with state:=stY p,pending:=p}))):=by
 unfold wV at h;split at h;.rename_i r g;obtain⟨rfl,rfl⟩:=bt.val.inj (br h);obtain⟨f,c,w,R,d,q3,q4,q5,q6,q7,j,q9,W⟩:=o.hr.kj l _ g;obtain rfl:i=f:=br (e.symm.trans c);obtain⟨FX,a⟩:=Z0 (R':={R with state:=stY p,pending:=p}) (y:=.loop {r with state:=stY p,pending:=p}) o c w d ⟨_,xG _ _ _ _,rfl,rfl,q5,q6,q7,j,q9,W⟩;refine⟨R,d,_,_,K,O,_,rfl,n.trans D ⟨a.ext,a.di,a.nh,a.keep,λp r b h=>?_,a.log⟩,FX.hr.callee C,.bool _⟩;obtain⟨q,_,h⟩:=aG.jC h;exact a.lR q r b h
 grind
theorem aLF(G:rl P ak cf rec)(Y:wL P ak cf rec)(I:wG P ak cf)(L:Hb P ak cf rec):wL P ak cf (zm P cf rec):=by
 intro l args g v g' h K O ω H aS i b X F w;simp only[zm]at h;split at h;.rename_i r hg;obtain⟨i',S,qw,R,q2,q3,q4,q5,q6,q7,q8,q9,U⟩:=b.kj l _ hg;obtain rfl:i=i':=br (w.symm.trans S);cases s:(aw args.length r.params.length&&r.params.all λp=>cM p r.n)with|false=>grind|true=>
  rw[s]at h;simp only[aL]at h;simp only[iC,bN,mw]at s;have jS:∀p,p∈r.params->p<r.n:=λp hp=>by simp_all
  have hinv:vU P ak (.yield i) aS H=J (.call {fn:=R.fn,n:=R.n,tmps:=fV (λt(p:Tmp×AV)=>bif cM p.1 R.n then t.ins p.1 p.2 else t) (List.zip R.params aS) R.tmps,todo:=[.code R.assign,.beginRound,.code R.body],defers:=[],mode:=.run,roundOf:=J i} H):=by
   unfold vU;simp only[q2];have:aw (eL aS) (eL R.params)=V:=by rw[ef,ef,<-F.1,q7,s.1];simp_all
   grind
  have dP:=aHg (n:=R.n) R.params args aS r.sl R.tmps U F aj (λp hp=>aj);have cY:Ok K O ω H {fn:=r.fn,n:=r.n,sl:=Cs r.params args r.sl,lb:=[],g:=g} (fV (λt(p:Tmp×AV)=>bif cM p.1 R.n then t.ins p.1 p.2 else t) (List.zip R.params aS) R.tmps):=⟨b,aEg aj⟩;have jx:=Pd (rd:=J l) (bs:=H.next) G Y I L (Bn P K O ω H v g') r.assign _ _ _ K O ω H {fn:=R.fn,n:=R.n,tmps:=fV (λt(p:Tmp×AV)=>bif cM p.1 R.n then t.ins p.1 p.2 else t) (List.zip R.params aS) R.tmps,todo:=[.code R.assign,.beginRound,.code R.body],defers:=[],mode:=.run,roundOf:=J i} [.beginRound,.code r.body] h cY X ⟨q5,q6,rfl,bo _,i,S,rfl,rfl⟩ (λo j=>by cases o with|ext id st1=>grind|rt st1=>grind|fO st1=>
   simp only at j;split at j
   . rename_i r1 my;split at j;.rename_i bG;intro K1 φ1 ω1 H1 B KU n1 xy e1 e2 f1;obtain⟨M,j1,j2,z⟩:=f1.rd;have tF:i=M:=br (show J i=J M from j2);subst tF;have z:KU=[]:=z;subst z;obtain⟨i2,k1,kw,D,k2,k3,k4,k5,k6,k7,k8,k9,V7⟩:=xy.hr.kj l _ my;obtain rfl:i=i2:=br (j1.symm.trans k1);obtain⟨FX,Q⟩:=Z0 (R':={D with state:=.busy}) (y:=.loop {r1 with state:=.busy}) xy k1 kw k2 ⟨_,xG _ _ _ _,rfl,k4,k5,k6,k7,k8,k9,V7⟩;have f2:=f1.nx xy.hr.inv Q (st':={st1 with sl:=cV st1.sl,g:=st1.g.set l (.loop {r1 with state:=.busy})}) rfl rfl B [.beginRound,.code r.body];have d:=n1.trans b.inv Q;have qO:=Pd (rd:=J l) (bs:=H.next) G Y I L (Bn P K O ω H v g') r.body _ _ _ K1 φ1 ω1 _ {fn:=R.fn,n:=R.n,tmps:=B,todo:=[.beginRound,.code r.body],defers:=[],mode:=.run,roundOf:=J i} [] j FX (X.mono d.ext (aU.refl _)) f2 (λo2 x=>by intro K3 φ3 ω3 k c T n3 DF e3 e4 f3;obtain⟨N,A,j5,j6⟩:=f3.rd;have u:i=N:=br (show J i=J N from j5);subst u;have W:=d.trans b.inv n3;cases o2 with|fO Cv=>have x:wV l Cv Z=J (.val v g'):=x;obtain⟨E,e,f⟩:=UD (P:=P) b.inv W DF A x;refine⟨1,_,?_,f⟩;show body P ak (AM.run P ak 0) {fn:=R.fn,n:=R.n,tmps:=c,todo:=[],defers:=T,mode:=.run,roundOf:=J i} k=_;unfold body vw wO xZ ya yb BJ;simp only[e];rfl|rt Cv=>have x:wV l Cv (J .ret)=J (.val v g'):=x;obtain⟨E,e,f⟩:=UD (P:=P) b.inv W DF A x;refine⟨1,_,?_,f⟩;show body P ak (AM.run P ak 0) {fn:=R.fn,n:=R.n,tmps:=c,todo:=[.code .ret],defers:=T,mode:=.run,roundOf:=J i} k=_;unfold body vw wO xZ ya yb BJ;simp only[e];rfl|ext id Cv=>have x:wV l Cv (J (.exit id))=J (.val v g'):=x;obtain⟨E,e,f⟩:=UD (P:=P) b.inv W DF A x;refine⟨1,_,?_,f⟩;show body P ak (AM.run P ak 0) {fn:=R.fn,n:=R.n,tmps:=c,todo:=[.code (.exit id)],defers:=T,mode:=.run,roundOf:=J i} k=_;unfold body vw wO xZ ya yb BJ;simp only[exitTo,e];rfl);refine dY.step 0 (λm _=>?_) qO;show body P ak _ {fn:=R.fn,n:=R.n,tmps:=B,todo:=[.beginRound,.code r.body],defers:=[],mode:=.run,roundOf:=J i} H1=_;unfold body vw wO xZ ya yb BJ;have q:D.state=.ready:=aP;simp only[k2,q];rfl
     grind
   grind);obtain⟨n,o,hn,a,H',K',ψ,ω',rfl,h2,h3,h4⟩:=jx;refine⟨a,H',K',ψ,ω',⟨_,hinv,n,?_⟩,h2,h3,h4⟩;grind
 grind
theorem aLc(I:wG P ak cf)(e:N7 P ak cf)(N:∀f args aS H,cf.ko f args=Z->ak f aS H=Z):∀n,rl P ak cf (JN P cf n)/\wL P ak cf (JN P cf n)/\Hb P ak cf (JN P cf n):=by intro n;induction n with
 |zero=>
 refine⟨λf args ow g v g' h=>?_,λl args g v g' h=>?_,λb M rd o h=>?_⟩;.have h:(Z:ah _)=J _:=h;grind
 .have h:(Z:ah _)=J _:=h;grind
 .have h:(Z:ah _)=J _:=h;grind|succ n i=>obtain⟨a,c,d⟩:=i;exact⟨anE a c I d e N,aLF a c I d,aAW a c I d⟩
end
section
variable{K K':aY}{O:bY}{ω:aG}{H H':Heap}{lb:dX}{g:GH}
theorem HR.gone(a:HR K O ω H lb g)(u:ω p=J (r,V))(S:p.slot)(k:bM (λx=>x=r) H H')(z:ba H')(E:po H'):HR K O (ω.set p Z) H' lb g:=by
 have back:∀q f b,ω.set p Z q=J _->q≠p/\ω q=J _/\f≠r:=λq f b h=>by
  by_cases x:q=p;.grind[aG.nQ]
  .rw[aG.lA _ _ x]at h;exact⟨x,h,λy=>x (a.inj _ _ _ _ _ (y▸h) u)⟩
 have A:∀q,¬q.slot->ω.set p Z q=ω q:=λq D=>aG.lA _ _ λe=>D (e▸S);refine⟨z,λid cells e h=>?_,λq G f b c l d=>a.inj _ _ _ _ _ (back _ _ _ l).2.1 (back _ _ _ d).2.1,λq f id x l d=>?_,λq f b h=>fj (a.cq _ _ _ (back _ _ _ h).2.1) k.next,λs b w=>?_,λj o B=>?_,a.oQ,E⟩;.obtain⟨root,v,g1,g2⟩:=a.di id _ e h;have t:=a.clean _ _ _ _ u h;have hid:=a.inv.get _ _ g1;rw[mF g1]at t;exact⟨_,v,by rw[k.get id hid (by grind[mF])];omega,by rw[k.dh _ (by have:=(a.inv.root _ _ _ _ _ g1).1;omega) t];omega⟩
 .obtain⟨_,_,g1,_⟩:=a.di id _ _ d;rw[k.root id (a.inv.get _ _ g1)];exact a.clean _ _ _ _ (back _ _ _ l).2.1 d
 .obtain⟨i,l,d⟩:=a.box s b w;have n:=A (.lb s) (by simp[Pk.slot]);refine⟨i,aj,d.keep a.inv k (bl.refl _) (aU.refl _) (back (.lb s) i V aj).2.2 λm f c x=>?_⟩;grind[Pk.slot]
 .obtain⟨i,l,d,n⟩:=a.kj j o B;have F:=A (.g j) (by simp[Pk.slot]);refine⟨i,l,aj,n.keep a.inv k (bl.refl _) (aU.refl _) (back (.g j) i V aj).2.2 λm f c x=>?_⟩;grind[Pk.slot]
theorem consume(n:HR K O ω H [] g)(v:ω (.sl 0)=J (r,V))(k:bM (λx=>x=r) H H')(D:ba H')(P:po H')(N:H'.bn=H.bn)(R:∀x,x∈H'.bK->x∈H.bK\/(x=r/\r<H.bn))(T:∀x,x∈H'.cK->x∈H.cK\/(x=r/\r<H.bn)){f t s:Nat}{m:aD}{G:gS}{e:al}{l:aA}{c:ah Nat}(A:H'.get f=J (.cells m r G e))(Q:(H'.bh r).1<=f)(w:ij K O l s t m)(M:∀k,c=J k->l.length<=k):∃K' o,Nx K O ω H K' O o H'/\HR K' O o H' [] g/\lF K' O o H' (.dv (.ay l e s) .no) (.sl f t l.length c s):=by
 have z:dH ω r:=⟨_,_,v⟩;have W:=mF A;have F:K f=Z:=by
   rcases E:K f with _|x;.rfl
   obtain⟨_,_,g1,_⟩:=n.di f _ _ E;have:=n.clean _ _ _ _ v E;rw[<-k.root f (n.inv.get _ _ g1)]at this;omega
 have I:=n.gone v trivial k D P;have S:∀q,ω.set (.sl 0) Z q≠J (r,V):=λq h=>by
   by_cases x:q=.sl 0;.grind[aG.nQ]
   .rw[aG.lA _ _ x]at h;exact x (n.inj _ _ _ _ _ h v)
 have L:=I.VW A Q F S;have X:=aY.CH (x:=(m,e)) F;refine⟨_,_,⟨X,λj x u=>?_,aU.refl _,k.zo n.inv λU _ e=>e▸z,λp U b h=>?_,N,λx B=>(R x B).imp_right λ⟨a,b⟩=>⟨a▸b,a▸z⟩,λx B=>(T x B).imp_right λ⟨a,b⟩=>⟨a▸b,a▸z⟩⟩,L,?_⟩
 . unfold aY.add at u;by_cases y:j=f;.subst y;exact⟨D.get _ _ A,aP⟩
   .rw[if_neg y]at u;obtain⟨_,_,g1,_⟩:=n.di j _ _ u;exact⟨fj (n.inv.get _ _ g1) k.next,.inl u⟩
 . by_cases x:p=.sl 0;.grind[aG.nQ]
   .rw[aG.lA _ _ x]at h;exact .inl ⟨p,b,h⟩
 .exact .ay l e _ f _ c m (by simp[aY.add]) w.1 w.2.1 M w.2.2.1 λi x j d a x1 x2 x3=>(w.2.2.2 i x j d a x1 x2 x3).mono X (aU.refl _)
end
section
variable(P:aM)(cf:cj)
def Es(j:CE)(x:bt):Prop:=∃n,∀m,n<=m->JN P cf m j=J x
open Classical in def ev:eK:=λj=>if h:∃x,Es P cf j x then J h.choose else Z
theorem Es.iJ{x y:bt}(h:Es P cf j x)(k:Es P cf j y):x=y:=by obtain⟨n,h⟩:=h;obtain⟨m,k⟩:=k;exact br ((h (max n m) ae).symm.trans aj)
theorem Uw{x:bt}:ev P cf j=J x↔Es P cf j x:=by
 unfold ev;constructor;.intro h;split at h<;>grind
 .intro h;have e:∃x,Es P cf j x:=⟨x,h⟩;grind[Es.iJ]
def Cn{a:Type}(F:eK->ah a):Prop:=∀o,F (ev P cf)=J o->∃n,∀m,n<=m->F (JN P cf m)=J o
variable{P cf}
theorem Cn.const(x:ah α):Cn P cf λ_=>x:=λ_ h=>⟨0,λ_ _=>h⟩
theorem Cn.IK(j:CE):Cn P cf λr=>r j:=λ_ h=>(Uw P cf).1 h
theorem Cn.bind{d:Type}{F:eK->ah α}{G:eK->α->ah d}(h:Cn P cf F)(k:∀a,Cn P cf λr=>G r a):Cn P cf λr=>(F r).bind (G r):=λo b=>by obtain⟨a,c,b⟩:=aE b;obtain⟨n,f⟩:=h a c;obtain⟨m,e⟩:=k a o b;refine⟨max n m,λi hi=>?_⟩;grind
theorem Cn.cond(b:Bool){F G:eK->ah α}(h:Cn P cf F)(k:Cn P cf G):Cn P cf λr=>bif b then F r else G r:=by cases b<;>simp_all
theorem Cn.ku(f:bS)(s:aA)(o:aX)(g:GH){k:eK->SV->GH->ah α}(h:∀v g,Cn P cf λr=>k r v g):Cn P cf λr=>ku cf r f s o g (k r):=by
 refine Cn.cond _ (Cn.cond _ ((Cn.IK _).bind λa=>?_) (Cn.const _)) ((Cn.IK _).bind λa=>?_);.cases a<;>simp_all[Cn.cond,Cn.const]
 .cases a<;>simp_all[Cn.const]
theorem Cn.qE(s:St)(o:Op)(i:aH)(g:List aH):Cn P cf λr=>qE cf r s o i g:=by refine(Cn.const _).bind λv=>?_;cases v with
 |func h first captured=>
 refine Cn.cond _ (Cn.const _) (Cn.cond _ ?_ (Cn.cond _ ?_ ?_));.cases first with
 |cons a b=>simp[Cn.const]
 | nil => rcases g with _|⟨x,e⟩;.simp[Cn.const]
          show Cn P cf λr=>match cP _ s x with|some (.dv d ow)=>(cE _ e).bind _|_=>Z;rcases cP _ s x with _|c;.simp[Cn.const]
          cases c<;>simp[Cn.const,bind,Cn.ku]
 .exact Cn.cond _ ((Cn.const _).bind λaS=>Cn.ku _ _ _ _ λ_ _=>Cn.const _) (Cn.const _)
 simp[Cn.const,bind,Cn.ku]|dK l=>simp[Cn.const,bind,Cn.IK]|_=>exact Cn.const _
theorem Cn.dN(g b:an)(l:List aC)(s:St)(o:aC):Cn P cf λr=>dN P cf r g b l s o:=by unfold VM.dN;cases o.op with
 |call c=>cases c with|mk callee args a=>cases callee<;>simp[Cn.qE,bind,Cn.const]
 |_=>exact Cn.const _
theorem Cn.jW(s c:an)(d:Bool)(p:Array aC):∀(l:List aC)(j:Nat)(g:List (Nat×Kx))(st:St),Cn P cf λr=>jW P cf r s c d p l j g st:=by intro l;induction l with|nil=>intro j g st;exact Cn.const _|cons o l i=>intro j g st;refine(Cn.const _).bind λw=>Cn.cond _ (Cn.cond _ ((Cn.dN _ _ _ _ _).bind λa=>i _ _ _) (Cn.const _)) ((Cn.const _).bind λa=>i _ _ _)
theorem Cn.exec(t:ah Nat):∀(c:bz)(st:St)(k:eK->eJ->ah bt),(∀o,Cn P cf λr=>k r o)->Cn P cf λr=>exec P cf r t c st (k r):=by intro c;induction c with
 |skip=>intro st k d;exact d _|label _=>intro st k d;exact d _|seq a b i e=>intro st k d;refine i st _ λo=>?_;cases o<;>simp_all|cond c a b i e=>
 intro st k d;show Cn P cf λr=>match bp _ st c with|some (.bool x)=>bif x then VM.exec P cf r t a st _ else VM.exec P cf r t b st _|_=>Z;rcases bp _ st c with _|v;.simp[Cn.const]
 cases v<;>simp_all[Cn.cond,Cn.const]|block id b l=>intro st k d;refine l st _ λo=>?_;cases o<;>simp_all[Cn.cond]|loop b l=>
 intro st k d;refine Cn.bind (Cn.IK _) λa=>?_;rcases a with⟨v,g⟩|o;.exact Cn.const _
 exact d _|scope b l=>intro st k d;exact l st k d|exit id=>intro st k d;exact d _|ret=>intro st k d;exact d _|region id ops w=>intro st k d;exact Cn.cond _ ((Cn.jW _ _ _ _ _ _ _ _).bind λa=>d _) (Cn.const _)|rangeFunc f m y b i e=>intro st k d;unfold VM.exec;cases bp _ st f with|none=>simp[Cn.const]|some v=>cases v with
  |func h first captured=>refine Cn.cond _ (Cn.const _) ((Cn.IK _).bind λa=>?_);cases a with|out o=>simp[Cn.const]|val v g=>show Cn P cf λr=>match g.get _ with|some (.loop q)=>(match q.state with|.busy=>Z|_=>(match q.pending with|none=>k r _|some .ret=>k r _|some (.exit id)=>k r _|_=>Z))|_=>Z;cases g.get _ with|none=>simp[Cn.const]|some u=>cases u with
   |loop q=>cases q with|mk s p fn n sl m j body=>cases s with
    |busy=>simp[Cn.const]
    | _ => rcases p with _|c;.simp_all
           cases c<;>simp_all[Cn.const]
   |_=>simp[Cn.const]
  |_=>exact Cn.const _
 |goto _=>intro st k d;exact Cn.const _|refuse _=>intro st k d;exact Cn.const _
theorem Cn.zm(j:CE):Cn P cf λr=>zm P cf r j:=by
 rcases j with⟨f,args,ow,g⟩|⟨b,st,rd⟩|⟨l,args,g⟩;.show Cn P cf λr=>match cf.ko f _ with|some r=>bif aw _ 2&&!v8 ow then Z else r.map _|none=>(P.funcs[f]?).bind _;cases cf.ko f _ with|some v=>simp[Cn.const]|none=>refine(Cn.const _).bind λfn=>(Cn.const _).bind λb=>Cn.cond _ (Cn.exec _ b _ _ λo=>Cn.const _) (Cn.const _)
 .refine Cn.exec rd b st _ λo=>?_;cases o<;>simp[Cn.IK,Cn.const]
 show Cn P cf λr=>match g.get l with|some (.loop R)=>bif aw _ _&&R.params.all _ then VM.exec P cf r _ _ _ _ else Z|_=>Z;cases g.get l with|none=>simp[Cn.const]|some c=>cases c with
 |loop R=>refine Cn.cond _ (Cn.exec _ _ _ _ λo=>?_) (Cn.const _);cases o with
  |fO st=>show Cn P cf λr=>match st.g.get l with|some (.loop r1)=>(match r1.state with|.ready=>VM.exec P cf r _ _ _ _|_=>Z)|_=>Z;cases st.g.get l with|none=>simp[Cn.const]|some c=>cases c with
   |loop r1=>cases r1 with|mk s p fn n sl m a body=>cases s<;>simp[Cn.exec,Cn.const]
   |_=>simp[Cn.const]
  |_=>simp[Cn.const]
 |_=>simp[Cn.const]
theorem Pb{x:bt}(h:zm P cf (ev P cf) j=J x):ev P cf j=J x:=by
 obtain⟨n,a⟩:=Cn.zm j x h;refine(Uw P cf).2 ⟨n+1,λm b=>?_⟩;rcases m with _|m;.omega
 exact a m ae
theorem arZ{a:bZ}(I:wG P a cf)(c:N7 P a cf)(N:∀f args aS H,cf.ko f args=Z->a f aS H=Z):rl P a cf (ev P cf):=by intro f args ow g v b h;obtain⟨n,d⟩:=(Uw P cf).1 h;exact(aLc I c N n).1 f _ ow g v b aP
end
noncomputable abbrev PP:aM:=Proofs.Tryz.prog
structure FR where
 g:an
 c:an
 k:Nat
 p:Bool
 r:List an
def nt{b:Type}(d:b):List b->Nat->b|[],_=>d|a::_,0=>a|_::l,n+1=>nt d l n
def dy(r:List an):FR:=⟨[],[],3,V,r⟩
def kF(r:List an):FR:=⟨[],[],0,V,r⟩
def uj(r:List an):FR:=⟨[],[],0,C,r⟩
def q3:=dy [[3,2,4],[3,2,4,30],[6],[8,7,3,2,4],[10,8,9,7,3],[6]]
def q4:=dy [[1],[2]]
def q5:=dy [[1],[3,1],[1,3,15],[3,1],[1,3,55],[2],[4,1],[1,4,64],[4,1],[5,1,4],[5,1,4,105],[2],[6,5,1,4],[5,1,4,6,110],[6,5,1,4],[5,1,4,6,119],[2],[2]]
def q6:=kF []
def q7:=kF [[1,2],[6,1,2],[6,1,2,12],[4,5],[1,2,22],[4,5],[7,8],[7,30],[4,5],[4,5]]
def q9:=dy [[1],[3,1],[3,1,12],[2],[5,1,4],[5,1,4,22],[2],[28],[2],[2]]
def Xl:=dy [[1,0],[1,0,10],[4],[5,1,0],[1,0,5,14],[5,1,0],[1,0,5,26],[4],[4]]
def Xs:=dy [[0],[3,0],[0,3,7],[3,0],[0,3,25],[2],[2]]
def Xz:=dy [[1],[1,31],[2],[3,1],[1,3,36],[3,1],[1,3,45],[2],[2]]
def XI:=dy [[1],[1,7],[2],[3],[4,3],[3,4,13],[4,3],[3,4,22],[2],[2]]
def XM:=dy [[1],[1,3],[1,3,7],[1,3],[4,1,3],[1,4,3,12],[4,1,3],[1,3,4],[2]]
def XO:=dy [[0],[3,0],[0,3,7],[3,0],[0,3,16],[2],[2]]
def Yk:FR:=⟨[],[47,49,62,64],3,V,[[1],[1,10],[2],[1,29],[2],[49,1,47,48],[1,47,48,49,50],[1,47,48,49,4],[5,1,47,48,49],[5,1,47,48,49,58],[2],[49,1,47,48],[6,1],[64,6,1,62,63],[1,62,63,64,6,65],[1,62,63,64,8,6],[9,1,62,63,64,8],[9,1,62,63,64,8,73],[2],[6,1,62,63,64],[64,6,1,62,63],[2]]⟩
def Yl:FR:=⟨[2,4,5,6],[],0,V,[[4,5,1,2],[4,5,6,1,2],[4,5,6,10],[4,5,6,7],[4,5,6,7,13],[4,5],[4,5,6],[4,5]]⟩
def Yr:=dy [[1],[1,15],[2],[1,31],[2],[3,1],[1,3,36],[3,1],[4,1,3],[4,1,3,48],[2],[1,5],[6,1,5],[1,6,5,54],[6,1,5],[7,1,6],[7,1,6,66],[2],[1,5,6],[2]]
def Yz:=kF [[2,1],[6,2],[6,2,14],[4,5],[6,7,2],[8,6,7,2],[6,2,8,7,18],[8,6,7,2],[6,2,8,7,38],[6,7,2,8],[4,5]]
def M4:FR:=⟨[2,3],[],3,V,[[2,3],[6],[4]]⟩
def M5:=kF [[2,1],[2,6,4],[2,3]]
def yT:=dy [[3,2],[4]]
def YP:=dy [[3,0],[5,3,0],[5,3,0,15],[4],[6,3,0],[6,3,0,21],[4],[8,3,0],[8,3,0,33],[4],[9,3,0],[9,3,0,39],[4],[11],[4]]
def YQ:=dy [[3,2],[3,2,26],[4],[5,3,2],[3,2,5,31],[5,3,2],[3,2,5,47],[4],[4]]
def Gh:=dy [[1,0],[1,0,10],[4],[5,1,0],[1,0,5,14],[5,1,0],[1,0,5,25],[4],[4]]
def YX:=dy [[1],[1,12],[2],[3],[4,3],[3,4,18],[4,3],[3,4,27],[2],[2]]
def M9:=dy [[1,2],[1,2,5],[6,1,2,5],[1,2,6,5,16],[6,1,2,5],[1,2,5,6],[4]]
def Y4:=kF [[1],[1,3],[4,1,3],[1,4,3,11],[4,1,3],[1,3,4],[2]]
def M':=dy [[1],[1,3],[4,1,3],[1,4,3,9],[4,1,3],[1,3,4],[2]]
def Zd:FR:=⟨[6],[11,13],3,V,[[1,2],[1,2,10],[4],[13,1,2,11,12],[1,2,11,12,13,14],[1,2,11,12,13,6,5],[1,2,11,12,13,6,5,18],[4],[1,2,11,12,13,6,39],[4],[7,1,2,11,12,13],[7,1,2,11,12,13,49],[4],[13,1,2,11,12],[4]]⟩
def Ze:FR:=⟨[],[63,65],3,V,[[4,3,2],[4,3,2,12],[6],[4,3,47],[6],[7,4,3],[7,4,3,56],[6],[4,3,61],[6],[65,63,4,3,64],[63,4,3,64,65,66],[63,4,3,64,65,9],[10,63,4,3,64,65],[10,63,4,3,64,65,72],[6],[65,63,4,3,64],[11,4],[11,4,88],[6],[92],[6],[6]]⟩
def Gi:FR:=⟨[2,3],[],0,C,[[2,3],[4]]⟩
def wg:=dy [[1,0],[4]]
def Zf:=dy [[1,2],[1,2,10],[4],[5,1,2],[5,1,2,14],[5,1,2],[5,1,2,44],[4],[6,5,1,2],[5,1,2,6,47],[6,5,1,2],[5,1,2,6,60],[4],[7,1,2,5],[7,1,2,5,68],[4],[4]]
def Zh:=dy [[4,3,2],[4,3,2,7],[4,3,2,42],[6],[4,3,46],[6],[8,4,3],[8,4,3,51],[6],[4,3,56],[6],[9,4,3],[4,3,9,61],[9,4,3],[10,4,3,9],[10,4,3,9,71],[6],[6]]
def Zi:=kF [[3,4,2,1],[3,4,9,2,1],[10,3,4,9,2,1],[3,4,9,2,1,10,23],[10,3,4,9,2,1],[3,4,9,2,1,10,11],[3,4,9,2,1,10,11,41],[3,4,2,1,10,11,9,12],[3,4,2,1,10,11,9,12],[3,4,2,1,10,12,11,9],[3,4,2,1,10,9,12,11],[3,4,2,1,10,9,12,11,55],[3,4,9,2,1,10],[8]]
def Zj:FR:=⟨[],[8,10],0,C,[[0],[10,8,9],[8,9,10,11],[8,9,10,5],[7,6,8,9,10],[7,6,8,9,10,21],[2,3],[10,8,9],[2,3]]⟩
def Zk:FR:=⟨[1],[],0,C,[[2,1],[2]]⟩
def Gj:=uj [[0],[1]]
def Zl:FR:=⟨[],[11,13],3,V,[[0],[0,9],[2],[3,0],[13,3,11,12],[3,11,12,13,14],[3,11,12,13,5],[6,3,11,12,13,5],[6,3,11,12,13,5,20],[2],[3,11,12,13,5,25],[2],[3,11,12,13],[13,3,11,12],[2]]⟩
def Zm:=dy [[0],[0,18],[2],[21],[2],[2]]
def Nb:=uj [[1,0],[2,3]]
def Zn:FR:=⟨[3,4,5],[],3,V,[[5,3,4],[6,7]]⟩
def Gk:=uj [[1,0],[2]]
def Zo:=uj [[1,0],[4],[2]]
def Zp:FR:=⟨[2,3,6],[],0,V,[[3,2],[6,3,2],[8,6],[8,6,23],[4,5],[4,5]]⟩
def Zq:FR:=⟨[1,2,3,4,5,7],[],0,V,[[2,3,4,1],[2,3,4,6,5,1],[2,3,4,6,5,1,18],[2,3,4],[2,3,4,5,7,1],[2,3,4,6,5,7],[2,3,4,6,5,7,30],[2,3,4],[2,3,4,5,7,34],[2,3,4,5,7,8,36],[2,3,4,5,7,9,8],[2,3,4,11,5,7,9,10],[2,3,4,11,5,7,9,10,46],[2,3,4],[2,3,4,5,7],[2,3,4,5,7,64],[2,3,4],[2,3,4]]⟩
def yU:FR:=⟨[],[15,17],0,C,[[2,1,0],[2,1,0,14],[6],[17,2,1,15,16],[2,1,15,16,17,18],[2,1,15,16,17,8,7],[2,1,15,16,17,9,8],[2,1,15,16,17,30],[6],[17,2,1,15,16],[6]]⟩
def Zr:=dy [[0],[0,7],[2],[3,0],[0,3,11],[3,0],[4,0,3],[4,0,3,20],[2],[0,3,30],[2],[2]]
def Zs:=dy [[0],[26],[2],[2]]
def Zt:=dy [[1,0,5],[8,1,0,5],[8,1,0,5,20],[6,7],[11,1,0,5,9],[11,1,0,5,9,29],[6,7],[1,0,5,34],[6,7],[1,0,12,5],[13,1,0,12,5],[1,0,12,5,13,40],[13,1,0,12,5],[1,0,12,5,13,14],[1,0,12,5,13,14,49],[13,1,0,12,5,14,63],[6,7],[15,13,1,0,12,5],[15,13,1,0,12,5,71],[6,7],[6,7]]
def Zu:=dy [[0,3],[5,0,3],[5,0,3,14],[4],[0,3,19],[4],[0,3,25],[4],[0,6,3],[7,0,6,3],[0,6,3,7,29],[7,0,6,3],[0,6,3,7,8],[0,6,3,7,8,41],[0,6,3,7,43],[4],[0,3,7,8,6,55],[4],[0,3,7,8,6,57],[0,6,3,7,8],[0,6,3,7,77],[4],[4]]
def Zv:=kF [[3,0],[7,3,0],[7,3,0,24],[4,5],[3,0,29],[4,5],[3,0,33],[4,5],[8,3,0],[9,8,3,0],[3,0,9,8,38],[9,8,3,0],[11,3,0,9,10,8],[11,3,0,9,10,8,54],[4,5],[8,3,0,9],[13,8],[13,8,69],[4,5],[4,5]]
def Zw:=kF [[2,1],[2,6,5,1],[2,6,5,1,23],[2,3,4],[5,2,8,7],[10,5,2],[10,5,11,2],[10,5,11,2,38],[10,5,11,2],[10,5,11,2],[10,13,5,11,12,2],[15,10,13,5,11,12,2],[10,13,5,11,12,2,15,64],[15,10,13,5,11,12,2],[10,13,5,11,12,2,15,16],[10,13,5,11,12,2,15,16],[10,13,5,11,12,2,15,16,75],[10,13,5,11,12,2,15,16],[10,13,5,11,12,2,15],[2,5,10,93],[2,3,4],[2,3,4]]
def Zx:=dy [[1,0],[1,0,10],[4],[5,1,0],[1,0,5,14],[5,1,0],[1,0,5,67],[4],[4]]
def Zy:=dy [[1,0],[1,0,10],[4],[5,1,0],[1,0,5,14],[5,1,0],[1,0,5,52],[4],[4]]
def yV:=uj [[1,0],[4]]
def Nc:=uj [[1,2],[3]]
def Zz:=dy [[1],[1,4,3],[1,4,10],[2],[1,13],[2],[2]]
def ZA:FR:=⟨[],[9,11,15,17],3,V,[[2,1],[2,11,9,10],[2,9,10,11,12],[6,2,9,10,11],[17,6,2,15,9,10,11,16],[6,2,15,9,10,11,16,17,18],[6,2,15,9,10,11,16,17,8,7],[6,2,15,9,10,11,16,17,8,7,22],[4],[6,2,15,9,10,11,16,17,28],[4],[17,6,2,15,9,10,11,16],[2,11,9,10],[4]]⟩
def ZB:FR:=⟨[],[6,8],0,V,[[0],[3,0],[8,3,6,7],[6,7,8,3,9],[6,7,8,5,3],[3,6,7,8],[8,3,6,7],[2]]⟩
def ZC:FR:=⟨[3,4,5],[],0,C,[[2,1,3],[2,1,4,3],[2,5,1,4,3],[2,5]]⟩
def ZD:FR:=⟨[10],[13,15],0,C,[[4,5,1,3,2,0],[15,4,5,1,3,2,0,13,14],[4,5,1,3,2,0,13,14,15,16],[4,5,1,3,2,0,13,14,15,10,9],[4,5,1,3,2,0,13,14,15,10,9,28],[4,5,1,3,2,0,13,14,15,10,9],[4,5,1,3,2,0,13,14,15,10,9,32],[],[8],[4,5,1,3,2,0,13,14,15,11,10],[4,5,1,3,2,0,13,14,15,11,10,42],[4,5,1,3,2,0,13,14,15,46],[8],[4,5,1,3,2,0,13,14,15,52],[8],[15,4,5,1,3,2,0,13,14],[8]]⟩
def ZE:=uj [[2,0,1],[4]]
def Nd:=kF [[0],[0,4],[2],[2]]
def ZF:=dy [[1],[1,5],[2],[1,8],[2],[2]]
def ZG:=dy [[3,2],[3,5,2],[6,3,5,2],[3,2,6,5,15],[6,3,5,2],[3,5,2,6],[2,7,3],[8,2,7,3],[2,7,3,8,38],[8,2,7,3],[9,2,7,3,8],[9,2,7,3,8,49],[4],[10,3],[3,10,55],[10,3],[3,10,64],[4],[4]]
def ZH:=dy [[2,1,3],[7,2,1,3],[2,1,3,7,11],[7,2,1,3],[2,1,3,7,24],[6],[6]]
def Gl:=uj [[0],[1,2]]
def ZI:FR:=⟨[],[16,18],3,V,[[1],[1,9],[2],[1,13],[2],[3,1],[18,3,16,17],[3,16,17,18,19],[3,16,17,18,5],[3,16,17,18,5,22],[2],[3,16,17,18,5,27],[2],[3,16,17,18,5,32],[2],[3,16,17,18],[18,3,16,17],[2]]⟩
def oZ:=dy [[0],[2]]
def Xg:=uj [[1,0],[5,1,3],[5,19],[2],[2]]
def Xh:=dy [[1],[5,1],[5,1,12],[2,3,4],[7,6],[2,3,4]]
def Xi:FR:=⟨[8],[],0,C,[[2,1,0],[3,4]]⟩
def Xj:FR:=⟨[],[24,59,61],0,C,[[0,3],[6,0,3],[6,0,3],[6,0,3,24],[6,0,3,24,25],[6,0,3,24,25],[6,0,3,28],[6,0,3,41],[4,5],[7,6,0,3],[7,6,0,3,55],[4,5],[61,0,59,60],[0,59,60,61,62],[0,59,60,61,9],[11,10,0,59,60,61],[11,10,0,59,60,61,72],[4,5],[61,0,59,60],[4,5]]⟩
def Xk:FR:=⟨[5,6],[],3,V,[[1],[4,1],[4,1,10],[2,3],[6,5,1],[6,5],[2,3]]⟩
def Xm:FR:=⟨[],[24,26,35,37],3,V,[[0,3],[0,3,15],[4],[0,3,21],[4],[5,0,3],[26,5,24,0,3,25],[5,24,0,3,25,26,27],[5,24,0,3,25,26,7],[5,24,0,3,25,26],[26,5,24,0,3,25],[8,0,5,3],[37,8,0,5,35,36],[8,0,5,35,36,37,38],[8,0,5,35,36,37,10,9],[8,0,5,35,36,37,10,9,45],[8,0,5,35,36,37,47],[4],[0,5,35,36,37,10,11,8],[0,5,35,36,37,10,11,8,60],[4],[0,5,35,36,37,10,11,71],[4],[8,0,5,35,36,37],[37,8,0,5,35,36],[4]]⟩
def Xn:=uj [[0],[2],[2,6],[1],[9],[1],[1]]
def Xo:FR:=⟨[],[9,11],0,C,[[2,0,1],[11,2,0,1,9,10],[2,0,1,9,10,11,12],[2,0,1,9,10,11,5],[7,2,0,1,9,10,11,6],[7,2,0,1,9,10,11,6,24],[3],[2,0,1,9,10,11],[11,2,0,1,9,10],[3]]⟩
def Xp:FR:=⟨[],[20,22],3,V,[[0,5,1],[8,0,5,1],[8,0,5,1,15],[6,7],[0,5,1,19],[6,7],[22,0,20,5,1,21],[0,20,5,1,21,22,23],[0,20,5,1,21,22,10],[0,20,5,1,21,22,35],[6,7],[22,0,20,5,1,21],[11,5,1,0],[11,5,1,0,40],[6,7],[6,7]]⟩
def Xq:FR:=⟨[],[24,26],3,V,[[1,2],[6,1,2],[6,1,2,14],[4,5],[1,2,18],[4,5],[7,1],[26,7,24,25],[7,24,25,26,27],[8,7,24,25,26,9],[8,7,24,25,26,9,10],[8,7,24,25,26,9,10,34],[10,8,7,24,25,26],[10,8,7,24,25,26,39],[4,5],[26,7,24,25],[4,5]]⟩
def Xr:FR:=⟨[],[37,39],0,V,[[1],[4,1],[4,1,15],[2,3],[5],[5,6],[5,6,22],[5,6],[9,5,6,8],[9,5,6,8,35],[2,3],[39,5,37,6,38],[37,6,38,39,5,40],[37,6,38,39,11,5],[37,6,38,39,11,5,46],[5,37,6,38,39],[39,5,37,6,38],[5,6,54],[2,3],[2,3]]⟩
def Cl:FR:=⟨[1],[],0,C,[[1],[2]]⟩
def Xt:=kF [[1],[4,1],[4,1,8],[2,3],[2,3]]
def Xu:FR:=⟨[],[51],3,V,[[3,2],[3,2,47],[4],[51,3,2,50],[3,2,50,51,52],[3,2,50,51,5],[3,2,50,51,65],[4],[51,3,2,50],[4]]⟩
def MX:FR:=⟨[],[13],3,V,[[1,0],[1,0,10],[4],[13,1,0,12],[1,0,12,13,14],[1,0,12,13,5],[1,0,12,13,24],[4],[13,1,0,12],[4]]⟩
def Xv:=dy [[1],[1,8],[2],[1,12],[2],[3,1],[1,3,17],[3,1],[1,3,4],[1,3,4,33],[2],[1,3,4,39],[2],[1,3,52],[2],[2]]
def Xw:=dy [[1,0],[5,1,0],[5,1,0,9],[5,1,0],[5,1,0,18],[4],[4]]
def Xx:=dy [[1,0],[0,1,20],[1,0],[4]]
def Xy:FR:=⟨[],[3],3,V,[[0],[3],[3,4],[3,4],[3,4],[3,4],[3,4],[3,4],[3,4],[3,4],[3,4],[3,4],[3,4],[3,4],[3,4],[3,4],[2],[19,3],[19,3],[19,3],[19,3],[19,3],[19,3],[19,3],[19,3],[19,3],[19,3],[19,3],[19,3],[19,3],[19],[2],[2]]⟩
def XA:=dy [[1,0],[5,1,0],[5,1,0,12],[4],[1,0,16],[4],[6,1,0],[6,1,0,20],[6,1,0],[7,6,1,0],[7,6,1,0,30],[4],[8,6,1,0],[6,1,0,8,34],[8,6,1,0],[6,1,0,8,47],[4],[1,0,6,63],[4],[4]]
def XB:=dy [[1],[5,1],[5,1,13],[2,3,4],[7,6,1],[7,8,6],[9,7,8,6],[8,9,7,6,20],[9,7,8,6],[8,9,7,6,27],[8,6,9,7],[8,6,9,7,41],[7,8,6,9],[2,3,4]]
def MY:=dy [[5,1,0],[8,7],[8,7,17],[6],[20],[6],[6]]
def XC:=dy [[1],[4,1],[4,1,13],[2,3],[5,1],[6,5,1],[5,1,6,20],[6,5,1],[5,1,6,7,8],[5,1,6,7,30],[9,6,5,1],[9,6,5,1,39],[2,3],[2,3]]
def XD:=dy [[1,0],[5,1,0],[1,0,5,9],[5,1,0],[1,0,5,18],[4],[4]]
def XE:=dy [[5,1,0],[8,5,1,0],[8,5,1,0,14],[6,7],[9,5,1,0],[9,5,1,0,20],[6,7],[10,5,1,0],[10,5,1,0,25],[6,7],[6,7]]
def XF:=dy [[1,2],[6,1,2],[6,1,2,14],[4,5],[1,2,18],[4,5],[7,1],[8,7,1],[8,7,1,27],[8,7,1],[9,8,7,1],[9,8,7,1,36],[4,5],[10,8,7,1],[10,8,7,1,46],[4,5],[4,5]]
def XG:=kF [[1],[4,1],[4,1,14],[2,3],[5],[5,6],[5,6,21],[5,6],[8,5,6,9],[8,5,6,34],[2,3],[10,8,5,6],[8,6,10,5,38],[10,8,5,6],[8,6,10,5,47],[8,5,6,10],[5,6,57],[2,3],[2,3]]
def XH:FR:=⟨[],[7],0,V,[[1],[1,3],[1,3,4],[1,3,4,7],[1,3,4,7,8],[1,3],[1,3,4],[1,3,4,7,22],[1,3,4,7,22],[1,3,4,7,22],[1,3,4,7,22],[1,3,4],[1,3,4,27],[1,3,4],[5,1,3,4],[1,4,5,3,34],[5,1,3,4],[1,3,4,5],[2]]⟩
def XJ:=kF [[1],[5,1],[5,1,14],[2,3,4],[6],[6,20],[2,3,4],[7,6],[7,6,8],[9,7,6,8],[6,9,7,8,24],[9,7,6,8],[6,9,10,7,8],[6,9,10,7,8],[6,9,10,7,8,38],[6,9,10,7,8,45],[2,3,4],[6,9,10,7,8],[6,9,10,7,8,56],[6,9,10,7,8],[6,8,9,10,7],[7,6,8,9],[2,3,4]]
def MZ:=dy [[3,0],[5,3,0],[5,3,0,9],[5,3,0],[5,3,0,17],[4],[4]]
def XK:=dy [[3,2],[3,2,47],[4],[5,3,2],[3,2,5,52],[5,3,2],[3,2,5,66],[4],[4]]
def XL:=dy [[3,2],[3,2,34],[4],[5,3,2],[3,2,5,39],[5,3,2],[3,2,5,53],[4],[4]]
def we:FR:=⟨[],[8],0,C,[[0,1],[8,0,1,7],[0,1,7,8,9],[5,0,1,7,8],[5,0,1,7,8,16],[4],[8,0,1,7],[4]]⟩
def M0:FR:=⟨[],[11,13],3,V,[[1],[5,4,1],[13,5,4,11,12],[11,12,13,5,4,14],[11,12,13,5,4,7],[11,12,13,9,5,8,4],[5,4,11,12,13],[13,5,4,11,12],[2,3]]⟩
def XN:FR:=⟨[],[16,18],0,C,[[1,2],[5,1,2],[5,1,2,13],[4],[18,1,16,17],[1,16,17,18,19],[1,16,17,18,7],[8,1,16,17,18],[8,1,16,17,18,26],[4],[18,1,16,17],[4]]⟩
def XP:FR:=⟨[],[73],3,V,[[1],[1,3,4],[1,3,17],[2],[1,22],[2],[1,6,5],[1,6,5,52],[2],[1,7,6,5],[1,7,6,5,66],[2],[1,8,7,6,5],[1,8,7,6,5,73],[9,1,8,7,6,5],[9,1,8,7,6,5,77],[2],[113],[2],[2]]⟩
def XQ:=dy [[1],[3,1],[3,1,9],[2],[4,1],[1,4,15],[4,1],[5,1,4],[5,1,4,25],[2],[2]]
def XR:=dy [[0,1],[5,0,1],[5,0,1,10],[5,0,1],[5,0,1,19],[4],[6,5,0,1],[5,0,1,6,22],[6,5,0,1],[5,0,1,6,33],[4],[4]]
def XS:FR:=⟨[],[19],3,V,[[0],[0,16],[2],[19,0,18],[0,18,19,20],[0,18,19,3],[0,18,19,33],[2],[19,0,18],[2]]⟩
def XU:FR:=⟨[],[13,15],3,V,[[0,1],[0,1,11],[4],[0,5,1],[15,0,5,13,14],[0,5,13,14,15,16],[0,5,13,14,15,7],[8,0,5,13,14,15,7],[8,0,5,13,14,15,7,23],[4],[0,5,13,14,15,7,28],[4],[0,5,13,14,15,7],[0,5,13,14,15,41],[4],[15,0,5,13,14],[4]]⟩
def XV:=dy [[1],[3,1],[3,1,10],[2],[6],[19],[2],[2]]
def XW:FR:=⟨[1,5,6,7,8,9],[18,29],3,V,[[1],[7,6,5,1],[7,6,5,11],[7,6,5,8],[7,6,5,8,9],[7,6,5,8,9,18],[7,6,5,8,9],[7,6,5,8,9],[7,6,5,8,29],[7,6,5],[7,6,5],[2,3,4]]⟩
def XX:FR:=⟨[3,4,5],[],0,C,[[2,3],[2,4,3],[2,5,4,3],[2,5]]⟩
def XY:=uj [[3,4,0,7,6],[3,4,0,7,6,14],[8],[3,4,0],[3,4,0,22],[3],[8]]
def XZ:FR:=⟨[],[52,54],3,V,[[3,2],[3,2,16],[3,2,5],[3,2,5,25],[4],[3,2,32,5],[3,2,32],[4],[54,3,52,53],[3,52,53,54,55],[3,52,53,54,7],[8,3,52,53,54],[8,3,52,53,54,62],[4],[54,3,52,53],[4]]⟩
def X0:FR:=⟨[],[10],0,V,[[4,3,2],[4,5,3,2],[4,5,3,2,10],[4,5,3,2,10,11],[4],[4,2,5,3,22],[4],[4]]⟩
def X1:FR:=⟨[],[22,24],3,V,[[3,2],[3,2,15],[4,5],[6,2,3],[24,6,2,22,3,23],[2,22,3,23,24,6,25],[2,22,3,23,24,6,8],[10,2,22,3,23,24,9,6],[10,2,22,3,23,24,9,6,35],[4,5],[6,2,22,3,23,24],[24,6,2,22,3,23],[11,3],[11,3,47],[4,5],[56],[4,5],[4,5]]⟩
def X2:FR:=⟨[1,3,4],[],0,V,[[1],[3,1],[3,6],[3,4],[3,4,10],[3],[3],[2]]⟩
def X3:FR:=⟨[],[19,21],0,V,[[1],[1,11],[2],[1,14],[2],[3,1],[21,3,19,20],[19,20,21,3,22],[19,20,21,5,3],[3,19,20,21],[21,3,19,20],[2]]⟩
def X4:FR:=⟨[1,2,3,4,5,6,7,8],[],0,V,[[2,3,4,1],[2,3,4,5,1],[2,3,4,6,5,1],[2,3,4,6,5,10],[2,3,4,6,5,7,12],[2,3,4,6,5,7,8],[2,3,4,6,5,7,8],[2,3,4,6,5,7,8,16],[2,3,4,6,5,7,8],[2,3,4,6,5,7,8,24],[2,3,4,6,5,7,8,28],[2,3,4],[2,3,4,6,5,7,8],[2,3,4,6,5,7],[2,3,4,6,5,7,41],[2,3,4,6,5],[2,3,4,6,5,48],[2,3,4],[2,3,4]]⟩
def M1:FR:=⟨[3],[],3,V,[[3,0],[4]]⟩
def X5:FR:=⟨[],[10,12,25],0,C,[[1,12,0,10,11],[1,0,10,11,12,13],[1,3,0,10,11,12,4],[6,1,3,5,0,10,11,12],[25,6,1,3,5,0,10,11,12,24],[6,1,3,5,0,10,11,12,24,25,26],[6,1,3,5,0,10,11,12,24,25,8],[6,1,3,5,0,10,11,12,24,25,9],[6,1,3,5,0,10,11,12,24,25,9],[6,1,3,5,0,10,11,12,24,25,9,39],[6,1,3,5,0,10,11,12,24,25],[25,6,1,3,5,0,10,11,12,24],[1,0,10,11,12,57],[1,12,0,10,11]]⟩
def X6:=kF [[1],[5,1],[5,1,9],[2,3,4],[2,3,4]]
def X7:FR:=⟨[1,2,5],[],3,V,[[2,1],[2,1,4,3],[2,1,4,13],[2],[2,1,15],[2],[2,17],[2,5],[2,6],[2,6,22],[2],[2]]⟩
def X8:FR:=⟨[],[7,19,21],0,V,[[1],[1,3],[1,3,7],[1,3,7,8],[1,3,7,8],[2],[3,1,7,16],[21,3,19,20],[19,20,21,3,22],[19,20,21,5,3],[3,19,20,21],[21,3,19,20],[1,3,7,30],[1,3],[2],[1,3,51,7],[1,3,51],[2],[2]]⟩
def X9:=dy [[0],[0,17],[2],[3,0],[0,3,21],[3,0],[0,3,40],[2],[2]]
def X':=dy [[1,2],[5,1,2],[5,1,2,10],[5,1,2],[5,1,2,20],[4],[4]]
def Ya:=dy [[1],[3,1],[3,1,11],[2],[4],[4,17],[2],[6,4,5],[7,6,4,5],[4,7,6,5,21],[7,6,4,5],[4,7,6,5,28],[4,7,6,5,35],[2],[4,5,7,6],[4,5,7,6,49],[4,5,7,6,56],[2],[6,4,5,7],[2]]
def Yb:=kF [[4,1,2],[4,6,1,2],[4,6,1,2,12],[4,5],[4,8,1,2,7],[4,8,1,2,7,22],[4,5],[4,1,2,37],[4,5],[4,5]]
def Yc:=dy [[3,2],[3,2,5],[3,2,6,5],[3,2,6,5,36],[4],[3,2,55],[4],[7,3,2],[3,2,7,60],[7,3,2],[8,3,2,7],[8,3,2,7,71],[4],[4]]
def Yd:=dy [[0,1],[0,1,8],[4],[5,0,1],[0,1,5,12],[5,0,1],[0,1,5,30],[4],[4]]
def Ye:=dy [[5,1,0],[5,1,0,16],[6,7],[8,5,1,0],[9,8,5,1,0],[5,1,0,9,8,27],[9,8,5,1,0],[11,5,1,0,9,10,8],[11,5,1,0,9,10,8,42],[6,7],[8,5,1,0,9],[12,5],[12,5,53],[6,7],[6,7]]
def Yf:=kF [[1],[3,1],[4,3],[5,4,3],[4,3,5,13],[5,4,3],[4,3,5,21],[6,5,4,3,7],[5,4,3,6,7,37],[5,4,3,7,6],[6,5,4,3,7],[4,5,6,3,54],[4,3,5],[2]]
def Yg:=kF [[1],[1,7],[2],[1,18],[2],[1,3],[4,1,3],[1,4,3,23],[4,1,3],[1,3,4],[2]]
def Yh:=dy [[1],[1,8],[2],[1,11],[2],[3],[4,3],[3,4,17],[4,3],[5,3,4],[5,3,4,26],[2],[2]]
def Yi:=kF [[1],[1,14],[2],[3,1],[3,1,31],[3,4,1],[3,4,1,36],[3,4,1],[3,4,1,5],[6,3,4,1,5],[4,1,5,6,3,48],[6,3,4,1,5],[4,1,5,6,7,3],[4,1,5,6,7,3,57],[4,1,5,6,7,3],[3,4,1,5,6],[2],[3,8,1],[3,9,8,1],[3,8,1,9,74],[3,9,8,1],[10,3,8,1,9],[11,10,3,8,1,9],[10,8,1,9,11,3,86],[11,10,3,8,1,9],[10,3,8,1,9,11],[2]]
def Yj:=dy [[3,2],[3,2,55],[4],[5,3,2],[3,2,5,60],[5,3,2],[3,2,5,74],[4],[4]]
def Ym:=dy [[0],[0,4],[2,3],[0,11],[2,3],[14],[2,3],[2,3]]
def Yn:FR:=⟨[],[4],3,V,[[0],[4],[4,5],[4,5],[2,3],[8,4],[8],[2,3],[2,3]]⟩
def Yo:=dy [[1],[3,1],[3,1,8],[2],[31],[2],[2]]
def Yp:FR:=⟨[],[8],3,V,[[0,1],[8,0,1,7],[0,1,7,8,9],[5,0,1,7,8],[5,0,1,7,8,16],[4],[8,0,1,7],[4]]⟩
def Yq:FR:=⟨[],[69],3,V,[[1],[1,3],[1,3,13],[2],[1,18],[2],[1,5,4],[1,5,4,48],[2],[1,6,5,4],[1,6,5,4,62],[2],[1,7,6,5,4],[1,7,6,5,4,69],[8,1,7,6,5,4],[8,1,7,6,5,4,74],[2],[1,7,6,5,4,95],[2],[130],[2],[2]]⟩
def Ys:FR:=⟨[1,2,4],[],3,V,[[2,1],[2,3,1],[2,3,1,8],[2],[2,11],[2,4],[2,15],[2],[2]]⟩
def Yt:FR:=⟨[],[19,21],0,C,[[6,5,4,2,3],[6,5,4,2,3],[6,5,4,17],[7],[21,6,5,4,19,20],[6,5,4,19,20,21,22],[6,5,4,19,20,21,9],[6,5,4,19,20,21,9,29],[7],[6,5,4,19,20,21,9,32],[6,5,4,19,20,21],[21,6,5,4,19,20],[7]]⟩
def Yu:=kF [[1,0],[5],[5],[4]]
def Yv:=dy [[3,2],[3,2,10],[4,5],[3,2,19],[4,5],[3,2,27],[4,5],[3,6],[3,6,44],[4,5],[7,3],[7,68],[4,5],[4,5]]
def Yw:FR:=⟨[],[8,10,14],3,V,[[1,0],[10,1,0,8,9],[1,0,8,9,10,11],[1,0,8,9,10,6],[1,0,8,9,10,6,7],[1,0,8,9,10,6,7,14],[1,0,8,9,10,6,7,14,15],[1,0,8,9,10,6,7,14,15],[1,0,8,9,10,6,7,14,15],[1,0,8,9,10,6,7,14,15],[1,0,8,9,10,7],[1,0,8,9,10,6,7,14,22],[1,0,8,9,10,6,7,14,22],[1,0,8,9,10,6,7,14,22],[1,0,8,9,10,7],[1,0,8,9,10,6,7,28],[1,0,8,9,10,7],[1,0,8,9,10,36],[4],[10,1,0,8,9],[4]]⟩
def Yx:FR:=⟨[],[],1,V,[]⟩
def Gf:FR:=⟨[],[],2,V,[]⟩
def Yy:FR:=⟨[1],[4],0,C,[[1],[1,4],[1,4,5],[2],[1,4,8],[1,4,8],[1,4,8],[2],[1,4,14],[2],[1,22],[2],[2]]⟩
def M3:=uj [[2,1],[3]]
def YA:=dy [[3,2],[3,2,45],[4],[4]]
def YB:FR:=⟨[],[64],3,V,[[1],[1,12],[2],[1,3],[1,3,17],[2],[1,3,32],[2],[1,3,64],[4,1,3],[4,1,3,69],[2],[112],[2],[2]]⟩
def YC:=dy [[0],[3,0],[0,3,7],[3,0],[0,3,15],[2],[2]]
def YD:=kF [[4,1,2],[4,1,6],[4,1,6,16],[4,5],[4,5]]
def YE:=kF [[6,5,3,1],[6,5,3,1,10],[6],[6,5,1,3],[6,5,1,7,3],[6,5,1,7,3,20],[6,5,1,7,3],[6,5,1,7,3,8],[6,5,1,7,3,8,32],[6],[6,5,1,3,7],[6,5,1,3,7,46],[6,5,1,3,7],[6]]
def YF:=dy [[1,0],[5,1,0],[1,0,5,9],[5,1,0],[1,0,5,17],[4],[4]]
def YG:=dy [[5,1,0],[5,1,0,12],[6,7],[5,1,0,20],[6,7],[5,1,0,28],[6,7],[5,8],[5,8,43],[6,7],[9,5],[9,67],[6,7],[6,7]]
def YH:=dy [[1,0],[5,1,0],[1,0,5,10],[5,1,0],[1,0,5,6],[1,0,5,38],[4],[4]]
def YI:=dy [[0],[8],[2],[2]]
def YJ:=kF [[1,0],[5,1,0],[6,5,1,0],[1,0,6,5,8],[6,5,1,0],[1,0,6,5,18],[5,1,0,6],[4]]
def YK:FR:=⟨[],[51],3,V,[[1],[1,14],[2],[1,17],[2],[1,5,4,3],[1,5,4,3,50],[2],[1,5,4,3,51],[6,1,5,4,3],[6,1,5,4,3,56],[2],[99],[2],[2]]⟩
def YL:=kF [[6,3,2,4],[6,3,2,4,7],[6,3,2,4,7,16],[6,3,2,4,7],[6,7,3],[6,7,3,31],[6],[6]]
def YM:FR:=⟨[],[],2,V,[[0,3],[0,5,3],[0,3,5,9],[0,5,3],[0,3,5,39],[4],[4]]⟩
def YN:FR:=⟨[],[7,35],0,V,[[2,3],[2,3,7],[2,3,7,8],[4],[3,2,7,16],[4],[3,2,7,24],[4],[2,3,32],[2,3,35],[5,2],[5],[4],[4],[4]]⟩
def YO:FR:=⟨[],[4],3,V,[[1],[1,4],[2],[1,4,5],[1,4,5],[1,10],[2],[1,11],[1,15],[2],[2]]⟩
def M6:=dy [[0,3],[4]]
def YR:FR:=⟨[],[3],3,V,[[0],[3],[3,4],[3,4],[3,4],[3,4],[3,4],[2],[3,10],[2],[12,3],[12,3],[12,3],[12,3],[12,3],[12,3],[12],[2],[2]]⟩
def YS:=dy [[0],[4,0],[2,3]]
def YT:=dy [[1],[1,10],[2],[1,13],[1,16],[2],[20],[2],[2],[1,23],[2],[46],[2],[2]]
def YU:=dy []
def M7:=uj []
def YV:FR:=⟨[],[12,14],0,C,[[1,2],[1,2,10],[4],[14,1,12,13],[1,12,13,14,15],[1,12,13,14,6],[1,12,13,14,21],[4],[14,1,12,13],[4]]⟩
def Gg:FR:=⟨[],[9,11,25,27],0,V,[[0],[3,0],[11,3,9,0,10],[9,0,10,11,3,12],[9,0,10,11,5,3],[3,9,0,10,11],[3,9,0,10,11,20],[3,9,0,10,11],[11,3,9,0,10],[6,0],[27,6,25,26],[25,26,27,6,28],[25,26,27,8,6],[6,25,26,27],[27,6,25,26],[2]]⟩
def M8:=dy [[2,1,0],[6]]
def YW:FR:=⟨[],[6],0,V,[[4,2,3],[4,2,3,6],[4,2,3,6,7],[4],[4,2,3,22],[4],[4]]⟩
def YY:FR:=⟨[],[3],3,V,[[0],[3],[3,4],[3,4],[3,4],[3,4],[2],[9,3],[9,3],[9],[2],[2]]⟩
def YZ:FR:=⟨[],[4],3,V,[[1],[1,4],[1,4,5],[2],[1,4,11],[1,4,11],[1,4,11],[2],[1,19],[2],[2]]⟩
def Y0:FR:=⟨[],[10],0,V,[[4,2,1],[4,2,1,7],[4],[4,1,2,10],[4],[4]]⟩
def Y1:FR:=⟨[],[6],0,V,[[2,3],[2,3,6],[4],[4]]⟩
def Y2:=kF [[6,4,5,0],[6,4,5],[6,4],[6]]
def Y3:FR:=⟨[],[42],0,V,[[4,2,3],[4,5,2,3],[4,5,2,3,6],[4,5,2,3,6,10],[4,5,2,3],[4,5,2,3,6],[4,5,2,3,6],[4,5,2,3,6,34],[4,5,2,3,6],[4,5,2,3,6,42],[4,5],[4],[4]]⟩
def Y5:=dy [[1],[1,3],[2],[1,17],[2],[31],[2],[2]]
def Y6:FR:=⟨[2,3,4,5,6],[8,10,27],0,C,[[2,1],[10,2,1,8,9],[2,1,8,9,10,11],[2,1,8,9,10,3,4],[2,1,8,9,10,3,4,21],[2,1,8,9,10,3,23],[2,1,8,9,10,5,3,25],[2,1,8,9,10,6,5,3],[2,1,8,9,10,6,5,3,27],[2,1,8,9,10,6,5,3,27,28],[2,1,8,9,10,6,5],[2,1,8,9,10,6,5,3,35],[2,1,8,9,10,6,5],[2,1,8,9,10,46],[10,2,1,8,9]]⟩
def Y7:=kF [[4,2,1],[4,2,5],[4,2,5,10],[4,5],[4,5,18],[4],[4]]
def Y8:FR:=⟨[],[11],0,V,[[6,1,5,0],[6,1,7,5],[6,1,7,5,11],[6,7],[6,7],[6]]⟩
def Y9:FR:=⟨[3,4,5],[],0,C,[[2,3,1],[2,3,7],[2,4,3,9],[2,5,4,3],[2,5,4,3,12],[25],[38]]⟩
def Y':FR:=⟨[2,3,4],[16,28],0,C,[[2,1],[2,1,10],[3,2,1,12],[4,3,2,1],[4,3,2,5,1],[4,3,2,5,1,16],[4,3,2,5,1],[4,3,2,5,1],[4,3,2,5,1,16,25],[4,3,2,5,1,28],[4,3,2,5,1],[4,3,2,1,37,16],[4,3,2,1,37],[4,3,2,5,1],[4,3,2,5,1],[4,3,2,5,1,50],[4,3,2],[61]]⟩
def Za:FR:=⟨[],[9,45],0,V,[[8,5,4,2,3],[8,5,4,2,9],[8,5,4,2],[8,5,4,2,25],[8,5,4,2],[8,5,4,2],[8,5,4,45],[8,5],[8]]⟩
def Zb:FR:=⟨[3,5],[],0,V,[[6,3,5,1],[6,3],[6]]⟩
def Zc:=kF [[2,0],[2,0,5],[2],[2]]
def Na:=kF [[1,0],[4]]
def Zg:=kF [[4,1,0],[4,1,0,7],[4],[4]]
def q0:=kF []
def frT:=[q0,q0,q0,q3,q4,q5,q6,q7,q7,q9,q9,Xl,Xs,Xz,XI,XM,XO,q4,q0,q0,q0,q0,Yk,Yl,Yr,Yz,M4,M5,yT,YP,M5,YQ,Gh,YX,M9,Y4,M9,M',q0,q0,Zd,Ze,Gi,wg,Zf,Zh,Zi,Zj,Zk,Gj,Zl,Gj,Zm,Nb,Zn,Gk,M4,Zo,Zp,Zq,yU,yT,yU,yT,yU,yT,Zr,Zs,Zt,Zu,Zv,Zw,Zx,Zy,M',q0,q0,q0,q0,q0,wg,yV,Nc,Zz,ZA,ZB,yV,q4,ZC,ZD,yV,ZE,Nd,ZF,ZG,ZH,Gl,ZI,oZ,oZ,yV,oZ,oZ,Gi,Xg,Xh,Xi,Xj,Gl,Xk,Gk,Xm,Nb,Xn,Xo,Xp,Gl,Xq,Xr,Cl,Xt,Xu,yU,MX,MX,Xv,Xw,oZ,Xx,Xy,XA,XB,q4,MY,XC,XD,XE,XF,XG,XH,XJ,MZ,XK,XL,q0,q0,q0,q0,q0,q0,q0,q0,q0,q0,q0,q0,q0,we,M0,XN,XP,wg,we,we,XQ,XR,XS,oZ,wg,we,Gj,Gk,XU,XV,XW,MY,XX,XY,XZ,X0,X1,X2,X3,X4,M1,X5,X6,M1,X7,X8,X9,X',oZ,Ya,q4,q4,q4,Yb,Yc,Yd,Ye,Yf,Yg,MZ,Yh,Yi,Yj,Gh,Gh,q0,q0,q0,q0,q0,q0,q0,q0,q0,q0,q0,q0,q0,q0,q0,q0,q0,q0,q0,q0,q0,q0,q0,q0,Ym,Yn,Yo,Yp,Yq,oZ,oZ,wg,Ys,Cl,Yt,Yu,Yv,Yw,Yx,Gf,Yy,yV,M3,yT,we,M3,YA,Nc,M0,YB,oZ,YC,YD,YE,YF,YG,YH,YI,YJ,YK,YL,YM,YN,q0,q0,q0,q0,q0,q0,q0,q0,q0,q0,q0,q0,q0,q0,q0,YO,q0,q0,q0,q0,q0,q0,q0,q0,q0,q0,q0,q0,q0,q0,q0,q0,q0,q0,q0,q0,q0,q0,M6,YR,YS,YT,M6,YU,M7,YV,Gg,q0,q0,M7,Cl,Gi,Cl,we,yU,M8,wg,YW,YY,YZ,q4,M8,Y0,Y1,Y2,Y3,q0,q0,q0,q0,q0,q0,q0,q0,q0,q0,q0,q0,q0,q0,q0,Y5,q0,q0,q0,q0,q0,q0,q0,q0,q0,q0,q0,q0,q0,q0,q0,q0,q0,q0,q0,q0,q0,q0,q0,q0,q0,q0,q0,q0,Y6,Y7,Y8,Y9,Y',Gg,Za,Zb,Zc,Na,Na,q0,q0,q0,q0,q0,q0,q0,q0,q0,q0,q0,q0,q0,q0,q0,q0,q0,q0,q0,q0,q0,q0,q0,q0,q0,q0,q0,q0,q0,q0,q0,q0,q0,q0,q0,q0,q0,q0,q0,q0,q0,q0,q0,q0,q0,q0,Nd,Gf,Zg,Gf,q0,Gg]
def fr:=nt q0 frT
def Ln:aA:=[.bool V,.bool V,.bool V,.bool C,.bool C,.bool C,.bool V,.bool C,.bool C,.bool C,.bool V,.bool V,.bool V,.bool C,.bool V,.bool V]
def Lp:aA:=[.int .i64 0,.int .i64 0,.bool V,.bool V,.bool C,.bool C,.int .i64 2,.int .i64 64,.bool C,.bool C,.bool C,.bool C,.int .i64 2,.int .i64 64,.bool C,.bool C,.bool C,.bool C,.int .i64 2,.int .i64 64,.bool C,.bool C,.bool C,.bool C,.int .i64 1,.int .i64 1,.bool C,.bool C,.bool C,.bool C,.int .i64 1,.int .i64 1,.bool V,.bool V,.bool V,.bool C,.int .i64 1,.int .i64 1,.bool C,.bool C,.bool V,.bool V,.int .i64 1,.int .i64 1,.bool C,.bool V,.bool C,.bool C,.int .i64 2,.int .i64 2,.bool C,.bool C,.bool C,.bool C,.int .i64 1,.int .i64 1,.bool V,.bool V,.bool V,.bool C,.int .i64 1,.int .i64 1,.bool C,.bool C,.bool V,.bool V]
def inL(l:an)(f:Nat):Bool:=l.any (aw f)
def mY:an->an->Bool|[],_=>V|a::s,b::t=>aw a b&&mY s t|_::_,[]=>C
def uO(s:an):Nat->an->ah Nat|i,[]=>bif mY s []then J i else Z|i,b::t=>bif mY s (b::t)then J i else uO s (i+1) t
def adj:DV->aA|.ay l _ _=>l|_=>[]
def rV(l:aA)(e n:Nat):DV:=match l with|[]=>.nl|_=>.ay l e n
def oC:DV->Int|.int _ n=>n|_=>0
def uQ:DV->Bool|.int .i64 _=>V|_=>C
def mg(l:aA):aA:=((l.map oC).mergeSort λx y=>decide (x<=y)).map (DV.int .i64)
def yf(l:aA):aA:=(tb (l.map oC)).map (DV.int .i64)
def E5(e s b:Nat):aA->ah SV|[.nl,.int .i64 (.ofNat n)]=>bif bV (n*b) bF&&bV n bF then J (bif aw n 0 then .dv .nl .any else .dv (.ay [] e s) (.ex e))else Z|_=>Z
def su(n:Nat):Bool:=cM n 1000000000
def cf:cj:={
 aq:=λg=>bif aw g 0 then J Ln else bif aw g 1 then J Lp else Z
 ko:=λf args=>bif aw f 315 then(match args with|[.str a,.str b]=>bif cM a.length 4294967281 then J (J (.dv (match uO b 0 a with|some i=>goN i|none=>.int .i64 (-1)) .no))else J Z|_=>J Z)else bif aw f 6 then(match args with|[]=>J (J (.dv (.bool V) .no))|_=>J Z)else bif aw f 370 then J (E5 3 1 8 args)else bif aw f 443 then J (E5 30 8 88 args)else bif aw f 476 then J (E5 174 2 16 args)else bif aw f 247 then J Z else bif aw f 248 then(match args with|[.nl]=>J (J (.dv .nl .no))|[.ay (x::l) 3 1]=>bif(x::l).all uQ&&su (x::l).length then J (J (.dv (rV (yf (x::l)) 3 1) .no))else J Z|_=>J Z)else bif aw f 440 then(match args with|[.ay l 32 14,.int .i64 (.ofNat 0),.ay [x] 32 14]=>bif su l.length then J (J (.dv (.ay (x::l) 32 14) .no))else J Z|_=>J Z)else bif aw f 442 then(match args with|[.ay l 32 14,.int .i64 (.ofNat i),.int .i64 (.ofNat j)]=>bif su l.length&&(cM i j&&bV j l.length)then J (J (.dv (.ay (l.take i++l.drop j) 32 14) .no))else J Z|_=>J Z)else Z
 eF:=λf=>(fr f).p
 uA:=λf=>(fr f).g
 BN:=λf=>(fr f).c
 ri:=λf=>aw f 186
 fk:=λf=>(fr f).k
 qh:=λf d z=>bif aw f 247 then(match d,z with|.nl,[]=>J (.nl,.tp [])|.ay (x::l) 3 1,[]=>bif(x::l).all uQ&&su (x::l).length then J (rV (mg (x::l)) 3 1,.tp [])else Z|_,_=>Z)else Z
 live:=λf=>nt [] ([]::(fr f).r)
 keep:=λf=>nt [] (fr f).r}
abbrev CC(n:Nat)(a:List DV)(v:bt):=ev PP cf (.call n a .no .empty)=J v
end Go.VM
