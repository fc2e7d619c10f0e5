/- Proved: bodies of functions on the abstract machine answer as the model runs them. -/
import Derived.Test.YtlpehfnaibndgaaGreatDoorAc
open Option renaming some->J,none->Z
open Bool renaming true->V,false->C
open Go renaming TypeId->an,Oper->aB,Value->aD,Program->aH,Operand->aK,World->aV,Code->bM,FuncId->bW,Frame->di,lone->ff,ResultVar->oK
open Go.Op renaming operands->eL
open Go.Region renaming binds->uo
open Go.stepG renaming exec->ug
open List renaming range->rq
open Nat renaming beq->aw,ble->bt,blt->ct,succ->fg
open Option renaming bind->sD
noncomputable section
set_option linter.all false
namespace Go.AM
open Go
variable{v:AV}{H H' H1 H2:Heap}{k:List Item}{cs:List di}{j m r:Nat}{S:Nat->Prop}{p:Pl}{rec:Rec}{tm:Tr AV}{a ord:aC}{u:aD}{w w' w0:aV}{t:an}{Y A:bc}{F F0:di}
section
variable{P:aH}{Y:bc}{H:Heap}{w:aV}
theorem aIe{z:cj}(W:nz P rec)(oU:jL P z)(hn:ru P)(gQ:JW P z rec)(PB:∀(n:Array aB)(t:Nat),vW n.toList=V->rl n (Region.schedule (P.follows .mixedOrders) n t)){f:cG}{o:Out}(q:f.mode=.run)(h:vm P z rec f H=J o)(i:bg H)(s:bQ gI Y H w)(m:iX P Y)(d:iW Y f F f.todo):kF P Y H w f F cs o:=by
 have N:=d.run q;have O:=d.todo q;have Q:∀(j:ah bM),age f.todo=j->(j=Z\/j=J .ret)->(∀(F:di)(cs:List di)(w:aV),F.mode=.run->F.todo=f.todo->F.roundOf=Z->(stepG P V {frame:=F,callers:=cs,status:=.running,dying:=Z} w).bare=.go {frame:={F with mode:=.returning},callers:=cs,status:=.running,dying:=Z} w)->(∀(F:di)(c:di)(rest:List di)(b:Nat)(v:aD)(w w':aV),F.mode=.run->F.todo=f.todo->F.roundOf=J b->F.kind=.normal->(Instr.endRound b j).run P w=.ok v w'->(stepG P V {frame:=F,callers:=c::rest,status:=.running,dying:=Z} w).bare=.go {frame:=c.finish v,callers:=rest,status:=.running,dying:=Z} w')->wC rec f H=J o->kF P Y H w f F cs o:=by
   intro j U hj wV Ac h;unfold wC at h;split at h;.rename_i u;have B:=step_lone_go (wV F cs w N O (d.aCw u));exact kF.after (fr1:={f with mode:=.returning}) i s (fW.refl i s) (Steps.one B) rfl rfl (W _ H o h Y w {F with mode:=.returning} cs i s m ⟨d.fn,d.tmps,λhh=>by grind[cG.Rq],d.defers,rfl,d.kind,d.round⟩)
   grind[agx]
 unfold vm at h;split at h;.rename_i g;refine Q Z (by rw[g];rfl) (.inl rfl) ?_ ?_ h;all_goals simp_all[stepG,ug,doReturn]
 .rename_i k g;refine Q (J .ret) (by rw[g];rfl) (.inr rfl) ?_ ?_ h;all_goals simp_all[stepG,ug,doReturn]
 iterate 5·rename_i g;exact aah W i s m q d (λF x D=>by simp_all[stepG,ug]) h
 . rename_i c a b k g;have hr:=Frame.reads F;rw[g]at O;unfold xL at h;split at h;iterate 2
     . rename_i T;have M:=(fH m hr (λt e=>by subst e;exact d.tmps.2 t) T).1;refine acD W i s m ?_ (d.to _) ?_ h;rotate_left;.rfl
       refine step_lone_go ?_;generalize H6:F.eval c=cv at M;cases M;simp_all[stepG,ug]
   simp_all
 iterate 4·rename_i g;exact aah W i s m q d (λF x D=>by simp_all[stepG,ug]) h
 . rename_i id k g;unfold xM at h;split at h;.rename_i k' kL;exact aah W i s m q d (λF x D=>by simp_all[stepG,ug]) h
   . rename_i kL;split at h;.simp_all
     . rename_i l u;split at h;.rename_i r y;cases h;exact agx (jump:=J (.exit id)) i s q d u y (λF c rest b v w' x D h3 h4 h5=>by simp_all[stepG,ug,doReturn])
       simp_all
 .grind[Zq]
 .grind[aG0]
 . rename_i k g;rw[g]at O;unfold A8 at h;split at h
   . rename_i l u;split at h
     . rename_i r y;split at h;.rename_i B;have G:=d.round;rw[u]at G;cases I:F.roundOf with|none=>grind[zr]|some b=>
        rw[I]at G;obtain⟨p,K,rfl⟩:=G;obtain⟨h0,R,x,L⟩:=Mj s K y;have E:=Wr i s (r':={r with state:=.busy}) {R with state:=.busy} K y ⟨rfl,L.pending,L.fn,L.tmps,L.params,L.assign,L.body,L.defers⟩;have S:R.state=.ready:=by rw[L.state,B]
        have X:(Instr.beginRound p.aZ).run P w=.ok () (World.eU w p.aZ (.loop {R with state:=.busy})):=by have e1:(getObj p.aZ).run P w=.ok (.loop R) w:=yH x aP;simp_all[Js,Instr.beginRound,Instr.getLoop]
        have A:step P (ff F cs w)=.next (ff {F with todo:=k} cs (World.eU w p.aZ (.loop {R with state:=.busy}))):=by
         refine step_lone_go ?_;have pI:F.finish undef={F with todo:=k}:=by grind[Frame.finish]
         simp[stepG,ug,N,O,I,stepG.apply,X,pI]
        exact kF.after (fr1:={f with todo:=k}) i s E (Steps.one A) rfl rfl (W _ _ o h Y _ _ cs E.1 E.2.1 m (d.to k))
       simp_all
     simp_all
   simp_all
 grind
theorem aMc(W:nz P rec){f:cG}{o:Out}(m:f.mode=.returning)(h:Ef P rec f H=J o)(i:bg H)(s:bQ gI Y H w)(k:iX P Y)(a:iW Y f F f.todo):kF P Y H w f F cs o:=by
 have I:=a.mode.trans m;unfold Ef at h;split at h;.grind
 . rename_i j;have r:=a.defers;split at h
   . rename_i d x hd;rw[hd]at r;rcases b:F.defers with _|⟨e,c⟩;.rw[b]at r;exact r.elim
     rw[b]at r;obtain⟨⟨p,l,rfl⟩,g⟩:=r;split at h;.rename_i t;obtain⟨w',t1,t3⟩:=aLg (P:=P) i s l t;have q:step P (ff F cs w)=.next (ff {F with defers:=c} cs w'):=step_lone_go (by simp_all[stepG,unwind]);exact kF.after i s t3 (Steps.one q) rfl rfl (W _ _ _ h Y w' _ cs t3.1 t3.2.1 k ⟨a.fn,a.tmps,a.todo,g,a.mode,a.kind,a.round⟩)
     grind
   . rename_i hd;have b:F.defers=[]:=by
      rw[hd]at r;rcases b:F.defers with _|⟨e,c⟩;.rfl
      rw[b]at r;exact r.elim
     rw[Ub]at h;obtain⟨fn,y,h⟩:=aE h;simp only[iI]at h;obtain⟨v,n,rfl⟩:=h;obtain⟨u,r1,r2⟩:=aHG s a n;exact⟨Y,w,u,fW.refl i s,r2,λ_=>⟨F,Steps.refl P _,rfl,I,b,a.kind,fn,by rw[a.fn];omega,r1⟩,λD=>absurd j D⟩
theorem amO{a:cj}(e:nz P rec)(U:jL P a)(n:ru P)(g:JW P a rec)(B:∀(o:Array aB)(t:Nat),vW o.toList=V->rl o (Region.schedule (P.follows .mixedOrders) o t)):nz P (body P a rec):=by intro fr H out h Y w F cs i s c b;grind[body,aIe,aMc]
theorem aH1{a:cj}(U:jL P a)(b:ru P)(g:∀rec,nz P rec->JW P a rec)(B:∀(o:Array aB)(t:Nat),vW o.toList=V->rl o (Region.schedule (P.follows .mixedOrders) o t)):∀n,nz P (AM.run P a n):=by intro n;induction n with|zero=>intro fr H out h;simp_all[AM.run]|succ n i=>exact amO i U b (g _ i) B
end
inductive Kind where|skip|quiet|act deriving DecidableEq
structure dg where
 fr:Nat->cG
 H:Nat->Heap
 H':Nat->Heap
 v:Nat->AV
 K:Nat->Kind
def dg.gE(R:dg)(P:aH)(i:Nat)(o:aB):jt:=⟨eC P (R.fr i).tmps (R.H i) o,(R.H' i).bV⟩
structure J8(P:aH)(ak:cj)(rec:Rec)(ops:Array aB)(R:dg)(i:Nat)(o:aB):Prop where
 slot:ta (R.fr i) o.dst (R.v i)=J (R.fr (i+1))skip:R.K i=.skip->wi ops (R.fr i).tmps o=J C/\R.v i=fC/\R.H (i+1)=R.H i
 run:R.K i≠.skip->wi ops (R.fr i).tmps o=J V/\fB P ak rec (R.fr i).tmps (R.H i).fresh o=J (.val (R.v i) (R.H' i))quiet:R.K i=.quiet->oA o.op=V/\R.H (i+1)=R.H i
 act:R.K i=.act->oA o.op=C/\R.H (i+1)=(R.H i).resume (R.H' i)/\rJ ops o i (R.gE P i o) (R.H' i)=V/\sZ o (R.H' i)=V/\within (R.gE P i o)=V
structure J'(P:aH)(ak:cj)(rec:Rec)(ops:Array aB)(R:dg):Prop where
 step:∀(i:Nat)(o:aB),ops[i]?=J o->J8 P ak rec ops R i o
 pair:∀(i k:Nat)(o q:aB),ops[i]?=J o->ops[k]?=J q->i<k->R.K i=.act->R.K k=.act->apart (R.gE P i o) (R.gE P k q)=V\/rh ops.toList i k=V
section
variable{P:aH}{ak:cj}{rec:Rec}{ops:Array aB}
def dg.put(R:dg)(j:Nat)(f:cG)(a b:Heap)(d:AV)(c:Kind):dg:={fr:=λi=>if i=j then f else R.fr i,H:=λi=>if i=j then a else R.H i,H':=λi=>if i=j then b else R.H' i,v:=λi=>if i=j then d else R.v i,K:=λi=>if i=j then c else R.K i}
theorem Gf{o:aB}{l:List aB}{g:List (Nat×jt)}{f:cG}:vZ P ak rec ops (o::l) j g f H=(wi ops f.tmps o).bind λw=>bif !w then(ta f o.dst fC).bind λf=>vZ P ak rec ops l (fg j) g f H else(fB P ak rec f.tmps H.fresh o).bind λ|.val v H'=>(ta f o.dst v).bind λE=>bif oA o.op then vZ P ak rec ops l (fg j) g E H else bif lu (λ(e:Nat×jt)=>apart e.2 ⟨eC P f.tmps H o,H'.bV⟩||rh ops.toList e.1 j) g&&(rJ ops o j ⟨eC P f.tmps H o,H'.bV⟩ H'&&(sZ o H'&&within ⟨eC P f.tmps H o,H'.bV⟩))then vZ P ak rec ops l (fg j) ((j,⟨eC P f.tmps H o,H'.bV⟩)::g) E (H.resume H')else Z:=by simp[vZ,ajP]
theorem aMx:∀(l:List aB)(j:Nat)(g:List (Nat×jt))(fr:cG)(H:Heap)(r:AZ),ops.toList.drop j=l->vZ P ak rec ops l j g fr H=J r->∃R:dg,R.fr j=fr/\R.H j=H/\r=.next (R.fr (j+l.length)) (R.H (j+l.length))/\(∀(i:Nat)(o:aB),j<=i->ops[i]?=J o->J8 P ak rec ops R i o)/\(∀(i k:Nat)(o q:aB),j<=i->ops[i]?=J o->ops[k]?=J q->i<k->R.K i=.act->R.K k=.act->apart (R.gE P i o) (R.gE P k q)=V\/rh ops.toList i k=V)/\(∀(e:Nat×jt)(k:Nat)(q:aB),e∈g->j<=k->ops[k]?=J q->R.K k=.act->apart e.2 (R.gE P k q)=V\/rh ops.toList e.1 k=V):=by intro l;induction l with
 |nil=>
 intro j g fr H r I h;cases h;have O:ops.size<=j:=by simp_all
 have A:∀(i:Nat)(o:aB),j<=i->ops[i]?=J o->False:=λi o d p=>by grind
 exact⟨⟨λ_=>fr,λ_=>H,λ_=>H,λ_=>fC,λ_=>.skip⟩,rfl,rfl,rfl,λi o d p=>(A i o d p).elim,λi k o q d p=>(A i o d p).elim,λe k q _ b m=>(A k q b m).elim⟩|cons o l z=>
 intro j g fr H r I h;have p:ops[j]?=J o:=by have:(ops.toList.drop j)[0]?=J o:=ai;grind
 have Y:ops.toList.drop (j+1)=l:=by have:(ops.toList.drop j).drop 1=l:=ai;grind[D2]
 have a:=h;simp only[Gf]at a;clear h;have u:∀(f:cG)(H1 n:Heap)(v:AV)(K:Kind)(y:List (Nat×jt))(R:dg),R.fr (j+1)=f->R.H (j+1)=H1->r=.next (R.fr (j+1+l.length)) (R.H (j+1+l.length))->(∀(i:Nat)(o:aB),j+1<=i->ops[i]?=J o->J8 P ak rec ops R i o)->(∀(i k:Nat)(o q:aB),j+1<=i->ops[i]?=J o->ops[k]?=J q->i<k->R.K i=.act->R.K k=.act->apart (R.gE P i o) (R.gE P k q)=V\/rh ops.toList i k=V)->(∀(e:Nat×jt)(k:Nat)(q:aB),e∈y->j+1<=k->ops[k]?=J q->R.K k=.act->apart e.2 (R.gE P k q)=V\/rh ops.toList e.1 k=V)->(∀e,e∈g->e∈y)->(K=.act->(j,(⟨eC P fr.tmps H o,n.bV⟩:jt))∈y)->(K=.act->∀e,e∈g->apart e.2 ⟨eC P fr.tmps H o,n.bV⟩=V\/rh ops.toList e.1 j=V)->J8 P ak rec ops (R.put j fr H n v K) j o->∃R:dg,R.fr j=fr/\R.H j=H/\r=.next (R.fr (j+(o::l).length)) (R.H (j+(o::l).length))/\(∀(i:Nat)(o:aB),j<=i->ops[i]?=J o->J8 P ak rec ops R i o)/\(∀(i k:Nat)(o q:aB),j<=i->ops[i]?=J o->ops[k]?=J q->i<k->R.K i=.act->R.K k=.act->apart (R.gE P i o) (R.gE P k q)=V\/rh ops.toList i k=V)/\(∀(e:Nat×jt)(k:Nat)(q:aB),e∈g->j<=k->ops[k]?=J q->R.K k=.act->apart e.2 (R.gE P k q)=V\/rh ops.toList e.1 k=V):=by
  intro f H1 n v K y R e1 e2 e3 e4 e5 e6 e7 e8 e9 Em;have hd:∀(i:Nat)(q:aB),i≠j->(R.put j fr H n v K).gE P i q=R.gE P i q:=λi q d=>by grind[dg.gE,dg.put]
  have x:∀i,i≠j->(R.put j fr H n v K).K i=R.K i:=λi d=>by grind[dg.put]
  have G:∀q,(R.put j fr H n v K).gE P j q=⟨eC P fr.tmps H q,n.bV⟩:=λq=>by simp[dg.gE,dg.put]
  have F:(R.put j fr H n v K).K j=K:=by simp[dg.put]
  refine⟨R.put j fr H n v K,by simp[dg.put],by simp[dg.put],?_,?_,?_,?_⟩;.grind[dg.put]
  . intro i q d m;by_cases c:i=j;.grind
    . have s:=e4 i q ab m;have t:¬(i+1=j):=ab;refine⟨?_,?_,?_,?_,?_⟩;.simpa[dg.put,c,t]using s.slot
      .intro b;rw[x i c]at b;simpa[dg.put,c,t]using s.skip b
      .intro b;rw[x i c]at b;simpa[dg.put,c,t]using s.run b
      .intro b;rw[x i c]at b;simpa[dg.put,c,t]using s.quiet b
      .intro b;rw[x i c]at b;have:=s.act b;grind[dg.put]
  .grind
  .intro e k q D b m N;grind
 obtain⟨w,L,a⟩:=aE a;cases w with
 |false=>
  simp only[y8,aR]at a;obtain⟨f,E,a⟩:=aE a;obtain⟨R,e1,e2,e3,e4,e5,e6⟩:=z (j+1) g f H r Y a;refine u f H H fC .skip g R e1 e2 e3 e4 e5 e6 (λe h=>h) (λh=>ai) (λh=>ai) ⟨?_,?_,?_,?_,?_⟩;.grind[dg.put]
  .grind[dg.put]
  all_goals simp[dg.put]|true=>simp only[y9,bX]at a;obtain⟨⟨v,H'⟩,M,a⟩:=aE a;obtain⟨f,E,a⟩:=aE a;cases m:oA o.op with
  |true=>
    rw[m]at a;simp only[aR]at a;obtain⟨R,e1,e2,e3,e4,e5,e6⟩:=z (j+1) g f H r Y a;refine u f H H' v .quiet g R e1 e2 e3 e4 e5 e6 (λe h=>h) (λh=>ai) (λh=>ai) ⟨?_,?_,?_,?_,?_⟩;.grind[dg.put]
    .simp[dg.put]
    .grind[dg.put]
    .grind[dg.put]
    simp[dg.put]|false=>rw[m]at a;simp only[bX]at a;generalize B:(lu (λ(e:Nat×jt)=>apart e.2 ⟨eC P fr.tmps H o,H'.bV⟩||rh ops.toList e.1 j) g&&(rJ ops o j ⟨eC P fr.tmps H o,H'.bV⟩ H'&&(sZ o H'&&within ⟨eC P fr.tmps H o,H'.bV⟩)))=cond at a;cases cond with|false=>grind|true=>
      simp only[aR]at a;simp only[gu,qB,AW,AR]at B;obtain⟨R,e1,e2,e3,e4,e5,e6⟩:=z (j+1) _ f _ r Y a;refine u f _ H' v .act _ R e1 e2 e3 e4 e5 e6 (λe h=>jR _ h) (λ_=>gv) (λ_ e D=>B.1 e D) ⟨?_,?_,?_,?_,?_⟩;.simpa[dg.put,e1]using E
      .intro b;simp[dg.put]at b
      .intro _;simp[dg.put,L,M]
      .intro b;simp[dg.put]at b
      grind[dg.gE,dg.put]
theorem aMy{f:cG}{r:AZ}(h:vZ P ak rec ops ops.toList 0 [] f H=J r):∃R:dg,R.fr 0=f/\R.H 0=H/\r=.next (R.fr ops.size) (R.H ops.size)/\J' P ak rec ops R:=by obtain⟨R,e1,e2,e3,e4,e5,_⟩:=aMx _ 0 [] f H r (by rfl) h;exact⟨R,e1,e2,ai,⟨λi o a=>e4 i o ab a,λi k o q a b=>e5 i k o q ab a b⟩⟩
end
def gC(H a:Heap):Prop:=H.tr=a.tr/\H.dp=a.dp/\H.next=a.next
theorem gC.refl(H:Heap):gC H H:=⟨rfl,rfl,rfl⟩
def gC.symm{a b:Heap}(h:gC a b):gC b a:=⟨h.1.symm,h.2.1.symm,h.2.2.symm⟩
def gC.trans{a b c:Heap}(h:gC a b)(k:gC b c):gC a c:=⟨h.1.trans k.1,h.2.1.trans k.2.1,h.2.2.trans k.2.2⟩
theorem gC.get{a b:Heap}(h:gC a b)(i:Nat):a.get i=b.get i:=by unfold Heap.get;rw[h.1]
theorem gC.bp{a b:Heap}(h:gC a b)(r:Nat):a.bp r=b.bp r:=by unfold Heap.bp;rw[h.2.1]
theorem gC.root{a b:Heap}(h:gC a b)(i:Nat):rootOf a i=rootOf b i:=by unfold rootOf;rw[h.get]
theorem gC.ro{a b:Heap}(h:gC a b)(i:Nat):fM a i↔fM b i:=by unfold fM;rw[h.get]
theorem gC.alive{a b:Heap}(h:gC a b)(i:Nat):je a i↔je b i:=by
 unfold je;rw[h.get];constructor;.intro x l r f e g;rw[<-h.bp];grind
 .intro x l r f e g;rw[h.bp];grind
theorem gC.fresh(H:Heap):gC H.fresh H:=⟨rfl,rfl,rfl⟩
def gC.resume(a H:Heap):gC (a.resume H) H:=⟨rfl,rfl,rfl⟩
theorem Stat.DG{n:Nat}(c:gC H1 H2)(h:Stat Y H1 n):Stat Y H2 n where
 cC:=λid p e=>by rw[<-c.get];exact h.cC id p e
 len:=λid p l r f e a b=>h.len id p l r f e a (by rw[c.get];exact b)
 inj:=λi j p q a b e ro=>by rw[<-c.root,<-c.root];exact h.inj i j p q a b e (λx=>ro ((c.ro i).1 x))
 mono:=λi j p q a b e ro k=>h.mono i j p q a b e (ro.imp (λx y=>x ((c.ro i).1 y)) (λx y=>x ((c.ro j).1 y))) k
theorem bQ.DG(c:gC H1 H2)(h:bQ S Y H1 w):bQ S Y H2 w:=⟨h.stat.DG c,λid p o a b e g=>h.obj id p o a (by rw[c.root];omega) ((c.alive id).2 e) (by rw[c.get];omega)⟩
theorem bg.DG(c:gC H1 H2)(h:bg H1)(t:H2.bA<=H2.next):bg H2 where
 get:=λid o g=>by rw[<-c.2.2];exact h.get id o (by rw[c.get];exact g)
 root:=λid l r a e g=>by rw[<-c.bp];exact h.root id l r a e (by rw[c.get];exact g)
 oB:=λid l r a e g=>by obtain⟨i,b,d,x⟩:=h.oB id l r a e (by rw[c.get];exact g);exact⟨i,b,d,by rw[<-c.get];exact x⟩
 dp:=λr f g=>by rw[<-c.2.2];exact h.dp r f (by rw[c.2.1];exact g)
 bA:=t
theorem bg.fresh(h:bg H):bg H.fresh:=h.DG (gC.fresh H).symm (bS _)
structure AF(H H':Heap):Prop where
 inv:bg H'
 next:H.next<=H'.next
 root:∀id,id<H.next->rootOf H' id=rootOf H id
 view:∀id o,id<H.next->rootOf H id∉H'.bV->H.get id=J o->H'.get id=J o/\(je H id↔je H' id)ro:∀id,id<H.next->fM H id->fM H' id
 keep:∀id o,id<H.next->H.get id=J o->∃o',H'.get id=J o'/\rk o o'
theorem AF.of(i:bg H)(h:fW Y H.fresh w A H' w'):AF H H' where
 inv:=h.1
 next:=h.2.2.next
 root:=λid hid=>h.2.2.root id hid
 view:=λid o hid d g=>by obtain⟨a,b,c⟩:=h.2.2.view id o hid (qZ i hid) d g;exact⟨a,b,c⟩
 ro:=λid hid hr=>h.2.2.ro id hid hr
 keep:=λid o hid g=>h.2.2.keep id o hid g
theorem AF.aiH(i:bg H')(c:gC H H'):AF H H' where
 inv:=i
 next:=Nat.le_of_eq c.2.2
 root:=λid _=>(c.root id).symm
 view:=λid o _ _ h=>⟨by rw[<-c.get];exact h,c.alive id⟩
 ro:=λid _ hr=>(c.ro id).1 hr
 keep:=λid o _ h=>⟨o,by rw[<-c.get];exact h,rk.refl o⟩
section
variable{P:aH}{ak:cj}{rec:Rec}{ops:Array aB}
def KH(H:Heap)(x:ah fh):Prop:=∀v H',x=J (.val v H')->H'=H
theorem KH.n:KH H Z:=λ_ _ h=>ai
def KH.o(v:ah AV):KH H (eY H v):=λ_ _ h=>(mJ h).2.symm
theorem KH.b{b:Type}{x:ah b}{f:b->ah fh}(h:∀a,KH H (f a)):KH H (x.bind f):=λ_ _ g=>by obtain⟨a,_,c⟩:=aE g;exact h a _ _ c
theorem KH.c{c:Bool}{a b:ah fh}(h:KH H a)(d:KH H b):KH H (bif c then a else b):=ai
theorem aGU{o:aB}(q:oA o.op=V)(h:dS P ak tm H o=J (.val v H')):H'=H:=by suffices KH H _ from this _ _ h;unfold dS;split<;>first
 |(rename_i e;rw[e]at q;cases q;done)
 | (try simp only[DW,Cj,Cf,DX,GC,GN,GK,DS,GI,Ch,DT,JS]
    repeat' first|exact KH.n|exact KH.o _|(apply KH.b;intro a)|apply KH.c|(dsimp only;done)|split)
theorem aE2{o:aB}(h:fB P ak rec tm H o=J (.val v H')):∀c,o.op≠.defer c:=by grind[fB,dS]
theorem Wd{o:aB}(q:oA o.op=V)(h:fB P ak rec tm H o=J (.val v H')):H'=H:=by obtain⟨x,a,h⟩:=aE h;obtain⟨b,H1,rfl⟩:=TQ (λc e=>by grind[oA]) x a;grind[aGU]
def dg.HX(R:dg)(i:Nat):Heap:=match R.K i with|.act=>R.H' i|_=>(R.H i).fresh
theorem aj9{R:dg}(a:J' P ak rec ops R){i:Nat}{o:aB}(b:ops[i]?=J o):gC (R.H (i+1)) (R.HX i):=by
 have s:=a.step i o b;unfold dg.HX;rcases h:R.K i with _|_|_;.rw[(s.skip h).2.2];exact(gC.fresh _).symm
 .rw[(s.quiet h).2];exact(gC.fresh _).symm
 rw[(s.act h).2.1];simp[gC.resume]
theorem aMz(I:nz P rec)(oU:jL P ak)(T:ru P){R:dg}(B:J' P ak rec ops R){cs:List di}(Q:bg (R.H 0))(hs:bQ gI Y (R.H 0) w)(O:iX P Y)(S:(R.fr 0).mode=.run)(hF:iW Y (R.fr 0) F (.inRegion ops (List.range' 0 ops.size)::k)):∀j,j<=ops.size->(∃A w' E,bg (R.H j)/\bQ gI A (R.H j) w'/\Ext Y A/\(∀id,(R.H 0).next<=id->id<(R.H j).next->∃p,A id=J p)/\iW A (R.fr j) E (.inRegion ops (List.range' j (ops.size-j))::k))/\jT (R.fr 0) (R.fr j)/\(R.fr j).defers=(R.fr 0).defers/\(R.fr j).n=(R.fr 0).n/\(R.fr j).fn=(R.fr 0).fn/\(∀i,i<j->AF (R.H i) (R.HX i)):=by intro j;induction j with|zero=>intro _;exact⟨⟨Y,w,F,Q,hs,Ext.refl Y,λid q g=>ab,ab⟩,⟨S,rfl,rfl⟩,rfl,rfl,rfl,λi h=>ab⟩|succ j ih=>
 intro hj;obtain⟨⟨A,w1,G,n,s1,x1,v1,f1⟩,m,m3,m4,m5,L⟩:=ih ab;have f:ops[j]?=J _:=nr ab;generalize ops[j]=o at f;have st:=B.step j o f;obtain⟨sm,sd,sn,sf⟩:=aJa st.slot m.mode;have M:=aj9 B f;have W:List.range' j (ops.size-j)=j::List.range' (j+1) (ops.size-(j+1)):=by have:ops.size-j=(ops.size-(j+1))+1:=ab;grind[List.range'_succ]
 rw[W]at f1;have s:jT _ _/\(R.fr _).defers=(R.fr 0).defers/\(R.fr _).n=(R.fr 0).n/\(R.fr _).fn=(R.fr 0).fn:=⟨m.trans sm,sd.trans m3,sn.trans m4,sf.trans m5⟩;by_cases K:R.K j=.skip
 . obtain⟨q,g,x⟩:=st.skip K;have r:=st.slot;rw[g]at r;obtain⟨g1,_⟩:=O3 f m.mode r f1 JJ;refine⟨ai,s.1,s.2.1,s.2.2.1,s.2.2.2,λi kK=>?_⟩;by_cases e:i=j
   . subst e;have:R.HX i=(R.H i).fresh:=by grind[dg.HX]
     rw[this];exact AF.aiH n.fresh (gC.fresh _).symm
   grind
 . obtain⟨q,g⟩:=st.run K;have tI:=f1.run m.mode;have tO:=f1.todo m.mode;have hw:=JO q (λa b d _ _=>f1.tmps.2 d);have vD:∀y,y∈o.op.operands.toList->fj A _ G.eval y:=λy _ t e=>by subst e;exact f1.tmps.2 t
   have X:=Wf (cs:=cs) I oU T n.fresh (s1.DG (gC.fresh _).symm) (O.mono x1) tI tO f hw vD g;obtain⟨χ,w2,u,c,v2,_⟩:=X;have N:gC (R.HX j) (R.H' j):=by
     unfold dg.HX;rcases l:R.K j with _|_|_;.grind
     .rw[Wd (st.quiet l).1 g];simp[gC.refl]
     simp[gC.refl]
   obtain⟨g1,_⟩:=O3 f m.mode st.slot (f1.mono c.2.2.ext) v2;have H:AF (R.H j) (R.HX j):=by
     unfold dg.HX;rcases l:R.K j with _|_|_;.grind
     .exact AF.aiH n.fresh (gC.fresh _).symm
     grind[AF.of]
   have D:(R.H (j+1)).bA<=(R.H (j+1)).next:=by
     rcases l:R.K j with _|_|_;.grind
     .rw[(st.quiet l).2];exact n.bA
     rw[(st.act l).2.1];show(R.H j).bA<=(R.H' j).next;have:=c.2.2.next;exact gw n.bA this
   refine⟨⟨χ,w2,_,(c.1.DG (M.trans N).symm D),c.2.1.DG (M.trans N).symm,x1.trans c.2.2.ext,?_,g1⟩,s.1,s.2.1,s.2.2.1,s.2.2.2,λi kK=>?_⟩;rotate_left;by_cases e:i=j;.grind
   .grind
   intro id x z;rw[(M.trans N).2.2]at z;by_cases v:id<(R.H j).next;.obtain⟨p,U⟩:=v1 id x v;exact⟨p,c.2.2.ext _ _ U⟩
   .exact c.2.2.cover id (Nat.le_of_not_lt v) z
end
inductive sB(ops:Array aB):Nat->Nat->Prop where|cJ{i j:Nat}{o:aB}{e:Edge}(ho:ops[j]?=J o)(he:e∈o.after.toList)(hb:uo .any e=V)(hi:e.on=i):sB ops i j|trans{i j:Nat}{o:aB}{e:Edge}(ho:ops[j]?=J o)(he:e∈o.after.toList)(hb:uo .any e=V)(h:sB ops i e.on):sB ops i j
theorem rl.Cx{p:Array aB}(h:rl p ord){i:Nat}(g:sB p i j):∀(a b:aC),ord=a++j::b->i∈a:=by induction g with|cJ f d c k=>intro a b e;rw[<-k];exact h.before a b _ _ e f _ d c|@trans j o x f d c _ q=>intro a b e;have m:=h.before a b _ _ e f _ d c;obtain⟨l,n,rfl⟩:=J0 m;grind
section
variable{ops:Array aB}
theorem aeg{b:Type}{Q:b->Nat->Prop}(g:Bool×Nat->b->Bool×Nat)(d:∀p a,(g p a).2=p.2+1)(c:∀p a,(g p a).1=V->p.1=V/\Q a p.2):∀(l:List b)(p:Bool×Nat),(fS g l p).1=V->p.1=V/\∀(i:Nat)(a:b),l[i]?=J a->Q a (p.2+i):=by intro l;induction l with|nil=>simp[pF]|cons a l e=>intro p h;rw[pF]at h;simp only[AX]at h;rw[<-pF]at h;grind
theorem aLi(n i:Nat):aw (Nat.mod (Nat.shiftRight n i) 2) 1=n.testBit i:=by rw[bR];have:Nat.mod _ 2=(n>>>i)%2:=rfl;simp_all
def amb(a:Tr Nat)(i j:Nat):AM.before a i j=((a.get j).getD 0).testBit i:=aLi _ _
theorem ald(t:Tr Nat)(i:Nat):∀(l:List Edge)(s:Nat),(fS (λs(e:Edge)=>bif uo .any e then Nat.lor s (Nat.lor (Nat.shiftLeft 1 e.on) ((t.get e.on).getD 0))else s) l s).testBit i=V->s.testBit i=V\/∃e,e∈l/\uo .any e=V/\(e.on=i\/((t.get e.on).getD 0).testBit i=V):=by intro l;induction l with|nil=>simp[pF]|cons e l c=>
 intro s h;rw[pF]at h;simp only[AX]at h;rw[<-pF]at h;rcases c _ h with a|⟨d,a,f,g⟩;.cases b:uo .any e with|false=>simp_all|true=>rw[b]at a;simp only[aR]at a;have e1:Nat.lor s (Nat.lor (Nat.shiftLeft 1 e.on) ((t.get e.on).getD 0))=s|||(1<<<e.on|||((t.get e.on).getD 0)):=rfl;grind[Nat.one_shiftLeft]
 grind
theorem alB:∀(l:List aB)(m:Nat)(t:Tr Nat),ops.toList.drop m=l->(∀j i,j<m->((t.get j).getD 0).testBit i=V->sB ops i j)->(∀j,m<=j->t.get j=Z)->∀j i,(((fS (λ(p:Tr Nat×Nat)(o:aB)=>(p.1.ins p.2 (fS (λs(e:Edge)=>bif uo .any e then Nat.lor s (Nat.lor (Nat.shiftLeft 1 e.on) ((p.1.get e.on).getD 0))else s) o.after.toList 0),fg p.2)) l (t,m)).1.get j).getD 0).testBit i=V->sB ops i j:=by intro l;induction l with|nil=>grind[pF]|cons o l u=>
 intro m t g n r j i h;have k:ops[m]?=J o:=by
   have:(ops.toList.drop m)[0]?=J o:=by rw[g];rfl
   rw[xD]at this;simpa using this
 have v:ops.toList.drop (m+1)=l:=by
   have:(ops.toList.drop m).drop 1=l:=by rw[g];rfl
   rw[D2]at this;exact this
 rw[pF]at h;simp only[AX]at h;rw[<-pF]at h;refine u (m+1) _ v ?_ ?_ j i h
 . intro q d I b;by_cases e:m=q
   . subst e;rw[Tr.lF]at b;simp only[D9]at b;rcases ald t d o.after.toList 0 b with c|⟨e,c,f,a⟩;.simp at c
     . rcases a with a|a;.exact .cJ k c f a
       . by_cases Y:e.on<m;.exact .trans k c f (n e.on d Y a)
         .rw[r e.on ab]at a;simp at a
   .rw[Tr.jy _ _ e]at b;exact n q d ab b
 grind[Tr.jy]
theorem Hk{i:Nat}(h:AM.before (Ed ops.toList).1 i j=V):sB ops i j:=by rw[amb]at h;exact alB _ 0 _ (by rfl) ab (λj _=>Tr.get_nil j) j i h
structure G8(ops:Array aB)(ws:Tr Nat):Prop where
 back:∀(j:Nat)(o:aB),ops[j]?=J o->∀e,e∈o.after.toList->uo .any e=V->e.on<j
 guard:∀(j:Nat)(o:aB)(g:Nat)(b:Bool),ops[j]?=J o->o.guard=J (g,b)->sB ops g j
 reads:∀(j:Nat)(o:aB)(t:Tmp),ops[j]?=J o->.tmp t∈o.op.operands.toList->ws.get t=Z\/∃k,ws.get t=J k/\(k=j\/sB ops k j\/sB ops j k)writes:∀(j:Nat)(o:aB)(t:Tmp),ops[j]?=J o->o.dst=J t->ws.get t=J j
 only:∀(t:Tmp)(k:Nat),ws.get t=J k->∃o,ops[k]?=J o/\o.dst=J t
theorem aMO:∀(l:List aB)(m:Nat)(t r:Tr Nat)(q:Nat),lD (λ(p:Tr Nat×Nat)(o:aB)=>match o.dst with|none=>J (p.1,fg p.2)|some t=>match p.1.get t with|none=>J (p.1.ins t p.2,fg p.2)|some _=>Z) l (t,m)=J (r,q)->(∀x k,t.get x=J k->r.get x=J k)/\(∀(i:Nat)(o:aB)(x:Tmp),l[i]?=J o->o.dst=J x->r.get x=J (m+i))/\∀x k,r.get x=J k->t.get x=J k\/∃i o,k=m+i/\l[i]?=J o/\o.dst=J x:=by intro l;induction l with|nil=>grind[EB]|cons o l s=>intro m t r q h;rw[EA]at h;obtain⟨p,f,h⟩:=aE h;obtain⟨t1,u⟩:=p;obtain⟨g1,g2,g3⟩:=s u t1 r q h;cases hd:o.dst with
 |none=>
 rw[hd]at f;obtain⟨rfl,rfl⟩:=jd (bE f);refine⟨g1,λi g x j d=>?_,λx k d=>?_⟩;rotate_left
 . rcases g3 x k d with a|⟨i,g,a,b,c⟩;.grind
   .exact .inr ⟨i+1,g,ab,ai,c⟩
 grind|some x0=>rw[hd]at f;simp only at f;cases n:t.get x0 with|some k=>simp_all|none=>
   rw[n]at f;obtain⟨rfl,rfl⟩:=jd (bE f);refine⟨λx k d=>g1 x k ?_,λi g x j d=>?_,λx k d=>?_⟩;rotate_left 2
   . rcases g3 x k d with a|⟨i,g,a,b,c⟩
     . by_cases e:x0=x;.subst e;rw[Tr.lF]at a;cases a;grind
       grind[Tr.jy]
     .exact .inr ⟨i+1,g,by rw[a];simp only[Nat.succ_eq_add_one];omega,by simpa using b,c⟩
   .rw[Tr.jy _ _ (λe=>by subst e;rw[n]at d;simp at d)];exact d
   .cases i with|zero=>simp at j;subst j;rw[hd]at d;cases d;have:=g1 x0 m (Tr.lF _ _ _);simpa using this|succ i=>have:=g2 i g x (by simpa using j) d;rw[this];congr 1;omega
theorem aLM{o:aB}{t:Tmp}(h:Operand.tmp t∈o.op.operands.toList):t∈tmpsOf o:=by
 have k:∀(l:List _)(a:List _),(t∈a\/Operand.tmp t∈l)->t∈fS (λa x=>match x with|.tmp t=>t::a|_=>a) l a:=by intro l;induction l with|nil=>simp[pF]|cons x l i=>intro a h;rw[pF];simp only[AX];grind[pF]
 exact k _ _ (.inr h)
theorem aiJ(h:vW ops.toList=V):∃w,G8 ops w:=by
 unfold vW at h;split at h;.simp at h
 . rename_i w I;refine⟨w,?_⟩;have s:(∀(j:Nat)(o:aB)(t:Tmp),ops[j]?=J o->o.dst=J t->w.get t=J j)/\∀(t:Tmp)(k:Nat),w.get t=J k->∃o,ops[k]?=J o/\o.dst=J t:=by
    unfold akb at I;simp only[iI]at I;obtain⟨⟨r,q⟩,hr,rfl⟩:=I;obtain⟨_,g2,g3⟩:=aMO ops.toList 0 Tr.nil r q hr;refine⟨λj o t d m=>?_,λt k x=>?_⟩;.have:=g2 j o t (by simpa using d) m;simpa using this
    . rcases g3 t k x with a|⟨i,o,a,b,c⟩;.rw[Tr.get_nil]at a;simp at a
      .exact⟨o,by rw[a,kE];simpa using b,c⟩
   dsimp only at h;have y:=(aeg (Q:=λ(o:aB)(j:Nat)=>(lu (λ(e:Edge)=>!(uo .any e)||ct e.on j) o.after.toList=V)/\((match o.guard with|none=>V|some (g,_)=>AM.before (Ed ops.toList).1 g j&&(match oZ ops.toList g with|some q=>q.dst.isSome|none=>C))=V)/\lu (λt=>match w.get t with|none=>V|some k=>aw k j||tied (Ed ops.toList).1 k j) (tmpsOf o)=V) _ (λp a=>rfl) (λp a f=>by simp only[gu]at f;exact⟨f.1,f.2.1.1,f.2.1.2,f.2.2⟩) ops.toList (V,0) h).2;have l:∀(j:Nat)(o:aB),ops[j]?=J o->_:=λj o d=>y j o (by simpa using d);refine⟨λj o d e v u=>?_,λj o g b d G=>?_,λj o t d m=>?_,s.1,s.2⟩;.have:=(l j o d).1;rw[qB,AW]at this;have:=this e v;rw[u,eQ]at this;simpa using this
   .have:=(l j o d).2.1;rw[G]at this;simp only[gu]at this;have n:=this.1;rw[kE]at n;exact Hk n
   .have:=(l j o d).2.2;rw[qB,AW]at this;have:=this t (aLM m);cases B:w.get t with|none=>exact .inl rfl|some k=>
      rw[B]at this;simp only[kE,AR,bR,jV]at this;refine .inr ⟨k,rfl,?_⟩;rcases this with e|e;.exact .inl e
      . unfold tied at e;rcases AR _ _▸e with e|e;.exact .inr (.inl (Hk e))
        .exact .inr (.inr (Hk e))
theorem G8.lt{w:Tr Nat}(h:G8 ops w){i:Nat}(a:sB ops i j):i<j:=by induction a with|cJ o e b c=>rw[<-c];exact h.back _ _ o _ e b|trans o e b _ d=>exact Nat.lt_trans d (h.back _ _ o _ e b)
theorem NA{w:Tr Nat}(h:G8 ops w){i:Nat}(t:rh ops.toList i j=V)(k:i<j):sB ops i j:=by
 rcases AR _ _▸t with e|e;.grind[Hk]
 .have:=h.lt (Hk e);omega
theorem auy{N:Tr Nat}(h:G8 ops N):∀(f t:Nat)(listed:Array Bool)(d:aC),listed.size=ops.size->d.Nodup->(∀i,i∈d↔listed[i]?=J V)->(∀i,i∈d->i<ops.size)->ops.size<=f+d.length->(∀(a b:aC)(i:Nat)(o:aB),d.reverse=a++i::b->ops[i]?=J o->∀e,e∈o.after.toList->uo .any e=V->e.on∈a)->rl ops (Region.linearise.go .any ops f t listed d):=by have done:∀(listed:Array Bool)(d:aC),d.Nodup->(∀i,i∈d->i<ops.size)->(∀i,i<ops.size->i∈d)->(∀(a b:aC)(i:Nat)(o:aB),d.reverse=a++i::b->ops[i]?=J o->∀e,e∈o.after.toList->uo .any e=V->e.on∈a)->rl ops d.reverse:=λlisted d j k D F=>⟨List.pairwise_reverse.2 (List.Pairwise.imp (λh=>Ne.symm h) j),λi=>⟨λg=>List.mem_reverse.2 (D i g),λg=>k i (List.mem_reverse.1 g)⟩,F⟩;intro f;induction f with
 |zero=>
 intro t listed d L q P Y l U;simp only[Region.linearise.go];refine done listed d q Y (λi g=>?_) U;apply GR;intro u;have M:(i::d).Nodup:=List.nodup_cons.2 ⟨u,q⟩;have G:(i::d).length<=ops.size:=by have:=List.Nodup.length_le_of_subset M (l₂:=rq ops.size) (λx S=>by grind);grind
 grind|succ f K=>
 intro t listed d L q P Y l U;simp only[Region.linearise.go];split
 . rename_i i g;have z:=du g;rw[bl]at z;obtain⟨hr,w⟩:=z;have A:i<ops.size:=List.mem_range.1 hr;obtain⟨v,p⟩:∃v,ops[i]?=J v:=⟨_,nr A⟩;have E:i<listed.size:=ab;have r:listed[i]?=J listed[i]:=nr E;rw[gu]at w;obtain⟨T,W⟩:=w;have I:listed[i]=C:=by
     have:listed.getD i V=listed[i]:=by simp[Array.getD,E]
     grind
   have u:i∉d:=λQ=>by grind
   rw[p]at W;simp only[gJ,D9]at W;have B:∀e,e∈v.after.toList->uo .any e=V->e.on∈d:=by intro e n m;have j:=W;rw[<-Array.all_toList,AW]at j;have:=j e n;rw[m]at this;simp only[y9,y7]at this;refine(P e.on).2 ?_;rw[GQ]at this;grind
   refine K _ _ (i::d) ai (List.nodup_cons.2 ⟨u,q⟩) ?_ ?_ ai ?_;.grind
   .grind
   . intro a b x o H X e n m;rw[List.reverse_cons]at H;rcases List.append_eq_append_iff.1 H with⟨c,j,k⟩|⟨c,j,k⟩;.cases c with|nil=>grind|cons y c=>simp at k
     .cases c<;>grind
 . rename_i sP;refine done listed d q Y ?_ U;intro i;refine Nat.strongRecOn i ?_
   . intro i s g;apply GR;intro u;have E:i<listed.size:=ab;have r:listed[i]?=J listed[i]:=nr E;have I:listed[i]=C:=by grind
     have p:ops[i]?=J ops[i]:=nr g;have O:i∈(rq ops.size).filter λi=>!listed.getD i V&&((ops[i]?).map (·.after.all λe=>!Region.binds .any e||listed.getD e.on C)).getD C:=by
      rw[bl];refine⟨List.mem_range.2 g,?_⟩;rw[p];have j:listed.getD i V=C:=by simp[Array.getD,E,I]
      rw[j];simp only[y8,zd,gJ,D9];rw[<-Array.all_toList,AW];intro e n;cases m:uo .any e with|false=>rfl|true=>have R:=h.back i _ p e n m;have:=(P e.on).1 (s e.on R ab);simp[GQ,this]
     grind[Nat.mod_lt]
theorem aAw{P:aH}(m:P.follows .mixedOrders=V)(o:Array aB)(t:Nat)(h:vW o.toList=V):rl o (Region.schedule (P.follows .mixedOrders) o t):=by obtain⟨w,hr⟩:=aiJ h;rw[m];refine auy hr _ t _ [] aP List.nodup_nil (λi=>?_) aP aP aP;grind
end
def oM(n:Nat)(a:bc):bc:=λid=>if id<n then a id else Z
theorem zG{n:Nat}{i:Nat}(h:i<n)(e:Y i=J p):oM n Y i=J p:=by grind[oM]
theorem uA{n:Nat}{i:Nat}(h:oM n Y i=J p):i<n/\Y i=J p:=by grind[oM]
def Below(n:Nat)(a:bc):Prop:=∀id p,a id=J p->id<n
theorem VR.cut{n:Nat}(e:Below n A){a:AV}{c:aD}(h:VR A a c):∀{Y:bc}{v:aD},VR Y a v->VR (oM n Y) a v:=by induction h with
 |top _=>intro Y v k;cases k with|top n=>exact .top n
 |bool b=>intro Y v k;cases k;exact .bool b|int W m=>intro Y v k;cases k;exact .int W m|str l s h=>intro Y v k;cases k with|str _ s' R=>exact .str l s' R
 |eN=>intro Y v k;cases k;exact .eN|ptr id w p o=>intro Y v k;cases k with|ptr _ _ q t=>exact .ptr id w q (zG (e _ _ o) t)
 |bu=>intro Y v k;cases k;exact .bu|sl id w len c B p gU Q o _ _ _ _ _ _ _=>intro Y v k;cases k with|sl _ _ _ _ _ q H O t E F G I K L M=>exact .sl id w len c B q H O (zG (e _ _ o) t) E F G I K L M
 |fU=>intro Y v k;cases k;exact .fU|map r p o=>intro Y v k;cases k with|map _ q t=>exact .map r q (zG (e _ _ o) t)
 |func f l1 l2 N P z S _ _ T U=>intro Y v k;cases k with|func _ _ _ d1 d2 k1 k2 g1 g2=>
 refine .func f l1 l2 d1 d2 k1 k2 (λi a c x y=>?_) (λi a c x y=>?_)
 . have j:i<N.size:=by rw[<-z];exact(am.1 x).1
   exact T i a _ x (nr j) (g1 i a c x y)
 . have j:i<P.size:=by rw[<-S];exact(am.1 x).1
   exact U i a _ x (nr j) (g2 i a c x y)|yield l p o=>intro Y v k;cases k with|yield _ q t=>exact .yield l q (zG (e _ _ o) t)
 |nilFunc=>intro Y v k;cases k;exact .nilFunc|agg l c z hs _ D=>intro Y v k;cases k with|agg _ d k1 X g=>
 refine .agg l d k1 X λi a u x y=>?_;have j:i<c.size:=by rw[<-z];exact(am.1 x).1
 exact D i a _ x (nr j) (g i a u x y)|cL l c z _ D=>intro Y v k;cases k with|cL _ d k1 g=>
 refine .cL l d k1 λi a u x y=>?_;have j:i<c.size:=by rw[<-z];exact(am.1 x).1
 exact D i a _ x (nr j) (g i a u x y)
theorem ba.cut{n:Nat}(b:Below n A){l:aI}{c d:List aD}(h:ba A l c)(k:ba Y l d):ba (oM n Y) l d:=by
 refine⟨k.1,λi a v x y=>?_⟩;have e:i<c.length:=by rw[<-h.1];exact(am.1 x).1
 exact(h.2 i a _ x (dA e)).cut b (k.2 i a v x y)
def rB.cut{n b:Nat}(a:Below n A){t:Tr AV}{c d:Array aD}(h:rB A m t c)(k:rB Y b t d):rB (oM n Y) b t d:=⟨k.1,λi=>(h.2 i).cut a (k.2 i)⟩
theorem mq.cut{n:Nat}(f:Below n A){o:ch}{q:Pl}(h:mq A w o p)(k:mq Y w' o q):mq (oM n Y) w' o q:=by cases o with
 |cells l root T e=>obtain⟨cs,U,_,_,_,_,F,_,_,_⟩:=h;obtain⟨B,E,D,k1,k2,k3,k4,k5,k6,k7⟩:=k;refine⟨B,E,D,k1,k2,k3,λi a j=>?_,k5,k6,k7⟩;obtain⟨c,_,I⟩:=F i a j;obtain⟨d,hd,L⟩:=k4 i a j;exact⟨d,hd,I.cut f L⟩|map S u=>
 obtain⟨_,s,_,g⟩:=h;obtain⟨k0,t,k1,k2⟩:=k;refine⟨k0,t,k1,k2.1,λi e x y K=>?_⟩;have H:i<s.toList.length:=by rw[<-g.1];exact(am.1 y).1
 have a:=g.2 i e _ y (dA H);have b:=k2.2 i e x y K;exact⟨a.1.cut f b.1,a.2.1.cut f b.2.1,b.2.2⟩|mapIter m z seen O=>obtain⟨_,W,_,g⟩:=h;obtain⟨k0,M,k1,k2⟩:=k;refine⟨k0,M,k1,?_⟩;cases m with|none=>exact k2|some r=>obtain⟨a,j,_⟩:=g;obtain⟨b,G,e⟩:=k2;exact⟨b,zG (f _ _ j) G,e⟩
 |loop a=>obtain⟨_,Q,_,g⟩:=h;obtain⟨k0,R,k1,k2⟩:=k;refine⟨k0,R,k1,k2.state,k2.pending,k2.fn,g.tmps.cut f k2.tmps,k2.params,k2.assign,k2.body,?_⟩;obtain⟨X,v,_⟩:=g.defers;obtain⟨N,P,e⟩:=k2.defers;exact⟨N,zG (f _ _ v) P,e⟩|deferred c=>exact k
def dg.wr(R:dg)(i:Nat):aC:=match R.K i with|.act=>(R.H' i).bV|_=>[]
def dg.gr(R:dg)(i:Nat):aC:=match R.K i with|.act=>(R.H' i).cI|_=>[]
structure gD(P:aH)(ak:cj)(rec:Rec)(ops:Array aB)(ws:Tr Nat)(R:dg)(φ0:bc):Prop where
 ok:J' P ak rec ops R
 qX:G8 ops ws
 hinv:∀j,j<=ops.size->bg (R.H j)af:∀i,i<ops.size->AF (R.H i) (R.HX i)same:∀i,i<ops.size->gC (R.H (i+1)) (R.HX i)txt:∀i,i<=ops.size->∃A w m c,bQ gI A (R.H i) w/\Ext φ0 A/\(∀id,(R.H 0).next<=id->id<(R.H i).next->∃p,A id=J p)/\rB A m (R.fr i).tmps c
section
variable{P:aH}{ak:cj}{rec:Rec}{ops:Array aB}{ws:Tr Nat}{R:dg}{φ0:bc}
theorem gD.aCa(T:gD P ak rec ops ws R φ0){i:Nat}(h:i<ops.size):(R.H i).next<=(R.H (i+1)).next:=by rw[(T.same i h).2.2];exact(T.af i h).next
theorem gD.next(T:gD P ak rec ops ws R φ0){m':Nat}(h:m<=m')(a:m'<=ops.size):(R.H m).next<=(R.H m').next:=by induction m' with|zero=>grind|succ k i=>
 by_cases e:m=k+1;.grind
 .exact gw ab (T.aCa ab)
theorem gD.root(T:gD P ak rec ops ws R φ0){a i:Nat}(h:m<=a)(c:a<=ops.size)(d:i<(R.H m).next):rootOf (R.H a) i=rootOf (R.H m) i:=by induction a with|zero=>have:m=0:=ab;subst this;rfl|succ k b=>
 by_cases e:m=k+1;.subst e;rfl
 .rw[(T.same k ab).root,(T.af k ab).root i (gx d (T.next ab ab)),b ab ab]
theorem gD.keep(T:gD P ak rec ops ws R φ0){a i:Nat}{o:ch}(h:m<=a)(p:a<=ops.size)(d:i<(R.H m).next)(g:(R.H m).get i=J o):∃b,(R.H a).get i=J b/\rk o b:=by induction a with|zero=>have:m=0:=ab;subst this;exact⟨o,g,rk.refl o⟩|succ k j=>
 by_cases e:m=k+1;.subst e;exact⟨o,g,rk.refl o⟩
 .obtain⟨l,c,l1⟩:=j ab ab;obtain⟨n,f,l2⟩:=(T.af k ab).keep i l (gx d (T.next ab ab)) c;exact⟨n,by rw[(T.same k ab).get];exact f,l1.trans l2⟩
theorem gD.ro(T:gD P ak rec ops ws R φ0){a i:Nat}(h:m<=a)(b:a<=ops.size)(d:i<(R.H m).next)(r:fM (R.H m) i):fM (R.H a) i:=by induction a with|zero=>have:m=0:=ab;subst this;exact r|succ k c=>
 by_cases e:m=k+1;.subst e;exact r
 .exact((T.same k ab).ro i).2 ((T.af k ab).ro i (gx d (T.next ab ab)) ai)
theorem NY(R:dg)(i:Nat):(R.HX i).bV=R.wr i:=by unfold dg.HX dg.wr;cases R.K i<;>rfl
theorem GW(R:dg)(i:Nat):(R.HX i).cI=R.gr i:=by unfold dg.HX dg.gr;cases R.K i<;>rfl
theorem gD.view(T:gD P ak rec ops ws R φ0){m' f:Nat}{o:ch}(h:m<=m')(p:m'<=ops.size)(g:f<(R.H m).next)(w:∀i,m<=i->i<m'->rootOf (R.H m) f∉R.wr i)(j:(R.H m).get f=J o):(R.H m').get f=J o/\(je (R.H m) f↔je (R.H m') f):=by induction m' with|zero=>have:m=0:=ab;subst this;exact⟨j,Iff.rfl⟩|succ k n=>
 by_cases e:m=k+1;.subst e;exact⟨j,Iff.rfl⟩
 .obtain⟨a,b⟩:=n ab ab (λi l q=>w i l ab);have v:=gx g (T.next (m:=m) (m':=k) ab ab);obtain⟨c,d⟩:=(T.af k ab).view f o v (by rw[NY,T.root ab ab g];exact w k ab ab) a;exact⟨by rw[(T.same k ab).get];exact c,b.trans (d.trans ((T.same k ab).alive f).symm)⟩
def Valid(R:dg)(n:Nat)(a:aC)(r m:Nat):Prop:=∀i,i<n->r∈R.wr i->(i∈a↔i<m)
theorem gD.aMm(T:gD P ak rec ops ws R φ0){b d:Nat}{o:ch}(v:Valid R ops.size a r m)(B:Valid R ops.size a r b)(g:m<=ops.size)(A:b<=ops.size)(c:d<(R.H m).next)(e:d<(R.H b).next)(j:rootOf (R.H ops.size) d=r)(p:(R.H m).get d=J o)(f:∃k,(R.H b).get d=J k):(R.H b).get d=J o/\(je (R.H m) d↔je (R.H b) d):=by
 by_cases h:m<=b;.refine T.view h A c (λi l n w=>?_) p;rw[<-T.root g ab c,j]at w;have e1:=v i ab w;have e2:=B i ab w;grind
 . obtain⟨k,U⟩:=f;have s:∀i,b<=i->i<m->rootOf (R.H b) d∉R.wr i:=λi l n w=>by rw[<-T.root A ab e,j]at w;have e1:=v i ab w;have e2:=B i ab w;grind
   obtain⟨x,y⟩:=T.view ab g e s U;grind
structure Inv(P:aH)(ops:Array aB)(ws:Tr Nat)(R:dg)(φ0:bc)(w0:aV)(F0:di)(a:aC)(Y:bc)(w:aV)(F:di):Prop where
 ext:Ext φ0 Y
 aZ:∀id p,Y id=J p->p.aZ<w.heap.size
 cC:∀id p,Y id=J p->(id<(R.H 0).next/\φ0 id=J p)\/(φ0 id=Z/\∃i,i∈a/\i<ops.size/\(R.H i).next<=id/\id<(R.H (i+1)).next)obj:∀id p,Y id=J p->∀m,m<=ops.size->id<(R.H m).next->∃o,(R.H m).get id=J o/\∀l r fl e,o=.cells l r fl e->l.length=p.len
 inj:∀i j p q,Y i=J p->Y j=J q->p.aZ=q.aZ->∀m,m<=ops.size->i<(R.H m).next->¬fM (R.H m) i->rootOf (R.H ops.size) i=rootOf (R.H ops.size) j
 mono:∀i j p q,Y i=J p->Y j=J q->p.aZ=q.aZ->i<j->∀m,m<=ops.size->j<(R.H m).next->(¬fM (R.H m) i\/¬fM (R.H m) j)->p.base+p.len<=q.base+q.len
 cont:∀id p,Y id=J p->∀m,m<=ops.size->Valid R ops.size a (rootOf (R.H ops.size) id) m->id<(R.H m).next->∀o,(R.H m).get id=J o->je (R.H m) id->mq Y w o p
 size:w0.heap.size<=w.heap.size
 os:w.os=w0.os
 tape:w.tape=w0.tape
 output:w.output=w0.output
 nB:∀b,b<w0.heap.size->w.heap[b]?=w0.heap[b]?\/∃id p,φ0 id=J p/\p.aZ=b/\¬fM (R.H 0) id/\∃i,i∈a/\i<ops.size/\(rootOf (R.H 0) id∈R.wr i\/rootOf (R.H 0) id∈R.gr i)new:∀id p,Y id=J p->φ0 id=Z->w0.heap.size<=p.aZ\/∃j q,φ0 j=J q/\q.aZ=p.aZ/\¬fM (R.H 0) j/\rootOf (R.H ops.size) j=rootOf (R.H ops.size) id/\∃i,i∈a/\i<ops.size/\rootOf (R.H ops.size) j∈R.gr i
 mG:∀id p,Y id=J p->φ0 id=Z->rootOf (R.H ops.size) id<(R.H 0).next->∃j q,φ0 j=J q/\rootOf (R.H ops.size) j=rootOf (R.H ops.size) id
 own:∀id p,Y id=J p->∀i,i∈a->i<ops.size->(R.H i).next<=id->id<(R.H (i+1)).next->rootOf (R.H ops.size) id<(R.H i).next->rootOf (R.H ops.size) id∈R.gr i
 map:∀i,i∈a->i<ops.size->∀r,r∈R.wr i\/r∈R.gr i->r<(R.H i).next/\∃id p,Y id=J p/\id<(R.H i).next/\rootOf (R.H ops.size) id=r
 cover:∀i,i∈a->i<ops.size->∀id,(R.H i).next<=id->id<(R.H (i+1)).next->∃p,Y id=J p
 ND:F.tmps.size=(R.fr 0).n
 Ny:∀t k,ws.get t=J k->k∈a->VR Y (((R.fr ops.size).tmps.get t).getD fC) (F.tmps.getD t undef)JE:∀t,(∀k,ws.get t=J k->k∉a)->VR Y (((R.fr 0).tmps.get t).getD fC) (F.tmps.getD t undef)fn:F.fn=F0.fn
 mode:F.mode=F0.mode
 kind:F.kind=F0.kind
 round:F.roundOf=F0.roundOf
 defers:F.defers=F0.defers
theorem gD.slot(T:gD P ak rec ops ws R φ0){i:Nat}{o:aB}(a:ops[i]?=J o)(t:Tmp):(R.fr (i+1)).tmps.get t=if o.dst=J t then J (R.v i)else(R.fr i).tmps.get t:=by have h:=(T.ok.step i o a).slot;rw[DH]at h;cases hd:o.dst with|none=>rw[hd]at h;obtain h:=bE h;rw[<-h];simp|some d=>
 rw[hd]at h;simp only[eQ]at h;by_cases b:d<(R.fr i).n
 . simp only[b,eB,aR]at h;have h:=bE h;rw[<-h];simp only[wx];by_cases e:d=t;.subst e;rw[if_pos rfl,Tr.lF]
   .rw[if_neg e,Tr.jy _ _ e]
 .simp[b]at h
theorem gD.ZI(T:gD P ak rec ops ws R φ0)(t:Tmp):∀j,j<=ops.size->((∀k,ws.get t=J k->j<=k)->(R.fr j).tmps.get t=(R.fr 0).tmps.get t):=by intro j;induction j with|zero=>grind|succ j i=>intro a b;have h:ops[j]?=J _:=nr ab;generalize ops[j]=o at h;rw[T.slot h t,if_neg,i ab ai];intro hd;have:=T.qX.writes j o t h hd;grind
theorem gD.ZJ(T:gD P ak rec ops ws R φ0){t:Tmp}{k:Nat}(h:ws.get t=J k):∀j,k<j->j<=ops.size->(R.fr j).tmps.get t=J (R.v k):=by obtain⟨o,a,hd⟩:=T.qX.only t k h;intro j;induction j with|zero=>omega|succ j i=>
 intro b c;by_cases e:k=j;.subst e;rw[T.slot a t,if_pos hd]
 .have w:ops[j]?=J _:=nr ab;generalize ops[j]=q at w;rw[T.slot w t,if_neg,i ab ab];intro l;have:=T.qX.writes j q t w l;grind
theorem Inv.operand(T:gD P ak rec ops ws R φ0){b:aC}{i:Nat}{o:aB}(I:Inv P ops ws R φ0 w0 F0 a Y w F)(l:rl ops ord)(j:ord=a++i::b)(n:ops[i]?=J o){t:Tmp}(p:ws.get t=Z\/∃k,ws.get t=J k/\(k=i\/sB ops k i\/sB ops i k)):VR Y (((R.fr i).tmps.get t).getD fC) (F.tmps.getD t undef):=by
 have r:=(ap.1 n).1;have B:i∉a:=λh=>by have:=l.nodup;grind
 rcases p with s|⟨k,d,c⟩;.rw[T.ZI t i ab aT];exact I.JE t aT
 . have L:k∉a->i<=k->VR Y (((R.fr i).tmps.get t).getD _) _:=λe q=>by rw[T.ZI t i ab aT];exact I.JE t aT
   rcases c with rfl|c|c;.grind
   .have v:=l.Cx c a b j;have y:=T.qX.lt c;have e:=I.Ny t k d v;rw[T.ZJ d _ ab ab]at e;rw[T.ZJ d i y ab];omega
   .have m:=T.qX.lt c;refine L (λv=>?_) ab;obtain⟨f,g,rfl⟩:=J0 v;have:=l.Cx c f (g++i::b) ai;grind
theorem zx(T:gD P ak rec ops ws R φ0){i:Nat}{o:aB}(a:ops[i]?=J o)(h:r∈R.wr i\/r∈R.gr i):R.K i=.act/\oA o.op=C/\xf o.op=C:=by
 have K:R.K i=.act:=by grind[dg.wr,dg.gr]
 have s:=(T.ok.step i o a).act K;grind[sZ,dg.wr,dg.gr]
theorem aLH(h:JC ops.toList j=V):∀(p:Nat)(q:aB),ops[p]?=J q->oA q.op=V\/xf q.op=V\/p=j\/sB ops p j\/sB ops j p:=by have:=(aeg (Q:=λ(o:aB)(p:Nat)=>(oA o.op||xf o.op||aw p j||tied (Ed ops.toList).1 p j)=V) _ ab aT _ _ h).2;intro p q b;have a:=this p q ai;grind[bR,tied,Hk]
theorem aex(T:gD P ak rec ops ws R φ0){i:Nat}{o:aB}(a:ops[i]?=J o)(h:r∈R.gr i):JC ops.toList i=V/\eC P (R.fr i).tmps (R.H i) o=Z:=by obtain⟨K,_,_⟩:=zx T a (.inr h);have s:=(T.ok.step i o a).act K;grind[rJ,dg.gr,dg.gE]
theorem S6(T:gD P ak rec ops ws R φ0){b:aC}{i c p:Nat}{o:aB}(l:rl ops ord)(q:ord=a++i::b)(e:ops[i]?=J o)(j:c∈a)(n:c<ops.size)(Y:i<c)(m:r∈R.wr i\/r∈R.gr i)(d:p∈R.gr c):False:=by
 obtain⟨K,s,v⟩:=zx T e m;have I:ops[c]?=J ops[c]:=nr n;obtain⟨k,_⟩:=aex T I d;have B:i∉a:=λh=>by have:=l.nodup;grind
 rcases aLH k i o e with h|h|h|h|h;.grind
 .grind
 .omega
 .obtain⟨f,g,rfl⟩:=J0 j;have:=l.Cx h f (g++i::b) ai;grind
 .have:=T.qX.lt h;omega
def beyond(R:dg)(i:Nat)(a b:bc):bc:=λid=>if(R.H i).next<=id/\id<(R.H (i+1)).next then b id else a id
theorem gD.amM(T:gD P ak rec ops ws R φ0)(I:Inv P ops ws R φ0 w0 F0 a Y w F){b:bc}{d:Nat}{q:Pl}{o:ch}(e:Y d=J p)(l:m<=ops.size)(n:d<(R.H m).next)(u:(R.H m).get d=J o)(t:je (R.H m) d)(h:mq b w' o q):mq (oM (R.H m).next b) w' o q:=by
 obtain⟨A,z,k,c,s,x1,v,_⟩:=T.txt m l;have f:∃g,A d=J g:=by
  rcases I.cC d p e with⟨j,r⟩|⟨_,i,x,y,j,_⟩;.exact⟨p,x1 _ _ r⟩
  .exact v d (gw (T.next ab ab) j) n
 obtain⟨g,E⟩:=f;exact(s.obj d g o E trivial t u).cut (λd p h=>s.stat.lt (T.hinv m l) h) h
theorem gD.abJ(T:gD P ak rec ops ws R φ0){i:Nat}{t:Tmp}{v:aD}(a:i<=ops.size)(h:VR Y (((R.fr i).tmps.get t).getD fC) v):VR (oM (R.H i).next Y) (((R.fr i).tmps.get t).getD fC) v:=by obtain⟨A,w,k,c,s,x1,b,t1⟩:=T.txt i a;exact(t1.2 t).cut (λid p h=>s.stat.lt (T.hinv i a) h) h
theorem Inv.AB(T:gD P ak rec ops ws R φ0){i:Nat}(I:Inv P ops ws R φ0 w0 F0 a Y w F)(A:i<ops.size)(u:∀r,S r->Valid R ops.size a r i):bQ S (oM (R.H i).next Y) (R.H i).fresh w:=by
 have c:=(gC.fresh (R.H i)).symm;refine bQ.DG c ⟨⟨λid p h=>?_,λid p l r z e h n=>?_,λx y p q b d m H=>?_,λx y p q b d m H Q=>?_⟩,λid p o h t s n=>?_⟩;.obtain⟨b,d⟩:=uA h;obtain⟨o,v,_⟩:=I.obj id p d i ab b;exact⟨I.aZ id p d,ai⟩
 .obtain⟨b,d⟩:=uA h;obtain⟨o,v,B⟩:=I.obj id p d i ab b;grind
 .obtain⟨f,g⟩:=uA b;obtain⟨j,k⟩:=uA d;rw[<-T.root ab (bS _) f,<-T.root ab (bS _) j];exact I.inj x y p q g k m i ab f H
 .obtain⟨f,g⟩:=uA b;obtain⟨j,k⟩:=uA d;exact I.mono x y p q g k m Q i ab j H
 .obtain⟨b,d⟩:=uA h;rw[<-T.root ab (bS _) b]at t;exact T.amM I d ab b n s (I.cont id p d i ab (u _ t) b o n s)
theorem Inv.aCB(T:gD P ak rec ops ws R φ0){i:Nat}(I:Inv P ops ws R φ0 w0 F0 a Y w F)(y:i<ops.size)(B:i∉a):∀(id:Nat)(p:Pl),Y id=J p->(R.H i).next<=rootOf (R.H ops.size) id->rootOf (R.H ops.size) id<(R.H (i+1)).next->False:=by
 intro id;refine Nat.strongRecOn id ?_;intro id z p c u v;rcases I.cC id p c with⟨d,f⟩|⟨_,b,r,n,d,f⟩
 . have:rootOf (R.H ops.size) id<=id:=by obtain⟨o,h,_⟩:=I.obj id p c _ (bS _) (gx d (T.next (mn _) (bS _)));cases g:o.dZ with|true=>cases o<;>simp[ch.dZ]at g;rw[qo h];exact((T.hinv _ ab).root id _ _ _ _ h).1|false=>grind[yF]
   have:=T.next (mn i) ab;omega
 . have l:rootOf (R.H ops.size) id<=id:=by obtain⟨o,h,_⟩:=I.obj id p c _ (bS _) (gx f (T.next ab (bS _)));cases g:o.dZ with|true=>cases o<;>simp[ch.dZ]at g;rw[qo h];exact((T.hinv _ ab).root id _ _ _ _ h).1|false=>grind[yF]
   by_cases e:b=i;.grind
   . by_cases t:b<i;.have:=T.next (m:=b+1) (m':=i) ab ab;omega
     .have x:=T.next (m:=i+1) (m':=b) ab ab;have q:=I.own id p c b r n d f ab;obtain⟨_,M,A,j,k,s⟩:=I.map b r n _ (.inr q);grind
theorem SK{i d:Nat}(h:¬((R.H i).next<=d/\d<(R.H (i+1)).next)):beyond R i Y A d=Y d:=by grind[beyond]
theorem abt{i d:Nat}(h:(R.H i).next<=d/\d<(R.H (i+1)).next):beyond R i Y A d=A d:=by grind[beyond]
theorem TZ{i:Nat}{b:aC}(h:F.todo=.inRegion ops (i::b)::k):(F.finish u).tmps=(match(ops[i]?).bind (·.dst)with|some d=>F.tmps.setIfInBounds d u|none=>F.tmps):=by grind[Frame.finish]
theorem HN{i:Nat}{b:aC}(h:F.todo=.inRegion ops (i::b)::k):(F.finish u).fn=F.fn/\(F.finish u).mode=F.mode/\(F.finish u).kind=F.kind/\(F.finish u).roundOf=F.roundOf/\(F.finish u).defers=F.defers/\(F.finish u).todo=.inRegion ops b::k:=by grind[Frame.finish]
theorem gD.n(T:gD P ak rec ops ws R φ0):∀j,j<=ops.size->(R.fr j).n=(R.fr 0).n:=by intro j;induction j with|zero=>intro _;rfl|succ j i=>
 intro a;have o:ops[j]?=J _:=nr ab;have h:=(T.ok.step j _ o).slot;rw[<-i ab];rw[DH]at h;split at h
 . rename_i d _;simp only[eQ]at h;by_cases b:d<(R.fr j).n;.simp only[b,eB,aR]at h;rw[<-bE h]
   .simp[b]at h
 .rw[<-bE h]
set_option maxHeartbeats 4000000 in theorem Inv.step(T:gD P ak rec ops ws R φ0){b:aC}{i:Nat}{o:aB}(I:Inv P ops ws R φ0 w0 F0 a Y w F)(hl:rl ops ord)(he:ord=a++i::b)(ho:ops[i]?=J o)(ht:F.todo=.inRegion ops (i::b)::k)(hSV:∀r,S r->Valid R ops.size a r i)(Pj:∀r,r∈R.wr i->S r)(HY:∀r,r∈R.gr i->∀r',S r')(hp:ig S (oM (R.H i).next Y) (R.H i).fresh w A (R.HX i) w')(hv:∀d,o.dst=J d->VR A (R.v i) u):Inv P ops ws R φ0 w0 F0 (a++[i]) (beyond R i Y A) w' (F.finish u):=by
 have Q:i<ops.size:=(ap.1 ho).1;have Bv:i∉a:=λh=>by have:=hl.nodup;grind
 obtain⟨BA,kM,fr⟩:=hp;have n01:=T.next (m:=0) (m':=i) ab ab;have ni1:=T.next (m:=i) (m':=i+1) ab ab;have tM:(R.HX i).next=(R.H (i+1)).next:=((T.same i Q).2.2).symm;have Gd:∀id,id<(R.H i).next->rootOf (R.H i).fresh id=rootOf (R.H ops.size) id:=λid h=>by rw[(gC.fresh (R.H i)).root];exact(T.root ab (bS _) h).symm
 have Jo:∀id,id<(R.H (i+1)).next->rootOf (R.HX i) id=rootOf (R.H ops.size) id:=λid h=>by rw[<-(T.same i Q).root];exact(T.root ab (bS _) h).symm
 have ψlt:∀id p,A id=J p->id<(R.H (i+1)).next:=λid p h=>by rw[<-tM];exact kM.stat.lt BA h
 have aOX:∀id p,A id=J p->id<(R.H i).next->Y id=J p:=λid p h G=>by cases hc:oM (R.H i).next Y id with|some q=>have:=fr.ext _ _ hc;grind[uA]|none=>have h5:(R.H i).next<=id:=(fr.new id p h hc).1;omega
 have aM4:∀id p,Y id=J p->¬((R.H i).next<=id/\id<(R.H (i+1)).next):=λid p h hh=>by
   rcases I.cC id p h with⟨g,_⟩|⟨_,v,rN,nI,c,D⟩;.omega
   . by_cases e:v=i;.grind
     . by_cases G:v<i;.have:=T.next (m:=v+1) (m':=i) ab ab;omega
       .have:=T.next (m:=i+1) (m':=v) ab ab;omega
 have E1:Ext Y (beyond R i Y A):=λid p h=>by grind[SK]
 have E2:Ext A (beyond R i Y A):=λid p h=>by grind[abt,SK]
 have n:∀id p,beyond R i Y A id=J p->((R.H i).next<=id/\id<(R.H (i+1)).next/\A id=J p)\/(¬((R.H i).next<=id/\id<(R.H (i+1)).next)/\Y id=J p):=λid p h=>by grind[abt,SK]
 have NT:∀id,(R.H i).next<=id->oM (R.H i).next Y id=Z:=λid h=>by grind[oM]
 have aOV:∀id,(R.H i).next<=id->id<(R.H (i+1)).next->φ0 id=Z:=λid g f=>by cases hc:φ0 id with|none=>rfl|some p=>exact absurd ⟨g,f⟩ (aM4 id p (I.ext _ _ hc))
 have H:∀id p,Y id=J p->(R.H (i+1)).next<=id->∃O,O∈a/\O<ops.size/\i<O/\(R.H O).next<=id/\id<(R.H (O+1)).next:=λid p h EM=>by
   rcases I.cC id p h with⟨g,_⟩|⟨_,v,rN,nI,c,D⟩;.omega
   .refine⟨v,rN,nI,?_,c,D⟩;apply GR;intro E;have:=T.next (m:=v+1) (m':=i+1) ab ab;omega
 have aai:∀bk,bk<w.heap.size->w'.heap[bk]?=w.heap[bk]?\/∃B U,B<(R.H i).next/\Y B=J U/\U.aZ=bk/\¬fM (R.H i) B/\(rootOf (R.H ops.size) B∈R.wr i\/rootOf (R.H ops.size) B∈R.gr i):=λbk N=>by
   rcases fr.nB bk N with h|⟨B,U,g,f,c,D⟩;.grind
   . obtain⟨a1,a2⟩:=uA g;refine .inr ⟨B,U,a1,a2,f,λhr=>c (((gC.fresh (R.H i)).ro B).2 hr),?_⟩;rw[Gd B a1,NY,GW]at D;rcases D with D|D
     . have:rootOf (R.H ops.size) B<(R.H i).next:=by rw[T.root ab (bS _) a1];exact qZ (T.hinv i ab) a1
       have h4':(R.H i).next<=rootOf (R.H ops.size) B:=D;omega
     omega
 have aMb:∀id p,Y id=J p->(R.H (i+1)).next<=id->w'.heap[p.aZ]?=w.heap[p.aZ]?:=λid p h EM=>by
   rcases aai p.aZ (I.aZ id p h)with E|⟨B,U,g,f,c,D,h5⟩;.omega
   . exfalso;have hr:=I.inj B id U p f h c i ab g D;obtain⟨O,K,L,c3,W,M⟩:=H id p h EM;have aN8:rootOf (R.H ops.size) B<(R.H i).next:=by rw[T.root ab (bS _) g];exact qZ (T.hinv i ab) g
     have:=T.next (m:=i) (m':=O) ab ab;have hg:=I.own id p h O K L W M ab;grind[S6]
 have X:∀x px,(R.H i).next<=x->x<(R.H (i+1)).next->A x=J px->px.aZ<w.heap.size->∃j q,j<(R.H i).next/\Y j=J q/\q.aZ=px.aZ/\¬fM (R.H i) j/\rootOf (R.H ops.size) j=rootOf (R.H ops.size) x/\rootOf (R.H ops.size) j∈R.gr i:=λx px g f c G=>by
   obtain⟨_,D⟩:=fr.new x px c (NT x g);rcases D with D|⟨j,q,K,L,c3,W,M⟩;.omega
   . obtain⟨d1,d2⟩:=uA K;refine⟨j,q,d1,d2,L,λhr=>c3 (((gC.fresh (R.H i)).ro j).2 hr),?_,?_⟩;.grind
     . rw[Gd j d1,GW]at M;rcases M with M|M
       . have:rootOf (R.H ops.size) j<(R.H i).next:=by rw[T.root ab (bS _) d1];exact qZ (T.hinv i ab) d1
         have c5':(R.H i).next<=rootOf (R.H ops.size) j:=M;omega
       omega
 have aB9:∀x px y py,(R.H i).next<=x->x<(R.H (i+1)).next->A x=J px->Y y=J py->py.aZ=px.aZ->rootOf (R.H ops.size) y=rootOf (R.H ops.size) x/\y<(R.H i).next:=λx px y py g f c D h5=>by
   obtain⟨j,q,K,L,c3,W,M,c6⟩:=X x px g f c (by rw[<-h5];exact I.aZ y py D);have hr:=I.inj j y q py L D (c3.trans h5.symm) i ab K W;refine⟨hr.symm.trans M,?_⟩;apply GR;intro EM;have Pu:(R.H (i+1)).next<=y:=by grind
   obtain⟨O,d1,d2,d3,d4,d5⟩:=H y py D Pu;have aN9:rootOf (R.H ops.size) j<(R.H i).next:=by rw[T.root ab (bS _) K];exact qZ (T.hinv i ab) K
   have:=T.next (m:=i) (m':=O) ab ab;have hg:=I.own y py D O d1 d2 d4 d5 ab;exact S6 T hl he ho d1 d2 d3 (.inr c6) hg
 have Fy:∀x,x∈a++[i]↔x∈a\/x=i:=λx=>aP;have fL:w.heap.size<=w'.heap.size:=fr.size;have M8:∀x m,x<(R.H (i+1)).next->i+1<=m->m<=ops.size->¬fM (R.H m) x->¬fM (R.HX i) x:=λx m g f c D h5=>D (T.ro f c g (((T.same i Q).ro x).2 h5));have idx:∀x m,(R.H i).next<=x->m<=ops.size->x<(R.H m).next->i+1<=m:=λx m g f c=>by apply GR;intro E;have:=T.next (m:=m) (m':=i) ab ab;omega
 have vS:∀r m,S r->Valid R ops.size (a++[i]) r m->i+1<=m->∀s,i+1<=s->s<m->s<ops.size->r∉R.wr s:=λr m hS hV z s g f c hw=>by
   have e1:=(hV s c hw).2 f;rcases(Fy s).1 e1 with e1|e1;.have:=(hSV r hS s c hw).1 e1;omega
   omega
 refine{ext:=I.ext.trans E1,aZ:=?_,cC:=?_,obj:=?_,inj:=?_,mono:=?_,cont:=?_,size:=gw I.size fL,os:=fr.os.trans I.os,tape:=fr.tape.trans I.tape,output:=fr.output.trans I.output,nB:=?_,new:=?_,mG:=?_,own:=?_,map:=?_,cover:=?_,ND:=?_,Ny:=?_,JE:=?_,fn:=?_,mode:=?_,kind:=?_,round:=?_,defers:=?_}
 . intro id p h;rcases n id p h with⟨_,_,c⟩|⟨_,c⟩;.exact(kM.stat.cC id p c).1
   .exact gx (I.aZ id p c) fL
 . intro id p h;rcases n id p h with⟨g,f,c⟩|⟨_,c⟩;.grind
   .rcases I.cC id p c with hd|⟨hd,v,b1,b2⟩;all_goals grind
 . intro id p h m z G;rcases n id p h with⟨g,f,c⟩|⟨_,c⟩;.have kY:=idx id m g z G;obtain⟨_,PX⟩:=kM.stat.cC id p c;cases hg:(R.HX i).get id with|none=>grind|some o1=>
       have kJ:(R.H (i+1)).get id=J o1:=by rw[(T.same i Q).get];omega
       obtain⟨o2,g2,l2⟩:=T.keep kY z f kJ;refine⟨o2,g2,λl r fl e he=>?_⟩;subst he;cases hc:o1.dZ with|true=>cases o1<;>simp[ch.dZ]at hc;obtain⟨l',fl',e1,e2⟩:=l2.1 _ _ _ _ rfl;obtain⟨rfl,rfl,rfl,rfl⟩:=ch.cells.inj e1;rw[e2];exact kM.stat.len id p _ _ _ _ c hg|false=>exfalso;exact l2.2 (λl r fl e he=>by grind[ch.dZ]) l r fl e rfl
   .exact I.obj id p c m z G
 . intro x y p q E hy N m z G eH;rcases n x p E with⟨g,f,c⟩|⟨g1,c⟩
   . rcases n y q hy with⟨k1,k2,k3⟩|⟨k1,k3⟩;.have:=kM.stat.inj x y p q c k3 N (M8 x m f (idx x m g z G) z eH);grind
     grind
   . rcases n y q hy with⟨k1,k2,k3⟩|⟨k1,k3⟩;.grind
     .exact I.inj x y p q c k3 N m z G eH
 . intro x y p q E hy N tQ m z G eH;rcases n x p E with⟨g,f,c⟩|⟨g1,c⟩
   . rcases n y q hy with⟨k1,k2,k3⟩|⟨k1,k3⟩;.have kY:=idx y m k1 z G;exact kM.stat.mono x y p q c k3 N (eH.imp (M8 x m f kY z) (M8 y m k2 kY z)) tQ
     grind
   . rcases n y q hy with⟨k1,k2,k3⟩|⟨k1,k3⟩;.have axm:=(aB9 y q x p k1 k2 k3 c N).2;have kY:=idx y m k1 z G;have hψx:A x=J p:=fr.ext _ _ (zG axm c);exact kM.stat.mono x y p q hψx k3 N (eH.imp (M8 x m ab kY z) (M8 y m k2 kY z)) tQ
     .exact I.mono x y p q c k3 N tQ m z G eH
 . intro id p h m z hV G o' hg ha;have take:S (rootOf (R.H ops.size) id)\/(R.H i).next<=rootOf (R.H ops.size) id->id<(R.H (i+1)).next->A id=J p->(R.H (i+1)).get id=J o'->je (R.H (i+1)) id->mq (beyond R i Y A) w' o' p:=λhS hid hψ kJ Uu=>by
     have EL:(R.HX i).get id=J o':=by rw[<-(T.same i Q).get];omega
     have Uv:je (R.HX i) id:=((T.same i Q).alive id).1 Uu;exact(kM.obj id p o' hψ (by rw[Jo id hid];exact hS) Uv EL).mono E2 rfl
   by_cases hw:rootOf (R.H ops.size) id∈R.wr i
   . have hS:=Pj _ hw;have him:i<m:=(hV i Q hw).1 ((Fy i).2 (.inr rfl));have ae8:id<(R.H (i+1)).next:=by
       rcases n id p h with⟨_,f,_⟩|⟨_,c⟩;.omega
       . apply GR;intro EM;obtain⟨O,K,L,c3,W,M⟩:=H id p c ab;have awY:rootOf (R.H ops.size) id<(R.H i).next:=by
           have:rootOf (R.H ops.size) id∈(R.HX i).bV:=by grind[NY]
           rcases fr.vg _ this with E|⟨E,_⟩;.grind[Heap.fresh]
           .exact E
         have:=T.next (m:=i) (m':=O) ab ab;have qe:=I.own id p c O K L W M ab;grind[S6]
     have hψ:A id=J p:=by
       rcases n id p h with⟨_,_,c⟩|⟨hn,c⟩;.omega
       .exact fr.ext _ _ (zG (by omega) c)
     have hex:∃o1,(R.H (i+1)).get id=J o1:=by obtain⟨_,jB⟩:=kM.stat.cC id p hψ;cases E:(R.HX i).get id with|none=>grind|some o1=>exact⟨o1,by rw[(T.same i Q).get];omega⟩
     obtain⟨o1,kJ⟩:=hex;obtain⟨e1,e2⟩:=T.view (m:=i+1) (m':=m) ab z ae8 (λs g f wW=>by rw[<-T.root (m:=i+1) ab (bS _) ae8]at wW;grind) kJ;grind
   . have Ut:Valid R ops.size a (rootOf (R.H ops.size) id) m:=λs kL wW=>by have:=hV s kL wW;rw[Fy]at this;have cD:s≠i:=λe=>hw ai;constructor;all_goals grind
     rcases n id p h with⟨g,f,c⟩|⟨hn,c⟩;.
       have kY:=idx id m g z G;have awE:∀s,i+1<=s->s<m->rootOf (R.H (i+1)) id∉R.wr s:=λs g1 g2 wW=>by
         rw[<-T.root (m:=i+1) ab (bS _) f]at wW;by_cases LF:rootOf (R.H ops.size) id<(R.H i).next
         . have qe:rootOf (R.H ops.size) id∈R.gr i:=by have:=(fr.mG id p c (NT id g) (by rw[Jo id f];exact LF)).1;grind[GW]
           grind
         .have vC:=(Ut s ab wW).2 g2;obtain⟨_,qM,p',b1,b2,b3⟩:=I.map s vC ab _ (.inl wW);refine I.aCB T Q Bv qM p' b1 ab ?_;rw[b3,T.root (m:=i+1) ab (bS _) f];exact qZ (T.hinv (i+1) ab) f
       obtain⟨_,jB⟩:=kM.stat.cC id p c;cases E:(R.HX i).get id with|none=>grind|some o1=>
         have kJ:(R.H (i+1)).get id=J o1:=by rw[(T.same i Q).get];omega
         obtain⟨e1,e2⟩:=T.view (m:=i+1) (m':=m) kY z f awE kJ;rw[hg]at e1;cases e1;refine take ?_ f c kJ (e2.2 ha);by_cases LF:rootOf (R.H ops.size) id<(R.H i).next;.left;have:=(fr.mG id p c (NT id g) (by rw[Jo id f];exact LF)).1;grind[GW]
         omega
     . have hQ:=I.cont id p c m z Ut G o' hg ha;by_cases avT:(R.H (i+1)).next<=id;.exact hQ.mono E1 (aMb id p c avT)
       . have LN:id<(R.H i).next:=by omega
         rcases aai p.aZ (I.aZ id p c)with E|⟨B,U,g1,g2,g3,g4,g5⟩;.exact hQ.mono E1 E
         .have hr:=I.inj B id U p g2 c g3 i ab g1 g4;rw[hr]at g5;have qe:rootOf (R.H ops.size) id∈R.gr i:=g5.resolve_left hw;have hS:=HY _ qe;have hVi:=hSV _ (hS (rootOf (R.H ops.size) id));obtain⟨oi,Lw,_⟩:=I.obj id p c i ab LN;obtain⟨e1,e2⟩:=T.aMm Ut hVi z ab G LN rfl hg ⟨oi,Lw⟩;obtain⟨f1,f2⟩:=T.view (m:=i) (m':=i+1) ab ab LN (λs q1 q2 wW=>by have:s=i:=ab;subst this;rw[<-T.root (m:=s) ab (bS _) LN]at wW;grind) e1;exact take (.inl (hS _)) ab (fr.ext _ _ (zG LN c)) f1 (f2.1 (e2.1 ha))
 . intro bk N;rcases I.nB bk N with E|⟨id,p,g,f,c,v,b1,b2,b3⟩
   . rcases aai bk (gx N I.size)with hy|⟨B,U,g1,g2,g3,g4,g5⟩;.grind
     .right;cases Fa:φ0 B with|some q=>
         have e:=I.ext _ _ Fa;rw[g2]at e;cases e;have Il:B<(R.H 0).next:=by rcases I.cC B U g2 with⟨hd,_⟩|⟨hd,_⟩;all_goals grind
         refine⟨B,U,Fa,g3,λhr=>g4 (T.ro (mn i) ab Il hr),i,aP,Q,?_⟩;rw[<-T.root (m:=0) (mn _) (bS _) Il];omega|none=>
         rcases I.new B U g2 Fa with hy|⟨j,q,K,L,c3,W,M⟩;.omega
         . have Il:j<(R.H 0).next:=by rcases I.cC j q (I.ext _ _ K)with⟨hd,_⟩|⟨hd,_⟩;all_goals grind
           refine⟨j,q,K,L.trans g3,c3,i,aP,Q,?_⟩;rw[<-T.root (m:=0) (mn _) (bS _) Il,W];omega
   grind
 . intro id p h Fa;rcases n id p h with⟨g,f,c⟩|⟨_,c⟩
   . by_cases N:w.heap.size<=p.aZ;.exact .inl (gw I.size N)
     .obtain⟨j,q,K,L,c3,W,M,c6⟩:=X id p g f c ab;cases Bw:φ0 j with|some q'=>
         have e:=I.ext _ _ Bw;rw[L]at e;cases e;have Il:j<(R.H 0).next:=by rcases I.cC j q L with⟨hd,_⟩|⟨hd,_⟩;all_goals grind
         exact .inr ⟨j,q,Bw,c3,λhr=>W (T.ro (mn i) ab Il hr),M,i,aP,Q,c6⟩|none=>
         rcases I.new j q L Bw with hy|⟨j',q',d1,d2,d3,d4,v,d5,d6⟩;.omega
         grind
   . rcases I.new id p c Fa with hy|⟨j,q,K,L,c3,W,v,M,c6⟩;.omega
     grind
 . intro id p h Fa hr;rcases n id p h with⟨g,f,c⟩|⟨_,c⟩;.obtain⟨_,j,q,K,L⟩:=fr.mG id p c (NT id g) (by rw[Jo id f];exact gx hr n01);obtain⟨d1,d2⟩:=uA K;rw[Gd j d1,Jo id f]at L;cases Bw:φ0 j with|some q'=>grind|none=>obtain⟨j',q',e1,e2⟩:=I.mG j q d2 Bw ab;grind
   .exact I.mG id p c Fa hr
 . intro id p h v rN nI g f hr;rcases(Fy v).1 rN with Ln|rfl
   . rcases n id p h with⟨k1,k2,k3⟩|⟨_,c⟩
     . exfalso;by_cases G:v<i;.grind
       .have cD:v≠i:=λe=>Bv ai;have:=T.next (m:=i+1) (m':=v) ab ab;omega
     .exact I.own id p c v Ln nI g f hr
   . rcases n id p h with⟨k1,k2,k3⟩|⟨hn,c⟩;.have:=(fr.mG id p k3 (NT id g) (by rw[Jo id f];exact hr)).1;grind[GW]
     omega
 . intro v rN nI r hr;rcases(Fy v).1 rN with Ln|rfl;.obtain⟨g,id,p,f,c⟩:=I.map v Ln nI r hr;exact⟨g,id,p,E1 _ _ f,c⟩
   . have key:r<(R.H v).next/\∃id p,oM (R.H v).next Y id=J p/\rootOf (R.H v).fresh id=r:=by
       rcases hr with hr|hr;.rw[<-NY]at hr;rcases fr.vg r hr with E|⟨E,hy⟩;all_goals grind[Heap.fresh]
       .rw[<-GW]at hr;rcases fr.vw r hr with E|⟨E,hy⟩;all_goals grind[Heap.fresh]
     obtain⟨g,id,p,f,c⟩:=key;obtain⟨d1,d2⟩:=uA f;exact⟨g,id,p,E1 _ _ d2,d1,aT⟩
 . intro v rN nI id g f;rcases(Fy v).1 rN with Ln|rfl;.obtain⟨p,hp⟩:=I.cover v Ln nI id g f;exact⟨p,E1 _ _ hp⟩
   .obtain⟨p,hp⟩:=fr.cover id g ab;exact⟨p,E2 _ _ hp⟩
 .rw[TZ ht];rw[ho];cases hd:o.dst<;>simp[hd,I.ND]
 . intro t s kL vC;obtain⟨ok,dX,hdk⟩:=T.qX.only t s kL;have UP:s<ops.size:=(ap.1 dX).1;have Pq:=T.ZJ kL ops.size UP (bS _);rw[TZ ht,ho];by_cases hd:o.dst=J t
   . have Py:s=i:=by have:=T.qX.writes i o t ho hd;simp_all
     rw[Py]at Pq;have G:t<F.tmps.size:=by have:=(T.ok.step i o ho).slot;rw[DH]at this;rw[hd]at this;simp only[eQ]at this;rw[I.ND,<-T.n i ab];grind
     rw[Pq];simp only[cR,hd];rw[GQ,Array.getElem?_setIfInBounds_self_of_lt G];exact(hv t hd).mono E2
   . have cD:s≠i:=λe=>by simp_all
     have g:=(I.Ny t s kL aT).mono E1;have f:(match(J o).bind (·.dst)with|some d=>F.tmps.setIfInBounds d u|none=>F.tmps).getD t undef=F.tmps.getD t undef:=by cases vD:o.dst with|none=>grind|some d=>have:d≠t:=λe=>hd aT;simp only[cR,vD,GQ];grind
     grind
 . intro t kL;have hd:o.dst≠J t:=λhd=>kL i (T.qX.writes i o t ho hd) aP;rw[TZ ht,ho];have f:(match(J o).bind (·.dst)with|some d=>F.tmps.setIfInBounds d u|none=>F.tmps).getD t undef=F.tmps.getD t undef:=by cases vD:o.dst with|none=>grind|some d=>have:d≠t:=λe=>hd aT;simp only[cR,vD,GQ];grind
   rw[f];exact(I.JE t (λk'' h E=>kL k'' h ((Fy k'').2 (.inl E)))).mono E1
 .rw[(HN ht).1];exact I.fn
 .rw[(HN ht).2.1];exact I.mode
 .rw[(HN ht).2.2.1];exact I.kind
 .rw[(HN ht).2.2.2.1];exact I.round
 .rw[(HN ht).2.2.2.2.1];exact I.defers
theorem VI(x:Nat)(l:aC):BQ x l=V↔x∈l:=by grind[BQ,qB,bR]
theorem ach{w:aC}{r:ah (List (Touch×Nat))}{x:Nat}(h:AM.clear w r=V)(a:x∈w):∃l,r=J l/\∀t,t∈l->t.2≠x:=by unfold AM.clear at h;grind[qB,VI]
theorem Kh{a b:jt}(h:apart a b=V):(AM.clear a.writes b.reads=V/\AM.clear b.writes a.reads=V/\∀x,x∈a.writes->x∉b.writes)\/Qt a b=V:=by grind[apart,qB,VI]
theorem O7{o:aB}{k:AV}(h:eC P tm H o=J [(.look t k,r)]):xf o.op=V/\∃m x,o.op=.lookup t m x C/\bJ P tm m=J (.map r)/\bJ P tm x=J k/\Gi P t k=V:=by
 obtain⟨g,op,j,Q,f,i⟩:=o;unfold eC at h;cases op<;>simp only at h<;>try(simp at h;done)
 case load=>split at h<;>simp at h
 case store=>split at h<;>simp at h
 case slice=>split at h<;>simp at h
 case mapEntry=>grind
 case lookup e m x ok=>cases ok with|true=>grind|false=>
  simp only at h;split at h
  . rename_i l d b c;simp only[wx,List.cons.injEq,J7,and_true]at h;obtain⟨a,rfl⟩:=h;rcases s:Gi P e d with _|_;.grind
    rw[s]at a;obtain⟨rfl,rfl⟩:=Touch.look.inj a;exact⟨rfl,m,x,rfl,b,c,s⟩
  all_goals grind
 grind
theorem atw{o:aB}{k:AV}(h:eC P tm H o=J [(.entry t k,r)]):∃m x,o.op=.mapEntry t m x/\bJ P tm m=J (.map r)/\bJ P tm x=J k:=by
 obtain⟨d,op,b,Q,a,g⟩:=o;unfold eC at h;cases op<;>simp only at h<;>try(simp at h;done)
 case load=>split at h<;>simp at h
 case store=>split at h<;>simp at h
 case slice=>split at h<;>simp at h
 all_goals grind
theorem Mi{a b:jt}(h:Qt a b=V):∃t k c r,a.reads=J [(.look t k,r)]/\b.reads=J [(.entry t c,r)]/\sameKey k c=V:=by grind[Qt,bR]
theorem JP{i:Nat}(h:r∈R.wr i):R.K i=.act:=by grind[dg.wr]
theorem JQ{i:Nat}{o:aB}(h:R.K i=.act):(R.gE P i o).writes=R.wr i:=by grind[dg.gE,dg.wr]
theorem atx(T:gD P ak rec ops ws R φ0){b:aC}{i:Nat}{o:aB}(c:rl ops ord)(u:ord=a++i::b)(f:ops[i]?=J o)(K:R.K i=.act)(F:(R.gE P i o).reads=Z\/∃l t,(R.gE P i o).reads=J l/\t∈l/\t.2=r):Valid R ops.size a r i\/∃t k,(R.gE P i o).reads=J [(.look t k,r)]:=by
 have B:i∉a:=λh=>by have:=c.nodup;grind
 have x:∀w,AM.clear w (R.gE P i o).reads=V->r∉w:=λw D g=>by grind[ach]
 by_cases n:∃t k,(R.gE P i o).reads=J [(.look t k,r)];.grind
 left;intro k v g;have d:=nr v;generalize ops[k]=q at d;have E:=JP g;rcases Nat.lt_trichotomy k i with Y|heq|X
 . refine⟨λ_=>Y,λ_=>?_⟩;rcases T.ok.pair k i q o d f Y E K with p|p
   . rcases Kh p with⟨e,_,_⟩|e;.grind[JQ]
     .obtain⟨t,G,y,H,s,A,_⟩:=Mi e;obtain⟨I,_⟩:=O7 s;grind[zx]
   .exact c.Cx (NA T.qX p Y) a b u
 .grind
 . refine⟨λz=>?_,λh=>ab⟩;rcases T.ok.pair i k o q f d X K E with p|p;.grind[Kh,JQ,Mi]
   .obtain⟨j,m,rfl⟩:=J0 z;have:=c.Cx (NA T.qX p X) j (m++i::b) ai;grind
theorem aBm{p:Nat->Prop}(n:Nat)(b:∀j,p j->j<n):(∃j,p j)->∃j,p j/\∀a,p a->a<=j:=by induction n with|zero=>grind|succ n i=>
 rintro⟨j,h⟩;by_cases c:p n;.grind
 .exact i ai ⟨j,h⟩
theorem ajb{a b:AV}(h:yI a b=V):a=b:=by unfold yI at h;grind[zL,zM]
theorem aIr:∀(s a:aI),s.length=a.length->(List.zip s a).all (λp=>yI p.1 p.2)=V->s=a:=by intro s;induction s with|nil=>grind|cons x s i=>
 intro a h k;rcases a with _|⟨y,a⟩;.grind
 simp at h k;grind[ajb]
theorem aIq{a b:AV}(h:sameKey a b=V):a=b:=by unfold sameKey at h;grind[bR,dT,qB,aIr,ajb]
theorem as1{k:AV}{e:eI}:∀(s:List eI)(i:Nat),oR P t k s i=J Z->lC P 50 t k e.1=J V->∃j,oR P t k (s++[e]) i=J (J (j,e)):=by intro s;induction s with|nil=>intro i _ h;refine⟨i,?_⟩;show((lC P 50 t k _).bind _)=_;grind|cons x s f=>intro i a c;have n:=a;obtain⟨b,d,n⟩:=aE n;cases b<;>simp_all[oR]
theorem aAW(T:gD P ak rec ops ws R φ0){b:aC}{i:Nat}{o:aB}{F:AV}(s:rl ops ord)(N:ord=a++i::b)(D:ops[i]?=J o)(K:R.K i=.act)(W:(R.gE P i o).reads=J [(.look t F,r)])(U:¬Valid R ops.size a r i):∃m,i<m/\m<=ops.size/\Valid R ops.size a r m/\∀j,i<=j->j<m->r∈R.wr j->∃q,ops[j]?=J q/\R.K j=.act/\(R.gE P j q).reads=J [(.entry t F,r)]:=by
 have hi:i<ops.size:=(ap.1 D).1;have Bv:i∉a:=λh=>by have:=s.nodup;grind
 have vH:xf o.op=V:=(O7 W).1;have L:∀w,AM.clear w (R.gE P i o).reads=V->r∉w:=λw M c=>by obtain⟨l,g,n⟩:=ach M c;simp_all
 have S:r∉R.wr i:=λh=>by grind[zx]
 have y:∀k,k<ops.size->r∈R.wr k->k<i->k∈a:=λk f c Y=>by
  have d:ops[k]?=J ops[k]:=nr f;generalize ops[k]=q at d;have E:=JP c;rcases T.ok.pair k i q o d D Y E K with p|p;.grind[Kh,JQ,Mi]
  .exact s.Cx (NA T.qX p Y) a b N
 have x:∀k,k<ops.size->r∈R.wr k->i<k->k∈a->∃q,ops[k]?=J q/\R.K k=.act/\(R.gE P k q).reads=J [(.entry t F,r)]:=λk f c X vC=>by
  have d:ops[k]?=J ops[k]:=nr f;generalize ops[k]=q at d;have E:=JP c;rcases T.ok.pair i k o q D d X K E with p|p;.grind[Kh,JQ,Mi,aIq]
  .exfalso;obtain⟨u,v,rfl⟩:=J0 vC;have:=s.Cx (NA T.qX p X) u (v++i::b) ai;grind
 have H:∃j,j<ops.size/\j∈a/\r∈R.wr j/\i<j:=by apply GR;intro sP;apply U;intro k f c;grind
 obtain⟨j,⟨z,A,B,O⟩,PD⟩:=aBm ops.size (λj h=>h.1) H;have G:Valid R ops.size a r (j+1):=λk f c=>by
  constructor;.grind
  . intro Y;rcases Nat.lt_trichotomy k i with h|h|h;.grind
    .grind
    . by_cases Q:k=j;.grind
      . have d:ops[k]?=J ops[k]:=nr f;have I:ops[j]?=J ops[j]:=nr z;rcases T.ok.pair k j _ _ d I ab (JP c) (JP B)with p|p
        . exfalso;rcases Kh p with⟨_,_,g⟩|g;.grind[JQ,JP]
          .obtain⟨_,_,_,_,n,_,_⟩:=Mi g;have:=(zx T d (.inl c)).2.2;rw[(O7 n).1]at this;grind
        .obtain⟨u,v,rfl⟩:=J0 A;have:=s.Cx (NA T.qX p ab) u (v++i::b) ai;grind
 refine⟨_,ab,ab,G,λk g n c=>?_⟩;have cD:k≠i:=λe=>ai;exact x k ab c ab ((G k ab c).2 n)
theorem aAY(T:gD P ak rec ops ws R φ0){i:Nat}{u w:an}{k:AV}(iR:P.underlying t=J (.map u w))(F:lC P 50 u k k=J V)(M:i<=m)(O:m<=ops.size)(H:∀j,i<=j->j<m->r∈R.wr j->∃q,ops[j]?=J q/\R.K j=.act/\(R.gE P j q).reads=J [(.entry t k,r)])(h:∃s c,(R.H i).jO r=J (s,c)/\Ai P u w s k C=J v):∃s c,(R.H m).jO r=J (s,c)/\Ai P u w s k C=J v:=by
 have sQ:r<(R.H i).next:=by obtain⟨s,c,n,_⟩:=h;exact(T.hinv i ab).get r _ (sW n)
 induction m with|zero=>have:i=0:=ab;subst this;exact h|succ j ih=>
 by_cases e:i=j+1;.subst e;exact h
 . obtain⟨s,c,n,g⟩:=ih ab ab (λj' a b=>H j' a ab);have W:=sW n;have Y:rootOf (R.H j) r=r:=M9 n;have U:r<(R.H j).next:=(T.hinv j ab).get r _ W;by_cases D:r∈R.wr j;.obtain⟨q,Q,K,vH⟩:=H j ab ab D;obtain⟨mm,x,X,kY,kZ⟩:=atw vH;have p:=((T.ok.step j q Q).run (by rw[K];simp)).2;unfold fB at p;obtain⟨y,d,p⟩:=aE p;simp only[dS,X,JT]at d;rw[iR,kY]at d;simp only at d;obtain⟨mo,jA,d⟩:=aE d;have L:(R.H j).jO r=J mo:=jA;rw[n]at L;cases L;rw[kZ]at d;simp only[cR]at d;cases B:ql P u k with|false=>rw[B]at d;simp at d|true=>
    rw[B]at d;simp only[aR]at d;obtain⟨I,o,d⟩:=aE d;have pM:=T.same j ab;have sN:R.HX j=R.H' j:=by unfold dg.HX;rw[K]
    have fin:∀f l,R.H' j=(R.H j).fresh.put r r (.map f l)->(R.H (j+1)).jO r=J (f,l):=λf l e=>by unfold Heap.jO;rw[pM.get,sN,e];have:((R.H j).fresh.put r r (.map f l)).get r=J (.map f l):=Tr.lF _ _ _;rw[this]
    cases I with
    |some ie=>obtain⟨ii,G⟩:=ie;simp only at d;cases A:sameKey G.1 k with|false=>rw[A]at d;simp at d|true=>rw[A]at d;simp only[aR]at d;cases d;obtain⟨_,e2⟩:=D8.val.inj (bE p);exact⟨s,c,fin s c e2.symm,g⟩
    |none=>simp only[iI]at d;obtain⟨z,S,rfl⟩:=d;obtain⟨_,e2⟩:=D8.val.inj (bE p);refine⟨dy s [(k,z,c)],fg c,fin _ _ e2.symm,?_⟩;unfold Ai at g|-;rw[o]at g;simp only[cR,S]at g;obtain⟨jj,N⟩:=as1 (P:=P) (e:=(k,z,c)) s 0 o F;rw[ly,N];simp only[cR];exact g
   .obtain⟨f1,_⟩:=T.view (m:=j) (m':=j+1) ab O U (λk' a b E=>by have:k'=j:=ab;subst this;rw[Y]at E;exact D E) W;refine⟨s,c,?_,g⟩;unfold Heap.jO;rw[f1]
def att(t:Tr AV)(H:Heap)(o:aB):eC P t H.fresh o=eC P t H o:=rfl
theorem aIR{k:AV}(h:Gi P t k=V):∃a e,P.underlying t=J (.map a e)/\lC P 50 a k k=J V:=by grind[Gi]
theorem atv{o:aB}{c:Call}(h:o.op=.call c)(d:¬∃b,c.callee=.builtin b):eC P tm H o=Z:=by obtain⟨f,op,t,Q,e,g⟩:=o;subst h;obtain⟨callee,args,a⟩:=c;cases callee with|builtin b=>grind|_=>rfl
theorem ast{o:aB}(i:∀c,o.op=.call c->∃b,c.callee=.builtin b)(h:fB P ak rec tm H o=J (.val v H')):dS P ak tm H o=J (.val v H'):=by unfold fB at h;obtain⟨x,a,h⟩:=aE h;rw[a];cases x with|val n H1=>grind|call c H1=>
 exfalso;by_cases f:∃c,o.op=.call c;.obtain⟨c,q⟩:=f;obtain⟨b,g⟩:=i c q;simp only[dS,q,Cg]at a;obtain⟨d,l,a⟩:=aE a;unfold yE at l;rw[g]at l;obtain⟨S,j,l⟩:=aE l;grind[uN,iI]
 .obtain⟨m,H2,k⟩:=TQ (λc e=>f ⟨c,e⟩) _ a;simp_all
theorem aAT{o:aB}{b d:an}{m x:aK}{k:AV}(i:o.op=.lookup t m x C)(u:P.underlying t=J (.map b d))(g:bJ P tm m=J (.map r))(l:bJ P tm x=J k)(h:fB P ak rec tm H o=J (.val v H')):H'=H/\ql P b k=V/\∃s c,H.jO r=J (s,c)/\Ai P b d s k C=J v:=by unfold fB at h;obtain⟨y,a,h⟩:=aE h;simp only[dS,i,Ci]at a;rw[u,g]at a;simp only at a;obtain⟨s,p,a⟩:=aE a;rw[l]at a;simp only[cR]at a;cases f:ql P b k with|false=>grind|true=>
 rw[f]at a;simp only[aR]at a;simp only[iI]at p;obtain⟨B,E,rfl⟩:=p;obtain⟨s,c⟩:=B;obtain⟨q,j,a⟩:=aE a;have A:H'=H/\Ai P b d s k C=J v:=by unfold Ai;rw[j];simp only[cR];cases q with|none=>simp only at a|-;obtain⟨z,n,a⟩:=aE a;rw[n];cases a;simp_all|some w=>obtain⟨D,e⟩:=w;simp only at a|-;cases a;simp_all
 grind
theorem Inv.aq(T:gD P ak rec ops ws R φ0)(I:Inv P ops ws R φ0 w0 F0 a Y w F)(d:iX P φ0)(b:∀id p,φ0 id=J p->id<(R.H 0).next){i:Nat}(e:i<=ops.size):iX P (oM (R.H i).next Y):=λg z=>by obtain⟨p,h,c⟩:=d g z;exact⟨p,zG (gx (b g p h) (T.next ab e)) (I.ext _ _ h),c⟩
set_option maxHeartbeats 1600000 in theorem aE4(eW:nz P rec)(oU:jL P ak)(hn:ru P)(T:gD P ak rec ops ws R φ0){b:aC}{f:Nat}(hg:iX P φ0)(h0:∀id p,φ0 id=J p->id<(R.H 0).next)(I:Inv P ops ws R φ0 w0 F0 a Y w F)(s:rl ops ord)(D:ord=a++f::b)(E:F.todo=.inRegion ops (f::b)::k)(hm:F.mode=.run):∃G w' u,Steps P (ff F cs w) (ff (F.finish u) cs w')/\Inv P ops ws R φ0 w0 F0 (a++[f]) G w' (F.finish u):=by
 have H:f<ops.size:=(s.all f).2 ai;have g:ops[f]?=J ops[f]:=nr H;generalize ops[f]=o at g;have st:=T.ok.step f o g;have oc:=I.aq T hg h0 (i:=f) ab;have hinv:bg (R.H f).fresh:=(T.hinv f ab).fresh;have vD:∀y,y∈o.op.operands.toList->fj (oM (R.H f).next Y) (R.fr f).tmps F.eval y:=λy hy t e=>by subst e;exact T.abJ ab (I.operand T s D g (T.qX.reads f o t g hy))
 have M:∀{bb:Bool},wi ops (R.fr f).tmps o=J bb->Region.wanted o (yielded ops F.tmps)=bb:=λhb=>by refine JO (Y:=Y) (c:=F.tmps) hb (λj Q d L B=>?_);have avh:=T.qX.guard f o j Q g L;cases Ir:ops[j]? with|none=>grind|some q=>rw[Ir]at B;exact I.operand T s D g (.inr ⟨j,T.qX.writes j q d Ir B,.inr (.inl avh)⟩)
 by_cases hK:R.K f=.skip
 . obtain⟨L,B,h3⟩:=st.skip hK;have hw:=M L;have N:R.HX f=(R.H f).fresh:=by grind[dg.HX]
   refine⟨_,w,undef,Steps.one (step_lone_go (by simp_all[stepG,ug])),Inv.step T (S:=λ_=>False) (A:=oM (R.H f).next Y) I s D g E (λ_ h=>h.elim) (λr h=>?_) (λr h=>?_) ?_ (λd _=>by grind[JJ])⟩;.grind[zx]
   .have:=(zx T g (.inr h)).1;grind
   .rw[N];exact ig.refl hinv (I.AB T H (λ_ h=>h.elim))
 . obtain⟨L,B⟩:=st.run hK;have hw:=M L;have hd:=aE2 B;have plain:∀S:Nat->Prop,(∀r,S r->Valid R ops.size a r f)->JX P S (R.fr f).tmps (R.H f).fresh o->(∀c,o.op=.call c->∃b,c.callee=.builtin b)->R.HX f=R.H' f->(∀r,r∈R.wr f->S r)->(∀r,r∈R.gr f->∀K,S K)->∃G w' u,Steps P (ff F cs w) (ff (F.finish u) cs w')/\Inv P ops ws R φ0 w0 F0 (a++[f]) G w' (F.finish u):=λS hS hf hc N Pj U=>by have hex:dS P ak (R.fr f).tmps (R.H f).fresh o=J (.val (R.v f) (R.H' f)):=ast hc B;obtain⟨A,n,w',r1,r2,r3⟩:=adG hinv (I.AB T H hS) oc (Frame.reads F) vD hf hc hex;obtain⟨a1,a2,_⟩:=Gs (cs:=cs) hm E g hw hd r1;cases n with|value u=>exact⟨_,w',u,Steps.one (a1 u rfl),Inv.step T I s D g E hS Pj U ai (λd _=>r2)⟩|skip=>simp only[D7]at r2;exact⟨_,w',undef,Steps.one (a2 rfl),Inv.step T I s D g E hS Pj U (by rw[N];omega) (λd _=>by grind[JJ])⟩|_=>simp only[D7]at r2
   cases W:R.K f with|skip=>grind|quiet=>
   obtain⟨q1,q2⟩:=st.quiet W;have Uo:=Wd q1 B;have N:R.HX f=R.H' f:=by grind[dg.HX]
   refine plain (λ_=>False) (λ_ h=>h.elim) (.inl q1) (λc e=>by grind[oA]) N (λr h=>?_) (λr h=>?_);.grind[zx]
   .have:=(zx T g (.inr h)).1;grind|act=>
   obtain⟨q1,q2,q3,q4,q5⟩:=st.act W;have N:R.HX f=R.H' f:=by grind[dg.HX]
   have vH:(R.gE P f o).reads=eC P (R.fr f).tmps (R.H f) o:=rfl;have wR:=λr=>atx T s D g W (r:=r);have X:(R.gE P f o).reads=Z->∀r,Valid R ops.size a r f:=λyi r=>by grind
   have U:∀r,r∈R.gr f->∀K,Valid R ops.size a K f:=λr h K=>X (aex T g h).2 K;by_cases eV:∀c,o.op=.call c->∃b,c.callee=.builtin b
   . by_cases aw2:∃t kk r,(R.gE P f o).reads=J [(.look t kk,r)]/\¬Valid R ops.size a r f
     . obtain⟨t,kk,r,hr,UW⟩:=aw2;obtain⟨eH,mm,x,iF,kY,kZ,LH⟩:=O7 (vH▸hr);obtain⟨kt,et,hu,heq⟩:=aIR LH;obtain⟨Uo,Lr,es,c,jA,ER⟩:=aAT iF hu kY kZ B;obtain⟨m,g1,g2,g3,g4⟩:=aAW T s D g W hr UW;obtain⟨es',c',Lv,awn⟩:=aAY T hu heq ab g2 g4 ⟨es,c,jA,ER⟩;have O:=(fH oc (Frame.reads F) (vD mm (by grind[eL])) kY).1;have hvk:=(fH oc (Frame.reads F) (vD x (by grind[eL])) kZ).1;have sQ:r<(R.H f).next:=(T.hinv f ab).get r _ (sW jA);have oq:r<(R.H m).next:=gx sQ (T.next ab g2);have EY:rootOf (R.H ops.size) r=r:=by rw[T.root (m:=m) g2 (bS _) oq];grind[M9]
       have Ia:execOp F.eval o=(do pure (.value (<-Instr.lookup t (F.eval mm) (F.eval x) C))):=by grind[execOp]
       generalize F.eval mm=ad at O Ia;cases O with|map _ p hp=>
         obtain⟨_,EU⟩:=uA hp;obtain⟨_,aa,ha,H9⟩:=I.cont r p EU m g2 ai oq _ (sW Lv) (λl K fl e h=>by rw[sW Lv]at h;grind);obtain⟨z,z1,z2⟩:=VD (P:=P) (w:=w) (Y:=Y) (arr:=aa) (mv:=.map (J p.aZ)) hu (.inl ⟨p.aZ,c',rfl,ha⟩) H9 (hvk.mono (λid q h=>(uA h).2)) Lr awn;obtain⟨a1,_⟩:=Gs (P:=P) (w:=w) (cs:=cs) (n:=.value z) (w':=w) hm E g hw hd aT;refine⟨_,w,z,Steps.one (a1 z rfl),Inv.step T (S:=λ_=>False) (A:=oM (R.H f).next Y) I s D g E (λ_ h=>h.elim) (λr h=>?_) (λr h=>?_) ?_ (λd Lj=>?_)⟩;.grind[zx]
         .grind
         .rw[N,Uo];exact ig.refl hinv (I.AB T H (λ_ h=>h.elim))
         . have PW:(R.fr (f+1)).tmps.get d=J (R.v f):=by rw[T.slot g d,if_pos Lj]
           have:=T.abJ (Y:=Y) (i:=f+1) (t:=d) (v:=z) ab aT;rw[PW]at this;have tM:(R.H (f+1)).next=(R.H f).next:=by rw[(T.same f H).2.2,N,Uo];rfl
           grind
     . refine plain (λr=>Valid R ops.size a r f) (λ_ h=>h) (.inr ?_) eV N (λr h=>?_) U
       . rw[att,<-vH];have ha:∀l t,(R.gE P f o).reads=J l->t∈l->Valid R ops.size a t.2 f:=λl t EO oW=>by rcases wR t.2 (.inr ⟨l,t,EO,oW,rfl⟩)with h|⟨t',kk,h⟩;all_goals grind
         grind
       .cases pL:(R.gE P f o).reads with|none=>simp_all|some l=>unfold within at q5;rw[pL]at q5;simp only[qB,AW]at q5;have:=(VI _ _).1 (q5 r (by grind[JQ]));rw[Ak,au]at this;obtain⟨t,oW,sS⟩:=this;rcases wR r (.inr ⟨l,t,pL,oW,sS⟩)with hx|⟨t',kk,hx⟩;all_goals grind
   . have⟨c,hc,hb⟩:∃c,o.op=.call c/\¬∃b,c.callee=.builtin b:=by simp_all
     have yi:(R.gE P f o).reads=Z:=atv hc hb;have hV:=X yi;have dX:=Wf (cs:=cs) eW oU hn hinv (I.AB T H (S:=gI) (λr _=>hV r)) oc hm E g hw vD B;obtain⟨A,w',u,p1,p2,p3⟩:=dX;refine⟨_,w',u,p3,Inv.step T (S:=gI) I s D g E (λr _=>hV r) (λ_ _=>trivial) (λ_ _ _=>trivial) ?_ (λd _=>p2)⟩;rw[N];exact⟨p1.1,p1.2.1.up (λ_ _=>trivial),p1.2.2⟩
theorem aCD{b x:Nat}{l:aC}:x∈Heap.note b r l↔x∈l\/(x=r/\r<b):=by
 constructor;.intro h;rcases vN h with h|⟨a,c⟩<;>grind
 grind[QA,FJ]
theorem QP{b x:Nat}:∀(ls l:aC),x∈fS (λl r=>Heap.note b r l) ls l↔x∈l\/(x∈ls/\x<b):=by intro ls;induction ls with|nil=>simp[pF]|cons y s i=>grind[Heap.note,pF,aCD]
theorem aMw(c:J' P ak rec ops R):∀j,j<=ops.size->(R.H j).bA=(R.H 0).bA/\(∀r,r∈(R.H j).bV↔r∈(R.H 0).bV\/(r<(R.H 0).bA/\∃i,i<j/\r∈R.wr i))/\(∀r,r∈(R.H j).cI↔r∈(R.H 0).cI\/(r<(R.H 0).bA/\∃i,i<j/\r∈R.gr i)):=by intro j;induction j with|zero=>grind|succ j d=>
 intro l;obtain⟨b,f,g⟩:=d ab;have o:ops[j]?=J _:=nr ab;have st:=c.step j _ o;have a:R.H (j+1)=R.H j->R.K j≠.act->(R.H (j+1)).bA=(R.H 0).bA/\(∀r,r∈(R.H (j+1)).bV↔r∈(R.H 0).bV\/(r<(R.H 0).bA/\∃i,i<j+1/\r∈R.wr i))/\(∀r,r∈(R.H (j+1)).cI↔r∈(R.H 0).cI\/(r<(R.H 0).bA/\∃i,i<j+1/\r∈R.gr i)):=λe h=>by grind[dg.wr,dg.gr]
 rcases h:R.K j with _|_|_;.exact a (st.skip h).2.2 ai
 .exact a (st.quiet h).2 ai
 have e:=(st.act h).2.1;have w:R.wr j=(R.H' j).bV:=by grind[dg.wr]
 have k:R.gr j=(R.H' j).cI:=by grind[dg.gr]
 rw[e];refine⟨b,λr=>?_,λr=>?_⟩;.show r∈fS _ _ _↔_;grind[QP]
 .show r∈fS _ _ _↔_;grind[QP]
theorem Inv.first(T:gD P ak rec ops ws R φ0){S:List Item}(s:bQ gI φ0 (R.H 0) w)(z:iW φ0 (R.fr 0) F S):Inv P ops ws R φ0 w F [] φ0 w F:=by
 have c:∀id p,φ0 id=J p->id<(R.H 0).next:=λid p h=>s.stat.lt (T.hinv 0 ab) h;refine{ext:=Ext.refl _,aZ:=λid p h=>(s.stat.cC id p h).1,cC:=λid p h=>.inl ⟨c id p h,h⟩,obj:=?_,inj:=?_,mono:=?_,cont:=?_,size:=bS _,os:=rfl,tape:=rfl,output:=rfl,nB:=λ_ _=>.inl rfl,new:=λid p h L=>ai,mG:=λid p h L=>ai,own:=λid p h i B=>ai,map:=λi B=>ai,cover:=λi B=>ai,ND:=z.tmps.1,Ny:=λt k _ hk=>ai,JE:=λt _=>z.tmps.2 t,fn:=rfl,mode:=rfl,kind:=rfl,round:=rfl,defers:=rfl}
 . intro id p h m d Y;obtain⟨_,X⟩:=s.stat.cC id p h;rcases j:(R.H 0).get id with _|u;.grind
   obtain⟨U,g2,l2⟩:=T.keep (mn m) d (c id p h) j;refine⟨U,g2,λl r v e A=>?_⟩;subst A;cases Q:u.dZ with|true=>cases u<;>simp[ch.dZ]at Q;obtain⟨l',K,e1,e2⟩:=l2.1 _ _ _ _ rfl;obtain⟨rfl,rfl,rfl,rfl⟩:=ch.cells.inj e1;rw[e2];exact s.stat.len id p _ _ _ _ h j|false=>exfalso;exact l2.2 (λl r v e A=>by grind[ch.dZ]) l r v e rfl
 .intro x y p q f g n m d Y H;rw[T.root ab ab (c x p f),T.root ab ab (c y q g)];exact s.stat.inj x y p q f g n (λh=>H (T.ro ab d (c x p f) h))
 .intro x y p q f g n W m d Y H;exact s.stat.mono x y p q f g n (H.imp (λa b=>a (T.ro ab d (c x p f) b)) (λa b=>a (T.ro ab d (c y q g) b))) W
 . intro id p h m d N Y o j O;have D:=c id p h;obtain⟨_,X⟩:=s.stat.cC id p h;rcases E:(R.H 0).get id with _|u;.grind
   obtain⟨I,v2⟩:=T.view (mn m) d D (λi h1 M G=>by rw[<-T.root ab (bS _) D]at G;have:=(N i ab G).2 M;grind) E;rw[j]at I;cases I;exact s.obj id p o h trivial (v2.2 O) E
theorem aE7(W:nz P rec)(U:jL P ak)(q:ru P)(T:gD P ak rec ops ws R φ0)(m:iX P φ0)(j:∀id p,φ0 id=J p->id<(R.H 0).next)(n:rl ops ord):∀(b a:aC)(Y:bc)(w:aV)(F:di),ord=a++b->Inv P ops ws R φ0 w0 F0 a Y w F->F.todo=.inRegion ops b::k->F.mode=.run->∃c w' d,Steps P (ff F cs w) (ff d cs w')/\Inv P ops ws R φ0 w0 F0 ord c w' d/\d.todo=.inRegion ops []::k:=by intro b;induction b with|nil=>grind[Steps.refl]|cons i b r=>intro a Y w F l I h o;obtain⟨c,w',u,s,f⟩:=aE4 W U q T m j I n l h o;have fr:=HN (u:=u) h;obtain⟨x,v,e,t,g,t2⟩:=r _ _ w' _ ai f fr.2.2.2.2.2 ai;exact⟨_,v,e,s.trans t,g,t2⟩
theorem gD.aBe(T:gD P ak rec ops ws R φ0){d:Nat}:∀n,n<=ops.size->(R.H 0).next<=d->d<(R.H n).next->∃i,i<n/\(R.H i).next<=d/\d<(R.H (i+1)).next:=by intro n;induction n<;>grind
set_option maxHeartbeats 1600000 in theorem aoS(eW:nz P rec)(oU:jL P ak)(hn:ru P):JW P ak rec:=by
 intro ops fr H r PT hr Y w F cs ord k hi hs hg O m hl;obtain⟨R,e1,e2,rfl,N⟩:=aMy hr;subst e1;subst e2;obtain⟨ws,z⟩:=aiJ PT;have hFt:iW Y (R.fr 0) {F with todo:=.inRegion ops (List.range' 0 ops.size)::k} (.inRegion ops (List.range' 0 ops.size)::k):=⟨m.fn,m.tmps,λ_=>rfl,m.defers,m.mode,m.kind,m.round⟩;have E:=aMz (cs:=cs) eW oU hn N hi hs hg O hFt;have T:gD P ak rec ops ws R Y:={
  ok:=N
  qX:=z
  hinv:=λj hj=>(E j hj).1.elim λ_ h=>h.elim λ_ h=>h.elim λ_ h=>h.1
  af:=λi K=>(E (i+1) ab).2.2.2.2.2 i ab
  same:=λi K=>aj9 N (nr K)
  txt:=λi K=>by obtain⟨A,w',F',_,g,f,s,v⟩:=(E i K).1;exact⟨A,w',_,_,g,f,s,v.tmps⟩};have h0:∀id p,Y id=J p->id<(R.H 0).next:=λid p h=>hs.stat.lt hi h;have tI:=m.run O;have tO:=m.todo O;obtain⟨A,w',F',u,I,ht⟩:=aE7 (cs:=cs) eW oU hn T hg h0 hl ord [] Y w F rfl (Inv.first T hs m) tO tI;obtain⟨_,m1,m3,m4,m5,_⟩:=E ops.size (bS _);have L:∀i,i<ops.size->i∈ord:=λi h=>(hl.all i).1 h;obtain⟨lg1,W,X⟩:=aMw N ops.size (bS _);have afD:(R.H 0).bA<=(R.H 0).next:=hi.bA;have rt0:∀id,id<(R.H 0).next->rootOf (R.H ops.size) id=rootOf (R.H 0) id:=λid h=>T.root (mn _) (bS _) h;have lt0:∀id,id<(R.H 0).next->id<(R.H ops.size).next:=λid h=>gx h (T.next (mn _) (bS _));have M:∀id p,A id=J p->id<(R.H ops.size).next:=λid p h=>by
  rcases I.cC id p h with⟨g,_⟩|⟨_,i,_,K,_,f⟩;.grind
  .exact gx f (T.next ab (bS _))
 have n:∀id p,A id=J p->rootOf (R.H ops.size) id<(R.H 0).next->∃j q,Y j=J q/\rootOf (R.H 0) j=rootOf (R.H ops.size) id:=λid p h bY=>by
  rcases I.cC id p h with⟨g,f⟩|⟨U,_⟩;.grind
  .obtain⟨j,q,a,b⟩:=I.mG id p h U bY;grind
 have D:Stat A (R.H ops.size) w'.heap.size:={
  cC:=λid p h=>by obtain⟨o,ho,_⟩:=I.obj id p h ops.size (bS _) (M id p h);exact⟨I.aZ id p h,ai⟩
  len:=λid p l r fl e h kX=>by obtain⟨o,ho,hlen⟩:=I.obj id p h ops.size (bS _) (M id p h);grind
  inj:=λx y p q Q S B eH=>I.inj x y p q Q S B ops.size (bS _) (M x p Q) eH
  mono:=λx y p q Q S B eH tQ=>I.mono x y p q Q S B tQ ops.size (bS _) (M y q S) eH};have AB:bQ gI A (R.H ops.size) w':=⟨D,λid p o h _ ha kX=>I.cont id p h ops.size (bS _) (λi K _=>⟨λ_=>K,λ_=>L i K⟩) (M id p h) o kX ha⟩;have frm:Fr Y (R.H 0) w A (R.H ops.size) w':={
  ext:=I.ext
  size:=I.size
  os:=I.os
  tape:=I.tape
  output:=I.output
  next:=T.next (mn _) (bS _)
  bA:=lg1
  bV:=λr h=>(W r).2 (.inl h)
  cI:=λr h=>(X r).2 (.inl h)
  root:=λid h=>rt0 id h
  view:=λid o g f s v=>by obtain⟨a,b⟩:=T.view (mn ops.size) (bS _) g (λi _ G hw=>s ((W _).2 (.inr ⟨f,i,G,hw⟩))) v;simp_all
  nB:=λbk B=>by
   rcases I.nB bk B with h|⟨id,p,g,f,s,i,v,G,h6⟩;.grind
   grind
  new:=λid p h U=>by
   rcases I.cC id p h with⟨_,f⟩|⟨_,i,_,K,f,_⟩;.grind
   . refine⟨gw (T.next (mn i) ab) f,?_⟩;rcases I.new id p h U with s|⟨j,q,s,v,G,h6,i',h7,h8,h9⟩;.omega
     .refine .inr ⟨j,q,s,v,G,ai,?_⟩;grind
  ro:=λid g f=>T.ro (mn _) (bS _) g f
  keep:=λid o g f=>T.keep (mn _) (bS _) g f
  cover:=λid g f=>by obtain⟨i,a,b,c⟩:=T.aBe ops.size (bS _) g f;exact I.cover i (L i a) a id b c
  mG:=λid p h U bY=>by
   rcases I.cC id p h with⟨_,f⟩|⟨_,i,Bv,K,f,s⟩;.grind
   .have:=T.next (mn i) (by omega:i<=ops.size);have qe:=I.own id p h i Bv K f s ab;exact⟨(X _).2 (.inr ⟨bY,i,K,qe⟩),n id p h ab⟩
  vg:=λr h=>by
   rcases(W r).1 h with h|⟨g,i,f,s⟩;.grind
   .obtain⟨_,id,p,a,_,c⟩:=I.map i (L i f) f r (.inl s);obtain⟨j,q,d,e⟩:=n id p a ab;grind
  vw:=λr h=>by
   rcases(X r).1 h with h|⟨g,i,f,s⟩;.grind
   .obtain⟨_,id,p,a,_,c⟩:=I.map i (L i f) f r (.inr s);obtain⟨j,q,d,e⟩:=n id p a ab;grind};refine⟨A,w',F',u,⟨T.hinv _ (bS _),AB,frm⟩,?_,m1,I.fn⟩;refine⟨by rw[I.fn,m.fn,m5],⟨by rw[I.ND,m4],λt=>?_⟩,λ_=>ht,by rw[I.defers,m3];exact m.defers.mono I.ext,?_,by rw[I.kind,m.kind],by rw[I.round,m1.round];exact m.round.mono I.ext⟩;.cases IA:ws.get t with|none=>rw[T.ZI t ops.size (bS _) (λk h=>ai)];exact I.JE t (λk h=>ai)|some k'=>obtain⟨o,ho,_⟩:=z.only t k' IA;exact I.Ny t k' IA (L k' (ap.1 ho).1)
 .rw[I.mode,m1.mode,m.mode,O]
theorem TO{a:cj}(o:jL P a)(b:ru P)(h:P.follows .mixedOrders=V)(n:Nat):nz P (AM.run P a n):=by grind[aH1,aoS,aAw]
end
end Go.AM
namespace Go.VM
open Go Go.AM
variable{α β:Type}{x y:ah α}
def Le{a:Type}(x y:ah a):Prop:=∀o,x=J o->y=J o
theorem Le.refl(x:ah α):Le x x:=λ_ h=>h
theorem Le.none(y:ah α):Le Z y:=λ_ h=>ai
theorem Le.bind{f g:α->ah β}(h:Le x y)(k:∀a,Le (f a) (g a)):Le (x.bind f) (y.bind g):=λo b=>by obtain⟨a,c,b⟩:=aE b;rw[h a c,cR];exact k a o b
def Le.Hl(x:ah α){f g:α->ah β}(k:∀a,Le (f a) (g a)):Le (x.bind f) (x.bind g):=(Le.refl x).bind k
theorem Le.cond(b:Bool){a c:ah α}(h:Le x a)(k:Le y c):Le (bif b then x else y) (bif b then a else c):=ai
theorem Le.map(f:α->β)(h:Le x y):Le (x.map f) (y.map f):=λo b=>by
 rcases x with _|a;.grind
 rw[h a rfl];omega
section
variable{P:aH}{ak:cj}{rec DB:Rec}(h:∀fr H,Le (rec fr H) (DB fr H))
include h
theorem We(t:Tr AV)(H:Heap)(o:aB):Le (fB P ak rec t H o) (fB P ak DB t H o):=by refine Le.Hl _ λr=>?_;cases r with|call c H=>exact(h c H).bind λa=>Le.refl _|_=>simp[Le.refl]
theorem aoP(p:Array aB)(f:cG)(H:Heap)(o:aB):Le (Bf P ak rec p f H o) (Bf P ak DB p f H o):=by refine Le.Hl _ λw=>?_;exact Le.cond _ ((We h _ _ _).bind λa=>Le.refl _) (Le.refl _)
theorem ai6(o:Array aB):∀(l:List aB)(fr:cG)(H:Heap),Le (Aw P ak rec o l fr H) (Aw P ak DB o l fr H)|[],_,_=>Le.refl _|_::l,_,_=>(aoP h _ _ _ _).bind λ|.next _ _=>ai6 o l _ _
theorem Rl(p:Array aB):∀(l:List aB)(j:Nat)(g:List (Nat×jt))(fr:cG)(H:Heap),Le (vZ P ak rec p l j g fr H) (vZ P ak DB p l j g fr H)|[],_,_,_,_=>Le.refl _|o::l,j,g,fr,H=>by rw[Gf,Gf];exact Le.Hl _ λw=>Le.cond _ (Le.Hl _ λfr=>Rl p l _ _ _ _) ((We h _ _ _).bind λ|.val _ _=>Le.Hl _ λ_=>Le.cond _ (Rl p l _ _ _ _) (Le.cond _ (Rl p l _ _ _ _) (Le.refl _)))
theorem amN(f:cG)(H:Heap):Le (body P ak rec f H) (body P ak DB f H):=by
 unfold body;split;.unfold vm wC xL xM xN Kj A8;repeat' first|exact Le.refl _|exact h _ _|exact Rl h _ _ _ _ _ _|exact ai6 h _ _ _ _|refine Le.cond _ ?_ ?_|refine Le.Hl _ λ_=>?_|refine Le.bind ?_ λ_=>?_|split|dsimp only
 all_goals grind[Ef,Le.refl]
end
theorem aIc{P:aH}{a:cj}:∀(n:Nat)(fr:cG)(H:Heap),Le (AM.run P a n fr H) (AM.run P a (n+1) fr H):=by intro n;induction n with|zero=>intro fr H;exact Le.none _|succ n i=>intro fr H;exact amN i fr H
theorem Jr{P:aH}{a:cj}{n m:Nat}(h:n<=m)(f:cG)(H:Heap):Le (AM.run P a n f H) (AM.run P a m f H):=by induction h with|refl=>simp[Le.refl]|step _ i=>exactλo b=>aIc _ _ _ o (i o b)
end Go.VM
namespace Go.VM
open Go Go.AM
variable{a:AV}{ops:Array aB}{fn:Func}{it:Item}{k:List Item}{r:Nat}{G:Out->Prop}{rc:Rec}{v:SV}{st1:St}{aS:aI}{x:aK}{ow:aM}{captured:ao}{f h:bW}{o0:ch}
def wq(P:aH)(m:cj)(j:bU):Prop:=∀st f x aS st1 v,Qb j st f x aS=J (st1,v)->∀K e l H t h,Ok K e l H st t->dw P K (λ_=>Z) j.aq->bK K e aS h->∀d s,aG {st1 with sl:=cN st1.sl} d v=J s->∃i a c g k b,AM.bJ P t x=J i/\Ev P m f (i::h) H a c/\Nx K e l H g k b c/\Ok g k b c s (gR t d a)/\st1.n=st.n/\st1.fn=st.fn
section
variable{P:aH}{ak:cj}{rec:dR}{cf:bU}{K K' K1 K2:aY}{Y A φ0:cm}{B ω' ω0 fJ ω1:aJ}{H H':Heap}{lb:dV}{g g':GH}{O st' st2:St}{tm:Tr AV}{o:aB}{aq:Nat->ah ao}
theorem anb(h:Ev P ak f aS H a H'):(∃fr,AM.xQ P ak f aS H=J (.call fr H)/\ak f aS H=Z/\∃n,AM.run P ak n fr H=J (.ret a H'))\/AM.xQ P ak f aS H=J (.val a H'):=by
 rcases h with h|⟨b,fr,d,n,c⟩;.simp_all[AM.xQ]
 .refine .inl ⟨fr,?_,b,n,c⟩;simp_all[AM.xQ]
theorem QR{c:Call}{b:aK}{i p:aI}(r:o.op=.call c)(l:c.callee=.value b)(q:AM.bJ P tm b=J (.func f i p))(k:cw (AM.bJ P tm) c.args.toList=J aS)(u:Ev P ak f (i++aS++p) H a H'):∃j,∀n,j<=n->fB P ak (AM.run P ak n) tm H o=J (.val a H'):=by
 have hr:yE P tm c=J {target:=.fn f p,args:=i++aS}:=by grind[yE,ly]
 have e:dS P ak tm H o=AM.xQ P ak f (i++aS++p) H:=by simp_all[dS,Cg,uN,ly]
 rcases anb u with⟨fr,h,_,n,d⟩|h;.refine⟨n,λm g=>?_⟩;unfold fB;rw[e,h];simp only[cR];rw[Jr g fr H _ d];rfl
 simp_all[fB]
theorem aE3{c:Call}{b:aK}{i:Nat}(f:o.op=.call c)(k:c.callee=.value b)(l:AM.bJ P tm b=J (.yield i))(j:cw (AM.bJ P tm) c.args.toList=J aS)(u:YEv P ak i aS H a H'):∃g,∀n,g<=n->fB P ak (AM.run P ak n) tm H o=J (.val a H'):=by
 obtain⟨fr,h,n,d⟩:=u;have hr:yE P tm c=J {target:=.yield i,args:=aS}:=by grind[yE]
 refine⟨n,λm e=>?_⟩;unfold fB dS;rw[f];simp only[Cg];simp only[hr,cR,h];rw[Jr e fr H _ d];rfl
theorem I0(s:bZ K Y B H tm O.sl){d:DV}(g:bj aq O x=J d)(f:∀l e n,d≠.ay l e n):jK O x:=by
 intro t b e e1 e2;have:bj aq O (.tmp t)=J b:=by show sD (match look O.sl t with|some .dd=>Z|r=>r) _=J b;rw[e2];rfl
 obtain⟨a,_,_,h⟩:=s t _ e2;rcases h with⟨h,_⟩|⟨r,_,h⟩;.omega
 .obtain⟨l,_,_,_,_,_,_,c,_⟩:=h.ex;grind
theorem K9{l c:ao}(h:DR K Y (.func f l c) a):∃m b,a=.func f m b/\bK K Y l m/\bK K Y c b:=by cases h with|func _ _ _ m b d e g1 g2=>exact⟨m,b,rfl,⟨d,g1⟩,⟨e,g2⟩⟩
theorem pj.Wa{r:ao}(h:bK K Y r aS):pj K Y B H r .no aS:=⟨h.1,λi d a x y=>by have:=h.2 i d a x y;split<;>exact this⟩
def Ea(P:aH)(a:cj)(c:bU)(K:aY)(e:cm)(f:aJ)(H:Heap)(t s:St)(m:Tr AV)(o:aB):Prop:=∃v H' K' A ω',(∃b,∀n,b<=n->fB P a (AM.run P a n) m H o=J (.val v H'))/\(∀d,o.dst=J d->d<t.n)/\Nx K e f H K' A ω' H'/\Ok K' A ω' H' s (gR m o.dst v)/\s.n=t.n/\s.fn=t.fn/\((match kindOf c t o.op with|.wr=>False|_=>True)->(∀r,r∈H'.bV->r∈H.bV)/\(isApp o.op=C->∀r,r∈H'.cI->r∈H.cI))
theorem VK{c:Call}{i:aK}(h:c.callee=.value i)(a:x∈c.args.toList):x∈handsOn (.call c):=by cases c<;>grind[handsOn,eL,Call.operands]
theorem Jv{s a:St}{d:ah Tmp}(h:aG s d v=J a){n:Nat}{fn:bW}(b:s.n=n)(c:s.fn=fn):(∀t,d=J t->t<n)/\a.n=n/\a.fn=fn:=by grind[nP]
theorem SW{d:Type}{a:ao}{g:GH}{k:SV->GH->ah d}{x:d}(h:jv cf rec f a ow g k=J x):∃v g2,jv cf rec f a ow g (λv g=>J (v,g))=J (v,g2)/\k v g2=J x:=by unfold jv at h|-;cases p:cf.iw f with
 |true=>
 rw[p]at h;rcases c:cg _ with _|_;.grind
 rw[c]at h;obtain⟨r,hr,h⟩:=aE h;grind|false=>rw[p]at h;simp only[bX]at h|-;cases b:cf.nZ f with
 |true=>
 rw[b]at h;simp only[aR]at h|-;rcases c:cg _ with _|_;.grind
 rw[c]at h;obtain⟨r,hr,h⟩:=aE h;grind|false=>rw[b]at h;obtain⟨r,hr,h⟩:=aE h;grind
theorem pG(h:dw P K (λ_=>Z) aq):dw P K Y aq:=h.mono (bo.refl _) (λid x h=>ai)
theorem Qz(g:dw P K Y aq)(s:bZ K Y B H tm O.sl){l:List aK}{d:ao}(n:∀x,x∈l->jK O x)(h:cw (bj aq O) l=J d):∃m,cw (AM.bJ P tm) l=J m/\bK K Y d m:=by grind[VF]
theorem anu(R:rj P ak cf rec)(k:Ok K Y B H O tm)(l:dw P K (λ_=>Z) cf.aq){c:Call}{t:aK}{f S:ao}{n:GH}(W:o.op=.call c)(T:c.callee=.value t)(q:bj cf.aq O t=J (.func h f captured))(s:cw (bj cf.aq ((handsOn o.op).foldl (aQ share) O)) c.args.toList=J S)(M:jv cf rec h (f++S++captured) .no ((handsOn o.op).foldl (aQ share) O).g (λv g=>J (v,g))=J (v,n))(u:aG {((handsOn o.op).foldl (aQ share) O)with sl:=cN ((handsOn o.op).foldl (aQ share) O).sl,g:=n} o.dst v=J st')(U:(match kindOf cf O o.op with|.wr=>False|_=>True)->(cf.iw h||cf.nZ h)=V):Ea P ak cf K Y B H O st' tm o:=by obtain⟨K1,ω1,d,i,j,w,y,z,D,_⟩:=Nj tm _ K B O k.hr k.sl;have e:=l.mono d.1 (aX.refl _);obtain⟨af,f1,_,f3⟩:=sX (pG l) k.sl (I0 k.sl q (λ_ _ _=>aP)) q;obtain⟨X,m2,rfl,k1,k2⟩:=K9 f3;obtain⟨m,y1,y2⟩:=Qz (pG e) j (λx hx=>y x (by grind[VK])) s;have Q:bK K1 Y (f++S++captured) (X++m++m2):=((k1.mono d.1 (aX.refl _)).append y2).append (k2.mono d.1 (aX.refl _));obtain⟨a,H',K',A,ω',F,_,G,I,L⟩:=abO R ⟨i,j⟩ (pG e) e M u (λ_ _ h=>ai) (λ_=>rfl) (λ_ _=>pj.Wa Q) (λp r b h=>let⟨E,N⟩:=w p r b h;⟨p,E,N⟩) (λ_ _ h=>ai);obtain⟨s1,s2,s3⟩:=Jv u z D;exact⟨a,H',K',A,_,QR W T f1 y1 F,s1,I K d.1 (d.fX i),G,s2,s3,λh=>let⟨w1,w2⟩:=L (U h) rfl;⟨w1,λ_=>w2⟩⟩
theorem anv(hC:rj P ak cf rec)(s:Ok K Y B H O tm)(L:dw P K (λ_=>Z) cf.aq){c:Call}{iC:aK}{xs:List aK}{S:ao}{d:DV}{g2:GH}(ho:o.op=.call c)(hc:c.callee=.value iC)(kp:c.args.toList=x::xs)(hf:bj cf.aq O iC=J (.func h [] captured))(hx:cU cf.aq O x=J (.dv d ow))(R:cw (bj cf.aq ((handsOn o.op).foldl (aQ share) (aQ leave O x))) xs=J S)(eV:jv cf rec h (d::(S++captured)) ow ((handsOn o.op).foldl (aQ share) (aQ leave O x)).g (λv g=>J (v,g))=J (v,g2))(jC:aG {((handsOn o.op).foldl (aQ share) (aQ leave O x))with sl:=cN ((handsOn o.op).foldl (aQ share) (aQ leave O x)).sl,g:=g2} o.dst v=J st')(hk:kindOf cf O o.op=.wr):Ea P ak cf K Y B H O st' tm o:=by
 obtain⟨af,f1,_,f3⟩:=sX (P:=P) (pG L) s.sl (I0 s.sl hf (λ_ _ _=>aP)) hf;obtain⟨m1,m2,rfl,k1,k2⟩:=K9 f3;obtain rfl:=k1.rU;obtain⟨t,z,pv,x1,_,x3,x4,x5⟩:=Qp (P:=P) (pG L) s.hr s.sl hx;obtain⟨e1,e2,e3,e4⟩:=BT leave O x;have LF:HR K Y (B.of (ud z)) H (aQ leave O x).lb (aQ leave O x).g:=by rw[e3,e4];exact s.hr.of (M4 z)
 obtain⟨K1,ω1,k,a2,a3,a4,a5,a6,a7,_⟩:=Nj tm (handsOn o.op) K (B.of (ud z)) (aQ leave O x) LF x5;have U:=L.mono k.1 (aX.refl _);obtain⟨m,E,X⟩:=Qz (P:=P) (pG U) a3 (λy hy=>a5 y (by grind[VK])) R;have gQ:bK K1 Y (S++captured) (m++m2):=X.append (k2.mono k.1 (aX.refl _));have C6:∃f:ah (Nat×Bool),(∀r b,f=J (r,b)->(∀q c,ω1 q≠J (r,c))/\r<H.next/\(b=V->∀j y,K1 j=J y->rootOf H j≠r))/\(ow.yp=V->f=Z)/\(∀ω0:aJ,ω0 (.sl 0)=f->cO K1 Y ω0 H (.sl 0) d t ow)/\∀r b,f=J (r,b)->dK B r:=by
  have uT:(∀ω0:aJ,cO K1 Y ω0 H (.sl 0) d t ow)->∃f:ah (Nat×Bool),(∀r b,f=J (r,b)->(∀q c,ω1 q≠J (r,c))/\r<H.next/\(b=V->∀j y,K1 j=J y->rootOf H j≠r))/\(ow.yp=V->f=Z)/\(∀ω0:aJ,ω0 (.sl 0)=f->cO K1 Y ω0 H (.sl 0) d t ow)/\∀r b,f=J (r,b)->dK B r:=λh=>⟨Z,λ_ _ h=>ai,λ_=>rfl,λω0 _=>h ω0,λ_ _ h=>ai⟩;have No:∀r b,B pv=J (r,b)->ow≠.no->ow≠.any->(∀ω0:aJ,ω0 (.sl 0)=J (r,b)->cO K1 Y ω0 H (.sl 0) d t ow)->∃f:ah (Nat×Bool),(∀r b,f=J (r,b)->(∀q c,ω1 q≠J (r,c))/\r<H.next/\(b=V->∀j y,K1 j=J y->rootOf H j≠r))/\(ow.yp=V->f=Z)/\(∀ω0:aJ,ω0 (.sl 0)=f->cO K1 Y ω0 H (.sl 0) d t ow)/\∀r b,f=J (r,b)->dK B r:=by
   intro r b G vJ Dc cT;obtain⟨D,Ad,rfl⟩:∃D,z=J D/\pv=.sl D:=by grind
   have aOq:∀q c,B.of (ud z) q≠J (r,c):=by intro q c hq;obtain⟨q0,E,X⟩:=aJ.iG hq;obtain rfl:=s.hr.inj _ _ _ _ _ X G;rw[Ad]at E;have E:pS D q=J (.sl D):=E;cases q<;>simp only[pS]at E<;>grind
   refine⟨J (r,b),λr' I h=>?_,λh=>by grind[aM.yp],cT,λr' I h=>?_⟩
   . obtain⟨rfl,rfl⟩:=jd (bE h);refine⟨λq c hq=>?_,s.hr.cC _ _ _ G,λhb j y T=>?_⟩;.grind
     . subst hb;rcases k.2 j y T with h|⟨q,c,h⟩;.exact s.hr.clean _ r j y G h
       grind
   .obtain⟨rfl,rfl⟩:=jd (bE h);exact⟨_,b,G⟩
  cases ow with|no=>exact uT λ_=>DR.mono k.1 (aX.refl _) x3|any=>exact uT λ_=>x3|full e=>exact uT λ_=>⟨DR.mono k.1 (aX.refl _) x3.1,x3.2⟩|ty e=>
   rcases x3.2 with h|⟨r,b,u,w⟩;.exact uT λ_=>⟨DR.mono k.1 (aX.refl _) x3.1,.inl h⟩
   .exact No r b u aP aP λω0 F=>⟨DR.mono k.1 (aX.refl _) x3.1,.inr ⟨r,b,F,w⟩⟩|ex e=>
   rcases x3 with h|⟨r,u,w⟩;.exact uT λ_=>.inl h
   .refine No r V u aP aP λω0 F=>.inr ⟨r,F,?_⟩;obtain⟨l,M,id,W,cc,cells,fl,t1,t2,t3,t4,t5,t6,t7,t8⟩:=w.ex;exact⟨l,M,id,W,cc,cells,fl,t1,t2,t3,t4,t5,t6,t7.mono k.1 (aX.refl _),t8⟩
 obtain⟨f,z1,z2,z3,z4⟩:=C6;have C2:∀p r b,ω1 p=J (r,b)->dK B r:=λp r b h=>by obtain⟨I,N⟩:=a4 p r b h;obtain⟨q,_,Q⟩:=aJ.iG N;exact⟨q,I,Q⟩
 obtain⟨a,H',K',A,ω',b1,_,b2,b3,_⟩:=abO (st2:=(handsOn o.op).foldl (aQ share) (aQ leave O x)) (fa:=f) (ωo:=B) hC ⟨a2,a3⟩ (pG U) U eV jC z1 z2 (λω0 F=>⟨by simp[gQ.1],λi dd aa p q=>by
  rcases i with _|i;.grind
  exact gQ.2 i dd aa ai ai⟩:∀ω0:aJ,ω0 (.sl 0)=f->pj K1 Y ω0 H (d::(S++captured)) ow (t::(m++m2))) C2 z4;obtain⟨s1,s2,s3⟩:=Jv jC (n:=O.n) (fn:=O.fn) ai ai;have hI:tu B H H K K1:=λj y T=>by obtain⟨u,w⟩:=k.fX a2 j y T;refine⟨u,w.imp_right (Or.imp_left ?_)⟩;rintro⟨p,b,h⟩;obtain⟨q,_,N⟩:=aJ.iG h;exact⟨q,b,N⟩
 have Lu:cw (AM.bJ P tm) c.args.toList=J (t::m):=by simp_all[cw]
 refine⟨a,H',K',A,_,QR ho hc f1 Lu ai,s1,b3 K k.1 hI,b2,s2,s3,λh=>?_⟩;grind
theorem anw(hY:wy P ak cf rec)(k:Ok K Y B H O tm)(E:dw P K (λ_=>Z) cf.aq){c:Call}{G:aK}{l:Nat}{S:ao}{f:GH}(ho:o.op=.call c)(hc:c.callee=.value G)(F:bj cf.aq O G=J (.dU l))(w:cw (bj cf.aq ((handsOn o.op).foldl (aQ share) O)) c.args.toList=J S)(eV:rec (.dU l S ((handsOn o.op).foldl (aQ share) O).g)=J (.val v f))(I:aG {((handsOn o.op).foldl (aQ share) O)with sl:=cN ((handsOn o.op).foldl (aQ share) O).sl,g:=f} o.dst v=J st')(hk:kindOf cf O o.op=.wr):Ea P ak cf K Y B H O st' tm o:=by
 obtain⟨K1,ω1,t,d,z,M,N,Q,R,_⟩:=Nj tm _ K B O k.hr k.sl;have L:=E.mono t.1 (aX.refl _);obtain⟨T,f1,_,f3⟩:=sX (pG E) k.sl (I0 k.sl F (λ_ _ _=>aP)) F;obtain⟨i,hi,rfl⟩:∃i,Y l=J i/\T=.yield i:=by cases f3<;>simp_all
 obtain⟨m,y1,y2⟩:=Qz (pG L) z (λx hx=>N x (by grind[VK])) w;have hb:=d.callee C C;obtain⟨a,H',K',A,ω',W,D,X,b4⟩:=hY l S _ v f eV K1 Y _ H m i hb L y2 hi;have n:∀q r b,(ω1.of (lL C)) q=J (r,b)->ω1 q=J (r,b)/\((∃id,q=.g id)\/∃id y,q=.gc id y):=by grind[aJ.iG,MB]
 have s:∀p r b,ω1 p=J (r,b)->dK B r:=λp r b h=>let⟨U,h'⟩:=M p r b h;⟨p,U,h'⟩;have u:xy C nq K1 Y _ H _ _ Y _ K' A _ H' f f:=⟨d,D,X,λ_=>rfl,λ_ h=>h,λ_=>rfl,(λh=>by cases h),by rintro p r b hp h⟨q,e,j⟩;obtain⟨h1,h3⟩:=n q r e j;have:=d.inj _ _ _ _ _ h h1;grind[Kept,nq]⟩;obtain⟨s1,s2,s3⟩:=Jv I Q R;refine⟨a,H',K',_,_,aE3 ho hc f1 y1 W,s1,D.up d.inv (λr⟨q,e,j⟩=>s _ _ _ (n q r e j).1) t.1 (t.fX d) u.ext (u.lZ s λr⟨q,e,j⟩=>s _ _ _ (n q r e j).1),u.ok z b4 aT I,s2,s3,λh=>?_⟩;grind
theorem alU(G:dw P K Y aq)(o:Ok K Y B H O tm){d:DV}(h:zB aq O x=J d):∃a,AM.bJ P tm x=J a/\DR (K.plus H λr=>∃p,B p=J (r,V)) Y d a:=by have A:∀{p:Pk}{dd:DV}{a:AV}{ow:aM},cO K Y B H p dd a ow->DR (K.plus H λr=>∃p,B p=J _) Y dd a:=λh=>(cO.FV o.hr (λr hr=>⟨_,hr⟩) h).2;have ext:=aY.pc K H λr=>∃p,B p=J (r,V);obtain⟨Q,M,h⟩:=aE h;obtain⟨a,F,U,k⟩:=qU G o.sl M;refine⟨a,F,?_⟩;cases Q with
 |dv T ow=>
 obtain rfl:=bE ab;rcases k with⟨t,_,_,_,c⟩|⟨_,⟨d2,e,c⟩|⟨d2,f,_,_,e,c⟩|⟨g,l,cells,e,e1,_⟩⟩;.exact A c
 .obtain⟨rfl,_⟩:=SV.dv.inj e;exact c.mono ext (aX.refl _)
 .obtain⟨rfl,_⟩:=SV.dv.inj e;exact c.mono ext (aX.refl _)
 grind|sr s=>
 obtain⟨y,q,rfl⟩:=iI.1 h;have c:tm.get s=J a:=by
  rcases k with⟨R,_,_,_,c⟩|⟨_,⟨_,e,_⟩|⟨_,_,_,_,e,_⟩|⟨_,_,_,_,e,_⟩⟩;.exact c
  all_goals grind
 unfold nF at q;split at q;.rename_i l e n w I;cases q;obtain⟨S,v,_,D⟩:=o.sl s _ I;rw[c]at v;cases v;exact A (ow:=.ex w) D
 grind|gr id u=>
 simp only at h;obtain⟨i,m,root,z,e,g1,g2,g3⟩:∃i m root z e,Y id=J i/\H.get i=J (.cells m root z e)/\m[u]?=J a:=by
  rcases k with⟨R,_,_,_,c⟩|⟨_,⟨_,e,_⟩|⟨_,_,_,_,e,_⟩|⟨_,_,_,_,e,_⟩⟩;.exact c
  all_goals grind
 unfold Ew at h;rcases X:O.g.get id with _|N;.grind
 rw[X]at h;cases N with|box b=>obtain⟨j,W,j2,L⟩:=o.hr.jf id _ X;obtain⟨m',E,w,k1,k2,k3,k4,k5,k6⟩:=L;grind|_=>grind
 |_=>grind
theorem aBg(g:dw P K Y aq)(o:Ok K Y B H O tm):∀(l:List aK)(s:ao),cw (zB aq O) l=J s->∃m,cw (AM.bJ P tm) l=J m/\bK (K.plus H λr=>∃p,B p=J (r,V)) Y s m:=by intro l;induction l with|nil=>intro s h;obtain rfl:=bE (show J []=J s from h);exact⟨[],rfl,bK.nil⟩|cons x l i=>intro s h;have a:((zB _ O x).bind λb=>(cw _ l).bind _)=J s:=h;obtain⟨d,hd,a⟩:=aE a;obtain⟨t,c,a⟩:=aE a;grind[alU,bK.cons,cw]
theorem cO.ahV{p q:Pk}{d:DV}(h:cO K' A ω' H' p d a ow)(g:d.plain=V):cO K Y B H q d a ow:=by
 have f:∀{id o len:Nat}{c:ah _}{s:Nat},DR K' A d (.sl id o len c s)->False:=by intro id o len c s h;cases h<;>simp[DV.plain]at g
 cases ow with|no=>exact DR.plain h g|any=>exact h|ty e=>
 refine⟨DR.plain h.1 g,?_⟩;rcases h.2 with i|⟨r,b,_,i⟩;.grind
 .obtain⟨id,o,len,c,s,cells,j,rfl,_⟩:=i.ex;exact(f h.1).elim|full e=>obtain⟨k,id,o,len,s,rfl⟩:=h;grind|ex e=>
 rcases h with h|⟨r,_,h⟩;.exact .inl h
 .obtain⟨l,s,id,o,c,cells,j,rfl,_⟩:=h.ex;grind[DV.plain]
theorem anp(hC:rj P ak cf rec)(k:Ok K Y B H O tm)(t:dw P K (λ_=>Z) cf.aq){c:Call}{N:aK}{f S:ao}{g2:GH}(ho:o.op=.call c)(hc:c.callee=.value N)(M:bj cf.aq O N=J (.func h f captured))(U:cf.iw h=V)(sP:cf.rf h=C\/True)(u:cw (zB cf.aq O) c.args.toList=J S)(e:jv cf rec h (f++S++captured) .no O.g (λv g=>J (v,g))=J (v,g2))(I:v.plain=V)(Q:aG {O with sl:=cN O.sl} o.dst v=J st'):Ea P ak cf K Y B H O st' tm o:=by
 obtain⟨af,f1,_,f3⟩:=sX (pG t) k.sl (I0 k.sl M (λ_ _ _=>aP)) M;obtain⟨m1,m2,rfl,k1,k2⟩:=K9 f3;obtain⟨m,y1,y2⟩:=aBg (pG t) k _ _ u;have ext:=aY.pc K H λr=>∃p,B p=J (r,V);have gQ:=((k1.mono ext (aX.refl _)).append y2).append (k2.mono ext (aX.refl _));unfold jv at e;rw[U]at e;rcases T:cg (f++S++captured)with _|_;.grind
 rw[T]at e;obtain⟨D,hr,e⟩:=aE e;cases D with|out o=>grind|val F gg=>
 simp only at e;rcases G:F.pure with _|_;.grind
 rw[G]at e;obtain⟨rfl,_⟩:=jd (bE e);have L:HR _ _ (λ_=>Z) H [] .empty:=⟨k.hr.inv,(QX k.hr _ λr h=>h).1,λp q r b c h=>ai,λp r id x h=>ai,λp r b h=>ai,λs b h=>by grind[look],λid ob h=>by grind[GH.get,GH.empty,look],λ_ _=>rfl,k.hr.gW⟩;obtain⟨a,H',K',A,ω',X,_,d,b3,b4⟩:=hC h _ _ _ F gg hr _ _ _ H _ L (t.mono ext (aX.refl _)) (pj.Wa (aGB gQ T));obtain⟨K2,ω2,d1,d2,d3⟩:=ais L d b3 b4 G (λ_ r⟨q,b,w⟩=>ai);have z:bT (λ_=>False) H H':=d.keep.xu k.hr.inv λr _⟨q,b,w⟩=>ai;have tK:=k.hr.frame z d2.inv d2.gW aT aT;have mC:=xi k.hr.inv k.sl z (bo.refl _) (aX.refl _) aT (λ_ _ _ h=>h);have n:=xI (O:={O with sl:=cN _}) tK mC Q d3.qS λdd _ _=>by cases E:rf _ F with|dv x ow=>rw[E]at d3 I;exact cO.ahV d3 I|tp l=>rw[E]at d3 I;obtain⟨mm,q1,q2,q3⟩:=d3;exact⟨mm,q1,q2,λj x y hx hy=>(q3 j x y hx hy).ahV (AW.1 I x ai)⟩|_=>rw[E]at d3;exact d3.elim
 have i:(∀r,r∈H'.bV->r∈H.bV)/\∀r,r∈H'.cI->r∈H.cI:=⟨λr hr=>(d.log.2.1 r hr).resolve_right λ⟨_,q,b,w⟩=>ai,λr hr=>(d.log.2.2 r hr).resolve_right λ⟨_,q,b,w⟩=>ai⟩;obtain⟨R,ψ3,ω3,n1,n2⟩:=n.nx (qy.refl _ _);obtain⟨s1,s2,s3⟩:=Jv Q rfl rfl;have W:Nx K Y B H K Y B H':=⟨bo.refl _,k.hr.fX z,aX.refl _,z.xu k.hr.inv λ_ _ h=>h.elim,λp r b h=>.inl ⟨p,b,h⟩,d.log.1,λr hr=>.inl (i.1 r hr),λr hr=>.inl (i.2 r hr)⟩;exact⟨a,H',R,_,_,QR ho hc f1 y1 X,s1,W.trans k.hr.inv n1,n2,s2,s3,λ_=>⟨i.1,λ_=>i.2⟩⟩
end
section
variable{P:aH}{ak:cj}{rec:dR}{cf:bU}{K K' K1 K2:aY}{Y A φ0:cm}{B ω' ω0 fJ ω1:aJ}{H H':Heap}{lb:dV}{g g':GH}{O st' st2:St}{tm:Tr AV}{o:aB}{gs cr:aC}{later:List aB}
theorem anl(hC:rj P ak cf rec)(hY:wy P ak cf rec)(hI:wq P ak cf)(k:Ok K Y B H O tm)(E:dw P K (λ_=>Z) cf.aq){c:Call}{i:aK}(q:o.op=.call c)(g:c.callee=.value i){r:St×SV}(h:qC cf rec O o.op i c.args.toList=J r)(F:aG {r.1 with sl:=cN r.1.sl} o.dst r.2=J st'):Ea P ak cf K Y B H O st' tm o:=by
 have N:∀{f:bW},i=.func f->kindOf cf O o.op=bif(cf.iw f||cf.nZ f)&&!(aw (cf.fk f) 1||aw (cf.fk f) 2)then .rd else .wr:=by intro f e;subst e;rw[q];cases c;simp only at g;subst g;rfl
 have D:(∀f,i≠.func f)->kindOf cf O o.op=.wr:=by intro cD;rw[q];cases c;simp only at g;subst g;cases i<;>first|rfl|simp_all
 have yg:∀{f h:bW}{l1 l2:ao},i=.func f->bj cf.aq O i=J (.func h l1 l2)->h=f:=by intro f hq l1 l2 e h2;subst e;have:J (DV.func f [] [])=J (DV.func hq l1 l2):=h2;simp_all
 have aOB:∀{h:bW}{l1 l2:ao},bj cf.aq O i=J (.func h l1 l2)->((match kindOf cf O o.op with|.wr=>False|_=>True)->(cf.iw h||cf.nZ h)=V/\aw (cf.fk h) 1=C/\aw (cf.fk h) 2=C):=by grind
 have aOA:∀{h:bW}{l1 l2:ao},bj cf.aq O i=J (.func h l1 l2)->(aw (cf.fk h) 1=V\/aw (cf.fk h) 2=V)->kindOf cf O o.op=.wr:=by grind
 unfold qC at h;obtain⟨v,t,h⟩:=aE h;split at h
 . rename_i j first captured;by_cases u:aw (cf.fk j) 1=V
   . rw[u]at h;simp only[aR]at h;split at h
     . rename_i x R Q;obtain⟨aS,s,h⟩:=aE h;obtain⟨K1,ω1,z,I,L,W,X,a6,a7,_⟩:=Nj tm R K B O k.hr k.sl;have M:=E.mono z.1 (aX.refl _);obtain⟨m,y1,y2⟩:=Qz (P:=P) (pG M) L (λy hy=>X y hy) s;obtain⟨ax,a,H',K',A,ω',b1,b2,b3,b4,b5,b6⟩:=hI _ j x aS r.1 r.2 h K1 Y ω1 H tm m ⟨I,L⟩ M y2 o.dst st' F;obtain⟨af,f1,_,f3⟩:=sX (P:=P) (pG E) k.sl (I0 k.sl t (λ_ _ _=>aP)) t;obtain⟨m1,m2,rfl,k1,k2⟩:=K9 f3;obtain rfl:=k1.rU;obtain rfl:=k2.rU;have S:cw (AM.bJ P tm) c.args.toList=J (ax::m):=by rw[Q];grind[cw]
       obtain⟨s1,s2,s3⟩:=Jv F (n:=O.n) (fn:=O.fn) ai ai;have T:Nx K Y B H K1 Y ω1 H:=⟨z.1,z.fX I,aX.refl _,bT.refl _ _,λp r b h=>let⟨b',h'⟩:=W p r b h;.inl ⟨p,b',h'⟩,qy.refl _ _⟩;refine⟨a,H',K',A,ω',QR q g f1 S ai,s1,T.trans k.hr.inv b3,b4,s2,s3,λhk=>?_⟩;grind
     grind
   . have u:=cb.2 u;rw[u]at h;simp only[bX]at h;by_cases w:aw (cf.fk j) 2=V
     . rw[w]at h;simp only[aR]at h;split at h
       . rename_i x R Q;split at h;.rename_i d ow hx;obtain⟨aS,s,h⟩:=aE h;grind[SW,anv]
         grind
       grind
     . have w:=cb.2 w;rw[w]at h;simp only[bX]at h;by_cases q3:aw (cf.fk j) 3=V;.rw[q3]at h;simp only[aR]at h;cases U:cf.iw j with|false=>grind|true=>rw[U]at h;simp only[aR]at h;obtain⟨aS,s,h⟩:=aE h;grind[SW,anp]
       .have q3:=cb.2 q3;rw[q3]at h;simp only[bX]at h;obtain⟨aS,s,h⟩:=aE h;grind[SW,anu]
 .rename_i l;obtain⟨aS,s,h⟩:=aE h;obtain⟨G,hr,h⟩:=aE h;cases G with|out o=>simp at h|val v2 g2=>cases h;refine anw hY k E q g t s hr F (D λf e=>?_);subst e;have:J (DV.func f [] [])=J (DV.dU l):=t;simp at this
 grind
theorem ajy(w:rj P ak cf rec)(x:wy P ak cf rec)(I:wq P ak cf)(k:Ok K Y B H O tm)(g:dw P K (λ_=>Z) cf.aq)(h:dG P cf rec gs cr later O o=J st'):Ea P ak cf K Y B H O st' tm o:=by
 have plain:dC P cf.aq cf.fk gs cr later ((handsOn o.op).foldl (aQ share) O) o=J st'->Ea P ak cf K Y B H O st' tm o:=by
  intro h;have hr:=λf=>aE0 (ak:=ak) (rec:=f) (pG g) k.hr k.sl h;obtain⟨v,H',K',A,ω',j,l,m,p,q,s,d⟩:=(hr _).nx;refine⟨v,H',K',A,_,⟨0,λn t=>?_⟩,l,m,p,q,s,λz=>?_⟩;.exact We (λfr H=>Jr t fr H) tm H o _ j
  .have D:kindOf cf O o.op≠.wr:=ai;exact⟨d.wl D,d.gl D⟩
 unfold dG at h;cases e:o.op with
 |call c=>cases y:c.callee with|value u=>
  have i:((qC cf rec O (.call c) u c.args.toList).bind λr=>aG {r.1 with sl:=cN r.1.sl} o.dst r.2)=J st':=by cases c;grind
  obtain⟨r,hr,E⟩:=aE i;grind[anl]|builtin b=>grind|invoke a b=>grind
 |_=>rw[e]at h;refine plain ?_;rw[e];exact h
theorem JO{w:Bool}(s:bZ K Y B H tm O.sl)(h:yX ops O o=J w):wi ops tm o=J w:=by
 unfold yX at h;unfold wi;rcases i:o.guard with _|k;.grind
 obtain⟨j,n⟩:=k;rw[i]at h;simp only at h|-;rcases hd:(ops[j]?).bind _ with _|d;.grind
 rw[hd]at h;simp only at h|-;split at h
 . rename_i b ow l;obtain⟨a,g,_,c⟩:=s d _ l;have:a=.bool b:=by cases ow with|no=>cases c;rfl|any=>obtain⟨f,_⟩:=c;grind|full e=>have c:=c.1;cases c;rfl|ty e=>have c:=c.1;cases c;rfl|ex e=>
    rcases c with⟨f,_⟩|⟨_,_,f⟩;.grind
    .obtain⟨_,_,_,_,_,_,_,p,_⟩:=f.ex;grind
   grind
 .rename_i l;obtain⟨a,g,_,m,rfl,f,_⟩:=s d _ l;grind
 grind
theorem Rx{f:cG}{d:ah Tmp}{v:AV}(h:∀t,d=J t->t<f.n):ta f d v=J {f with tmps:=gR f.tmps d v}:=by cases d<;>simp_all[DH,gR,eQ]
theorem Ry(o:Ok K Y B H O tm){d:ah Tmp}(h:aG O d (.tp [])=J st'):∃K' A ω',Nx K Y B H K' A ω' H/\Ok K' A ω' H st' (gR tm d fC)/\st'.n=O.n/\st'.fn=O.fn/\∀t,d=J t->t<O.n:=by obtain⟨K',A,ω',a,b⟩:=(Cv o.hr o.sl h).nx (qy.refl _ _);obtain⟨s,c,e⟩:=Jv h rfl rfl;grind
theorem aH8(z:rj P ak cf rec)(D:wy P ak cf rec)(I:wq P ak cf):∀(l:List aB)(j:Nat)(K:aY)(Y:cm)(B:aJ)(H:Heap)(O:St)(fr:cG),Ok K Y B H O fr.tmps->dw P K (λ_=>Z) cf.aq->fr.n=O.n->kf P cf rec gs cr C ops l j [] O=J st'->∃t H' K' A ω',(∃c,∀n,c<=n->Aw P ak (AM.run P ak n) ops l fr H=J (.next {fr with tmps:=t} H'))/\Nx K Y B H K' A ω' H'/\Ok K' A ω' H' st' t/\st'.n=O.n/\st'.fn=O.fn:=by intro l;induction l with|nil=>intro j K Y B H O fr ok f E h;obtain rfl:=bE (show J O=J _ from h);exact⟨_,H,K,Y,B,⟨0,λn _=>rfl⟩,Nx.refl ok.hr,ok,rfl,rfl⟩|cons o l G=>
 intro j K Y B H O fr ok f E h;obtain⟨w,F,h⟩:=aE h;have N:=JO ok.sl F;have q:∀{st1:St}{v:AV}{b:Heap}{K1:aY}{a:cm}{ω1:aJ},(∃c,∀n,c<=n->Bf P ak (AM.run P ak n) ops fr H o=J (.next {fr with tmps:=gR fr.tmps o.dst v} b))->Nx K Y B H K1 a ω1 b->Ok K1 a ω1 b st1 (gR fr.tmps o.dst v)->st1.n=O.n->st1.fn=O.fn->kf P cf rec gs cr C ops l (j+1) [] st1=J st'->∃t H' K' A ω',(∃c,∀n,c<=n->Aw P ak (AM.run P ak n) ops (o::l) fr H=J (.next {fr with tmps:=t} H'))/\Nx K Y B H K' A ω' H'/\Ok K' A ω' H' st' t/\st'.n=O.n/\st'.fn=O.fn:=by intro st1 v b K1 a ω1⟨g,u⟩r x Q R y;obtain⟨t,H',K',A,ω',⟨L,g1⟩,g2,g3,g4,g5⟩:=G _ K1 _ _ b _ {fr with tmps:=gR _ _ v} x (f.mono r.ext (aX.refl _)) ai y;refine⟨_,H',K',A,_,⟨max g L,λn M=>?_⟩,r.trans ok.hr.inv g2,g3,ab,ai⟩;show((Bf P _ _ _ fr H o).bind _)=_;rw[u n ab];exact g1 n ab
 cases w with|true=>obtain⟨st1,i,h⟩:=aE h;obtain⟨v,b,K1,a,ω1,⟨g,k⟩,m,d,e,p,s,_⟩:=ajy z D I ok f i;refine q ⟨g,λn M=>?_⟩ d e p s h;grind[KA,Rx]|false=>obtain⟨st1,i,h⟩:=aE h;obtain⟨K1,a,ω1,k,m,d,e,p⟩:=Ry ok i;refine q ⟨0,λn _=>?_⟩ k m d e h;grind[KA,Rx]
def D0:Kd->jt->Prop|.no,d=>d.reads=J []/\d.writes=[]|.rd,d=>d.writes=[]|.wr,_=>True
theorem S7(r:ah (List (AM.Touch×Nat))):clear [] r=V:=by rfl
theorem acg(w:aC):clear w (J [])=V:=by cases w<;>rfl
theorem alH{c k:Kd}{d a:jt}(e:D0 c d)(b:D0 k a)(h:Kd.apart c k=V):apart d a=V:=by
 have M:∀w,lu (λx=>!(BQ x [])) w=V:=by simp[qB,BQ]
 have left:d.writes=[]->a.writes=[]->apart d a=V:=by simp_all[apart,S7]
 have o:d.reads=J []/\d.writes=[]->apart d a=V:=by rintro⟨e1,e2⟩;unfold apart;rw[e1,e2,S7,acg];rfl
 have n:a.reads=J []/\a.writes=[]->apart d a=V:=by simp_all[apart,S7,acg]
 rcases c with _|_|_;.exact o e
 . rcases k with _|_|_;.exact n b
   .exact left e b
   grind[Kd.apart]
 rcases k with _|_|_;.exact n b
 all_goals grind[Kd.apart]
theorem ajB{t:an}{a:aK}{v:AV}(g:o.op=.store t a x)(h:fB P ak rc tm H o=J (.val v H')):H'.cI=H.cI/\∀r,r∈H'.bV->r∈H.bV\/∃id f,AM.bJ P tm a=J (.ptr id f)/\s8 H id=J r:=by
 obtain⟨r,hr,h⟩:=aE h;unfold dS at hr;rw[g]at hr;simp only[DY]at hr;split at hr
 . rename_i id f m;obtain⟨j,q,hr⟩:=aE hr;rcases s:AM.storeVar P H t id f j with _|k;.grind
   rw[s]at hr;cases hr;obtain⟨_,rfl⟩:=D8.val.inj (bE h);obtain⟨n,_,s⟩:=aE s;obtain⟨i,_,s⟩:=aE s;rcases d:aw (fc i) n with _|_;.grind
   rw[d]at s;unfold Heap.store at s;split at s
   . rename_i l root b e p;simp only at s;generalize(bt _ id&&(aw _ id&&(bt _ _&&b.wr)))=c at s;rcases c with _|_;.grind
     cases s;refine⟨yb ..,λr hr=>?_⟩;rw[xw]at hr;rcases vN hr with h|⟨rfl,_⟩<;>grind[s8]
   grind
 grind
theorem aBh{t:an}{m k:aK}{v:AV}(b:o.op=.mapUpdate t m k x)(h:fB P ak rc tm H o=J (.val v H')):H'.cI=H.cI:=by
 obtain⟨r,hr,h⟩:=aE h;unfold dS at hr;rw[b]at hr;simp only[DU]at hr;split at hr
 . obtain⟨d,_,hr⟩:=aE hr;obtain⟨a,_,hr⟩:=aE hr;obtain⟨e,_,hr⟩:=aE hr;generalize ql P _ a=c at hr;rcases c with _|_;.grind
   obtain⟨f,_,hr⟩:=aE hr;cases f with|some i=>
   simp only at hr;generalize sameKey _ a=c at hr;rcases c with _|_;.grind
   cases hr;obtain⟨_,rfl⟩:=D8.val.inj (bE h);rfl|none=>cases hr;obtain⟨_,rfl⟩:=D8.val.inj (bE h);rfl
 grind
theorem aKL{i o:Nat}{v:aI}(h:H.store i o v=J H'):H'.cI=H.cI:=by grind[Heap.store,yb]
theorem an2{c:Call}{v:AV}(j:o.op=.call c)(f:c.callee=.builtin .clear)(h:fB P ak rc tm H o=J (.val v H')):H'.cI=H.cI:=by
 obtain⟨r,hr,h⟩:=aE h;unfold dS at hr;rw[j]at hr;simp only[Cg,yE,f]at hr;obtain⟨d,hd,hr⟩:=aE hr;obtain⟨aS,_,hd⟩:=aE hd;obtain rfl:=bE hd;simp only[uN]at hr;have k:∀{e:AV}{a:Heap},iz P H .clear c.argTypes aS=J (e,a)->a.cI=H.cI:=by
  intro e a b;rcases aS with _|⟨x,_|⟨y,aS⟩⟩;.simp_all[iz]
  rotate_left;.simp_all[iz]
  unfold iz at b;simp only at b;split at b;.grind
  .grind
  .obtain⟨m,_,g⟩:=iI.1 b;obtain⟨_,rfl⟩:=jd g;rfl
  .rename_i id l n cp s _ _ _;cases i:aw n 0 with|true=>grind|false=>rw[i]at b;obtain⟨z,_,b⟩:=aE b;grind[iI,aKL]
  grind
 grind[iI]
theorem Mt{l:aC}(h:∀r,r∈l->r∈([]:aC)):l=[]:=by cases l<;>grind[gv]
theorem acf{j:Nat}{d:ah (List (AM.Touch×Nat))}(h:H'.bV=[])(a:H'.cI=[]):rJ ops o j ⟨d,H'.bV⟩ H'=V/\sZ o H'=V/\within ⟨d,H'.bV⟩=V:=by
 refine⟨by grind[rJ],?_,?_⟩;.grind[sZ]
 .rw[h];cases d<;>rfl
theorem aoT{v:AV}{j:Nat}(q:dG P cf rec gs cr later O o=J st')(D:oA o.op=C)(z:fB P ak rc tm H.fresh o=J (.val v H'))(u:(match kindOf cf O o.op with|.wr=>False|_=>True)->(∀r,r∈H'.bV->r∈H.fresh.bV)/\(isApp o.op=C->∀r,r∈H'.cI->r∈H.fresh.cI))(I:(isApp o.op||LZ cf O o.op)=V->JC ops.toList j=V):D0 (kindOf cf O o.op) ⟨eC P tm H o,H'.bV⟩/\rJ ops o j ⟨eC P tm H o,H'.bV⟩ H'=V/\sZ o H'=V/\within ⟨eC P tm H o,H'.bV⟩=V:=by
 have rd:kindOf cf O o.op=.rd->isApp o.op=C->D0 (kindOf cf O o.op) ⟨eC P tm H o,H'.bV⟩/\rJ ops o j ⟨eC P tm H o,H'.bV⟩ H'=V/\sZ o H'=V/\within ⟨eC P tm H o,H'.bV⟩=V:=by intro e1 e2;obtain⟨k1,k2⟩:=u (by rw[e1];trivial);have w:=Mt k1;rw[e1];exact⟨w,acf w (Mt (k2 e2))⟩
 have no:kindOf cf O o.op=.no->isApp o.op=C->eC P tm H o=J []->D0 (kindOf cf O o.op) ⟨eC P tm H o,H'.bV⟩/\rJ ops o j ⟨eC P tm H o,H'.bV⟩ H'=V/\sZ o H'=V/\within ⟨eC P tm H o,H'.bV⟩=V:=by intro e1 e2 e3;obtain⟨k1,k2⟩:=u (by rw[e1];trivial);have w:=Mt k1;rw[e1];exact⟨⟨e3,w⟩,acf w (Mt (k2 e2))⟩
 have A:∀{x:ah St},x=Z->x=J st'->False:=λG B=>by rw[G]at B;simp at B
 cases d:o.op with
 |alloc e=>rw[<-d];exact no (by rw[d];rfl) (by rw[d];rfl) (by unfold eC;rw[d])|box e x=>rw[<-d];exact no (by rw[d];rfl) (by rw[d];rfl) (by unfold eC;rw[d])|buildSlice t n N=>rw[<-d];exact no (by rw[d];rfl) (by rw[d];rfl) (by unfold eC;rw[d])|makeSlice t n N=>rw[<-d];exact no (by rw[d];rfl) (by rw[d];rfl) (by unfold eC;rw[d])|makeMap t r=>rw[<-d];exact no (by rw[d];rfl) (by rw[d];rfl) (by unfold eC;rw[d])|load t a=>rw[<-d];exact rd (by rw[d];rfl) (by rw[d];rfl)|lookup t m k ok=>rw[<-d];exact rd (by rw[d];rfl) (by rw[d];rfl)|slice t x lo R S=>rw[<-d];exact rd (by rw[d];rfl) (by rw[d];rfl)|convert s t x=>rw[<-d];exact rd (by rw[d];rfl) (by rw[d];rfl)|store t a x=>
  obtain⟨g1,g2⟩:=ajB d z;have g1:H'.cI=[]:=g1;refine⟨trivial,by unfold rJ;rw[g1],by unfold sZ;rw[d];rfl,?_⟩;unfold within eC;rw[d];simp only;split;.rfl
  . rename_i l y;rw[qB];refine AW.2 λr hr=>?_;rcases g2 r hr with h|⟨id,M,K,Q⟩;.exact absurd h (by show¬r∈[];simp)
    .have Q:s8 H id=J r:=Q;rw[K]at y;simp only[Q,gJ]at y;cases y;unfold BQ;simp[Ak,qB,bR]|mapUpdate t m k x=>have g1:H'.cI=[]:=aBh d z;exact⟨trivial,by unfold rJ;rw[g1],by unfold sZ;rw[d];rfl,by unfold within eC;rw[d]⟩|call c=>rw[<-d];cases i:c.callee with
  |builtin b=>
    have F:dC P cf.aq cf.fk gs cr later ((handsOn o.op).foldl (aQ share) O) o=J st':=by unfold dG at q;rw[d]at q|-;cases c;simp only at i;subst i;exact q
    unfold dC at F;rw[d]at F;simp only at F;split at F;.rename_i g;exact rd (by rw[d];cases c;simp only at g;subst g;rfl) (by rw[d];cases c;simp only at g;subst g;rfl)
    . rename_i g;have e1:kindOf cf O o.op=.rd:=by rw[d];cases c;simp only at g;subst g;rfl
      have e2:isApp o.op=V:=by rw[d];cases c;simp only at g;subst g;rfl
      have e3:xf o.op=C:=by rw[d];cases c;simp only at g;subst g;rfl
      have e4:eC P tm H o=Z:=by unfold eC;rw[d];cases c;simp only at g;subst g;rfl
      obtain⟨k1,_⟩:=u (by rw[e1];trivial);have w:=Mt k1;rw[e1];refine⟨w,?_,by unfold sZ;rw[e3];rfl,by unfold within;rw[e4]⟩;unfold rJ;split;.rfl
      .rw[I (by rw[e2];rfl),e3,e4];rfl
    . rename_i g;have g1:H'.cI=[]:=an2 d g z;have e3:xf o.op=C:=by rw[d];cases c;simp only at g;subst g;rfl
      have e4:eC P tm H o=Z:=by unfold eC;rw[d];cases c;simp only at g;subst g;rfl
      have e5:kindOf cf O o.op=.wr:=by rw[d];cases c;simp only at g;subst g;rfl
      rw[e5];exact⟨trivial,by unfold rJ;rw[g1],by unfold sZ;rw[e3];rfl,by unfold within;rw[e4]⟩
    .rename_i g;exact rd (by rw[d];cases c;simp only at g;subst g;rfl) (by rw[d];cases c;simp only at g;subst g;rfl)
    .rename_i g;exact rd (by rw[d];cases c;simp only at g;subst g;rfl) (by rw[d];cases c;simp only at g;subst g;rfl)
    .simp at F|value L=>
    have e2:isApp o.op=C:=by rw[d];cases c;simp only at i;subst i;rfl
    have e3:xf o.op=C:=by rw[d];cases c;simp only at i;subst i;rfl
    have e4:eC P tm H o=Z:=by unfold eC;rw[d];cases c;simp only at i;subst i;rfl
    cases p:kindOf cf O o.op with
    |no=>exfalso;rw[d]at p;cases c;simp only at i;subst i;cases L with|func f=>have:(bif(cf.iw f||cf.nZ f)&&!(aw (cf.fk f) 1||aw (cf.fk f) 2)then Kd.rd else Kd.wr)=Kd.no:=p;generalize((cf.iw f||cf.nZ f)&&!(aw (cf.fk f) 1||aw (cf.fk f) 2))=E at this;cases E<;>simp at this|_=>simp[kindOf,oA]at p
    |rd=>rw[<-p];exact rd p e2|wr=>
      have e5:LZ cf O o.op=V:=by
       have:LZ cf O o.op=(match kindOf cf O o.op with|.wr=>V|_=>C):=by rw[d];cases c;simp only at i;subst i;rfl
       rw[this,p]
      refine⟨trivial,?_,by unfold sZ;rw[e3];rfl,by unfold within;rw[e4]⟩;unfold rJ;split;.rfl
      .rw[I (by rw[e5];simp),e3,e4];rfl
  |invoke a b=>exfalso;unfold dG at q;rw[d]at q;cases c;simp only at i;subst i;unfold dC at q;rw[d]at q;simp at q
 |_=>exfalso;first|(rw[d]at D;simp[oA]at D;done)|(unfold dG at q;rw[d]at q;unfold dC at q;rw[d]at q;simp at q)
end
section
variable{P:aH}{ak:cj}{rec:dR}{cf:bU}{K K':aY}{Y A:cm}{B:aJ}{H H':Heap}{O st':St}{tm:Tr AV}{o:aB}{gs cr:aC}{later:List aB}
def xz(a:cm)(k:Kx)(d:jt):Prop:=D0 k.kd d/\match k with|.s _=>True|.pt t g _=>∃r,(∃c,d.reads=J [(c,r)])/\(∀x,x∈d.writes->x=r)/\(∀id,t=J id->a id=J r)/\∀id,(g.get id).isSome=V->t≠J id->∃i,a id=J i/\i≠r
theorem xz.mono(h:aX Y A){k:Kx}{d:jt}(x:xz Y k d):xz A k d:=by
 refine⟨x.1,?_⟩;rcases k with k|⟨t,g,w⟩;.grind
 obtain⟨r,a,b,c,f⟩:=x.2;exact⟨r,a,b,λid e=>h _ _ (c id e),λid e k=>(f id e k).imp λi x=>⟨h _ _ x.1,x.2⟩⟩
theorem adP{k b:Kx}{d a:jt}(c:xz Y k d)(e:xz Y b a)(h:Kx.xU k b=V):apart d a=V/\apart a d=V:=by
 unfold Kx.xU at h;split at h;.obtain⟨r1,⟨p,f⟩,g,i,j⟩:=c.2;obtain⟨r2,⟨q,l⟩,m,n,o⟩:=e.2;constructor;all_goals grind[bE,clear,BQ,qB,bR,apart]
 grind
theorem alI{k e:Kx}{d c:jt}(a:xz Y k d)(b:xz Y e c)(h:Kx.apart k e=V):apart d c=V:=by
 unfold Kx.apart at h;rw[AR,AR]at h;rcases h with h|h|h;.exact alH a.1 b.1 h
 .exact(adP a b h).1
 .exact(adP b a h).2
def ayg{g:GH}{i:Nat}(h:(g.get i).isSome=V):∃o,g.get i=J o:=Option.isSome_iff_exists.1 h
theorem OZ(k:Ok K Y B H O tm){p:Pk}{b:Bool}{t:ah Nat}(d:B p=J (r,b))(e:∀id,p=.g id->t=J id):∀id,(O.g.get id).isSome=V->t≠J id->∃i,Y id=J i/\i≠r:=by intro id h a;obtain⟨o,c⟩:=ayg h;obtain⟨i,g1,g2,_⟩:=k.hr.jf id o c;refine⟨i,g1,?_⟩;rintro rfl;exact a (e id (k.hr.inj _ _ _ _ _ d g2))
theorem air(k:Ok K Y B H O tm)(c:dw P K (λ_=>Z) cf.aq){a:aK}{d o:Nat}{b:LB}(h:cU cf.aq O a=J (.dv (.ptr d o) ow))(g:O.g.get d=J (.box b)):∃i,AM.bJ P tm a=J (.ptr i o)/\s8 H i=J i/\Y d=J i/\B (.g d)=J (i,V):=by obtain⟨v,n,_,f⟩:=oz (pG c) k.hr k.sl (by unfold bj;rw[h];rfl);cases f with|ptr _ _ i p=>obtain⟨j,g1,g2,g3⟩:=k.hr.jf d _ g;obtain⟨m,l,e,k1,_⟩:=g3;grind[s8]
theorem aoI{v:AV}(k:Ok K Y B H O tm)(G:dw P K (λ_=>Z) cf.aq)(w:dG P cf rec gs cr later O o=J st')(hv:fB P ak rc tm H.fresh o=J (.val v H'))(h:D0 (kindOf cf O o.op) ⟨eC P tm H o,H'.bV⟩):xz Y (jE cf O o.op) ⟨eC P tm H o,H'.bV⟩:=by cases j:o.op with
 |load t a=>
  have F:dC P cf.aq cf.fk gs cr later O o=J st':=by unfold dG at w;rw[j]at w;exact w
  rw[j]at h;unfold jE;simp only;split
  . rename_i id f ow D;have g:∃b,O.g.get id=J (.box b):=by unfold dC at F;rw[j]at F;grind
    obtain⟨b,g⟩:=g;obtain⟨i,I,L,h3,M⟩:=air k G D g;refine⟨h,i,⟨.rd,?_⟩,?_,?_,OZ k M (λq e=>aT)⟩;.grind[eC]
    .have:H'.bV=[]:=h;simp_all
    simp_all
  .exact⟨h,trivial⟩|store t a x=>
  have F:dC P cf.aq cf.fk gs cr later O o=J st':=by unfold dG at w;rw[j]at w;exact w
  rw[j]at h;obtain⟨_,g2⟩:=ajB j hv;unfold jE;simp only;unfold dC at F;rw[j]at F;simp only at F;obtain⟨sv,hx,F⟩:=aE F;cases sv with
  |dv d ow=>
    simp only at F;have wr:∀{i f r:Nat},AM.bJ P tm a=J (.ptr i f)->s8 H i=J r->(∃c,(jt.mk (eC P tm H o) H'.bV).reads=J [(c,r)])/\∀y,y∈(jt.mk (eC P tm H o) H'.bV).writes->y=r:=by
      intro i f r I L;refine⟨⟨.wr,?_⟩,?_⟩;.grind[eC]
      . intro y R;rcases g2 y R with h|⟨q,dF,e1,e2⟩;.exact absurd h (by show¬y∈[];simp)
        .rw[I]at e1;cases e1;have e2:s8 H i=J y:=e2;simp_all
    split
    . rename_i id f I9 D;rw[D]at F;simp only at F;have g:∃b,O.g.get id=J (.box b):=by grind
      obtain⟨b,g⟩:=g;obtain⟨i,I,L,h3,M⟩:=air k G D g;obtain⟨A,E⟩:=wr I L;exact⟨trivial,i,A,E,λq e=>ai,OZ k M (λq e=>ai)⟩
    . rename_i s i f D;rw[D]at F;simp only at F;obtain⟨y,R,_⟩:=aE F;obtain⟨v',Q,_,N⟩:=qU (P:=P) (pG G) k.sl D;rcases N with⟨t',rfl,hl,ht,id,o0,len,c,esz,e1,e2⟩|⟨_,⟨d',e,_⟩|⟨_,_,_,_,e,_⟩|⟨_,_,_,_,e,_⟩⟩
      . have dY:∃l e n ow,look O.sl s=J (.dv (.ay l e n) (.ex ow)):=by
         have U:∃l e n ow,look (aQ share O x).sl s=J (.dv (.ay l e n) (.ex ow)):=by grind[nF]
         obtain⟨l,e,n,ow,p⟩:=U;refine⟨l,e,n,ow,?_⟩;unfold aQ at p;cases x with
         |tmp u=>
         simp only at p;split at p
         . rename_i v0 _;rw[me]at p;split at p;.have:=bE p;cases v0 with|dv d1 o1=>cases o1<;>simp[share,oC]at this|_=>simp[share]at this
           omega
         omega|_=>exact p
        obtain⟨l,e,n,ow,dY⟩:=dY;obtain⟨sa,T,_,z⟩:=k.sl s _ dY;rw[e1]at T;cases T;rcases z with⟨z,_⟩|⟨r,z,s3⟩;.cases z
        .obtain⟨l2,X,id2,W,c2,cells,fl,q1,q2,q3,_⟩:=s3.ex;cases q2;obtain⟨A,E⟩:=wr (r:=r) (by rw[Q,e2]) (by unfold s8;rw[q3]);exact⟨trivial,r,A,E,(λq e=>by cases e),OZ k z (λq e=>by cases e)⟩
      all_goals grind
    .rename_i s f D;rw[D]at F;simp only at F;obtain⟨b,g,_⟩:=aE F;obtain⟨v',Q,_,N⟩:=Kc (P:=P) (pG G) k.hr k.sl D;obtain⟨i,S,i2⟩:=k.hr.box s b g;obtain rfl:=N i _ S;obtain⟨m,fl,e,q3,_⟩:=i2;obtain⟨A,E⟩:=wr (r:=i) Q (by unfold s8;rw[q3]);exact⟨trivial,i,A,E,(λq e=>by cases e),OZ k S (λq e=>by cases e)⟩
    .exact⟨h,trivial⟩|_=>simp at F
 |_=>rw[j]at h;exact⟨h,trivial⟩
end
section
variable{P:aH}{ak:cj}{rec:dR}{cf:bU}{K K' K1 K2:aY}{Y A φ0 φ1:cm}{B ω' ω0 fJ ω1:aJ}{H H' H1:Heap}{lb:dV}{g g':GH}{O st' st2:St}{tm:Tr AV}{o:aB}{gs cr:aC}{later:List aB}
theorem agV{b:Nat}:∀(w l:aC),r∈fS (λl r=>Heap.note b r l) w l->r∈l\/(r∈w/\r<b):=by intro w;induction w with|nil=>intro l h;exact .inl h|cons x w i=>intro l h;have h:r∈fS _ w _:=h;grind[vN]
def Nx.quiet(h:HR K Y B H lb g)(n:Nx K Y B H.fresh K1 φ1 ω1 H.fresh):Nx K Y B H K1 φ1 ω1 H:=⟨n.ext,n.dm,n.nj,bT.refl _ _,n.lZ,qy.refl _ _⟩
theorem Nx.resume(n:Nx K Y B H.fresh K1 φ1 ω1 H1):Nx K Y B H K1 φ1 ω1 (H.resume H1):=by
 refine⟨n.ext,n.dm,n.nj,⟨n.keep.next,n.keep.get,n.keep.dp,n.keep.root⟩,n.lZ,rfl,λr hr=>?_,λr hr=>?_⟩
 . rcases agV _ _ hr with h|⟨a,b⟩;.grind
   . rcases n.log.2.1 r a with h|⟨_,h⟩;.exact absurd h (by show¬r∈[];simp)
     grind
 . rcases agV _ _ hr with h|⟨a,b⟩;.grind
   . rcases n.log.2.2 r a with h|⟨_,h⟩;.exact absurd h (by show¬r∈[];simp)
     grind
theorem aH7(hC:rj P ak cf rec)(hY:wy P ak cf rec)(hI:wq P ak cf){s0:St}(Ix:∀i o,ops.toList[i]?=J o->(isApp o.op||LZ cf s0 o.op)=V->JC ops.toList i=V):∀(l:List aB)(a:Nat)(N:List (Nat×Kx))(M:List (Nat×jt))(K:aY)(Y:cm)(B:aJ)(H:Heap)(O:St)(fr:cG),ops.toList.drop a=l->(∀e,e∈M->∃k,(e.1,k)∈N/\xz Y k e.2)->Ok K Y B H O fr.tmps->dw P K (λ_=>Z) cf.aq->fr.n=O.n->kf P cf rec gs cr V ops l a N O=J st'->∃m H' K' A ω',(∃n0,∀n,n0<=n->vZ P ak (AM.run P ak n) ops l a M fr H=J (.next {fr with tmps:=m} H'))/\Nx K Y B H K' A ω' H'/\Ok K' A ω' H' st' m/\st'.n=O.n/\st'.fn=O.fn:=by intro l;induction l with|nil=>intro a N M K Y B H O fr L y ok g p h;obtain rfl:=bE (show J O=J st' from h);exact⟨fr.tmps,H,K,Y,B,⟨0,λn _=>rfl⟩,Nx.refl ok.hr,ok,rfl,rfl⟩|cons o l R=>
 intro a N M K Y B H O fr L y ok g p h;have Ir:ops.toList[a]?=J o:=by
  have:(ops.toList.drop a)[0]?=J o:=by rw[L];rfl
  rwa[xD,vk]at this
 have S:ops.toList.drop (a+1)=l:=by
  have:(ops.toList.drop a).drop 1=l:=by rw[L];rfl
  rwa[D2]at this
 unfold kf at h;obtain⟨w,hw,h⟩:=aE h;have F:=JO ok.sl hw;cases w with|false=>simp only[bX]at h;obtain⟨st1,u,h⟩:=aE h;obtain⟨K1,φ1,ω1,d,I,c,z,f⟩:=Ry ok u;obtain⟨m,H',K',A,ω',⟨s,g1⟩,g2,g3,g4,g5⟩:=R (a+1) N M K1 φ1 ω1 H st1 {fr with tmps:=gR fr.tmps o.dst fC} S (λe b=>(y e b).imp λk x=>⟨x.1,x.2.mono d.nj⟩) I (g.mono d.ext (aX.refl _)) (by rw[c];exact p) h;refine⟨m,H',K',A,ω',⟨s,λn U=>?_⟩,d.trans ok.hr.inv g2,g3,by rw[g4,c],by rw[g5,z]⟩;rw[Gf,F];simp only[cR,y8,aR];rw[Rx λt Q=>by rw[p];exact f t Q];exact g1 n U|true=>simp only[aR,y9,y7]at h;cases E:IS ops.toList N a (jE cf O o.op)with|false=>rw[E]at h;simp at h|true=>
  rw[E]at h;simp only[aR]at h;obtain⟨st1,u,h⟩:=aE h;have T:Ok K Y B H.fresh O fr.tmps:=ok.same (ajd H) (bS _);obtain⟨v,H1,K1,φ1,ω1,⟨r,d⟩,I,c,z,f,W,b7⟩:=ajy hC hY hI T g u;have jC:ta fr o.dst v=J {fr with tmps:=gR fr.tmps o.dst v}:=Rx λt Q=>by rw[p];exact I t Q
  have q:∀{G:List (Nat×jt)},(∀e,e∈G->e∈M\/(e.1=a/\xz Y (jE cf O o.op) e.2))->∀e,e∈G->∃k,(e.1,k)∈(a,jE cf O o.op)::N/\xz φ1 k e.2:=by
   intro G hA e b;rcases hA e b with h|⟨X,h2⟩;.obtain⟨k,k1,k2⟩:=y e h;exact⟨k,jR _ k1,k2.mono c.nj⟩
   .exact⟨_,by rw[X];exact gv,h2.mono c.nj⟩
  cases D:oA o.op with|true=>have hH:H1=H.fresh:=Wd D (d r (bS _));subst hH;have nx:=Nx.quiet ok.hr c;have xa:Ok K1 φ1 ω1 H st1 (gR fr.tmps o.dst v):=z.same (ajd H).symm ok.hr.inv.bA;obtain⟨m,H',K',A,ω',⟨s,g1⟩,g2,g3,g4,g5⟩:=R (a+1) ((a,jE cf O o.op)::N) M K1 φ1 ω1 H st1 {fr with tmps:=gR fr.tmps o.dst v} S (q λe b=>.inl b) xa (g.mono c.ext (aX.refl _)) (by rw[f];exact p) h;refine⟨m,H',K',A,ω',⟨max r s,λn U=>?_⟩,nx.trans ok.hr.inv g2,g3,by rw[g4,f],by rw[g5,W]⟩;rw[Gf,F];simp only[cR,y9,bX,d n ab,jC,D,aR];exact g1 n ab|false=>
   obtain⟨d1,d2,d3,d4⟩:=aoT (j:=a) (ops:=ops) u D (d r (bS _)) b7 (Ix a o Ir);have d1:=aoI ok g u (d r (bS _)) d1;have nx:=Nx.resume c;have xa:Ok K1 φ1 ω1 (H.resume H1) st1 (gR fr.tmps o.dst v):=z.same (aIv H H1) (by have X:=ok.hr.inv.bA;have h2:H.next<=H1.next:=c.keep.next;show H.bA<=H1.next;omega);obtain⟨m,H',K',A,ω',⟨s,g1⟩,g2,g3,g4,g5⟩:=R (a+1) ((a,jE cf O o.op)::N) ((a,⟨eC P fr.tmps H o,H1.bV⟩)::M) K1 φ1 ω1 (H.resume H1) st1 {fr with tmps:=gR fr.tmps o.dst v} S (q λe b=>by
    rcases Cp.1 b with rfl|b;.exact .inr ⟨rfl,d1⟩
    .exact .inl b) xa (g.mono c.ext (aX.refl _)) (by rw[f];exact p) h;refine⟨m,H',K',A,ω',⟨max r s,λn U=>?_⟩,nx.trans ok.hr.inv g2,g3,by rw[g4,f],by rw[g5,W]⟩;have wN:lu (λ(e:Nat×jt)=>apart e.2 ⟨eC P fr.tmps H o,H1.bV⟩||rh ops.toList e.1 a) M=V:=by
    rw[qB];refine AW.2 λe b=>?_;obtain⟨k,k1,k2⟩:=y e b;have:=AW.1 E _ k1;simp only[AR]at this|-;rcases this with h|h;.exact .inl (alI k2 d1 h)
    .exact .inr h
   rw[Gf,F];simp only[cR,y9,bX,d n ab,jC,D,wN,d2,d3,d4,xx,aR];exact g1 n ab
theorem Zq(g:rj P ak cf rec)(j:wy P ak cf rec)(I:wq P ak cf){d:Bool}{fr:cG}(l:Ok K Y B H O fr.tmps)(c:dw P K (λ_=>Z) cf.aq)(k:fr.n=O.n)(h:(bif !d||nE cf O ops.toList then kf P cf rec gs cr d ops ops.toList 0 [] O else Z)=J st'):∃t H' K' A ω',(∃a,∀n,a<=n->(bif d then(bif vW ops.toList then vZ P ak (AM.run P ak n) ops ops.toList 0 [] fr H else Z)else Aw P ak (AM.run P ak n) ops ops.toList fr H)=J (.next {fr with tmps:=t} H'))/\Nx K Y B H K' A ω' H'/\Ok K' A ω' H' st' t/\st'.n=O.n/\st'.fn=O.fn:=by
 rcases d with _|_;.obtain⟨t,H',K',A,ω',⟨a,f⟩,b⟩:=aH8 g j I _ 0 K Y B H O fr l c k (by simpa using h);exact⟨_,H',K',A,_,⟨a,λn p=>f n p⟩,b⟩
 rcases hd:nE cf O ops.toList with _|_;.grind
 rw[hd]at h;unfold nE at hd;simp only[gu]at hd;obtain⟨t,H',K',A,ω',⟨a,f⟩,b⟩:=aH7 (s0:=O) g j I (λi o m x=>by have:=AW.1 hd.2 _ (bv.2 m);grind) _ 0 [] [] K Y B H O fr rfl (λe q=>ai) l c k (by simpa using h);refine⟨_,H',K',A,_,⟨a,λn p=>?_⟩,b⟩;grind
end
def dQ(P:aH)(a:cj)(fr:cG)(H:Heap)(G:Out->Prop):Prop:=∃n o,AM.run P a n fr H=J o/\G o
section
variable{P:aH}{ak:cj}{rec:dR}{cf:bU}{K K' K1 K2:aY}{Y A φ0 φ1:cm}{B ω' ω0 fJ ω1:aJ}{H H' H1:Heap}{lb:dV}{g g':GH}{O st' st2:St}{tm:Tr AV}{G:Out->Prop}{fr fE:cG}
theorem dQ.step(a:Nat)(h:∀n,a<=n->body P ak (AM.run P ak n) fr H=AM.run P ak n fE H')(r:dQ P ak fE H' G):dQ P ak fr H G:=by obtain⟨n,o,b,c⟩:=r;refine⟨max a n+1,o,?_,c⟩;show body P _ (AM.run P _ _) fr H=J o;rw[h _ ab];exact Jr ab _ H' o b
theorem dQ.same(h:∀rc,body P ak rc fr H=body P ak rc fE H')(r:dQ P ak fE H' G):dQ P ak fr H G:=by
 obtain⟨n,o,a,b⟩:=r;rcases n with _|n;.exact absurd a (by show¬(Z=J o);simp)
 exact⟨n+1,o,by show body P _ _ fr H=J o;rw[h];exact a,b⟩
theorem aiP:∀(n:Nat)(fr:cG)(H:Heap)(a b:List Item),fr.mode=.returning->AM.run P ak n {fr with todo:=a} H=AM.run P ak n {fr with todo:=b} H
 |0,_,_,_,_,_=>rfl|n+1,fr,H,a,b,h=>by
  have i:=aiP n;show body P ak (AM.run P ak n) _ H=body P ak (AM.run P ak n) _ H;obtain⟨fn,nn,tm,t,d,m,ro⟩:=fr;obtain rfl:m=.returning:=h;unfold body Ef;simp only;split;.rfl
  . split
    . split;.exact i ⟨fn,nn,tm,t,‹aC›,.returning,_⟩ _ a b rfl
      .rfl
    .rfl
def JF(o:eF)(r:List Item):List Item:=match o with|.fG _=>r|.ext id _=>.code (.exit id)::r|.rt _=>.code .ret::r
def eF.Gt:eF->St|.fG O|.ext _ O|.rt O=>O
theorem SO{id:Nat}(h:fr.mode=.run):body P ak rc {fr with todo:=.code (.exit id)::k} H=(match exitTo id k with|some k=>rc {fr with todo:=k} H|none=>match fr.roundOf with|none=>Z|some l=>match H.get l with|some (.loop r)=>J (.ret (.bool C) (H.put l l (.loop {r with state:=.done,pending:=J (.exit id)})))|_=>Z):=by obtain⟨fn,nn,t,todo,d,m,o⟩:=fr;obtain rfl:m=.run:=h;rfl
theorem asA{d:Nat}(h:fr.mode=.run)(t:∀i,it=.inBlock i->i≠d)(r:dQ P ak {fr with todo:=.code (.exit d)::k} H G):dQ P ak {fr with todo:=.code (.exit d)::it::k} H G:=by
 refine r.same λrc=>?_;rw[SO h,SO h];have:exitTo d (it::k)=exitTo d k:=by cases it<;>grind[exitTo]
 grind
theorem aHK(m:fr.mode=.run)(r:dQ P ak {fr with todo:=.code .ret::k} H G):dQ P ak {fr with todo:=.code .ret::it::k} H G:=by
 obtain⟨n,o,h,a⟩:=r;rcases n with _|n;.exact absurd h (by show¬(Z=J o);simp)
 refine⟨n+1,o,?_,a⟩;rw[<-h];simp only[m];rcases fr.roundOf with _|l;.exact aiP n {fr with mode:=.returning,roundOf:=Z} H _ _ rfl
 rfl
theorem Dv{o:eF}(h:fr.mode=.run)(n:∀O,o≠.fG O)(t:∀i,it=.inBlock i->∀O,o≠.ext i O)(r:dQ P ak {fr with todo:=JF o k} H G):dQ P ak {fr with todo:=JF o (it::k)} H G:=by
 rcases o with O|⟨id,O⟩|O;.grind
 .exact asA h ai r
 exact aHK h r
def NX(b:Nat)(a:aJ)(H:Heap)(s:aC):Prop:=s.Nodup/\∀r,r∈s->H.get r=J (.deferred V)/\¬dK a r/\b<=r
structure xB(bs:Nat)(rd:ah Nat)(fr:cG)(O:St)(Y:cm)(B:aJ)(H:Heap):Prop where
 fn:fr.fn=O.fn
 n:fr.n=O.n
 mode:fr.mode=.run
 base:bs<=H.next
 rd:match rd with|none=>fr.roundOf=Z/\NX bs B H fr.defers|some l=>∃i,Y l=J i/\fr.roundOf=J i/\fr.defers=[]
theorem NX.nx{d:aC}(i:bg H){s:Nat}(h:NX s B H d)(n:Nx K Y B H K' A ω' H'):NX s ω' H' d:=by
 refine⟨h.1,λr hr=>?_⟩;obtain⟨c,g,e⟩:=h.2 r hr;have a:=i.get _ _ c;have Q:rootOf H r=r:=by grind[rootOf]
 refine⟨by rw[n.keep.get r a ai];omega,λ⟨p,b,f⟩=>?_,e⟩;rcases n.lZ p r b f with h|h<;>grind
theorem xB.nx{b:Nat}{r:ah Nat}(d:bg H)(h:xB b r fr O Y B H)(n:Nx K Y B H K' A ω' H')(a:st'.n=O.n)(c:st'.fn=O.fn)(tm':Tr AV)(td:List Item):xB b r {fr with tmps:=tm',todo:=td} st' A ω' H':=by
 refine⟨by rw[c];exact h.fn,by rw[a];exact h.n,h.mode,gw h.base n.keep.next,?_⟩;have:=h.rd;rcases r with _|l;.exact⟨this.1,this.2.nx d n⟩
 obtain⟨i,k1,k2,k3⟩:=this;exact⟨i,n.nj _ _ k1,k2,k3⟩
def AS(P:aH)(a:cj)(b:Nat)(d:ah Nat)(K:aY)(c:cm)(e:aJ)(H:Heap)(s:St)(f:cG)(r:List Item)(G:Out->Prop)(o:eF):Prop:=∀K' A ω' H' t m,Nx K c e H K' A ω' H'->Ok K' A ω' H' o.Gt t->o.Gt.n=s.n->o.Gt.fn=s.fn->xB b d {f with tmps:=t,defers:=m} o.Gt A ω' H'->dQ P a {f with tmps:=t,defers:=m,todo:=JF o r} H' G
def G5(P:aH)(a:cj)(c:bU)(r:dR):Prop:=∀b O rd o,r (.loop b O rd)=J (.out o)->∀bs K Y B H fr rest G,Ok K Y B H O fr.tmps->dw P K (λ_=>Z) c.aq->xB bs rd fr O Y B H->AS P a bs rd K Y B H O fr rest G o->dQ P a {fr with todo:=.code (.loop b)::rest} H G
theorem agP{b:Type}(l:List (Nat×b)):∀(a:aC)(t:Nat)(v:b),look (a.filterMap λs=>(look l s).map λv=>(s,v)) t=J v->look l t=J v:=by intro a;induction a with|nil=>simp[look]|cons k a i=>cases h:look l k<;>grind[look,bR]
theorem VH{l:aC}(o:Ok K Y B H O tm):Ok K Y B H (mask l O) tm where
 hr:=by obtain⟨a,c,d,e,f,g,i,j,k⟩:=o.hr;refine⟨a,c,d,e,f,λs b m=>g s b ?_,i,j,k⟩;exact agP O.lb _ s b m
 sl:=λt v h=>o.sl t v (agP O.sl _ t v h)
theorem aiw(a:bg H){i:Nat}{o:ch}(g:H.get i=J o0)(k:o0.dZ=C)(n:o.dZ=C):bg (H.put i r o):=by
 refine⟨λj c h=>?_,λj l b m e1 h=>?_,λj l b m e1 h=>?_,a.dp,a.bA⟩
 . by_cases e:j=i;.rw[e];exact a.get _ _ g
   .rw[pe H r _ e]at h;exact a.get j c h
 . by_cases e:j=i;.grind[xe,ch.dZ]
   .rw[pe H r _ e]at h;exact a.root j l b _ e1 h
 . by_cases e:j=i;.grind[xe,ch.dZ]
   .rw[pe H r _ e]at h;obtain⟨q,f,d,p⟩:=a.oB j l b _ e1 h;grind[ch.dZ,pe]
theorem Ra{i:Nat}{o:ch}(g:H.get i=J o0)(h:o0.dZ=C)(a:o.dZ=C)(j:Nat):rootOf (H.put i r o) j=rootOf H j:=by grind[yF,xe,rootOf,pe]
theorem aix{i:Nat}{o:ch}(g:H.get i=J o0)(a:o0.dZ=C)(b:o.dZ=C):bT (λx=>x=i) H (H.put i r o)where
 next:=bS _
 get:=λj _ h=>pe H r _ (λx=>h (by subst x;exact yF g a))
 dp:=λc _ h=>rfl
 root:=λj _=>Ra g a b j
theorem ajY(u:pC H){i:Nat}{o:ch}(m:H.get i=J o0)(d:o0.dZ=C)(g:o.dZ=C):pC (H.put i r o):=λj l c f e h=>by
 by_cases a:j=i;.grind[xe,ch.dZ]
 .rw[pe H r _ a]at h;obtain⟨n,b,k⟩:=u j l c f e h;grind[ch.dZ,pe]
theorem ZD{d i:Nat}{R R':AO}{y:GO}(z:Ok K Y B H O tm)(S:Y d=J i)(M:B (.g d)=J (i,V))(n:H.get i=J (.loop R))(T:AT K Y B (H.put i i (.loop R')) d y i):Ok K Y B (H.put i i (.loop R')) {O with sl:=cN O.sl,g:=O.g.set d y} tm/\Nx K Y B H K Y B (H.put i i (.loop R')):=by
 have a:=z.hr;have m:=aix (r:=i) (o:=.loop R') n rfl rfl;have D:∀q f b,q≠.g d->B q=J _->¬f=i:=λq f b L h e=>by subst e;exact L (a.inj _ _ _ _ _ h M)
 have hr:HR K Y B (H.put i i (.loop R')) O.lb (O.g.set d y):=by
   refine⟨aiw a.inv n rfl rfl,λj cells e1 G=>?_,a.inj,λp r1 j x v l=>by rw[Ra n rfl rfl];exact a.clean p r1 j x v l,a.cC,λs b F=>?_,λk w Q=>?_,λk P=>a.mW k P,ajY a.gW n rfl rfl⟩;.obtain⟨root,N,g1,g2⟩:=a.dm j _ e1 G;exact⟨_,N,by grind[pe],g2⟩
   .obtain⟨j,l,t⟩:=a.box s b F;exact⟨j,l,t.keep a.inv m (bo.refl _) (aX.refl _) ai λu f c x=>⟨x,ai⟩⟩
   . have Q:look (put _ d y) k=J w:=Q;rw[me]at Q;by_cases e:k=d;.grind
     .rw[if_neg e]at Q;obtain⟨j,l,t,E⟩:=a.jf k w Q;exact⟨j,l,t,E.keep a.inv m (bo.refl _) (aX.refl _) ai λu f c x=>⟨x,ai⟩⟩
 refine⟨⟨hr,?_⟩,?_⟩;.exact xi a.inv z.sl m (bo.refl _) (aX.refl _) (λp f b I h=>⟨h,D p f b (by intro e;subst e;exact I) h⟩) ai
 . refine⟨bo.refl _,a.fX m,aX.refl _,m.xu a.inv λr _ e=>⟨.g d,V,ai⟩,λp r b h=>.inl ⟨p,b,h⟩,rfl,λr hr=>?_,λr hr=>.inl hr⟩;rcases vN hr with h|⟨v,A⟩;.grind
   .exact .inr ⟨A,.g d,V,ai⟩
theorem av1(k:Ok K Y B H O tm)(o:ch)(n:o.dZ=C):Ok K Y B (H.alloc o) O tm/\Nx K Y B H K Y B (H.alloc o):=by
 have a:bT (λ_=>False) H (H.alloc o):=j9 H _ _;have c:∀l r f e,o=.cells l r f e->r=H.next:=λl r f e h=>by grind[ch.dZ]
 refine⟨⟨k.hr.frame a (wA k.hr.inv _ c) (NH k.hr.inv k.hr.gW _ c) ai ai,λt s m=>?_⟩,bo.refl _,k.hr.fX a,aX.refl _,j9 H _ _,λp r b h=>.inl ⟨p,b,h⟩,rfl,λr hr=>.inl hr,λr hr=>.inl hr⟩;obtain⟨d,g,i,j⟩:=k.sl t s m;exact⟨d,g,i,j.keep k.hr.inv a (bo.refl _) (aX.refl _) ai ai ai ai⟩
def aGc:SV->SV:=λv=>match v with|.dv d .no=>SV.dv d .no|.dv d .any=>.dv d .any|.ev d=>.ev d|_=>.dd
def aF6(l:cX):mf l=l.map λx=>(x.1,aGc x.2):=rfl
theorem aGf(s:bZ K Y B H tm O.sl):xF K Y tm (mf O.sl):=by
 intro t v h;rw[aF6,qQ _ _]at h;rcases b:look O.sl t with _|E;.grind
 rw[b]at h;cases h;obtain⟨a,e,_,c⟩:=s t _ b;refine⟨a,e,?_⟩;cases E with
 |dv d o=>cases o<;>first|exact c|trivial
 |ev d=>exact c|_=>trivial
theorem aB8(o:Ok K Y B H O tm){r:aaL}{R:AO}(h:R.state=r.state/\R.pending=r.pending/\R.fn=r.fn/\R.n=r.n/\R.params=r.params/\R.assign=r.assign/\R.body=r.body)(c:xF K Y R.tmps r.sl):∃a ω',a O.g.next=J H.next/\Ok K a ω' (H.alloc (.loop R)) {O with g:=O.g.alloc (.loop r)} tm/\Nx K Y B H K a ω' (H.alloc (.loop R)):=by
 have W:(H.alloc (.loop R)).get H.next=J (.loop R):=mA H _;have i:bg (H.alloc (.loop R)):=wA o.hr.inv _ (λl r A z g=>ai);obtain⟨a,ω',e,k,m,n,D,s⟩:=QG (y:=.loop r) o.hr i (by grind[rootOf]) λa ω' d v=>⟨R,W,h.1,h.2.1,h.2.2.1,h.2.2.2.1,h.2.2.2.2.1,h.2.2.2.2.2.1,h.2.2.2.2.2.2,c.mono (bo.refl _) d⟩;refine⟨_,_,k,⟨m,λt w u=>?_⟩,bo.refl _,o.hr.fX (j9 H _ (λ_=>False)),e,j9 H _ _,λp r b c=>?_,rfl,λr hr=>.inl hr,λr hr=>.inl hr⟩;.obtain⟨f,g1,g2,g3⟩:=o.sl t w u;refine⟨f,g1,g2,g3.keep o.hr.inv (j9 H _ _) (bo.refl _) e (λp r b c x=>⟨n p r b ?_ x,id⟩) ai ai ai⟩;rcases c with rfl|⟨j,rfl⟩<;>trivial
 . rcases s p r b c with⟨q,h⟩|rfl;.exact .inl ⟨q,b,h⟩
   omega
theorem aG3(hC:rj P ak cf rec){bs:Nat}{S:ah Nat}{f:aK}{m:Array Tmp}{E b:bM}{k:eF->ah bh}{T:bh}{s:List Item}(A:Ok K Y B H O fr.tmps)(db:dw P K (λ_=>Z) cf.aq)(u:xB bs S fr O Y B H)(h:exec P cf rec S (.rangeFunc f m E b) O k=J T)(hk:∀o,k o=J T->AS P ak bs S K Y B H O fr s G o):dQ P ak {fr with todo:=.code (.rangeFunc f m E b)::s} H G:=by
 unfold exec at h;split at h;.rename_i hf first captured hv;cases vz:((cf.iU hf (first++[.dU O.g.next]++captured)).isSome||!(Au S O.g))with|true=>grind|false=>
  rw[vz]at h;simp only[bX]at h;simp only[JV,Bool.not_eq_false']at vz;obtain⟨awN,vH⟩:=vz;have awN:cf.iU hf (first++[.dU O.g.next]++captured)=Z:=by simp_all
  obtain⟨rs,U7,h⟩:=aE h;cases rs with|out o=>simp_all|val v g'=>
  simp only at h;obtain⟨af,f1,_,f3⟩:=sX (P:=P) (pG db) A.sl (I0 A.sl hv (λ_ _ _=>aP)) hv;obtain⟨m1,m2,rfl,k1,k2⟩:=K9 f3;have made:∃(d0:Nat)(M:aC)(j:Heap),(match fr.roundOf with
      |some l=>match H.get l with|some (.loop r)=>J (r.defers,([]:aC),H)|_=>Z
      |none=>J (H.next,[H.next],H.alloc (.deferred V)))=J (d0,M,j)/\Ok K Y B j O fr.tmps/\Nx K Y B H K Y B j/\xB bs S {fr with defers:=dy M fr.defers} O Y B j:=by have afr:=u.rd;cases S with
    |none=>
      obtain⟨r1,r3,r4⟩:=afr;obtain⟨o1,n1⟩:=av1 A (.deferred V) rfl;refine⟨H.next,[H.next],H.alloc (.deferred V),ai,o1,n1,⟨u.fn,u.n,u.mode,gw u.base n1.keep.next,r1,?_,?_⟩⟩;all_goals simp only[ly]
      .refine List.nodup_cons.2 ⟨λhm=>?_,aT⟩;have:=A.hr.inv.get _ _ (r4 _ hm).1;omega
      . intro r hr;rcases Cp.1 hr with rfl|hr;.exact⟨mA H _,λ⟨p,b,N⟩=>by have:=A.hr.cC p _ b N;omega,u.base⟩
        .obtain⟨h1,h2,h3⟩:=r4 r hr;exact⟨by rw[nG H _ (by have:=A.hr.inv.get _ _ h1;omega)];omega,h2,h3⟩|some l=>
      obtain⟨i,r1,r2,r3⟩:=afr;unfold Au at vH;simp only at vH;split at vH;.rename_i r oc;obtain⟨i',q1,_,D,q2,_⟩:=A.hr.jf l _ oc;obtain rfl:i=i':=bE (r1.symm.trans q1);refine⟨D.defers,[],H,aT,A,Nx.refl A.hr,⟨u.fn,u.n,u.mode,u.base,i,r1,r2,?_⟩⟩;grind[dy]
      simp_all
  obtain⟨d0,M,j,PC,MA,V5,fra⟩:=made;obtain⟨F,d,l1,U,QQ⟩:=aB8 MA (r:={state:=.ready,pending:=Z,fn:=O.fn,n:=O.n,sl:=mf O.sl,params:=m.toList,assign:=E,body:=b}) (R:={state:=.ready,pending:=Z,fn:=fr.fn,n:=fr.n,tmps:=fr.tmps,params:=m.toList,assign:=E,body:=b,defers:=d0}) ⟨rfl,rfl,u.fn,u.n,rfl,rfl,rfl⟩ (aGf MA.sl);have gQ:bK K F (first++[.dU O.g.next]++captured) (m1++[.yield j.next]++m2):=((k1.mono (bo.refl _) (V5.nj.trans QQ.nj)).append (bK.cons (.dU _ _ l1) bK.nil)).append (k2.mono (bo.refl _) (V5.nj.trans QQ.nj));obtain⟨a,L,W,w,I,c1,c0,c2,c3,c4⟩:=hC hf _ .no _ v g' U7 K F _ _ _ (U.hr.callee C C) db (pj.Wa gQ);have C0:∀q r b,(d.of (lL C)) q=J (r,b)->d q=J (r,b)/\((∃id,q=.g id)\/∃id off,q=.gc id off):=by grind[aJ.iG,MB]
  have cr:xy C nq K F d (j.alloc (.loop {state:=.ready,pending:=Z,fn:=fr.fn,n:=fr.n,tmps:=fr.tmps,params:=m.toList,assign:=E,body:=b,defers:=d0})) O.lb (O.g.alloc (.loop {state:=.ready,pending:=Z,fn:=O.fn,n:=O.n,sl:=mf O.sl,params:=m.toList,assign:=E,body:=b})) F (d.of (lL C)) W w I L g' g':=⟨U.hr,c2,c3,λ_=>rfl,λ_ h=>h,λ_=>rfl,(λh=>by cases h),by rintro p r bb N h⟨q,cc,hq⟩;obtain⟨h1,h3⟩:=C0 q r cc hq;have:=U.hr.inj _ _ _ _ _ h h1;grind[Kept,nq]⟩;have Ds:Ok W w (uw nq Z d I) L {O with sl:=cN O.sl,g:=g'} fr.tmps:=cr.ok (dst:=Z) (O:={O with g:=O.g.alloc (.loop {state:=.ready,pending:=Z,fn:=O.fn,n:=O.n,sl:=mf O.sl,params:=m.toList,assign:=E,body:=b})}) U.sl c4 (λh=>aT) rfl;have C2:∀r,dK (d.of (lL C)) r->dK d r:=λr⟨q,cc,hq⟩=>⟨q,cc,(C0 q r cc hq).1⟩;have nx3:Nx K F d _ W w (uw nq Z d I) L:=c2.up U.hr.inv C2 (bo.refl _) (U.hr.fX (bT.refl (λ_=>False) _)) c2.nj (cr.lZ (λp r bb h=>⟨p,bb,h⟩) C2);obtain⟨X,e1,n1,e2⟩:∃X,AM.xQ P ak hf (m1++[.yield j.next]++m2) (j.alloc (.loop {state:=.ready,pending:=Z,fn:=fr.fn,n:=fr.n,tmps:=fr.tmps,params:=m.toList,assign:=E,body:=b,defers:=d0}))=J (.call X (j.alloc (.loop {state:=.ready,pending:=Z,fn:=fr.fn,n:=fr.n,tmps:=fr.tmps,params:=m.toList,assign:=E,body:=b,defers:=d0})))/\∃n,AM.run P ak n X (j.alloc (.loop {state:=.ready,pending:=Z,fn:=fr.fn,n:=fr.n,tmps:=fr.tmps,params:=m.toList,assign:=E,body:=b,defers:=d0}))=J (.ret a L):=by rcases c1 with c1|⟨p1,X,p2,n,p3⟩;all_goals grind[AM.xQ]
  split at h
  . rename_i r oc;obtain⟨i,q1,qw,D,q2,q3,q4,q5,q6,q7,q8,q9,B1⟩:=Ds.hr.jf _ _ oc;have hi:i=j.next:=by have:=c2.nj _ _ l1;simp_all
    subst hi;obtain⟨Mz,nx4⟩:=ZD (R':={D with state:=.exhausted}) (y:=.loop {r with state:=.exhausted}) Ds q1 qw q2 ⟨_,xe _ _ _ _,rfl,q4,q5,q6,q7,q8,q9,B1⟩;have Mz:Ok W w (uw nq Z d I) (L.put j.next j.next (.loop {D with state:=.exhausted})) {O with sl:=cN O.sl,g:=g'.set O.g.next (.loop {r with state:=.exhausted})} fr.tmps:=by refine⟨Mz.hr,λt sv Q=>Mz.sl t sv ?_⟩;show look (cN (cN O.sl)) t=J sv;have Q:look (cN O.sl) t=J sv:=Q;unfold cN at Q|-;rw[qQ (O.sl.map λx=>(x.1,pO x.2)) pO,Q];rw[qQ O.sl pO]at Q;cases h0:look O.sl t with|none=>simp_all|some s0=>rw[h0]at Q;cases Q;cases s0<;>rfl
    have aEd:=((V5.trans A.hr.inv QQ).trans A.hr.inv nx3).trans A.hr.inv nx4;have aNt:xB bs S {fr with tmps:=fr.tmps,defers:=dy M fr.defers} {O with sl:=cN O.sl,g:=g'.set O.g.next (.loop {r with state:=.exhausted})} w (uw nq Z d I) (L.put j.next j.next (.loop {D with state:=.exhausted})):=xB.nx (st':={O with sl:=cN O.sl,g:=g'.set O.g.next (.loop {r with state:=.exhausted})}) (fr:={fr with defers:=dy M fr.defers}) (tm':=fr.tmps) (td:=fr.todo) MA.hr.inv fra ((QQ.trans MA.hr.inv nx3).trans MA.hr.inv nx4) rfl rfl;have step:∀(o:eF),o.Gt={O with sl:=cN O.sl,g:=g'.set O.g.next (.loop {r with state:=.exhausted})}->r.state≠.busy->k o=J T->(∀rc:Rec,(match D.pending with|some c=>rc {fr with todo:=.code c::s,defers:=dy M fr.defers} (L.put j.next j.next (.loop {D with state:=.exhausted}))|none=>rc {fr with todo:=s,defers:=dy M fr.defers} (L.put j.next j.next (.loop {D with state:=.exhausted})))=rc {fr with todo:=JF o s,defers:=dy M fr.defers} (L.put j.next j.next (.loop {D with state:=.exhausted})))->dQ P ak {fr with todo:=.code (.rangeFunc f m E b)::s} H G:=by intro o ho hb hko LK;have jl:=hk o hko W w _ _ fr.tmps (dy M fr.defers) aEd aT ai ai aT;refine dQ.step n1 (λn hn=>?_) jl;have Eo:=Jr hn X _ _ e2;obtain⟨fn,nn,ad,todo,aa,mode,roundOf⟩:=fr;obtain rfl:mode=.run:=u.mode;unfold body vm Kj;simp only at f1 PC e1 Eo LK|-;rw[f1];simp only;refine(gY (λz=>sD z _) PC).trans ?_;simp only[cR,ly]at e1 Eo|-;rw[e1];simp only[Eo,cR,q2];have hRb:D.state≠.busy:=aT;have P0:=LK (AM.run P ak n);simp only[ly]at P0;cases hRs:D.state with|busy=>simp_all|ready=>exact P0|done=>exact P0|exhausted=>exact P0
    split at h;.simp_all
    . rename_i mY;split at h;.rename_i N;refine step (.fG _) rfl (λe=>mY e) h λrc=>?_;rw[q4,N];rfl
      .rename_i N;refine step (.rt _) rfl (λe=>mY e) h λrc=>?_;rw[q4,N];rfl
      .rename_i id N;refine step (.ext id _) rfl (λe=>mY e) h λrc=>?_;rw[q4,N];rfl
      simp_all
  simp_all
 simp_all
end
section
variable{P:aH}{ak:cj}{rec:dR}{cf:bU}{K K' K1 K2:aY}{Y A φ0 φ1:cm}{B ω' ω0 fJ ω1:aJ}{H H' H1:Heap}{lb:dV}{g g':GH}{O st' st2:St}{tm:Tr AV}{fr fE:cG}{bs:Nat}{rd:ah Nat}
def dQ.todo{d t:List Item}(m:fr.mode=.run)(h:∀(rc:Rec)(fr:cG),fr.mode=.run->body P ak rc {fr with todo:=d} H=rc {fr with todo:=t} H)(r:dQ P ak {fr with todo:=t} H G):dQ P ak {fr with todo:=d} H G:=r.step 0 λn _=>h _ fr m
theorem AS.here{r:List Item}{o:eF}(h:AS P ak bs rd K Y B H O fr r G o)(k:Ok K Y B H O fr.tmps)(d:xB bs rd fr O Y B H)(e:o.Gt=O):dQ P ak {fr with todo:=JF o r} H G:=h K Y B H fr.tmps fr.defers (Nx.refl k.hr) ai ai ai aT
theorem AS.trans{r:List Item}{o:eF}{w:Tr AV}{a:aC}(h:AS P ak bs rd K Y B H O fr r G o)(i:bg H)(n:Nx K Y B H K1 φ1 ω1 H1)(c:st1.n=O.n)(d:st1.fn=O.fn):AS P ak bs rd K1 φ1 ω1 H1 st1 {fr with tmps:=w,defers:=a} r G o:=λK' A ω' H' t m b L e1 e2 f=>h K' A ω' H' t m (n.trans i b) L ab ai f
theorem OX(hC:rj P ak cf rec)(hY:wy P ak cf rec)(hI:wq P ak cf)(hL:G5 P ak cf rec)(G:Out->Prop):∀(c:bM)(O:St)(k:eF->ah bh)(s:bh)(K:aY)(Y:cm)(B:aJ)(H:Heap)(fr:cG)(rest:List Item),exec P cf rec rd c O k=J s->Ok K Y B H O fr.tmps->dw P K (λ_=>Z) cf.aq->xB bs rd fr O Y B H->(∀o,k o=J s->AS P ak bs rd K Y B H O fr rest G o)->dQ P ak {fr with todo:=.code c::rest} H G:=by intro c;induction c with
 |skip=>intro O k s K Y B H fr rest h ok p d j;exact dQ.todo d.mode (λrc fr F=>by obtain⟨_,_,_,_,_,m,_⟩:=fr;obtain rfl:m=.run:=F;rfl) ((j _ h).here ok d rfl)|label l=>intro O k s K Y B H fr rest h ok p d j;exact dQ.todo d.mode (λrc fr F=>by obtain⟨_,_,_,_,_,m,_⟩:=fr;obtain rfl:m=.run:=F;rfl) ((j _ h).here ok d rfl)|seq a b I M=>
 intro O k s K Y B H fr rest h ok p d j;refine dQ.todo d.mode (λrc fr F=>by obtain⟨_,_,_,_,_,m,_⟩:=fr;obtain rfl:m=.run:=F;rfl) ?_;refine I O _ _ K Y B H fr _ h ok p d λo u=>?_;intro K' A ω' H' t U D L e1 e2 q;rcases o with st1|⟨id,st1⟩|st1;.exact M _ k _ K' A _ H' {fr with tmps:=t,defers:=U} _ u L (p.mono D.ext (aX.refl _)) q λo2 uK=>(j o2 uK).trans ok.hr.inv D e1 e2
 .exact Dv (fr:={fr with tmps:=t,defers:=U}) d.mode aP aP (j _ u K' A _ H' _ _ D L e1 e2 q)
 exact Dv (fr:={fr with tmps:=t,defers:=U}) d.mode aP aP (j _ u K' A _ H' _ _ D L e1 e2 q)|cond x a b I M=>
 intro O k s K Y B H fr rest h ok p d j;have h:(match bj _ O x with|some (.bool y)=>bif y then exec P cf _ rd a O k else exec P cf _ rd b O k|_=>Z)=J _:=h;split at h
 . rename_i y hx;obtain⟨av,Q,_,a3⟩:=oz (pG p) ok.hr ok.sl hx;obtain rfl:av=.bool y:=by cases a3;rfl
   cases y with|true=>refine dQ.step 0 (λn _=>?_) (I O k _ K Y B H fr _ h ok p d j);obtain⟨_,_,_,_,_,m,_⟩:=fr;obtain rfl:m=.run:=d.mode;unfold body vm wC xL xM xN A8;simp only at Q|-;rw[Q];rfl|false=>refine dQ.step 0 (λn _=>?_) (M O k _ K Y B H fr _ h ok p d j);obtain⟨_,_,_,_,_,m,_⟩:=fr;obtain rfl:m=.run:=d.mode;unfold body vm wC xL xM xN A8;simp only at Q|-;rw[Q];rfl
 grind|block id b T=>
 intro O k s K Y B H fr rest h ok p d j;refine dQ.todo d.mode (λrc fr F=>by obtain⟨_,_,_,_,_,m,_⟩:=fr;obtain rfl:m=.run:=F;rfl) ?_;refine T O _ _ K Y B H fr _ h ok p d λo u=>?_;intro K' A ω' H' t U D L e1 e2 q;have pop:dQ P _ _ H' G->dQ P ak {fr with tmps:=t,defers:=U,todo:=.inBlock id::rest} H' G:=λr=>dQ.todo (fr:={fr with tmps:=t,defers:=U}) d.mode (λrc fr F=>by obtain⟨_,_,_,_,_,m,_⟩:=fr;obtain rfl:m=.run:=F;rfl) r;rcases o with st1|⟨i,st1⟩|st1;.exact pop (j _ u K' A _ H' _ _ D L e1 e2 q)
 . have u:(bif aw i id then k _ else k _)=J _:=u;rw[bR]at u;by_cases e:i=id
   . simp only[e,eB,aR]at u;have r:=j _ u K' A _ H' _ _ D L e1 e2 q;refine r.step 0 λn _=>?_;have hb:=SO (P:=P) (ak:=ak) (rc:=AM.run P ak n) (H:=H') (id:=i) (k:=.inBlock id::rest) (fr:={fr with tmps:=t,defers:=U}) d.mode;refine hb.trans ?_;have he:exitTo i (.inBlock id::rest)=J rest:=by grind[exitTo]
     rw[he];rfl
   .simp only[e,lA,bX]at u;exact Dv (fr:={fr with tmps:=t,defers:=U}) d.mode aP aT (j _ u K' A _ H' _ _ D L e1 e2 q)
 exact Dv (fr:={fr with tmps:=t,defers:=U}) d.mode aP aP (j _ u K' A _ H' _ _ D L e1 e2 q)|loop b _=>
 intro O k s K Y B H fr rest h ok p d j;obtain⟨r,hr,h⟩:=aE h;rcases r with⟨v,g⟩|o;.grind[fI]
 refine hL b _ rd o hr bs K Y B H fr _ G (VH ok) p ⟨d.fn,d.n,d.mode,d.base,d.rd⟩ ?_;intro K' A ω' H' t U D L e1 e2 q;exact j o h K' A _ H' _ _ D L e1 e2 q|scope b T=>
 intro O k s K Y B H fr rest h ok p d j;refine dQ.todo d.mode (λrc fr F=>by obtain⟨_,_,_,_,_,m,_⟩:=fr;obtain rfl:m=.run:=F;rfl) ?_;refine T O _ _ K Y B H fr _ h ok p d λo u=>?_;intro K' A ω' H' t U D L e1 e2 q;rcases o with st1|⟨i,st1⟩|st1;.exact dQ.todo (fr:={fr with tmps:=t,defers:=U}) d.mode (λrc fr F=>by obtain⟨_,_,_,_,_,m,_⟩:=fr;obtain rfl:m=.run:=F;rfl) (j _ u K' A _ H' _ _ D L e1 e2 q)
 .exact Dv (fr:={fr with tmps:=t,defers:=U}) d.mode aP aP (j _ u K' A _ H' _ _ D L e1 e2 q)
 exact Dv (fr:={fr with tmps:=t,defers:=U}) d.mode aP aP (j _ u K' A _ H' _ _ D L e1 e2 q)|exit id=>intro O k s K Y B H fr rest h ok p d j;exact(j _ h).here ok d rfl|ret=>intro O k s K Y B H fr rest h ok p d j;exact(j _ h).here ok d rfl|region W ops E=>
 intro O k s K Y B H fr rest h ok p d j;have h:(bif !E||nE cf O _ then(kf P cf _ _ _ _ _ _ 0 [] O).bind _ else Z)=J _:=h;have h2:∃st1,(bif !E||nE cf O ops.toList then kf P cf rec (cf.tH O.fn) (cf.zF O.fn) E ops ops.toList 0 [] O else Z)=J st1/\k (.fG (mask (cf.keep O.fn W) st1))=J s:=by
   rcases hc:(!E||nE cf O _)with _|_;.grind
   simp_all[aE]
 obtain⟨st1,h3,h4⟩:=h2;obtain⟨t,H',K',A,ω',⟨n0,r1⟩,r2,r3,X,r5⟩:=Zq (fr:={fr with todo:=rest}) hC hY hI ok p d.n h3;have q:=d.nx ok.hr.inv r2 X r5 t fr.todo;refine(j _ h4 K' A _ H' _ _ r2 (VH r3) X r5 ⟨q.fn,q.n,q.mode,q.base,q.rd⟩).step n0 λn hn=>?_;have:=r1 n hn;obtain⟨fn,nn,aa,todo,R,m,N⟩:=fr;obtain rfl:m=.run:=d.mode;exact gY (λz=>sD z _) this|rangeFunc f S sK b _ _=>grind[aG3]|goto l=>intro O k s K Y B H fr rest h ok p d j;have h:(Z:ah _)=J _:=h;grind|refuse w=>intro O k s K Y B H fr rest h ok p d j;have h:(Z:ah _)=J _:=h;grind
end
section
variable{P:aH}{ak:cj}{rec:dR}{cf:bU}{K K' K1 K2:aY}{Y A φ0 φ1:cm}{B ω' ω0 fJ ω1:aJ}{H H' H1:Heap}{lb:dV}{g g':GH}{O st' st2:St}{tm tm':Tr AV}{fr fE:cG}{rd:ah Nat}
def zh(K:aY)(d:cm)(e:aJ)(H:Heap)(x:DV×aM)(a:AV)(f:ah (Nat×Bool)):Prop:=(∀r b,f=J (r,b)->(∀q c,e q≠J (r,c))/\r<H.next/\(b=V->∀j y,K j=J y->rootOf H j≠r))/\∀(ω0:aJ)(p:Pk),ω0 p=f->cO K d ω0 H p x.1 a x.2
theorem aLh(n:HR K Y B H lb g){o:Pk}{d:DV}(h:cO K Y B H o d a ow){src:Pk->ah Pk}(P:∀q,src q≠J o):∃f,zh K Y (B.of src) H (d,ow) a f/\∀r b,f=J (r,b)->dK B r:=by
 have uT:(∀(ω0:aJ)(p:Pk),cO K Y _ H p d a ow)->∃f,zh K Y (B.of src) H (d,ow) a f/\∀r b,f=J (r,b)->dK B r:=λh=>⟨Z,⟨λ_ _ h=>ai,λω0 p _=>h ω0 p⟩,λ_ _ h=>ai⟩;have N:∀r b,B o=J (r,b)->(∀(ω0:aJ)(p:Pk),ω0 p=J (r,b)->cO K Y ω0 H p d a ow)->∃f,zh K Y (B.of src) H (d,ow) a f/\∀r b,f=J (r,b)->dK B r:=by
  intro r b k T;refine⟨_,⟨λx t e=>?_,T⟩,λx t e=>?_⟩;.obtain⟨rfl,rfl⟩:=jd (bE e);refine⟨λq c w=>?_,n.cC _ _ _ k,λu j y v=>by subst u;exact n.clean _ _ _ _ k v⟩;obtain⟨z,l,i⟩:=aJ.iG w;obtain rfl:=n.inj _ _ _ _ _ i k;grind
  .obtain⟨rfl,rfl⟩:=jd (bE e);exact⟨_,b,k⟩
 cases ow with|no=>exact uT λ_ _=>h|any=>exact uT λ_ _=>h|full e=>exact uT λ_ _=>h|ty e=>
  obtain⟨l,i⟩:=h;rcases i with i|⟨r,b,m,s⟩;.exact uT λ_ _=>⟨l,.inl i⟩
  .exact N r b m λω0 p k=>⟨l,aT⟩|ex e=>
  rcases h with i|⟨r,m,s⟩;.exact uT λ_ _=>.inl i
  .exact N r _ m λω0 p k=>.inr ⟨r,k,s⟩
theorem zh.nx{x:DV×aM}{g:ah (Nat×Bool)}(h:zh K Y B H x a g)(l:bg H)(n:Nx K Y B H K' A ω' H):zh K' A ω' H x a g:=by
 refine⟨λr b e=>?_,λω0 p o=>?_⟩
 . obtain⟨i,k,t⟩:=h.1 r b e;have N:∀f,dK B f->f≠r:=λf⟨q,c,d⟩e=>i q c (e▸d);refine⟨λq c d=>?_,k,λv j y m=>?_⟩;.rcases n.lZ q r c d with⟨w,s,h⟩|h<;>grind
   .obtain⟨_,u⟩:=n.dm j y m;grind
 .exact(h.2 _ p o).keep l (bT.refl _ _) n.ext n.nj λr b e=>⟨e,id⟩
theorem aiO{t:Tmp}{x:DV×aM}(k:Ok K Y B H O tm)(h:u7 O t=J (x,st1)):∃a f ω',tm.get t=J a/\Ok K Y ω' H st1 tm/\zh K Y ω' H x a f/\(∀r b,f=J (r,b)->dK B r)/\(∀p r b,ω' p=J (r,b)->dK B r)/\st1.g=O.g:=by
 unfold u7 at h;split at h;.rename_i d o l;obtain⟨rfl,rfl⟩:=jd (bE h);obtain⟨a,c,g,e⟩:=k.sl t _ l;have y:=g aP;obtain⟨f,k1,k2⟩:=aLh (src:=pS t) k.hr e (λq i=>by cases q<;>simp only[pS]at i<;>grind);refine⟨a,f,_,c,⟨k.hr.of (ZM t),RA k.hr k.sl l c y e⟩,k1,k2,λp r b h=>let⟨q,_,h⟩:=aJ.iG h;⟨q,b,h⟩,rfl⟩
 grind
def Jf(P:aH)(m:Tr AV)(H:Heap):oK->ah AV|.tmp t=>J ((m.get t).getD fC)|.cell a t=>match(m.get a).getD fC with|.ptr id o=>AM.loadVar P H t id o|_=>Z
theorem aHA{r:oK}{D:DV×aM}(k:Ok K Y B H O tm')(Q:tm'.get (vY r)=tm.get (vY r))(h:Jg P O r=J (D,st1)):∃a f K' A ω' w,Jf P tm H r=J a/\Nx K Y B H K' A ω' H/\Ok K' A ω' H st1 w/\zh K' A ω' H D a f/\(∀r b,f=J (r,b)->dK B r)/\(∀t,t≠vY r->w.get t=tm'.get t):=by
 rcases r with t|⟨c,t⟩;.obtain⟨a,f,ω',F,G,I,L,M,_⟩:=aiO k (show u7 O t=J _ from h);refine⟨a,f,K,Y,_,_,?_,⟨bo.refl _,k.hr.fX (bT.refl (λ_=>False) _),aX.refl _,bT.refl _ _,λp r b N=>.inl (M p r b N),qy.refl _ _⟩,G,I,L,λ_ _=>rfl⟩;show J _=J a;have Q:tm'.get t=tm.get t:=Q;grind
 have d:∀(y:Loc)(b:LB)(o i:Nat)(r:SV×LB)(st2:St),O.at y=J b->B y.top=J (i,V)->po K Y B H y.pk b i->tm'.get c=J (.ptr i o)->fF P .take t b o=J r->aG (O.setAt y r.2) (J c) r.1=J st2->u7 st2 c=J (D,st1)->∃a f K' A ω' w,Jf P tm H (.cell c t)=J a/\Nx K Y B H K' A ω' H/\Ok K' A ω' H st1 w/\zh K' A ω' H D a f/\(∀r b,f=J (r,b)->dK B r)/\(∀z,z≠c->w.get z=tm'.get z):=by
   intro y b o i r st2 m hi lI W l g T;obtain⟨a,a1,U⟩:=agB k.hr k.sl m hi lI l g;obtain⟨K1,ψ1,ω1,n,xa⟩:=U.nx (qy.refl _ _);obtain⟨a',f,ω2,F,G,I,L,M,_⟩:=aiO xa T;have:(tm'.ins c a).get c=J a:=Tr.lF _ _ _;rw[show gR _ _ a=tm'.ins c a from rfl,this]at F;obtain rfl:=bE F;refine⟨a,f,K1,_,_,_,?_,⟨n.ext,n.dm,n.nj,n.keep,λp r b N=>?_,n.log⟩,G,I,λr b e=>?_,λz E4=>Tr.jy _ _ ai⟩;.show(match(tm.get c).getD _ with|.ptr id o=>AM.loadVar P H t id _|_=>Z)=J a;rw[<-(show tm'.get c=tm.get c from Q),W];grind
   .obtain⟨q,E,u⟩:=M p r b N;exact n.lZ q r E u
   . obtain⟨q,E,u⟩:=L r b e;rcases n.lZ q r E u with h|h;.omega
     .have:=xa.hr.cC _ _ _ u;omega
 have h:(match look O.sl c with|some (.lp s o)=>(look _ s).bind _|some (.dv (.ptr id o) _)=>(match O.g.get id with|some (.box b)=>(fF P _ t b _).bind _|_=>Z)|_=>Z)=J _:=h;split at h;.rename_i s o l;obtain⟨b,m,h⟩:=aE h;obtain⟨r,hr,h⟩:=aE h;obtain⟨st2,g,h⟩:=aE h;obtain⟨i,v,R,_⟩:=k.hr.at (x:=.l s) m;obtain⟨a,g1,_,g3⟩:=k.sl c _ l;exact d (.l s) b _ i r _ m v R (by rw[g1,g3 i _ v]) hr g h
 . rename_i id o ow l;split at h
   . rename_i b hgb;obtain⟨r,hr,h⟩:=aE h;obtain⟨st2,g,h⟩:=aE h;have S:O.at (.g id)=J b:=by grind[St.at]
     obtain⟨i,v,R,i3⟩:=k.hr.at S;obtain⟨a,g1,_,g3⟩:=k.sl c _ l;have X:=cO.look k.hr g3;cases X with|ptr _ _ j hj=>have:=i3 id rfl;rw[hj]at this;obtain rfl:=bE this;exact d _ b _ j r _ S v R g1 hr g h
   grind
 grind
theorem aCA:∀{l:aC},yx l=V->l.Nodup:=by intro l;induction l<;>grind[yx,bR]
theorem asX:∀(l:List oK)(e:List (DV×aM))(O st2:St)(K:aY)(Y:cm)(B:aJ)(tm':Tr AV),tG P l O=J (e,st2)->Ok K Y B H O tm'->(∀t,t∈l.map vY->tm'.get t=tm.get t)->(l.map vY).Nodup->∃(aS:aI)(s:List (ah (Nat×Bool)))(K':aY)(A:cm)(ω':aJ)(n:Tr AV),cw (Jf P tm H) l=J aS/\Nx K Y B H K' A ω' H/\Ok K' A ω' H st2 n/\e.length=aS.length/\e.length=s.length/\(∀(j:Nat)(x:DV×aM)(a:AV)(g:ah (Nat×Bool)),e[j]?=J x->aS[j]?=J a->s[j]?=J g->zh K' A ω' H x a g)/\(∀(j:Nat)(r:Nat)(b:Bool),s[j]?=J (J (r,b))->dK B r)/\∀(i j:Nat)(r:Nat)(b c:Bool),s[i]?=J (J (r,b))->s[j]?=J (J (r,c))->i=j:=by intro l;induction l with|nil=>intro e O st2 K Y B tm' h ok _ _;obtain⟨rfl,rfl⟩:=jd (bE (show J ([],O)=J (e,st2)from h));exact⟨[],[],K,Y,B,tm',rfl,Nx.refl ok.hr,ok,rfl,rfl,λj x a g h=>ai,λj r b h=>ai,λi j r b c h=>ai⟩|cons r l W=>
 intro e O st2 K Y B tm' h ok R F;have h:((Jg P O r).bind λx=>(tG P l x.2).bind λy=>J (x.1::y.1,y.2))=J (e,st2):=h;obtain⟨⟨x,st1⟩,T,h⟩:=aE h;obtain⟨⟨ys,G⟩,U,h⟩:=aE h;obtain⟨rfl,rfl⟩:=jd (bE h);rw[fO,List.nodup_cons]at F;obtain⟨a,g,K1,m,ω1,X,a1,u,v,w,a5,a6⟩:=aHA (tm:=tm) ok (R _ aP) T;obtain⟨aS,s,K2,o,p,n,b1,z,I,b4,b5,b6,D,b8⟩:=W ys st1 G K1 m ω1 X U v (λt S=>by grind) F.2;have N:∀(j:Nat)(d:Nat)(b c:Bool),g=J (d,b)->s[j]?=J (J (d,c))->False:=by intro j d b c e1 e2;obtain⟨q,L,k⟩:=D j d c e2;exact(w.1 d b e1).1 q L k
 refine⟨a::aS,g::s,K2,o,p,n,?_,u.trans ok.hr.inv z,I,ai,ai,?_,?_,?_⟩;.grind[cw]
 .intro j y c f E M Q;cases j with|zero=>cases E;cases M;cases Q;exact w.nx ok.hr.inv z|succ j=>grind
 .intro j d b E;cases j with|zero=>grind|succ j=>
  obtain⟨q,c,k⟩:=D j d b ai;rcases u.lZ q d c k with h|h;.omega
  .have:=v.hr.cC _ _ _ k;omega
 grind
theorem HR.an0{l:Pk->ah (Nat×Bool)}(d:HR K Y B H lb g)(s:∀p x,l p=J x->p.slot)(m:∀p r b,l p=J (r,b)->(∀q c,B q≠J (r,c))/\r<H.next/\(b=V->∀j y,K j=J y->rootOf H j≠r))(N:∀p q r b c,l p=J (r,b)->l q=J (r,c)->p=q):HR K Y (λp=>(l p).or (B p)) H lb g:=by
 have back:∀p r b,(l p).or (B p)=J (r,b)->l p=J (r,b)\/(l p=Z/\B p=J (r,b)):=by simp_all
 refine d.uZ (bo.refl _) (λq k=>?_) d.dm ?_ ?_ ?_;.cases i:l q<;>grind
 . intro p q r b c a e;rcases back p r b a with h|⟨_,h⟩;.grind
   . rcases back q r c e with f|⟨_,f⟩;.grind
     .exact d.inj _ _ _ _ _ h f
 . intro p r j x a e;rcases back p r _ a with h|⟨_,h⟩;.grind
   .exact d.clean p r j x h e
 . intro p r b a;rcases back p r b a with h|⟨_,h⟩;.grind
   .exact d.cC _ _ _ h
def AP(P:aH)(K:aY)(b:cm)(c:aJ)(H:Heap)(v:SV)(g:GH)(o:Out):Prop:=∃a H' K' A ω',o=.ret a H'/\Nx K b c H K' A ω' H'/\HR K' A ω' H' [] g/\jS K' A ω' H' v a
theorem adS(U:Ok K Y B H O tm)(h:xW P fn O=J (.val v g')):∃a K' A ω',((cw (Jf P tm H) fn.results.toList).map λ|[v]=>v|F=>.cL F)=J a/\Nx K Y B H K' A ω' H/\HR K' A ω' H [] g'/\jS K' A ω' H v a:=by unfold xW at h;cases L:yx (fn.results.toList.map vY)with|false=>grind|true=>rw[L]at h;simp only[aR]at h;cases I:tG P fn.results.toList O with|none=>grind|some y=>
 obtain⟨i,st2⟩:=y;rw[I]at h;obtain⟨rfl,rfl⟩:=bh.val.inj (bE h);obtain⟨aS,s,K',A,ω',xn,X,e,M,G,N,n,b7,b8⟩:=asX (tm:=tm) _ _ _ _ K Y B tm I U (λ_ _=>rfl) (aCA L);have z:=M.hr.callee C C;have W:∀p r b,(ω'.of (lL C)) p=J (r,b)->ω' p=J (r,b):=λp r b h=>by grind[aJ.iG,MB]
 have g:∀(j:Nat)(f:ah (Nat×Bool)),s[j]?=J f->∃x a,i[j]?=J x/\aS[j]?=J a:=λj f k=>by have o:=(am.1 k).1;exact⟨_,_,dA ab,dA ab⟩
 have fin:∀(l:Pk->ah (Nat×Bool))(E:Nat->Pk),(∀p x,l p=J x->∃j,p=E j/\s[j]?=J (J x))->(∀j,(E j).slot)->∃d,(∀p,d p=(l p).or ((ω'.of (lL C)) p))/\Nx K Y B H K' A d H/\HR K' A d H [] st2.g:=by
  intro l E T cT;refine⟨λp=>(l p).or ((ω'.of (lL C)) p),λ_=>rfl,⟨e.ext,e.dm,e.nj,e.keep,λp r b h=>?_,e.log⟩,HR.an0 z (λp x h=>?_) (λp r b h=>?_) (λp q r b c h1 h2=>?_)⟩;.cases R:l p with|none=>rw[R]at h;exact e.lZ p r b (W p r b h)|some x=>grind
  .grind
  .obtain⟨j,_,k⟩:=T p (r,b) h;obtain⟨x,a,D,Q⟩:=g j _ k;obtain⟨k1,k2,k3⟩:=(n j x a _ D Q k).1 r b rfl;grind
  grind
 have cL:Dt i=.tp i->aS.length≠1->∃a K' A ω',((cw (Jf P tm H) fn.results.toList).map λ|[v]=>v|F=>AV.cL F)=J a/\Nx K Y B H K' A ω' H/\HR K' A ω' H [] st2.g/\jS K' A ω' H (Dt i) a:=by
  intro e1 e2;obtain⟨d,u,w,c3⟩:=fin (λp=>match p with|.tp 0 j=>(s[j]?).join|_=>Z) (λj=>.tp 0 j) (λp x h=>by grind) (λ_=>trivial);refine⟨.cL aS,K',A,d,?_,w,c3,?_⟩;.grind
  .rw[e1];refine⟨aS,rfl,G,λj x y D S=>?_⟩;have o:j<s.length:=ai;refine(n j x y _ D S (dA o)).2 d (.tp 0 j) ?_;rw[u];show((s[j]?).join).or _=_;rw[dA o];show(s[j]).or ((ω'.of (lL C)) (.tp 0 j))=s[j];have:(ω'.of (lL C)) (.tp 0 j)=Z:=rfl;grind
 by_cases m:i.length=1
 .obtain⟨x,rfl⟩:=List.length_eq_one_iff.1 m;obtain⟨a,rfl⟩:=List.length_eq_one_iff.1 (by rw[<-G];exact m);obtain⟨f0,rfl⟩:=List.length_eq_one_iff.1 (by rw[<-N];exact m);obtain⟨d,u,w,c3⟩:=fin (λp=>match p with|.sl 0=>f0|_=>Z) (λ_=>.sl 0) (λp x h=>by cases p with
  |sl t=>cases t with|zero=>have h:f0=J x:=h;exact⟨0,rfl,ai⟩|succ t=>grind
  |_=>grind) (λ_=>trivial);refine⟨a,K',A,d,ai,w,c3,?_⟩;refine(n 0 x a f0 rfl rfl rfl).2 d (.sl 0) ?_;rw[u];show f0.or ((ω'.of (lL C)) (.sl 0))=f0;have:(ω'.of (lL C)) (.sl 0)=Z:=rfl;grind
 .refine cL ?_ ab;match i,m with|[],_=>rfl|[_],h=>grind|_::_::_,_=>rfl
end
section
variable{P:aH}{K K':aY}{Y:cm}{B:aJ}{H:Heap}{g g':GH}
theorem aHY(b:LB)(o l e:Nat)(a:Bool):(yG b o l e a).length=l:=by simp[yG]
theorem aiY(b:LB)(o l e:Nat)(a:Bool){i:Nat}(h:i<l):(yG b o l e a)[i]?=J (bif a then .agg ((b.cells.drop (o+i*e)).take e)else((b.cells.drop (o+i*e)).headD .nl)):=by grind[yG]
theorem aiX{c:ao}{o l e i:Nat}{a:Bool}(s:∀(k:Nat)(d:DV),c[k]?=J d->d.aU=V)(h:o+l*e<=c.length)(f:a=V\/e=1)(j:i<l):((bif a then DV.agg ((c.drop (o+i*e)).take e)else((c.drop (o+i*e)).headD .nl)).flat)=(c.drop (o+i*e)).take e:=by cases a with|true=>rfl|false=>obtain rfl:e=1:=ai;have b:o+i*1<c.length:=ab;have g:=dA b;have hd:=(D3 b);rw[hd];generalize c[o+i*1]=d at*;cases d<;>first|rfl|grind[DV.aU]
theorem aam(y:HR K Y B H [] g){d d2:DV}(h:xq P g d=J d2)(E:DR (K.plus H λr=>∃p,B p=J (r,V)) Y d a):DR (K.plus H λr=>∃p,B p=J (r,V)) Y d2 a/\(d.aU=V->d2.aU=V):=by cases d with
 |dY id f len e s=>
 simp only[xq]at h;split at h
 . rename_i b v S R;rcases z:(bt (f+len*s) b.cells.length&&bt 1 s&&(v||aw s 1)&&b.own.any (λx=>isFull e x.2))with _|_;.grind
   rw[z]at h;cases h;simp only[gu,AR,bR,dj,jV]at z;obtain⟨⟨⟨I,q2⟩,q3⟩,q4⟩:=z;refine⟨?_,λ_=>rfl⟩;cases E with|dY _ _ _ _ _ i c T hc=>
   obtain⟨i',G,p2,p3⟩:=y.jf id _ S;rw[T]at G;cases G;obtain⟨m,fl,w,N,O,h3,h4,h5,D⟩:=p3;obtain rfl:w=e:=by obtain⟨⟨k,o⟩,X,o2⟩:=List.any_eq_true.1 q4;cases o with
    |full t=>
     have o3:t=e:=by simp_all[isFull]
     exact(O.2 k t X).symm.trans o3|_=>grind[isFull]
   have U:=lN N;have Q:K.plus H (λr=>∃p,B p=J (r,V)) i=J (m,w):=by
    unfold aY.plus;have UP:K i=Z:=by
     rcases n:K i with _|x;.rfl
     exact absurd U (y.clean _ _ i x p2 n)
    rw[if_pos ⟨⟨.g id,ai⟩,ai,ai⟩];grind[P7]
   have q:∀(k:Nat)(d:DV),b.cells[k]?=J d->d.aU=V:=λk d n=>by have bY:=(am.1 n).1;exact(D k d _ n (dA ab)).1
   have F:=aHY b f len s v;have W:=DR.ay (yG b f len s v) w _ i f c m Q q2 ai aT (λj x u=>by have l:j<len:=ai;rw[aiY _ _ _ _ _ l]at u;have he:=aiX q I q3 l;have ji:(j+1)*s<=len*s:=lU _ l;grind[List.mem_iff_getElem?]) (λj x k M L u A wL=>by
     have l:j<len:=ai;rw[aiY _ _ _ _ _ l]at u;cases u;rw[aiX q I q3 l]at A;have n:k<s:=by grind
     rw[Cm n,xD]at A;exact(cO.FV y ai (D _ M L A wL).2).2);grind
 grind|_=>cases h;exact⟨E,id⟩
theorem aj0(f:HR K Y B H [] g){d e:DV}(h:RU P g d=J e)(b:DR (K.plus H λr=>∃p,B p=J (r,V)) Y d a):DR (K.plus H λr=>∃p,B p=J (r,V)) Y e a:=by cases d with
 |agg l=>obtain⟨l2,s,rfl⟩:=iI.1 h;obtain⟨w,n⟩:=Fw s;cases b with|agg _ m u v o=>
 refine .agg l2 m ab (λd b=>?_) (λi d a k t=>?_);.obtain⟨i,q⟩:=a8.1 b;have c:i<l.length:=ai;have g0:=dA c;obtain⟨j,e1,e2⟩:=n i _ g0;rw[q]at e2;cases e2;exact(aam f e1 (o i _ _ g0 (dA ab))).2 aT
 .have c:i<l.length:=ai;have g0:=dA c;obtain⟨j,e1,e2⟩:=n i _ g0;rw[k]at e2;cases e2;exact(aam f e1 ai).1
 |_=>exact(aam (P:=P) (d2:=e) f (by exact h) b).1
theorem aMa(f:HR K Y B H [] g){w:SV}{k:GH}(u:jS K Y B H v a)(h:AJ P (.val v g)=J (.val w k)):∃K' i,Nx K Y B H K' Y i H/\HR K' Y i H [] k/\jS K' Y i H w a:=by
 let R:=λr=>∃p,B p=J (r,V);obtain⟨n,_,_,_⟩:=QX f R (λr h=>h);have E:k={g with kb:=[]}:=by cases v with|dv d o=>obtain⟨_,_,e⟩:=iI.1 h;grind|tp l=>obtain⟨_,_,e⟩:=iI.1 h;grind|_=>grind[AJ]
 refine⟨K.plus H R,λ_=>Z,⟨aY.pc _ _ _,λj x t=>?_,aX.refl _,bT.refl _ _,λp r b h=>ai,qy.refl _ _⟩,?_,?_⟩
 . obtain⟨cells,e⟩:=x;obtain⟨root,I,k1,_⟩:=n j _ e t;refine⟨f.inv.get _ _ k1,?_⟩;rcases aY.Wo t with h|⟨p,h⟩;.grind
   .exact .inr (.inl ⟨p,_,h⟩)
 .subst E;exact⟨f.inv,n,λp q r b c h=>ai,λp r id x h=>ai,λp r b h=>ai,λs b h=>by grind[look],λid o h=>by grind[GH.get,look],f.mW,f.gW⟩
 .cases v with|dv d o=>obtain⟨d2,e1,e2⟩:=iI.1 h;obtain⟨rfl,_⟩:=bh.val.inj e2;exact aj0 f e1 (cO.FV f ai u).2|tp l=>obtain⟨l2,e1,e2⟩:=iI.1 h;obtain⟨rfl,_⟩:=bh.val.inj e2;obtain⟨M,G⟩:=Fw e1;obtain⟨m,rfl,L,F⟩:=u;refine⟨m,rfl,ab,λj x y A D=>?_⟩;have z:j<l.length:=ai;have g0:=dA z;obtain⟨N,k1,k2⟩:=G j _ g0;rw[A]at k2;cases k2;obtain⟨d2,k3,rfl⟩:=iI.1 k1;exact aj0 f k3 (cO.FV f ai (F j _ y g0 D)).2|_=>grind[AJ]
end
def N5(P:aH)(k:cj)(e:bU):Prop:=∀f args v,e.iU f args=J (J v)->∀ow,(e.fk f=2->vU ow=V)->∀g K h j H aS,HR K h j H [] g->dw P K (λ_=>Z) e.aq->pj K h j H args ow aS->∃a c d i b,Ev P k f aS H a c/\Nx K h j H d i b c/\HR d i b c [] g/\jS d i b c v a
section
variable{P:aH}{ak:cj}{rec:dR}{cf:bU}{K K' K1 K2:aY}{Y A φ0 φ1:cm}{B ω' ω0 fJ ω1:aJ}{H H' H1:Heap}{lb:dV}{g g':GH}{O st' st2:St}{tm tm':Tr AV}{fr fE:cG}{rd:ah Nat}
def dQ.imp{a:Out->Prop}(h:∀o,G o->a o)(r:dQ P ak fr H G):dQ P ak fr H a:=let⟨n,o,b,c⟩:=r;⟨n,o,b,h o c⟩
theorem AP.trans{o:Out}(i:bg H)(n:Nx K Y B H K1 φ1 ω1 H1)(h:AP P K1 φ1 ω1 H1 v g' o):AP P K Y B H v g' o:=by obtain⟨a,H',K',A,ω',b,c,d,e⟩:=h;exact⟨a,H',K',A,_,b,n.trans i c,d,e⟩
theorem av2{o:ch}(k:Ok K Y B H O tm)(q:H.get r=J o0)(d:o0.dZ=C)(g:o.dZ=C)(N:¬dK B r){s:aY}{c:Heap}(n:Nx s φ0 ω0 c K Y B H)(R:c.next<=r)(P:c.bA<=c.next):Ok K Y B (H.put r r o) O tm/\Nx s φ0 ω0 c K Y B (H.put r r o):=by
 have u:=aix (r:=r) q d g;have S:∀{id l a f e},H.get id=J (.cells l a f e)->a≠r:=by intro id l a f e h Q;obtain⟨T,y,e2,z⟩:=k.hr.inv.oB _ _ _ _ _ h;grind[ch.dZ]
 have U:∀id x,K id=J x->¬rootOf H id=r:=by intro id x I;obtain⟨cells,e⟩:=x;obtain⟨a,f,g1,_⟩:=k.hr.dm id _ e I;grind[lN]
 have L:∀p a b,B p=J _->¬a=r:=λp a b G e=>N ⟨p,b,e▸G⟩;refine⟨⟨k.hr.frame u (aiw k.hr.inv q d g) (ajY k.hr.gW q d g) L U,λt v E=>?_⟩,n.ext,λj x D=>?_,n.nj,?_,n.lZ,n.log.1,λa hr=>?_,n.log.2.2⟩;.obtain⟨w,g1,g2,g3⟩:=k.sl t v E;refine⟨w,g1,g2,?_⟩;cases v with|gr id M=>obtain⟨i,m,root,f,e,k1,k2,k3⟩:=g3;refine⟨i,m,root,f,e,k1,?_,k3⟩;grind[pe,ch.dZ]|_=>exact g3.keep k.hr.inv u (bo.refl _) (aX.refl _) ai ai ai ai
 .rw[Ra q d g];exact n.dm j x D
 .refine⟨n.keep.next,λid hid F=>?_,n.keep.dp,λid hid=>by rw[Ra q d g];exact n.keep.root id hid⟩;rw[pe H r _ ab];exact n.keep.get id hid F
 . rcases vN hr with h|⟨z,A⟩;.exact n.log.2.1 a h
   .rw[n.log.1]at A;omega
def KT(P:aH)(c:bU)(f:bW)(n:Func)(s:St):ah bh:=bif c.AI f then(xW P n s).bind (AJ P)else xW P n s
theorem asY(h:KT P cf f fn O=J (.val v g')):(xW P fn O=J (.val v g'))\/∃a g1,xW P fn O=J (.val a g1)/\AJ P (.val a g1)=J (.val v g'):=by unfold KT at h;cases u:cf.AI f with|false=>rw[u]at h;exact .inl h|true=>rw[u]at h;obtain⟨r,c,b⟩:=aE h;cases r with|val a g1=>exact .inr ⟨a,g1,c,b⟩|_=>simp[AJ]at b
theorem asZ(o:Ok K Y B H O tm)(h:KT P cf f fn O=J (.val v g')):∃a K' A ω',((cw (Jf P tm H) fn.results.toList).map λ|[v]=>v|s=>.cL s)=J a/\Nx K Y B H K' A ω' H/\HR K' A ω' H [] g'/\jS K' A ω' H v a:=by
 rcases asY h with h|⟨n,g1,l,m⟩;.exact adS o h
 .obtain⟨a,K',A,ω',c,d,e,g⟩:=adS o l;obtain⟨K2,b,i,j,k⟩:=aMa e g m;exact⟨a,K2,A,b,c,d.trans o.hr.inv i,j,k⟩
theorem aHJ{e:aY}{b:Heap}{nn:Nat}(u:bg b)(y:P.funcs[f]?=J fn)(p:KT P cf f fn O=J (.val v g')):∀(s:aC)(H:Heap)(t:List Item),Nx e φ0 ω0 b K Y B H->Ok K Y B H O tm->s.Nodup->(∀r,r∈s->H.get r=J (.deferred V)/\¬dK B r/\b.next<=r)->dQ P ak {fn:=f,n:=nn,tmps:=tm,todo:=t,defers:=s,mode:=.returning,roundOf:=Z} H (AP P e φ0 ω0 b v g'):=by intro s;induction s with
 |nil=>
 intro H t n ok _ _;obtain⟨a,K',A,ω',h,c,d,g⟩:=asZ ok p;refine⟨1,_,?_,a,H,K',A,_,rfl,n.trans u c,d,g⟩;show(K6 f λf=>P.funcs[f]?).bind _=_;rw[Ub,y];have:Ji P fn {fn:=f,n:=nn,tmps:=tm,todo:=t,defers:=[],mode:=.returning,roundOf:=Z} H=J a:=by refine Eq.trans ?_ h;rfl
 grind|cons r s i=>
 intro H t n ok q U;obtain⟨h,c,d⟩:=U r gv;rw[List.nodup_cons]at q;obtain⟨FL,j⟩:=av2 (o:=.deferred C) ok h rfl rfl c n d u.bA;refine dQ.step 0 (λm _=>?_) (i _ t j FL q.2 λk L=>?_);.show(match H.get r with|some (.deferred V)=>AM.run P _ m {fn:=f,n:=nn,tmps:=tm,todo:=t,defers:=s,mode:=.returning,roundOf:=Z} _|_=>Z)=_;grind
 grind[pe]
theorem alY:∀(aS:aI)(t0:Tr AV)(i t:Nat),(fS (λ(p:Tr AV×Nat)a=>(p.1.ins p.2 a,fg p.2)) aS (t0,i)).1.get t=if i<=t/\t<i+aS.length then aS[t-i]? else t0.get t:=by intro aS;induction aS with|nil=>intro t0 i t;rw[if_neg ai];rfl|cons a aS h=>intro t0 i t;have:(fS _ (a::aS) (t0,i))=fS (λ(p:Tr AV×Nat)a=>(p.1.ins p.2 a,fg p.2)) aS _:=rfl;grind[Tr.lF,Tr.jy]
theorem alW:∀(l:ao)(i:Nat)(ow:aM)(t:Nat)(s:SV),look (uu i ow l) t=J s->∃d,i<=t/\l[t-i]?=J d/\s=.dv d (if t=i then ow else .no):=by intro l;induction l<;>grind[uu,look,bR]
theorem anr(M:rj P ak cf rec)(U:wy P ak cf rec)(O:wq P ak cf)(Q:G5 P ak cf rec)(S:N5 P ak cf)(R:∀f args aS H,cf.iU f args=Z->ak f aS H=Z):rj P ak cf (yW P cf rec):=by intro f args ow g v g' h K Y B H aS q w j;simp only[yW]at h;cases s:cf.iU f _ with
 |some r=>
 rcases r with _|v0;.grind
 have hx:cf.fk f=2->vU ow=V:=λe=>by cases k:vU ow<;>simp_all
 obtain⟨a,H',K',A,ω',h1,c,y,z⟩:=S f _ v0 s ow hx g K Y B H aS q w j;grind|none=>
 rw[s]at h;obtain⟨fn,yg,h⟩:=aE h;obtain⟨b,hb,h⟩:=aE h;rw[dj]at h;by_cases l:args.length<=fn.ntmps
 . simp only[l,eB,aR]at h;have N:=R f args aS H s;have E:aS.length<=fn.ntmps:=by rw[<-j.1];omega
   have D:wG P f aS=J {fn:=f,n:=fn.ntmps,tmps:=(fS (λ(p:Tr AV×Nat)a=>(p.1.ins p.2 a,fg p.2)) aS (Tr.nil,0)).1,todo:=[.code b],defers:=[],mode:=.run,roundOf:=Z}:=by grind[wG,dj,dT]
   have X:Ok K Y B H {fn:=f,n:=fn.ntmps,sl:=uu 0 ow args,lb:=[],g:=g} (fS (λ(p:Tr AV×Nat)a=>(p.1.ins p.2 a,fg p.2)) aS (Tr.nil,0)).1:=by
    refine⟨q,λt sv hl=>?_⟩;obtain⟨d,_,c,rfl⟩:=alW _ _ _ _ _ hl;rw[Nat.sub_zero]at c;have u:t<aS.length:=by rw[<-j.1];grind
    have W:aS[t]?=J aS[t]:=dA u;have T:=j.2 t d _ c W;exact⟨aS[t],by grind[alY],λ_=>T.qS,T⟩
   have jl:=OX (rd:=Z) (bs:=H.next) M U O Q (AP P K Y B H v g') b _ _ _ K Y B H {fn:=f,n:=fn.ntmps,tmps:=(fS (λ(p:Tr AV×Nat)a=>(p.1.ins p.2 a,fg p.2)) aS (Tr.nil,0)).1,todo:=[.code b],defers:=[],mode:=.run,roundOf:=Z} [] h X w ⟨rfl,rfl,rfl,bS _,rfl,List.nodup_nil,λr h=>ai⟩ (λo k=>by
    have x:∀st1,(o=.fG st1\/o=.rt st1)->KT P cf f fn st1=J (.val v g')->AS P ak H.next Z K Y B H {fn:=f,n:=fn.ntmps,sl:=uu 0 ow args,lb:=[],g:=g} {fn:=f,n:=fn.ntmps,tmps:=(fS (λ(p:Tr AV×Nat)a=>(p.1.ins p.2 a,fg p.2)) aS (Tr.nil,0)).1,todo:=[.code b],defers:=[],mode:=.run,roundOf:=Z} [] (AP P K Y B H v g') o:=by
     intro st1 F pI K' A ω' H' tm' mU n' L e1 e2 I;obtain⟨_,r2,r3⟩:=I.rd;have G:o.Gt=st1:=by rcases F with rfl|rfl<;>rfl
     rw[G]at L;have hr:=aHJ (ak:=ak) (nn:=fn.ntmps) q.inv yg pI mU H' (JF o []) n' L r2 r3;refine dQ.step 0 (λm _=>?_) hr;rcases F with rfl|rfl<;>rfl
    cases o with|fG st1=>exact x st1 (.inl rfl) k|rt st1=>exact x st1 (.inr rfl) k|ext i st1=>simp at k);obtain⟨n,o,hn,a,H',K',A,ω',rfl,c,y,z⟩:=jl;exact⟨a,H',K',A,_,.inr ⟨N,_,D,n,hn⟩,λ_=>N,c,y,z⟩
 grind
theorem aA3(j:rj P ak cf rec)(k:wy P ak cf rec)(I:wq P ak cf)(i:G5 P ak cf rec):G5 P ak cf (yW P cf rec):=by
 intro b O rd o h bs K Y B H fr rest G ok g d c;refine dQ.todo d.mode (λrc fr l=>by obtain⟨_,_,_,_,_,m,_⟩:=fr;obtain rfl:m=.run:=l;rfl) ?_;refine OX j k I i G b O _ _ K Y B H fr _ h ok g d λp a=>?_;intro K' A ω' H' tm' U n L e1 e2 f;rcases p with st1|⟨id,st1⟩|st1;.have hr:=i b _ rd o a bs K' A _ H' _ _ G (VH L) (g.mono n.ext (aX.refl _)) ⟨f.fn,f.n,f.mode,f.base,f.rd⟩ (c.trans ok.hr.inv n (by rw[<-e1];rfl) (by rw[<-e2];rfl));refine dQ.same (λrc=>?_) hr;obtain⟨fn,nn,t,todo,e,m,r⟩:=fr;obtain rfl:m=.run:=d.mode;rfl
 .obtain rfl:=bh.out.inj (bE a);exact Dv (fr:={fr with tmps:=tm',defers:=U}) d.mode aP aP (c K' A _ H' _ _ n L e1 e2 f)
 obtain rfl:=bh.out.inj (bE a);exact Dv (fr:={fr with tmps:=tm',defers:=U}) d.mode aP aP (c K' A _ H' _ _ n L e1 e2 f)
theorem aGe{s:cX}{p:Tmp}{d:DV}(h:xF K Y tm s)(g:DR K Y d a):xF K Y (tm.ins p a) (put s p (.dv d .no)):=by
 intro t v l;rw[me]at l;by_cases e:t=p;.subst e;rw[if_pos rfl]at l;cases l;grind[Tr.lF]
 .rw[if_neg e]at l;obtain⟨b,c,f⟩:=h t v l;grind[Tr.jy]
theorem aI0{n:Nat}:∀(s:List Tmp)(b:ao)(aS:aI)(sl:cX)(tm:Tr AV),xF K Y tm sl->bK K Y b aS->b.length=s.length->(∀p,p∈s->p<n)->xF K Y (fS (λt(p:Tmp×AV)=>bif ct p.1 n then t.ins p.1 p.2 else t) (List.zip s aS) tm) (Cb s b sl):=by intro s;induction s with|nil=>intro b aS sl tm h _ _ _;exact h|cons p s i=>
 intro b aS sl tm h hd l e;rcases b with _|⟨d,b⟩;.grind
 obtain⟨a,t,rfl,c,P⟩:=hd.cons_inv;have:fS (λt(p:Tmp×AV)=>bif ct p.1 n then t.ins p.1 p.2 else t) (List.zip (p::s) (a::t)) tm=fS (λt(p:Tmp×AV)=>bif ct p.1 n then t.ins p.1 p.2 else t) (List.zip s t) (tm.ins p a):=by show fS _ (List.zip s t) (bif ct p n then tm.ins p a else tm)=_;grind[eQ]
 rw[this];exact i b t _ _ (aGe h c) P ai λq f=>e q ai
theorem aGd{s:cX}(h:xF K Y tm s):bZ K Y B H tm s:=by intro t v l;obtain⟨a,c,b⟩:=h t v l;refine⟨a,c,?_⟩;cases v with
 |dv d o=>cases o with|no=>exact⟨λ_=>DR.qS b,b⟩|any=>exact⟨λ_=>ai,b⟩|_=>grind
 |ev d=>refine⟨λ_=>?_,b⟩;grind|dd=>exact⟨λh=>absurd rfl h,trivial⟩|_=>grind
end
end Go.VM
