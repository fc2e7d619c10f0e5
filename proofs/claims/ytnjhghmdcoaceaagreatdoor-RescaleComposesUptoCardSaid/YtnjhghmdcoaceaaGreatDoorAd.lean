/- Proved: bodies of functions on the abstract machine answer as the model runs them. -/
import Derived.Test.YtnjhghmdcoaceaaGreatDoorAc
open Option renaming some->J,none->Z
open Bool renaming true->V,false->C
open Go renaming TypeId->an,Oper->aB,Value->aD,Program->aH,Operand->aK,World->aT,Code->bM,FuncId->bY,Frame->dm,lone->fh,ResultVar->oS
open Go.Op renaming operands->eO
open Go.Region renaming binds->uy
open Go.stepG renaming exec->uo
open List renaming range->qm,range'->vp
open Nat renaming beq->aw,ble->bz,blt->cw,succ->fj
open Option renaming bind->sM
noncomputable section
set_option linter.all false
namespace Go.AM
open Go
variable{v:AV}{H H' H1 H2:Heap}{k:List Item}{cs:List dm}{j m r:Nat}{S:Nat->Prop}{p:Pl}{rec:Rec}{tm:Tr AV}{u:aD}{a ord:aE}{w w' w0:aT}{t:an}{Y A:bc}{F F0:dm}
section
variable{P:aH}{Y:bc}{H:Heap}{w:aT}
theorem aJm{A:ct}(q:nC P rec)(pc:jQ P A)(hn:rH P)(gW:J9 P A rec)(PR:∀(n:Array aB)(t:Nat),wa n.toList=V->rG n (Region.schedule (P.follows .mixedOrders) n t)){f:cJ}{o:Out}(u:f.mode=.run)(h:vw P A rec f H=J o)(i:bg H)(s:bS gK Y H w)(m:iZ P Y)(d:iY Y f F f.todo):kJ P Y H w f F cs o:=by
 have M:=d.run u;have U:=d.todo u;have O:∀(j:ah bM),F1 f.todo=j->(j=Z\/j=J .ret)->(∀(F:dm)(cs:List dm)(w:aT),F.mode=.run->F.todo=f.todo->F.roundOf=Z->(stepG P V {frame:=F,callers:=cs,status:=.running,dying:=Z} w).bare=.go {frame:={F with mode:=.returning},callers:=cs,status:=.running,dying:=Z} w)->(∀(F:dm)(c:dm)(rest:List dm)(b:Nat)(v:aD)(w w':aT),F.mode=.run->F.todo=f.todo->F.roundOf=J b->F.kind=.normal->(Instr.endRound b j).run P w=.ok v w'->(stepG P V {frame:=F,callers:=c::rest,status:=.running,dying:=Z} w).bare=.go {frame:=c.finish v,callers:=rest,status:=.running,dying:=Z} w')->wE rec f H=J o->kJ P Y H w f F cs o:=by
   intro j T hj wX Af h;unfold wE at h;split at h;.rename_i K;have B:=step_lone_go (wX F cs w M U (d.aDk K));exact a34 (fr1:={f with mode:=.returning}) i s (a33 i s) (Steps.one B) rfl rfl (q _ H o h Y w {F with mode:=.returning} cs i s m ⟨d.fn,d.tmps,λhh=>by grind[cJ.RG],d.defers,rfl,d.kind,d.round⟩)
   grind[ES]
 unfold vw at h;split at h;.rename_i g;refine O Z (by rw[g];rfl) (.inl rfl) ?_ ?_ h;all_goals simp_all[stepG,uo,doReturn]
 .rename_i k g;refine O (J .ret) (by rw[g];rfl) (.inr rfl) ?_ ?_ h;all_goals simp_all[stepG,uo,doReturn]
 iterate 5·rename_i g;exact fx q i s m u d (λF x D=>by simp_all[stepG,uo]) h
 . rename_i c a b k g;have hr:=Frame.reads F;rw[g]at U;unfold xR at h;split at h;iterate 2
     . rename_i S;have I:=(fK m hr (λt e=>by subst e;exact d.tmps.2 t) S).1;refine P4 q i s m ?_ (d.to _) ?_ h;rotate_left;.rfl
       refine step_lone_go ?_;generalize Ip:F.eval c=cv at I;cases I;simp_all[stepG,uo]
   simp_all
 iterate 4·rename_i g;exact fx q i s m u d (λF x D=>by simp_all[stepG,uo]) h
 . rename_i id k g;unfold xS at h;split at h;.rename_i k' kN;exact fx q i s m u d (λF x D=>by simp_all[stepG,uo]) h
   . rename_i kN;split at h;.simp_all
     . rename_i l K;split at h;.rename_i r y;cases h;exact ES (jump:=J (.exit id)) i s u d K y (λF c rest b v w' x D h3 h4 h5=>by simp_all[stepG,uo,doReturn])
       simp_all
 .grind[ZU]
 .grind[aHX]
 . rename_i k g;rw[g]at U;unfold Bl at h;split at h
   . rename_i l K;split at h
     . rename_i r y;split at h;.rename_i B;have X:=d.round;rw[K]at X;cases E:F.roundOf with|none=>grind[zt]|some b=>
        rw[E]at X;obtain⟨p,G,rfl⟩:=X;obtain⟨h0,R,x,L⟩:=Mx s G y;have z:=WN i s (r':={r with state:=.busy}) {R with state:=.busy} G y ⟨rfl,L.pending,L.fn,L.tmps,L.params,L.assign,L.body,L.defers⟩;have Q:R.state=.ready:=by rw[L.state,B]
        have W:(Instr.beginRound p.ba).run P w=.ok () (World.eW w p.ba (.loop {R with state:=.busy})):=by have e1:(getObj p.ba).run P w=.ok (.loop R) w:=yN x aP;simp_all[JH,Instr.beginRound,Instr.getLoop]
        have N:step P (fh F cs w)=.next (fh {F with todo:=k} cs (World.eW w p.ba (.loop {R with state:=.busy}))):=by
         refine step_lone_go ?_;have pU:F.finish undef={F with todo:=k}:=by grind[Frame.finish]
         simp[stepG,uo,M,U,E,stepG.apply,W,pU]
        exact a34 (fr1:={f with todo:=k}) i s z (Steps.one N) rfl rfl (q _ _ o h Y _ _ cs z.1 z.2.1 m (d.to k))
       simp_all
     simp_all
   simp_all
 grind
theorem aNi(j:nC P rec){f:cJ}{o:Out}(m:f.mode=.returning)(h:Ex P rec f H=J o)(i:bg H)(s:bS gK Y H w)(k:iZ P Y)(a:iY Y f F f.todo):kJ P Y H w f F cs o:=by
 have t:=a.mode.trans m;unfold Ex at h;split at h;.grind
 . rename_i K;have r:=a.defers;split at h
   . rename_i d x hd;rw[hd]at r;rcases I:F.defers with _|⟨e,b⟩;.rw[I]at r;exact r.elim
     rw[I]at r;obtain⟨⟨p,l,rfl⟩,c⟩:=r;split at h;.rename_i q;obtain⟨w',t1,t3⟩:=aMr (P:=P) i s l q;have A:step P (fh F cs w)=.next (fh {F with defers:=b} cs w'):=step_lone_go (by simp_all[stepG,unwind]);exact a34 i s t3 (Steps.one A) rfl rfl (j _ _ _ h Y w' _ cs t3.1 t3.2.1 k ⟨a.fn,a.tmps,a.todo,c,a.mode,a.kind,a.round⟩)
     grind
   . rename_i hd;have I:F.defers=[]:=by
      rw[hd]at r;rcases I:F.defers with _|⟨e,b⟩;.rfl
      rw[I]at r;exact r.elim
     rw[Uv]at h;obtain⟨fn,y,h⟩:=aF h;simp only[iK]at h;obtain⟨v,n,rfl⟩:=h;obtain⟨u,r1,r2⟩:=aIL s a n;exact⟨Y,w,u,a33 i s,r2,λ_=>⟨F,Steps.refl P _,rfl,t,I,a.kind,fn,by rw[a.fn];omega,r1⟩,λg=>absurd K g⟩
theorem anf{a:ct}(e:nC P rec)(p:jQ P a)(n:rH P)(g:J9 P a rec)(R:∀(o:Array aB)(t:Nat),wa o.toList=V->rG o (Region.schedule (P.follows .mixedOrders) o t)):nC P (body P a rec):=by intro fr H out h Y w F cs i s c b;grind[body,aJm,aNi]
theorem aI9{a:ct}(p:jQ P a)(b:rH P)(g:∀rec,nC P rec->J9 P a rec)(R:∀(o:Array aB)(t:Nat),wa o.toList=V->rG o (Region.schedule (P.follows .mixedOrders) o t)):∀n,nC P (AM.run P a n):=by intro n;induction n with|zero=>intro fr H out h;simp_all[AM.run]|succ n i=>exact anf i p b (g _ i) R
end
inductive Kind where|skip|quiet|act deriving DecidableEq
structure dk where
 fr:Nat->cJ
 H:Nat->Heap
 H':Nat->Heap
 v:Nat->AV
 K:Nat->Kind
def dk.gH(R:dk)(P:aH)(i:Nat)(o:aB):jv:=⟨eF P (R.fr i).tmps (R.H i) o,(R.H' i).bX⟩
structure Kk(P:aH)(ak:ct)(rec:Rec)(ops:Array aB)(R:dk)(i:Nat)(o:aB):Prop where
 slot:tu (R.fr i) o.dst (R.v i)=J (R.fr (i+1))skip:R.K i=.skip->wv ops (R.fr i).tmps o=J C/\R.v i=fD/\R.H (i+1)=R.H i
 run:R.K i≠.skip->wv ops (R.fr i).tmps o=J V/\fF P ak rec (R.fr i).tmps (R.H i).fresh o=J (.val (R.v i) (R.H' i))quiet:R.K i=.quiet->oJ o.op=V/\R.H (i+1)=R.H i
 act:R.K i=.act->oJ o.op=C/\R.H (i+1)=(R.H i).resume (R.H' i)/\rT ops o i (R.gH P i o) (R.H' i)=V/\tj o (R.H' i)=V/\within (R.gH P i o)=V
structure Km(P:aH)(ak:ct)(rec:Rec)(ops:Array aB)(R:dk):Prop where
 step:∀(i:Nat)(o:aB),ops[i]?=J o->Kk P ak rec ops R i o
 pair:∀(i k:Nat)(o q:aB),ops[i]?=J o->ops[k]?=J q->i<k->R.K i=.act->R.K k=.act->apart (R.gH P i o) (R.gH P k q)=V\/rA ops.toList i k=V
section
variable{P:aH}{ak:ct}{rec:Rec}{ops:Array aB}
def dk.put(R:dk)(j:Nat)(f:cJ)(a b:Heap)(d:AV)(c:Kind):dk:={fr:=λi=>if i=j then f else R.fr i,H:=λi=>if i=j then a else R.H i,H':=λi=>if i=j then b else R.H' i,v:=λi=>if i=j then d else R.v i,K:=λi=>if i=j then c else R.K i}
theorem Gu{o:aB}{l:List aB}{g:List (Nat×jv)}{f:cJ}:wg P ak rec ops (o::l) j g f H=(wv ops f.tmps o).bind λw=>bif !w then(tu f o.dst fD).bind λf=>wg P ak rec ops l (fj j) g f H else(fF P ak rec f.tmps H.fresh o).bind λ|.val v H'=>(tu f o.dst v).bind λa=>bif oJ o.op then wg P ak rec ops l (fj j) g a H else bif lx (λ(e:Nat×jv)=>apart e.2 ⟨eF P f.tmps H o,H'.bX⟩||rA ops.toList e.1 j) g&&(rT ops o j ⟨eF P f.tmps H o,H'.bX⟩ H'&&(tj o H'&&within ⟨eF P f.tmps H o,H'.bX⟩))then wg P ak rec ops l (fj j) ((j,⟨eF P f.tmps H o,H'.bX⟩)::g) a (H.resume H')else Z:=by simp[wg,akg]
theorem aNH:∀(l:List aB)(j:Nat)(g:List (Nat×jv))(fr:cJ)(H:Heap)(r:Ba),ops.toList.drop j=l->wg P ak rec ops l j g fr H=J r->∃R:dk,R.fr j=fr/\R.H j=H/\r=.next (R.fr (j+l.length)) (R.H (j+l.length))/\(∀(i:Nat)(o:aB),j<=i->ops[i]?=J o->Kk P ak rec ops R i o)/\(∀(i k:Nat)(o q:aB),j<=i->ops[i]?=J o->ops[k]?=J q->i<k->R.K i=.act->R.K k=.act->apart (R.gH P i o) (R.gH P k q)=V\/rA ops.toList i k=V)/\(∀(e:Nat×jv)(k:Nat)(q:aB),e∈g->j<=k->ops[k]?=J q->R.K k=.act->apart e.2 (R.gH P k q)=V\/rA ops.toList e.1 k=V):=by intro l;induction l with
 |nil=>
 intro j g fr H r F h;cases h;have N:ops.size<=j:=by simp_all
 have W:∀(i:Nat)(o:aB),j<=i->ops[i]?=J o->False:=λi o c m=>by grind
 exact⟨⟨λ_=>fr,λ_=>H,λ_=>H,λ_=>fD,λ_=>.skip⟩,rfl,rfl,rfl,λi o c m=>(W i o c m).elim,λi k o q c m=>(W i o c m).elim,λe k q _ b d=>(W k q b d).elim⟩|cons o l x=>
 intro j g fr H r F h;have m:ops[j]?=J o:=by have:(ops.toList.drop j)[0]?=J o:=ai;grind
 have E:ops.toList.drop (j+1)=l:=by have:(ops.toList.drop j).drop 1=l:=ai;grind[Eh]
 have a:=h;simp only[Gu]at a;clear h;have u:∀(f:cJ)(H1 n:Heap)(v:AV)(K:Kind)(y:List (Nat×jv))(R:dk),R.fr (j+1)=f->R.H (j+1)=H1->r=.next (R.fr (j+1+l.length)) (R.H (j+1+l.length))->(∀(i:Nat)(o:aB),j+1<=i->ops[i]?=J o->Kk P ak rec ops R i o)->(∀(i k:Nat)(o q:aB),j+1<=i->ops[i]?=J o->ops[k]?=J q->i<k->R.K i=.act->R.K k=.act->apart (R.gH P i o) (R.gH P k q)=V\/rA ops.toList i k=V)->(∀(e:Nat×jv)(k:Nat)(q:aB),e∈y->j+1<=k->ops[k]?=J q->R.K k=.act->apart e.2 (R.gH P k q)=V\/rA ops.toList e.1 k=V)->(∀e,e∈g->e∈y)->(K=.act->(j,(⟨eF P fr.tmps H o,n.bX⟩:jv))∈y)->(K=.act->∀e,e∈g->apart e.2 ⟨eF P fr.tmps H o,n.bX⟩=V\/rA ops.toList e.1 j=V)->Kk P ak rec ops (R.put j fr H n v K) j o->∃R:dk,R.fr j=fr/\R.H j=H/\r=.next (R.fr (j+(o::l).length)) (R.H (j+(o::l).length))/\(∀(i:Nat)(o:aB),j<=i->ops[i]?=J o->Kk P ak rec ops R i o)/\(∀(i k:Nat)(o q:aB),j<=i->ops[i]?=J o->ops[k]?=J q->i<k->R.K i=.act->R.K k=.act->apart (R.gH P i o) (R.gH P k q)=V\/rA ops.toList i k=V)/\(∀(e:Nat×jv)(k:Nat)(q:aB),e∈g->j<=k->ops[k]?=J q->R.K k=.act->apart e.2 (R.gH P k q)=V\/rA ops.toList e.1 k=V):=by
  intro f H1 n v K y R e1 e2 e3 e4 e5 e6 e7 e8 e9 C2;have hd:∀(i:Nat)(q:aB),i≠j->(R.put j fr H n v K).gH P i q=R.gH P i q:=λi q c=>by grind[dk.gH,dk.put]
  have t:∀i,i≠j->(R.put j fr H n v K).K i=R.K i:=λi c=>by grind[dk.put]
  have D:∀q,(R.put j fr H n v K).gH P j q=⟨eF P fr.tmps H q,n.bX⟩:=λq=>by simp[dk.gH,dk.put]
  have B:(R.put j fr H n v K).K j=K:=by simp[dk.put]
  refine⟨R.put j fr H n v K,by simp[dk.put],by simp[dk.put],?_,?_,?_,?_⟩;.grind[dk.put]
  . intro i q c d;by_cases M:i=j;.grind
    . have s:=e4 i q ab d;have p:¬(i+1=j):=ab;refine⟨?_,?_,?_,?_,?_⟩;.simpa[dk.put,M,p]using s.slot
      .intro b;rw[t i M]at b;simpa[dk.put,M,p]using s.skip b
      .intro b;rw[t i M]at b;simpa[dk.put,M,p]using s.run b
      .intro b;rw[t i M]at b;simpa[dk.put,M,p]using s.quiet b
      .intro b;rw[t i M]at b;have:=s.act b;grind[dk.put]
  .grind
  .intro e k q A b d S;grind
 obtain⟨w,I,a⟩:=aF a;cases w with
 |false=>
  simp only[ze,aR]at a;obtain⟨f,G,a⟩:=aF a;obtain⟨R,e1,e2,e3,e4,e5,e6⟩:=x (j+1) g f H r E a;refine u f H H fD .skip g R e1 e2 e3 e4 e5 e6 (λe h=>h) (λh=>ai) (λh=>ai) ⟨?_,?_,?_,?_,?_⟩;.grind[dk.put]
  .grind[dk.put]
  all_goals simp[dk.put]|true=>simp only[xC,ch]at a;obtain⟨⟨v,H'⟩,L,a⟩:=aF a;obtain⟨f,G,a⟩:=aF a;cases d:oJ o.op with
  |true=>
    rw[d]at a;simp only[aR]at a;obtain⟨R,e1,e2,e3,e4,e5,e6⟩:=x (j+1) g f H r E a;refine u f H H' v .quiet g R e1 e2 e3 e4 e5 e6 (λe h=>h) (λh=>ai) (λh=>ai) ⟨?_,?_,?_,?_,?_⟩;.grind[dk.put]
    .simp[dk.put]
    .grind[dk.put]
    .grind[dk.put]
    simp[dk.put]|false=>rw[d]at a;simp only[ch]at a;generalize z:(lx (λ(e:Nat×jv)=>apart e.2 ⟨eF P fr.tmps H o,H'.bX⟩||rA ops.toList e.1 j) g&&(rT ops o j ⟨eF P fr.tmps H o,H'.bX⟩ H'&&(tj o H'&&within ⟨eF P fr.tmps H o,H'.bX⟩)))=cond at a;cases cond with|false=>grind|true=>
      simp only[aR]at a;simp only[gD,qN,A0,AW]at z;obtain⟨R,e1,e2,e3,e4,e5,e6⟩:=x (j+1) _ f _ r E a;refine u f _ H' v .act _ R e1 e2 e3 e4 e5 e6 (λe h=>jy _ h) (λ_=>fU) (λ_ e A=>z.1 e A) ⟨?_,?_,?_,?_,?_⟩;.simpa[dk.put,e1]using G
      .intro b;simp[dk.put]at b
      .intro _;simp[dk.put,I,L]
      .intro b;simp[dk.put]at b
      grind[dk.gH,dk.put]
theorem aNI{f:cJ}{r:Ba}(h:wg P ak rec ops ops.toList 0 [] f H=J r):∃R:dk,R.fr 0=f/\R.H 0=H/\r=.next (R.fr ops.size) (R.H ops.size)/\Km P ak rec ops R:=by obtain⟨R,e1,e2,e3,e4,e5,_⟩:=aNH _ 0 [] f H r (by rfl) h;exact⟨R,e1,e2,ai,⟨λi o a=>e4 i o ab a,λi k o q a b=>e5 i k o q ab a b⟩⟩
end
def gF(H a:Heap):Prop:=H.tr=a.tr/\H.dz=a.dz/\H.next=a.next
theorem gF.refl(H:Heap):gF H H:=⟨rfl,rfl,rfl⟩
def gF.symm{a b:Heap}(h:gF a b):gF b a:=⟨h.1.symm,h.2.1.symm,h.2.2.symm⟩
def gF.trans{a b c:Heap}(h:gF a b)(k:gF b c):gF a c:=⟨h.1.trans k.1,h.2.1.trans k.2.1,h.2.2.trans k.2.2⟩
theorem gF.get{a b:Heap}(h:gF a b)(i:Nat):a.get i=b.get i:=by unfold Heap.get;rw[h.1]
theorem gF.br{a b:Heap}(h:gF a b)(r:Nat):a.br r=b.br r:=by unfold Heap.br;rw[h.2.1]
theorem gF.root{a b:Heap}(h:gF a b)(i:Nat):rootOf a i=rootOf b i:=by unfold rootOf;rw[h.get]
theorem gF.ro{a b:Heap}(h:gF a b)(i:Nat):fQ a i↔fQ b i:=by unfold fQ;rw[h.get]
theorem gF.alive{a b:Heap}(h:gF a b)(i:Nat):jg a i↔jg b i:=by
 unfold jg;rw[h.get];constructor;.intro x l r f e g;rw[<-h.br];grind
 .intro x l r f e g;rw[h.br];grind
theorem gF.fresh(H:Heap):gF H.fresh H:=⟨rfl,rfl,rfl⟩
def a29:=@gF.fresh
def gF.resume(a H:Heap):gF (a.resume H) H:=⟨rfl,rfl,rfl⟩
theorem Stat.DW{n:Nat}(c:gF H1 H2)(h:Stat Y H1 n):Stat Y H2 n where
 cF:=λid p e=>by rw[<-c.get];exact h.cF id p e
 len:=λid p l r f e a b=>h.len id p l r f e a (by rw[c.get];exact b)
 inj:=λi j p q a b e ro=>by rw[<-c.root,<-c.root];exact h.inj i j p q a b e (λx=>ro ((c.ro i).1 x))
 mono:=λi j p q a b e ro k=>h.mono i j p q a b e (ro.imp (λx y=>x ((c.ro i).1 y)) (λx y=>x ((c.ro j).1 y))) k
theorem bS.DW(c:gF H1 H2)(h:bS S Y H1 w):bS S Y H2 w:=⟨h.stat.DW c,λid p o a b e g=>h.obj id p o a (by rw[c.root];omega) ((c.alive id).2 e) (by rw[c.get];omega)⟩
theorem bg.DW(c:gF H1 H2)(h:bg H1)(t:H2.bA<=H2.next):bg H2 where
 get:=λid o g=>by rw[<-c.2.2];exact h.get id o (by rw[c.get];exact g)
 root:=λid l r a e g=>by rw[<-c.br];exact h.root id l r a e (by rw[c.get];exact g)
 oK:=λid l r a e g=>by obtain⟨i,b,d,x⟩:=h.oK id l r a e (by rw[c.get];exact g);exact⟨i,b,d,by rw[<-c.get];exact x⟩
 dz:=λr f g=>by rw[<-c.2.2];exact h.dz r f (by rw[c.2.1];exact g)
 bA:=t
theorem bg.fresh(h:bg H):bg H.fresh:=h.DW (a29 H).symm (bT _)
structure AF(H H':Heap):Prop where
 inv:bg H'
 next:H.next<=H'.next
 root:∀id,id<H.next->rootOf H' id=rootOf H id
 view:∀id o,id<H.next->rootOf H id∉H'.bX->H.get id=J o->H'.get id=J o/\(jg H id↔jg H' id)ro:∀id,id<H.next->fQ H id->fQ H' id
 keep:∀id o,id<H.next->H.get id=J o->∃o',H'.get id=J o'/\rF o o'
theorem AF.of(i:bg H)(h:gd Y H.fresh w A H' w'):AF H H' where
 inv:=h.1
 next:=h.2.2.next
 root:=λid hid=>h.2.2.root id hid
 view:=λid o hid d g=>by obtain⟨a,b,c⟩:=h.2.2.view id o hid (rq i hid) d g;exact⟨a,b,c⟩
 ro:=λid hid hr=>h.2.2.ro id hid hr
 keep:=λid o hid g=>h.2.2.keep id o hid g
theorem AF.ai8(i:bg H')(c:gF H H'):AF H H' where
 inv:=i
 next:=Nat.le_of_eq c.2.2
 root:=λid _=>(c.root id).symm
 view:=λid o _ _ h=>⟨by rw[<-c.get];exact h,c.alive id⟩
 ro:=λid _ hr=>(c.ro id).1 hr
 keep:=λid o _ h=>⟨o,by rw[<-c.get];exact h,a44 o⟩
section
variable{P:aH}{ak:ct}{rec:Rec}{ops:Array aB}
def KH(H:Heap)(x:ah fo):Prop:=∀v H',x=J (.val v H')->H'=H
theorem KH.n:KH H Z:=λ_ _ h=>ai
def KH.o(v:ah AV):KH H (fc H v):=λ_ _ h=>(mL h).2.symm
theorem KH.b{b:Type}{x:ah b}{f:b->ah fo}(h:∀a,KH H (f a)):KH H (x.bind f):=λ_ _ g=>by obtain⟨a,_,c⟩:=aF g;exact h a _ _ c
theorem KH.c{c:Bool}{a b:ah fo}(h:KH H a)(d:KH H b):KH H (bif c then a else b):=ai
theorem aHR{o:aB}(q:oJ o.op=V)(h:dY P ak tm H o=J (.val v H')):H'=H:=by suffices KH H _ from this _ _ h;unfold dY;split<;>first
 |(rename_i e;rw[e]at q;cases q;done)
 | (try simp only[Eb,CB,Cx,Ec,GW,G5,G2,D9,G0,Cz,D',J5]
    repeat' first|exact KH.n|exact KH.o _|(apply KH.b;intro a)|apply KH.c|(dsimp only;done)|split)
theorem aFX{o:aB}(h:fF P ak rec tm H o=J (.val v H')):∀c,o.op≠.defer c:=by grind[fF,dY]
theorem Wy{o:aB}(q:oJ o.op=V)(h:fF P ak rec tm H o=J (.val v H')):H'=H:=by obtain⟨x,a,h⟩:=aF h;obtain⟨b,H1,rfl⟩:=T' (λc e=>by grind[oJ]) x a;grind[aHR]
def dk.HX(R:dk)(i:Nat):Heap:=match R.K i with|.act=>R.H' i|_=>(R.H i).fresh
theorem ng{R:dk}(a:Km P ak rec ops R){i:Nat}{o:aB}(b:ops[i]?=J o):gF (R.H (i+1)) (R.HX i):=by
 have s:=a.step i o b;unfold dk.HX;rcases h:R.K i with _|_|_;.rw[(s.skip h).2.2];exact(a29 _).symm
 .rw[(s.quiet h).2];exact(a29 _).symm
 rw[(s.act h).2.1];simp[gF.resume]
theorem aNJ(L:nC P rec)(pc:jQ P ak)(W:rH P){R:dk}(G:Km P ak rec ops R){cs:List dm}(T:bg (R.H 0))(hs:bS gK Y (R.H 0) w)(S:iZ P Y)(U:(R.fr 0).mode=.run)(hF:iY Y (R.fr 0) F (.inRegion ops (vp 0 ops.size)::k)):∀j,j<=ops.size->(∃A w' H,bg (R.H j)/\bS gK A (R.H j) w'/\Ext Y A/\(∀id,(R.H 0).next<=id->id<(R.H j).next->∃p,A id=J p)/\iY A (R.fr j) H (.inRegion ops (vp j (ops.size-j))::k))/\ka (R.fr 0) (R.fr j)/\(R.fr j).defers=(R.fr 0).defers/\(R.fr j).n=(R.fr 0).n/\(R.fr j).fn=(R.fr 0).fn/\(∀i,i<j->AF (R.H i) (R.HX i)):=by intro j;induction j with|zero=>intro _;exact⟨⟨Y,w,F,T,hs,a41 Y,λid r g=>ab,ab⟩,⟨U,rfl,rfl⟩,rfl,rfl,rfl,λi h=>ab⟩|succ j ih=>
 intro hj;obtain⟨⟨A,w1,I,n,s1,x1,v1,f1⟩,m,m3,m4,m5,N⟩:=ih ab;have f:ops[j]?=J _:=mS ab;generalize ops[j]=o at f;have st:=G.step j o f;obtain⟨sm,sd,sn,sf⟩:=aKk st.slot m.mode;have v:=ng G f;have x:vp j (ops.size-j)=j::vp (j+1) (ops.size-(j+1)):=by have:ops.size-j=(ops.size-(j+1))+1:=ab;grind[List.range'_succ]
 rw[x]at f1;have s:ka _ _/\(R.fr _).defers=(R.fr 0).defers/\(R.fr _).n=(R.fr 0).n/\(R.fr _).fn=(R.fr 0).fn:=⟨m.trans sm,sd.trans m3,sn.trans m4,sf.trans m5⟩;by_cases K:R.K j=.skip
 . obtain⟨r,g,D⟩:=st.skip K;have Q:=st.slot;rw[g]at Q;obtain⟨g1,_⟩:=Pn f m.mode Q f1 JX;refine⟨ai,s.1,s.2.1,s.2.2.1,s.2.2.2,λi kM=>?_⟩;by_cases e:i=j
   . subst e;have:R.HX i=(R.H i).fresh:=by grind[dk.HX]
     rw[this];exact AF.ai8 n.fresh (a29 _).symm
   grind
 . obtain⟨r,g⟩:=st.run K;have tM:=f1.run m.mode;have tU:=f1.todo m.mode;have hw:=J2 r (λa b d _ _=>f1.tmps.2 d);have vJ:∀y,y∈o.op.operands.toList->fp A _ I.eval y:=λy _ t e=>by subst e;exact f1.tmps.2 t
   have M:=WA (cs:=cs) L pc W n.fresh (s1.DW (a29 _).symm) (S.mono x1) tM tU f hw vJ g;obtain⟨χ,w2,u,c,v2,_⟩:=M;have z:gF (R.HX j) (R.H' j):=by
     unfold dk.HX;rcases l:R.K j with _|_|_;.grind
     .rw[Wy (st.quiet l).1 g];simp[gF.refl]
     simp[gF.refl]
   obtain⟨g1,_⟩:=Pn f m.mode st.slot (f1.mono c.2.2.ext) v2;have O:AF (R.H j) (R.HX j):=by
     unfold dk.HX;rcases l:R.K j with _|_|_;.grind
     .exact AF.ai8 n.fresh (a29 _).symm
     grind[AF.of]
   have q:(R.H (j+1)).bA<=(R.H (j+1)).next:=by
     rcases l:R.K j with _|_|_;.grind
     .rw[(st.quiet l).2];exact n.bA
     rw[(st.act l).2.1];show(R.H j).bA<=(R.H' j).next;have:=c.2.2.next;exact gj n.bA this
   refine⟨⟨χ,w2,_,(c.1.DW (v.trans z).symm q),c.2.1.DW (v.trans z).symm,x1.trans c.2.2.ext,?_,g1⟩,s.1,s.2.1,s.2.2.1,s.2.2.2,λi kM=>?_⟩;rotate_left;by_cases e:i=j;.grind
   .grind
   intro id D E;rw[(v.trans z).2.2]at E;by_cases B:id<(R.H j).next;.obtain⟨p,X⟩:=v1 id D B;exact⟨p,c.2.2.ext _ _ X⟩
   .exact c.2.2.cover id (Nat.le_of_not_lt B) E
end
inductive sJ(ops:Array aB):Nat->Nat->Prop where|cM{i j:Nat}{o:aB}{e:Edge}(ho:ops[j]?=J o)(he:e∈o.after.toList)(hb:uy .any e=V)(hi:e.on=i):sJ ops i j|trans{i j:Nat}{o:aB}{e:Edge}(ho:ops[j]?=J o)(he:e∈o.after.toList)(hb:uy .any e=V)(h:sJ ops i e.on):sJ ops i j
theorem rG.CP{p:Array aB}(h:rG p ord){i:Nat}(g:sJ p i j):∀(a b:aE),ord=a++j::b->i∈a:=by induction g with|cM f d c k=>intro a b e;rw[<-k];exact h.before a b _ _ e f _ d c|@trans j o x f d c _ q=>intro a b e;have m:=h.before a b _ _ e f _ d c;obtain⟨l,n,rfl⟩:=Kc m;grind
section
variable{ops:Array aB}
theorem IT{b:Type}{Q:b->Nat->Prop}(g:Bool×Nat->b->Bool×Nat)(d:∀p a,(g p a).2=p.2+1)(c:∀p a,(g p a).1=V->p.1=V/\Q a p.2):∀(l:List b)(p:Bool×Nat),(fV g l p).1=V->p.1=V/\∀(i:Nat)(a:b),l[i]?=J a->Q a (p.2+i):=by intro l;induction l with|nil=>simp[pR]|cons a l e=>intro p h;rw[pR]at h;simp only[A7]at h;rw[<-pR]at h;grind
theorem aMt(n i:Nat):aw (Nat.mod (Nat.shiftRight n i) 2) 1=n.testBit i:=by rw[bQ];have:Nat.mod _ 2=(n>>>i)%2:=rfl;simp_all
def amA(a:Tr Nat)(i j:Nat):AM.before a i j=((a.get j).getD 0).testBit i:=aMt _ _
theorem alD(t:Tr Nat)(i:Nat):∀(l:List Edge)(s:Nat),(fV (λs(e:Edge)=>bif uy .any e then Nat.lor s (Nat.lor (Nat.shiftLeft 1 e.on) ((t.get e.on).getD 0))else s) l s).testBit i=V->s.testBit i=V\/∃e,e∈l/\uy .any e=V/\(e.on=i\/((t.get e.on).getD 0).testBit i=V):=by intro l;induction l with|nil=>simp[pR]|cons e l c=>
 intro s h;rw[pR]at h;simp only[A7]at h;rw[<-pR]at h;rcases c _ h with a|⟨d,a,f,g⟩;.cases b:uy .any e with|false=>simp_all|true=>rw[b]at a;simp only[aR]at a;have e1:Nat.lor s (Nat.lor (Nat.shiftLeft 1 e.on) ((t.get e.on).getD 0))=s|||(1<<<e.on|||((t.get e.on).getD 0)):=rfl;grind[Nat.one_shiftLeft]
 grind
theorem al0:∀(l:List aB)(m:Nat)(t:Tr Nat),ops.toList.drop m=l->(∀j i,j<m->((t.get j).getD 0).testBit i=V->sJ ops i j)->(∀j,m<=j->t.get j=Z)->∀j i,(((fV (λ(p:Tr Nat×Nat)(o:aB)=>(p.1.ins p.2 (fV (λs(e:Edge)=>bif uy .any e then Nat.lor s (Nat.lor (Nat.shiftLeft 1 e.on) ((p.1.get e.on).getD 0))else s) o.after.toList 0),fj p.2)) l (t,m)).1.get j).getD 0).testBit i=V->sJ ops i j:=by intro l;induction l with|nil=>grind[pR]|cons o l v=>
 intro m t g n u j i h;have k:ops[m]?=J o:=by
   have:(ops.toList.drop m)[0]?=J o:=by rw[g];rfl
   rw[xI]at this;simpa using this
 have E:ops.toList.drop (m+1)=l:=by
   have:(ops.toList.drop m).drop 1=l:=by rw[g];rfl
   rw[Eh]at this;exact this
 rw[pR]at h;simp only[A7]at h;rw[<-pR]at h;refine v (m+1) _ E ?_ ?_ j i h
 . intro q d I b;by_cases e:m=q
   . subst e;rw[a17]at b;simp only[Eo]at b;rcases alD t d o.after.toList 0 b with c|⟨e,c,f,a⟩;.simp at c
     . rcases a with a|a;.exact .cM k c f a
       . by_cases r:e.on<m;.exact .trans k c f (n e.on d r a)
         .rw[u e.on ab]at a;simp at a
   .rw[a11 _ _ e]at b;exact n q d ab b
 grind[Tr.jC]
theorem HD{i:Nat}(h:AM.before (Eu ops.toList).1 i j=V):sJ ops i j:=by rw[amA]at h;exact al0 _ 0 _ (by rfl) ab (λj _=>Tr.get_nil j) j i h
structure Ht(ops:Array aB)(ws:Tr Nat):Prop where
 back:∀(j:Nat)(o:aB),ops[j]?=J o->∀e,e∈o.after.toList->uy .any e=V->e.on<j
 guard:∀(j:Nat)(o:aB)(g:Nat)(b:Bool),ops[j]?=J o->o.guard=J (g,b)->sJ ops g j
 reads:∀(j:Nat)(o:aB)(t:Tmp),ops[j]?=J o->.tmp t∈o.op.operands.toList->ws.get t=Z\/∃k,ws.get t=J k/\(k=j\/sJ ops k j\/sJ ops j k)writes:∀(j:Nat)(o:aB)(t:Tmp),ops[j]?=J o->o.dst=J t->ws.get t=J j
 only:∀(t:Tmp)(k:Nat),ws.get t=J k->∃o,ops[k]?=J o/\o.dst=J t
theorem aNZ:∀(l:List aB)(m:Nat)(t r:Tr Nat)(q:Nat),lE (λ(p:Tr Nat×Nat)(o:aB)=>match o.dst with|none=>J (p.1,fj p.2)|some t=>match p.1.get t with|none=>J (p.1.ins t p.2,fj p.2)|some _=>Z) l (t,m)=J (r,q)->(∀x k,t.get x=J k->r.get x=J k)/\(∀(i:Nat)(o:aB)(x:Tmp),l[i]?=J o->o.dst=J x->r.get x=J (m+i))/\∀x k,r.get x=J k->t.get x=J k\/∃i o,k=m+i/\l[i]?=J o/\o.dst=J x:=by intro l;induction l with|nil=>grind[EN]|cons o l s=>intro m t r q h;rw[EM]at h;obtain⟨p,f,h⟩:=aF h;obtain⟨t1,u⟩:=p;obtain⟨g1,g2,g3⟩:=s u t1 r q h;cases hd:o.dst with
 |none=>
 rw[hd]at f;obtain⟨rfl,rfl⟩:=jf (bE f);refine⟨g1,λi g x j d=>?_,λx k d=>?_⟩;rotate_left
 . rcases g3 x k d with a|⟨i,g,a,b,c⟩;.grind
   .exact .inr ⟨i+1,g,ab,ai,c⟩
 grind|some x0=>rw[hd]at f;simp only at f;cases n:t.get x0 with|some k=>simp_all|none=>
   rw[n]at f;obtain⟨rfl,rfl⟩:=jf (bE f);refine⟨λx k d=>g1 x k ?_,λi g x j d=>?_,λx k d=>?_⟩;rotate_left 2
   . rcases g3 x k d with a|⟨i,g,a,b,c⟩
     . by_cases e:x0=x;.subst e;rw[a17]at a;cases a;grind
       grind[Tr.jC]
     .exact .inr ⟨i+1,g,by rw[a];simp only[Nat.succ_eq_add_one];omega,by simpa using b,c⟩
   .rw[a11 _ _ (λe=>by subst e;rw[n]at d;simp at d)];exact d
   .cases i with|zero=>simp at j;subst j;rw[hd]at d;cases d;have:=g1 x0 m (a17 _ _ _);simpa using this|succ i=>have:=g2 i g x (by simpa using j) d;rw[this];congr 1;omega
theorem aMQ{o:aB}{t:Tmp}(h:Operand.tmp t∈o.op.operands.toList):t∈tmpsOf o:=by
 have k:∀(l:List _)(a:List _),(t∈a\/Operand.tmp t∈l)->t∈fV (λa x=>match x with|.tmp t=>t::a|_=>a) l a:=by intro l;induction l with|nil=>simp[pR]|cons x l i=>intro a h;rw[pR];simp only[A7];grind[pR]
 exact k _ _ (.inr h)
theorem aja(h:wa ops.toList=V):∃w,Ht ops w:=by
 unfold wa at h;split at h;.simp at h
 . rename_i w I;refine⟨w,?_⟩;have s:(∀(j:Nat)(o:aB)(t:Tmp),ops[j]?=J o->o.dst=J t->w.get t=J j)/\∀(t:Tmp)(k:Nat),w.get t=J k->∃o,ops[k]?=J o/\o.dst=J t:=by
    unfold m7 at I;simp only[iK]at I;obtain⟨⟨r,q⟩,hr,rfl⟩:=I;obtain⟨_,g2,g3⟩:=aNZ ops.toList 0 Tr.nil r q hr;refine⟨λj o t d m=>?_,λt k x=>?_⟩;.have:=g2 j o t (by simpa using d) m;simpa using this
    . rcases g3 t k x with a|⟨i,o,a,b,c⟩;.rw[Tr.get_nil]at a;simp at a
      .exact⟨o,by rw[a,kG];simpa using b,c⟩
   dsimp only at h;have y:=(IT (Q:=λ(o:aB)(j:Nat)=>(lx (λ(e:Edge)=>!(uy .any e)||cw e.on j) o.after.toList=V)/\((match o.guard with|none=>V|some (g,_)=>AM.before (Eu ops.toList).1 g j&&(match pj ops.toList g with|some q=>q.dst.isSome|none=>C))=V)/\lx (λt=>match w.get t with|none=>V|some k=>aw k j||tied (Eu ops.toList).1 k j) (tmpsOf o)=V) _ (λp a=>rfl) (λp a f=>by simp only[gD]at f;exact⟨f.1,f.2.1.1,f.2.1.2,f.2.2⟩) ops.toList (V,0) h).2;have l:∀(j:Nat)(o:aB),ops[j]?=J o->_:=λj o d=>y j o (by simpa using d);refine⟨λj o d e v u=>?_,λj o g b d N=>?_,λj o t d m=>?_,s.1,s.2⟩;.have:=(l j o d).1;rw[qN,A0]at this;have:=this e v;rw[u,eP]at this;simpa using this
   .have:=(l j o d).2.1;rw[N]at this;simp only[gD]at this;have n:=this.1;rw[kG]at n;exact HD n
   .have:=(l j o d).2.2;rw[qN,A0]at this;have:=this t (aMQ m);cases T:w.get t with|none=>exact .inl rfl|some k=>
      rw[T]at this;simp only[kG,AW,bQ,jB]at this;refine .inr ⟨k,rfl,?_⟩;rcases this with e|e;.exact .inl e
      . unfold tied at e;rcases AW _ _▸e with e|e;.exact .inr (.inl (HD e))
        .exact .inr (.inr (HD e))
theorem Ht.lt{w:Tr Nat}(h:Ht ops w){i:Nat}(a:sJ ops i j):i<j:=by induction a with|cM o e b c=>rw[<-c];exact h.back _ _ o _ e b|trans o e b _ d=>exact Nat.lt_trans d (h.back _ _ o _ e b)
theorem NP{w:Tr Nat}(h:Ht ops w){i:Nat}(t:rA ops.toList i j=V)(k:i<j):sJ ops i j:=by
 rcases AW _ _▸t with e|e;.grind[HD]
 .have:=h.lt (HD e);omega
theorem avh{S:Tr Nat}(h:Ht ops S):∀(f t:Nat)(listed:Array Bool)(d:aE),listed.size=ops.size->d.Nodup->(∀i,i∈d↔listed[i]?=J V)->(∀i,i∈d->i<ops.size)->ops.size<=f+d.length->(∀(a b:aE)(i:Nat)(o:aB),d.reverse=a++i::b->ops[i]?=J o->∀e,e∈o.after.toList->uy .any e=V->e.on∈a)->rG ops (Region.linearise.go .any ops f t listed d):=by have done:∀(listed:Array Bool)(d:aE),d.Nodup->(∀i,i∈d->i<ops.size)->(∀i,i<ops.size->i∈d)->(∀(a b:aE)(i:Nat)(o:aB),d.reverse=a++i::b->ops[i]?=J o->∀e,e∈o.after.toList->uy .any e=V->e.on∈a)->rG ops d.reverse:=λlisted d j k L M=>⟨List.pairwise_reverse.2 (List.Pairwise.imp (λh=>Ne.symm h) j),λi=>⟨λg=>List.mem_reverse.2 (L i g),λg=>k i (List.mem_reverse.1 g)⟩,M⟩;intro f;induction f with
 |zero=>
 intro t listed d K q P r l U;simp only[Region.linearise.go];refine done listed d q r (λi g=>?_) U;apply G7;intro u;have R:(i::d).Nodup:=List.nodup_cons.2 ⟨u,q⟩;have O:(i::d).length<=ops.size:=by have:=List.Nodup.length_le_of_subset R (l₂:=qm ops.size) (λx W=>by grind);grind
 grind|succ f Q=>
 intro t listed d K q P r l U;simp only[Region.linearise.go];split
 . rename_i i g;have D:=dw g;rw[bl]at D;obtain⟨hr,B⟩:=D;have F:i<ops.size:=List.mem_range.1 hr;obtain⟨z,p⟩:∃z,ops[i]?=J z:=⟨_,mS F⟩;have E:i<listed.size:=ab;have s:listed[i]?=J listed[i]:=mS E;rw[gD]at B;obtain⟨X,w⟩:=B;have I:listed[i]=C:=by
     have:listed.getD i V=listed[i]:=by simp[Array.getD,E]
     grind
   have u:i∉d:=λT=>by grind
   rw[p]at w;simp only[gM,Eo]at w;have N:∀e,e∈z.after.toList->uy .any e=V->e.on∈d:=by intro e n m;have j:=w;rw[<-Array.all_toList,A0]at j;have:=j e n;rw[m]at this;simp only[xC,xB]at this;refine(P e.on).2 ?_;rw[G6]at this;grind
   refine Q _ _ (i::d) ai (List.nodup_cons.2 ⟨u,q⟩) ?_ ?_ ai ?_;.grind
   .grind
   . intro a b x o A Y e n m;rw[List.reverse_cons]at A;rcases List.append_eq_append_iff.1 A with⟨c,j,k⟩|⟨c,j,k⟩;.cases c with|nil=>grind|cons y c=>simp at k
     .cases c<;>grind
 . rename_i sW;refine done listed d q r ?_ U;intro i;refine Nat.strongRecOn i ?_
   . intro i v g;apply G7;intro u;have E:i<listed.size:=ab;have s:listed[i]?=J listed[i]:=mS E;have I:listed[i]=C:=by grind
     have p:ops[i]?=J ops[i]:=mS g;have H:i∈(qm ops.size).filter λi=>!listed.getD i V&&((ops[i]?).map (·.after.all λe=>!Region.binds .any e||listed.getD e.on C)).getD C:=by
      rw[bl];refine⟨List.mem_range.2 g,?_⟩;rw[p];have j:listed.getD i V=C:=by simp[Array.getD,E,I]
      rw[j];simp only[ze,zf,gM,Eo];rw[<-Array.all_toList,A0];intro e n;cases m:uy .any e with|false=>rfl|true=>have G:=h.back i _ p e n m;have:=(P e.on).1 (v e.on G ab);simp[G6,this]
     grind[Nat.mod_lt]
theorem aBk{P:aH}(m:P.follows .mixedOrders=V)(o:Array aB)(t:Nat)(h:wa o.toList=V):rG o (Region.schedule (P.follows .mixedOrders) o t):=by obtain⟨w,hr⟩:=aja h;rw[m];refine avh hr _ t _ [] aP List.nodup_nil (λi=>?_) aP aP aP;grind
end
def oU(n:Nat)(a:bc):bc:=λid=>if id<n then a id else Z
theorem zJ{n:Nat}{i:Nat}(h:i<n)(e:Y i=J p):oU n Y i=J p:=by grind[oU]
theorem uH{n:Nat}{i:Nat}(h:oU n Y i=J p):i<n/\Y i=J p:=by grind[oU]
def Below(n:Nat)(a:bc):Prop:=∀id p,a id=J p->id<n
theorem VR.cut{n:Nat}(e:Below n A){a:AV}{c:aD}(h:VR A a c):∀{Y:bc}{v:aD},VR Y a v->VR (oU n Y) a v:=by induction h with
 |top _=>intro Y v k;cases k with|top n=>exact .top n
 |bool b=>intro Y v k;cases k;exact .bool b|int W m=>intro Y v k;cases k;exact .int W m|str l s h=>intro Y v k;cases k with|str _ s' R=>exact .str l s' R
 |eS=>intro Y v k;cases k;exact .eS|ptr id w p o=>intro Y v k;cases k with|ptr _ _ q t=>exact .ptr id w q (zJ (e _ _ o) t)
 |bH=>intro Y v k;cases k;exact .bH|sl id w len c B p gZ Q o _ _ _ _ _ _ _=>intro Y v k;cases k with|sl _ _ _ _ _ q I O t E F G H K L M=>exact .sl id w len c B q I O (zJ (e _ _ o) t) E F G H K L M
 |fY=>intro Y v k;cases k;exact .fY|map r p o=>intro Y v k;cases k with|map _ q t=>exact .map r q (zJ (e _ _ o) t)
 |func f l1 l2 N P z S _ _ T U=>intro Y v k;cases k with|func _ _ _ d1 d2 k1 k2 g1 g2=>
 refine .func f l1 l2 d1 d2 k1 k2 (λi a c x y=>?_) (λi a c x y=>?_)
 . have j:i<N.size:=by rw[<-z];exact(am.1 x).1
   exact T i a _ x (mS j) (g1 i a c x y)
 . have j:i<P.size:=by rw[<-S];exact(am.1 x).1
   exact U i a _ x (mS j) (g2 i a c x y)|yield l p o=>intro Y v k;cases k with|yield _ q t=>exact .yield l q (zJ (e _ _ o) t)
 |nilFunc=>intro Y v k;cases k;exact .nilFunc|agg l c z hs _ D=>intro Y v k;cases k with|agg _ d k1 X g=>
 refine .agg l d k1 X λi a u x y=>?_;have j:i<c.size:=by rw[<-z];exact(am.1 x).1
 exact D i a _ x (mS j) (g i a u x y)|cO l c z _ D=>intro Y v k;cases k with|cO _ d k1 g=>
 refine .cO l d k1 λi a u x y=>?_;have j:i<c.size:=by rw[<-z];exact(am.1 x).1
 exact D i a _ x (mS j) (g i a u x y)
theorem aZ.cut{n:Nat}(b:Below n A){l:aJ}{c d:List aD}(h:aZ A l c)(k:aZ Y l d):aZ (oU n Y) l d:=by
 refine⟨k.1,λi a v x y=>?_⟩;have e:i<c.length:=by rw[<-h.1];exact(am.1 x).1
 exact(h.2 i a _ x (dC e)).cut b (k.2 i a v x y)
def rL.cut{n b:Nat}(a:Below n A){t:Tr AV}{c d:Array aD}(h:rL A m t c)(k:rL Y b t d):rL (oU n Y) b t d:=⟨k.1,λi=>(h.2 i).cut a (k.2 i)⟩
theorem my.cut{n:Nat}(f:Below n A){o:cq}{q:Pl}(h:my A w o p)(k:my Y w' o q):my (oU n Y) w' o q:=by cases o with
 |cells l root T e=>obtain⟨cs,U,_,_,_,_,F,_,_,_⟩:=h;obtain⟨B,E,D,k1,k2,k3,k4,k5,k6,k7⟩:=k;refine⟨B,E,D,k1,k2,k3,λi a j=>?_,k5,k6,k7⟩;obtain⟨c,_,I⟩:=F i a j;obtain⟨d,hd,L⟩:=k4 i a j;exact⟨d,hd,I.cut f L⟩|map S u=>
 obtain⟨_,s,_,g⟩:=h;obtain⟨k0,t,k1,k2⟩:=k;refine⟨k0,t,k1,k2.1,λi e x y K=>?_⟩;have H:i<s.toList.length:=by rw[<-g.1];exact(am.1 y).1
 have a:=g.2 i e _ y (dC H);have b:=k2.2 i e x y K;exact⟨a.1.cut f b.1,a.2.1.cut f b.2.1,b.2.2⟩|mapIter m z seen O=>obtain⟨_,W,_,g⟩:=h;obtain⟨k0,M,k1,k2⟩:=k;refine⟨k0,M,k1,?_⟩;cases m with|none=>exact k2|some r=>obtain⟨a,j,_⟩:=g;obtain⟨b,G,e⟩:=k2;exact⟨b,zJ (f _ _ j) G,e⟩
 |loop a=>obtain⟨_,Q,_,g⟩:=h;obtain⟨k0,R,k1,k2⟩:=k;refine⟨k0,R,k1,k2.state,k2.pending,k2.fn,g.tmps.cut f k2.tmps,k2.params,k2.assign,k2.body,?_⟩;obtain⟨X,v,_⟩:=g.defers;obtain⟨N,P,e⟩:=k2.defers;exact⟨N,zJ (f _ _ v) P,e⟩|deferred c=>exact k
def dk.wr(R:dk)(i:Nat):aE:=match R.K i with|.act=>(R.H' i).bX|_=>[]
def dk.gr(R:dk)(i:Nat):aE:=match R.K i with|.act=>(R.H' i).cL|_=>[]
structure gG(P:aH)(ak:ct)(rec:Rec)(ops:Array aB)(ws:Tr Nat)(R:dk)(φ0:bc):Prop where
 ok:Km P ak rec ops R
 rk:Ht ops ws
 hinv:∀j,j<=ops.size->bg (R.H j)af:∀i,i<ops.size->AF (R.H i) (R.HX i)same:∀i,i<ops.size->gF (R.H (i+1)) (R.HX i)txt:∀i,i<=ops.size->∃A w m c,bS gK A (R.H i) w/\Ext φ0 A/\(∀id,(R.H 0).next<=id->id<(R.H i).next->∃p,A id=J p)/\rL A m (R.fr i).tmps c
section
variable{P:aH}{ak:ct}{rec:Rec}{ops:Array aB}{ws:Tr Nat}{R:dk}{φ0:bc}
theorem gG.aCY(T:gG P ak rec ops ws R φ0){i:Nat}(h:i<ops.size):(R.H i).next<=(R.H (i+1)).next:=by rw[(T.same i h).2.2];exact(T.af i h).next
theorem gG.next(T:gG P ak rec ops ws R φ0){m':Nat}(h:m<=m')(a:m'<=ops.size):(R.H m).next<=(R.H m').next:=by induction m' with|zero=>grind|succ k i=>
 by_cases e:m=k+1;.grind
 .exact gj ab (T.aCY ab)
theorem gG.root(T:gG P ak rec ops ws R φ0){a i:Nat}(h:m<=a)(c:a<=ops.size)(d:i<(R.H m).next):rootOf (R.H a) i=rootOf (R.H m) i:=by induction a with|zero=>have:m=0:=ab;subst this;rfl|succ k b=>
 by_cases e:m=k+1;.subst e;rfl
 .rw[(T.same k ab).root,(T.af k ab).root i (gE d (T.next ab ab)),b ab ab]
theorem gG.keep(T:gG P ak rec ops ws R φ0){a i:Nat}{o:cq}(h:m<=a)(p:a<=ops.size)(d:i<(R.H m).next)(g:(R.H m).get i=J o):∃b,(R.H a).get i=J b/\rF o b:=by induction a with|zero=>have:m=0:=ab;subst this;exact⟨o,g,a44 o⟩|succ k j=>
 by_cases e:m=k+1;.subst e;exact⟨o,g,a44 o⟩
 .obtain⟨l,c,l1⟩:=j ab ab;obtain⟨n,f,l2⟩:=(T.af k ab).keep i l (gE d (T.next ab ab)) c;exact⟨n,by rw[(T.same k ab).get];exact f,l1.trans l2⟩
theorem gG.ro(T:gG P ak rec ops ws R φ0){a i:Nat}(h:m<=a)(b:a<=ops.size)(d:i<(R.H m).next)(r:fQ (R.H m) i):fQ (R.H a) i:=by induction a with|zero=>have:m=0:=ab;subst this;exact r|succ k c=>
 by_cases e:m=k+1;.subst e;exact r
 .exact((T.same k ab).ro i).2 ((T.af k ab).ro i (gE d (T.next ab ab)) ai)
theorem Od(R:dk)(i:Nat):(R.HX i).bX=R.wr i:=by unfold dk.HX dk.wr;cases R.K i<;>rfl
theorem He(R:dk)(i:Nat):(R.HX i).cL=R.gr i:=by unfold dk.HX dk.gr;cases R.K i<;>rfl
theorem gG.view(T:gG P ak rec ops ws R φ0){m' f:Nat}{o:cq}(h:m<=m')(q:m'<=ops.size)(g:f<(R.H m).next)(l:∀i,m<=i->i<m'->rootOf (R.H m) f∉R.wr i)(j:(R.H m).get f=J o):(R.H m').get f=J o/\(jg (R.H m) f↔jg (R.H m') f):=by induction m' with|zero=>have:m=0:=ab;subst this;exact⟨j,Iff.rfl⟩|succ k p=>
 by_cases e:m=k+1;.subst e;exact⟨j,Iff.rfl⟩
 .obtain⟨a,b⟩:=p ab ab (λi n r=>l i n ab);have w:=gE g (T.next (m:=m) (m':=k) ab ab);obtain⟨c,d⟩:=(T.af k ab).view f o w (by rw[Od,T.root ab ab g];exact l k ab ab) a;exact⟨by rw[(T.same k ab).get];exact c,b.trans (d.trans ((T.same k ab).alive f).symm)⟩
def Valid(R:dk)(n:Nat)(a:aE)(r m:Nat):Prop:=∀i,i<n->r∈R.wr i->(i∈a↔i<m)
theorem gG.aNs(T:gG P ak rec ops ws R φ0){b d:Nat}{o:cq}(v:Valid R ops.size a r m)(B:Valid R ops.size a r b)(g:m<=ops.size)(A:b<=ops.size)(c:d<(R.H m).next)(f:d<(R.H b).next)(j:rootOf (R.H ops.size) d=r)(p:(R.H m).get d=J o)(e:∃k,(R.H b).get d=J k):(R.H b).get d=J o/\(jg (R.H m) d↔jg (R.H b) d):=by
 by_cases h:m<=b;.refine T.view h A c (λi l n w=>?_) p;rw[<-T.root g ab c,j]at w;have e1:=v i ab w;have e2:=B i ab w;grind
 . obtain⟨k,W⟩:=e;have s:∀i,b<=i->i<m->rootOf (R.H b) d∉R.wr i:=λi l n w=>by rw[<-T.root A ab f,j]at w;have e1:=v i ab w;have e2:=B i ab w;grind
   obtain⟨x,y⟩:=T.view ab g f s W;grind
structure Inv(P:aH)(ops:Array aB)(ws:Tr Nat)(R:dk)(φ0:bc)(w0:aT)(F0:dm)(a:aE)(Y:bc)(w:aT)(F:dm):Prop where
 ext:Ext φ0 Y
 ba:∀id p,Y id=J p->p.ba<w.heap.size
 cF:∀id p,Y id=J p->(id<(R.H 0).next/\φ0 id=J p)\/(φ0 id=Z/\∃i,i∈a/\i<ops.size/\(R.H i).next<=id/\id<(R.H (i+1)).next)obj:∀id p,Y id=J p->∀m,m<=ops.size->id<(R.H m).next->∃o,(R.H m).get id=J o/\∀l r fl e,o=.cells l r fl e->l.length=p.len
 inj:∀i j p q,Y i=J p->Y j=J q->p.ba=q.ba->∀m,m<=ops.size->i<(R.H m).next->¬fQ (R.H m) i->rootOf (R.H ops.size) i=rootOf (R.H ops.size) j
 mono:∀i j p q,Y i=J p->Y j=J q->p.ba=q.ba->i<j->∀m,m<=ops.size->j<(R.H m).next->(¬fQ (R.H m) i\/¬fQ (R.H m) j)->p.base+p.len<=q.base+q.len
 cont:∀id p,Y id=J p->∀m,m<=ops.size->Valid R ops.size a (rootOf (R.H ops.size) id) m->id<(R.H m).next->∀o,(R.H m).get id=J o->jg (R.H m) id->my Y w o p
 size:w0.heap.size<=w.heap.size
 os:w.os=w0.os
 tape:w.tape=w0.tape
 output:w.output=w0.output
 nF:∀b,b<w0.heap.size->w.heap[b]?=w0.heap[b]?\/∃id p,φ0 id=J p/\p.ba=b/\¬fQ (R.H 0) id/\∃i,i∈a/\i<ops.size/\(rootOf (R.H 0) id∈R.wr i\/rootOf (R.H 0) id∈R.gr i)new:∀id p,Y id=J p->φ0 id=Z->w0.heap.size<=p.ba\/∃j q,φ0 j=J q/\q.ba=p.ba/\¬fQ (R.H 0) j/\rootOf (R.H ops.size) j=rootOf (R.H ops.size) id/\∃i,i∈a/\i<ops.size/\rootOf (R.H ops.size) j∈R.gr i
 mJ:∀id p,Y id=J p->φ0 id=Z->rootOf (R.H ops.size) id<(R.H 0).next->∃j q,φ0 j=J q/\rootOf (R.H ops.size) j=rootOf (R.H ops.size) id
 own:∀id p,Y id=J p->∀i,i∈a->i<ops.size->(R.H i).next<=id->id<(R.H (i+1)).next->rootOf (R.H ops.size) id<(R.H i).next->rootOf (R.H ops.size) id∈R.gr i
 map:∀i,i∈a->i<ops.size->∀r,r∈R.wr i\/r∈R.gr i->r<(R.H i).next/\∃id p,Y id=J p/\id<(R.H i).next/\rootOf (R.H ops.size) id=r
 cover:∀i,i∈a->i<ops.size->∀id,(R.H i).next<=id->id<(R.H (i+1)).next->∃p,Y id=J p
 NS:F.tmps.size=(R.fr 0).n
 NN:∀t k,ws.get t=J k->k∈a->VR Y (((R.fr ops.size).tmps.get t).getD fD) (F.tmps.getD t undef)JT:∀t,(∀k,ws.get t=J k->k∉a)->VR Y (((R.fr 0).tmps.get t).getD fD) (F.tmps.getD t undef)fn:F.fn=F0.fn
 mode:F.mode=F0.mode
 kind:F.kind=F0.kind
 round:F.roundOf=F0.roundOf
 defers:F.defers=F0.defers
theorem gG.slot(T:gG P ak rec ops ws R φ0){i:Nat}{o:aB}(a:ops[i]?=J o)(t:Tmp):(R.fr (i+1)).tmps.get t=if o.dst=J t then J (R.v i)else(R.fr i).tmps.get t:=by have h:=(T.ok.step i o a).slot;rw[DY]at h;cases hd:o.dst with|none=>rw[hd]at h;obtain h:=bE h;rw[<-h];simp|some d=>
 rw[hd]at h;simp only[eP]at h;by_cases b:d<(R.fr i).n
 . simp only[b,dX,aR]at h;have h:=bE h;rw[<-h];simp only[xL];by_cases e:d=t;.subst e;rw[if_pos rfl,a17]
   .rw[if_neg e,a11 _ _ e]
 .simp[b]at h
theorem gG.aab(T:gG P ak rec ops ws R φ0)(t:Tmp):∀j,j<=ops.size->((∀k,ws.get t=J k->j<=k)->(R.fr j).tmps.get t=(R.fr 0).tmps.get t):=by intro j;induction j with|zero=>grind|succ j i=>intro a b;have h:ops[j]?=J _:=mS ab;generalize ops[j]=o at h;rw[T.slot h t,if_neg,i ab ai];intro hd;have:=T.rk.writes j o t h hd;grind
theorem gG.aac(T:gG P ak rec ops ws R φ0){t:Tmp}{k:Nat}(h:ws.get t=J k):∀j,k<j->j<=ops.size->(R.fr j).tmps.get t=J (R.v k):=by obtain⟨o,a,hd⟩:=T.rk.only t k h;intro j;induction j with|zero=>omega|succ j i=>
 intro b c;by_cases e:k=j;.subst e;rw[T.slot a t,if_pos hd]
 .have w:ops[j]?=J _:=mS ab;generalize ops[j]=q at w;rw[T.slot w t,if_neg,i ab ab];intro W;have:=T.rk.writes j q t w W;grind
theorem Inv.operand(T:gG P ak rec ops ws R φ0){b:aE}{i:Nat}{o:aB}(I:Inv P ops ws R φ0 w0 F0 a Y w F)(l:rG ops ord)(j:ord=a++i::b)(n:ops[i]?=J o){t:Tmp}(p:ws.get t=Z\/∃k,ws.get t=J k/\(k=i\/sJ ops k i\/sJ ops i k)):VR Y (((R.fr i).tmps.get t).getD fD) (F.tmps.getD t undef):=by
 have r:=(ap.1 n).1;have B:i∉a:=λh=>by have:=l.nodup;grind
 rcases p with s|⟨k,d,c⟩;.rw[T.aab t i ab aU];exact I.JT t aU
 . have L:k∉a->i<=k->VR Y (((R.fr i).tmps.get t).getD _) _:=λe q=>by rw[T.aab t i ab aU];exact I.JT t aU
   rcases c with rfl|c|c;.grind
   .have v:=l.CP c a b j;have N:=T.rk.lt c;have e:=I.NN t k d v;rw[T.aac d _ ab ab]at e;rw[T.aac d i N ab];omega
   .have m:=T.rk.lt c;refine L (λv=>?_) ab;obtain⟨f,g,rfl⟩:=Kc v;have:=l.CP c f (g++i::b) ai;grind
theorem zC(T:gG P ak rec ops ws R φ0){i:Nat}{o:aB}(a:ops[i]?=J o)(h:r∈R.wr i\/r∈R.gr i):R.K i=.act/\oJ o.op=C/\xh o.op=C:=by
 have K:R.K i=.act:=by grind[dk.wr,dk.gr]
 have s:=(T.ok.step i o a).act K;grind[tj,dk.wr,dk.gr]
theorem aML(h:JR ops.toList j=V):∀(p:Nat)(q:aB),ops[p]?=J q->oJ q.op=V\/xh q.op=V\/p=j\/sJ ops p j\/sJ ops j p:=by have:=(IT (Q:=λ(o:aB)(p:Nat)=>(oJ o.op||xh o.op||aw p j||tied (Eu ops.toList).1 p j)=V) _ ab aU _ _ h).2;intro p q b;have a:=this p q ai;grind[bQ,tied,HD]
theorem Ih(T:gG P ak rec ops ws R φ0){i:Nat}{o:aB}(a:ops[i]?=J o)(h:r∈R.gr i):JR ops.toList i=V/\eF P (R.fr i).tmps (R.H i) o=Z:=by obtain⟨K,_,_⟩:=zC T a (.inr h);have s:=(T.ok.step i o a).act K;grind[rT,dk.gr,dk.gH]
theorem Tp(T:gG P ak rec ops ws R φ0){b:aE}{i c p:Nat}{o:aB}(l:rG ops ord)(s:ord=a++i::b)(e:ops[i]?=J o)(j:c∈a)(n:c<ops.size)(q:i<c)(m:r∈R.wr i\/r∈R.gr i)(d:p∈R.gr c):False:=by
 obtain⟨K,t,v⟩:=zC T e m;have Y:ops[c]?=J ops[c]:=mS n;obtain⟨k,_⟩:=Ih T Y d;have B:i∉a:=λh=>by have:=l.nodup;grind
 rcases aML k i o e with h|h|h|h|h;.grind
 .grind
 .omega
 .obtain⟨f,g,rfl⟩:=Kc j;have:=l.CP h f (g++i::b) ai;grind
 .have:=T.rk.lt h;omega
def beyond(R:dk)(i:Nat)(a b:bc):bc:=λid=>if(R.H i).next<=id/\id<(R.H (i+1)).next then b id else a id
theorem gG.anb(T:gG P ak rec ops ws R φ0)(I:Inv P ops ws R φ0 w0 F0 a Y w F){b:bc}{d:Nat}{q:Pl}{o:cq}(e:Y d=J p)(l:m<=ops.size)(r:d<(R.H m).next)(v:(R.H m).get d=J o)(u:jg (R.H m) d)(h:my b w' o q):my (oU (R.H m).next b) w' o q:=by
 obtain⟨A,B,k,c,s,x1,x,_⟩:=T.txt m l;have f:∃g,A d=J g:=by
  rcases I.cF d p e with⟨j,t⟩|⟨_,i,y,z,j,_⟩;.exact⟨p,x1 _ _ t⟩
  .exact x d (gj (T.next ab ab) j) r
 obtain⟨g,n⟩:=f;exact(s.obj d g o n trivial u v).cut (λd p h=>s.stat.lt (T.hinv m l) h) h
theorem gG.ab7(T:gG P ak rec ops ws R φ0){i:Nat}{t:Tmp}{v:aD}(a:i<=ops.size)(h:VR Y (((R.fr i).tmps.get t).getD fD) v):VR (oU (R.H i).next Y) (((R.fr i).tmps.get t).getD fD) v:=by obtain⟨A,w,k,c,s,x1,b,t1⟩:=T.txt i a;exact(t1.2 t).cut (λid p h=>s.stat.lt (T.hinv i a) h) h
theorem Inv.AK(T:gG P ak rec ops ws R φ0){i:Nat}(I:Inv P ops ws R φ0 w0 F0 a Y w F)(B:i<ops.size)(u:∀r,S r->Valid R ops.size a r i):bS S (oU (R.H i).next Y) (R.H i).fresh w:=by
 have c:=(a29 (R.H i)).symm;refine bS.DW c ⟨⟨λid p h=>?_,λid p l r A e h n=>?_,λx y p q b d m K=>?_,λx y p q b d m K z=>?_⟩,λid p o h t s n=>?_⟩;.obtain⟨b,d⟩:=uH h;obtain⟨o,v,_⟩:=I.obj id p d i ab b;exact⟨I.ba id p d,ai⟩
 .obtain⟨b,d⟩:=uH h;obtain⟨o,v,D⟩:=I.obj id p d i ab b;grind
 .obtain⟨f,g⟩:=uH b;obtain⟨j,k⟩:=uH d;rw[<-T.root ab (bT _) f,<-T.root ab (bT _) j];exact I.inj x y p q g k m i ab f K
 .obtain⟨f,g⟩:=uH b;obtain⟨j,k⟩:=uH d;exact I.mono x y p q g k m z i ab j K
 .obtain⟨b,d⟩:=uH h;rw[<-T.root ab (bT _) b]at t;exact T.anb I d ab b n s (I.cont id p d i ab (u _ t) b o n s)
theorem Inv.aDp(T:gG P ak rec ops ws R φ0){i:Nat}(I:Inv P ops ws R φ0 w0 F0 a Y w F)(y:i<ops.size)(B:i∉a):∀(id:Nat)(p:Pl),Y id=J p->(R.H i).next<=rootOf (R.H ops.size) id->rootOf (R.H ops.size) id<(R.H (i+1)).next->False:=by
 intro id;refine Nat.strongRecOn id ?_;intro id z p c u v;rcases I.cF id p c with⟨d,f⟩|⟨_,b,r,n,d,f⟩
 . have:rootOf (R.H ops.size) id<=id:=by obtain⟨o,h,_⟩:=I.obj id p c _ (bT _) (gE d (T.next (mw _) (bT _)));cases g:o.eA with|true=>cases o<;>simp[cq.eA]at g;rw[qC h];exact((T.hinv _ ab).root id _ _ _ _ h).1|false=>grind[yL]
   have:=T.next (mw i) ab;omega
 . have l:rootOf (R.H ops.size) id<=id:=by obtain⟨o,h,_⟩:=I.obj id p c _ (bT _) (gE f (T.next ab (bT _)));cases g:o.eA with|true=>cases o<;>simp[cq.eA]at g;rw[qC h];exact((T.hinv _ ab).root id _ _ _ _ h).1|false=>grind[yL]
   by_cases e:b=i;.grind
   . by_cases t:b<i;.have:=T.next (m:=b+1) (m':=i) ab ab;omega
     .have x:=T.next (m:=i+1) (m':=b) ab ab;have q:=I.own id p c b r n d f ab;obtain⟨_,D,A,j,k,s⟩:=I.map b r n _ (.inr q);grind
theorem S1{i d:Nat}(h:¬((R.H i).next<=d/\d<(R.H (i+1)).next)):beyond R i Y A d=Y d:=by grind[beyond]
theorem QT{i d:Nat}(h:(R.H i).next<=d/\d<(R.H (i+1)).next):beyond R i Y A d=A d:=by grind[beyond]
theorem Ui{i:Nat}{b:aE}(h:F.todo=.inRegion ops (i::b)::k):(F.finish u).tmps=(match(ops[i]?).bind (·.dst)with|some d=>F.tmps.setIfInBounds d u|none=>F.tmps):=by grind[Frame.finish]
theorem Ib{i:Nat}{b:aE}(h:F.todo=.inRegion ops (i::b)::k):(F.finish u).fn=F.fn/\(F.finish u).mode=F.mode/\(F.finish u).kind=F.kind/\(F.finish u).roundOf=F.roundOf/\(F.finish u).defers=F.defers/\(F.finish u).todo=.inRegion ops b::k:=by grind[Frame.finish]
theorem gG.n(T:gG P ak rec ops ws R φ0):∀j,j<=ops.size->(R.fr j).n=(R.fr 0).n:=by intro j;induction j with|zero=>intro _;rfl|succ j i=>
 intro a;have o:ops[j]?=J _:=mS ab;have h:=(T.ok.step j _ o).slot;rw[<-i ab];rw[DY]at h;split at h
 . rename_i d _;simp only[eP]at h;by_cases b:d<(R.fr j).n;.simp only[b,dX,aR]at h;rw[<-bE h]
   .simp[b]at h
 .rw[<-bE h]
set_option maxHeartbeats 4000000 in theorem Inv.step(T:gG P ak rec ops ws R φ0){b:aE}{i:Nat}{o:aB}(I:Inv P ops ws R φ0 w0 F0 a Y w F)(hl:rG ops ord)(he:ord=a++i::b)(ho:ops[i]?=J o)(ht:F.todo=.inRegion ops (i::b)::k)(hSV:∀r,S r->Valid R ops.size a r i)(PB:∀r,r∈R.wr i->S r)(Il:∀r,r∈R.gr i->∀r',S r')(hp:ik S (oU (R.H i).next Y) (R.H i).fresh w A (R.HX i) w')(hv:∀d,o.dst=J d->VR A (R.v i) u):Inv P ops ws R φ0 w0 F0 (a++[i]) (beyond R i Y A) w' (F.finish u):=by
 have Q:i<ops.size:=(ap.1 ho).1;have BH:i∉a:=λh=>by have:=hl.nodup;grind
 obtain⟨BL,kO,fr⟩:=hp;have n01:=T.next (m:=0) (m':=i) ab ab;have ni1:=T.next (m:=i) (m':=i+1) ab ab;have tQ:(R.HX i).next=(R.H (i+1)).next:=((T.same i Q).2.2).symm;have Gs:∀id,id<(R.H i).next->rootOf (R.H i).fresh id=rootOf (R.H ops.size) id:=λid h=>by rw[(a29 (R.H i)).root];exact(T.root ab (bT _) h).symm
 have JD:∀id,id<(R.H (i+1)).next->rootOf (R.HX i) id=rootOf (R.H ops.size) id:=λid h=>by rw[<-(T.same i Q).root];exact(T.root ab (bT _) h).symm
 have ψlt:∀id p,A id=J p->id<(R.H (i+1)).next:=λid p h=>by rw[<-tQ];exact kO.stat.lt BL h
 have aP4:∀id p,A id=J p->id<(R.H i).next->Y id=J p:=λid p h G=>by cases hc:oU (R.H i).next Y id with|some q=>have:=fr.ext _ _ hc;grind[uH]|none=>have h5:(R.H i).next<=id:=(fr.new id p h hc).1;omega
 have aOf:∀id p,Y id=J p->¬((R.H i).next<=id/\id<(R.H (i+1)).next):=λid p h hh=>by
   rcases I.cF id p h with⟨g,_⟩|⟨_,v,rX,nN,c,B⟩;.omega
   . by_cases e:v=i;.grind
     . by_cases G:v<i;.have:=T.next (m:=v+1) (m':=i) ab ab;omega
       .have:=T.next (m:=i+1) (m':=v) ab ab;omega
 have E1:Ext Y (beyond R i Y A):=λid p h=>by grind[S1]
 have E2:Ext A (beyond R i Y A):=λid p h=>by grind[QT,S1]
 have n:∀id p,beyond R i Y A id=J p->((R.H i).next<=id/\id<(R.H (i+1)).next/\A id=J p)\/(¬((R.H i).next<=id/\id<(R.H (i+1)).next)/\Y id=J p):=λid p h=>by grind[QT,S1]
 have N9:∀id,(R.H i).next<=id->oU (R.H i).next Y id=Z:=λid h=>by grind[oU]
 have aP2:∀id,(R.H i).next<=id->id<(R.H (i+1)).next->φ0 id=Z:=λid g f=>by cases hc:φ0 id with|none=>rfl|some p=>exact absurd ⟨g,f⟩ (aOf id p (I.ext _ _ hc))
 have H:∀id p,Y id=J p->(R.H (i+1)).next<=id->∃O,O∈a/\O<ops.size/\i<O/\(R.H O).next<=id/\id<(R.H (O+1)).next:=λid p h EZ=>by
   rcases I.cF id p h with⟨g,_⟩|⟨_,v,rX,nN,c,B⟩;.omega
   .refine⟨v,rX,nN,?_,c,B⟩;apply G7;intro D;have:=T.next (m:=v+1) (m':=i+1) ab ab;omega
 have aaK:∀bk,bk<w.heap.size->w'.heap[bk]?=w.heap[bk]?\/∃E U,E<(R.H i).next/\Y E=J U/\U.ba=bk/\¬fQ (R.H i) E/\(rootOf (R.H ops.size) E∈R.wr i\/rootOf (R.H ops.size) E∈R.gr i):=λbk N=>by
   rcases fr.nF bk N with h|⟨E,U,g,f,c,B⟩;.grind
   . obtain⟨a1,a2⟩:=uH g;refine .inr ⟨E,U,a1,a2,f,λhr=>c (((a29 (R.H i)).ro E).2 hr),?_⟩;rw[Gs E a1,Od,He]at B;rcases B with B|B
     . have:rootOf (R.H ops.size) E<(R.H i).next:=by rw[T.root ab (bT _) a1];exact rq (T.hinv i ab) a1
       have h4':(R.H i).next<=rootOf (R.H ops.size) E:=B;omega
     omega
 have aNh:∀id p,Y id=J p->(R.H (i+1)).next<=id->w'.heap[p.ba]?=w.heap[p.ba]?:=λid p h EZ=>by
   rcases aaK p.ba (I.ba id p h)with D|⟨E,U,g,f,c,B,h5⟩;.omega
   . exfalso;have hr:=I.inj E id U p f h c i ab g B;obtain⟨O,K,L,c3,W,M⟩:=H id p h EZ;have aPh:rootOf (R.H ops.size) E<(R.H i).next:=by rw[T.root ab (bT _) g];exact rq (T.hinv i ab) g
     have:=T.next (m:=i) (m':=O) ab ab;have hg:=I.own id p h O K L W M ab;grind[Tp]
 have X:∀x px,(R.H i).next<=x->x<(R.H (i+1)).next->A x=J px->px.ba<w.heap.size->∃j q,j<(R.H i).next/\Y j=J q/\q.ba=px.ba/\¬fQ (R.H i) j/\rootOf (R.H ops.size) j=rootOf (R.H ops.size) x/\rootOf (R.H ops.size) j∈R.gr i:=λx px g f c G=>by
   obtain⟨_,B⟩:=fr.new x px c (N9 x g);rcases B with B|⟨j,q,K,L,c3,W,M⟩;.omega
   . obtain⟨d1,d2⟩:=uH K;refine⟨j,q,d1,d2,L,λhr=>c3 (((a29 (R.H i)).ro j).2 hr),?_,?_⟩;.grind
     . rw[Gs j d1,He]at M;rcases M with M|M
       . have:rootOf (R.H ops.size) j<(R.H i).next:=by rw[T.root ab (bT _) d1];exact rq (T.hinv i ab) d1
         have c5':(R.H i).next<=rootOf (R.H ops.size) j:=M;omega
       omega
 have aCX:∀x px y py,(R.H i).next<=x->x<(R.H (i+1)).next->A x=J px->Y y=J py->py.ba=px.ba->rootOf (R.H ops.size) y=rootOf (R.H ops.size) x/\y<(R.H i).next:=λx px y py g f c B h5=>by
   obtain⟨j,q,K,L,c3,W,M,c6⟩:=X x px g f c (by rw[<-h5];exact I.ba y py B);have hr:=I.inj j y q py L B (c3.trans h5.symm) i ab K W;refine⟨hr.symm.trans M,?_⟩;apply G7;intro EZ;have PJ:(R.H (i+1)).next<=y:=by grind
   obtain⟨O,d1,d2,d3,d4,d5⟩:=H y py B PJ;have aPi:rootOf (R.H ops.size) j<(R.H i).next:=by rw[T.root ab (bT _) K];exact rq (T.hinv i ab) K
   have:=T.next (m:=i) (m':=O) ab ab;have hg:=I.own y py B O d1 d2 d4 d5 ab;exact Tp T hl he ho d1 d2 d3 (.inr c6) hg
 have FK:∀x,x∈a++[i]↔x∈a\/x=i:=λx=>aP;have fP:w.heap.size<=w'.heap.size:=fr.size;have Nn:∀x m,x<(R.H (i+1)).next->i+1<=m->m<=ops.size->¬fQ (R.H m) x->¬fQ (R.HX i) x:=λx m g f c B h5=>B (T.ro f c g (((T.same i Q).ro x).2 h5));have idx:∀x m,(R.H i).next<=x->m<=ops.size->x<(R.H m).next->i+1<=m:=λx m g f c=>by apply G7;intro D;have:=T.next (m:=m) (m':=i) ab ab;omega
 have vS:∀r m,S r->Valid R ops.size (a++[i]) r m->i+1<=m->∀s,i+1<=s->s<m->s<ops.size->r∉R.wr s:=λr m hS hV z s g f c hw=>by
   have e1:=(hV s c hw).2 f;rcases(FK s).1 e1 with e1|e1;.have:=(hSV r hS s c hw).1 e1;omega
   omega
 refine{ext:=I.ext.trans E1,ba:=?_,cF:=?_,obj:=?_,inj:=?_,mono:=?_,cont:=?_,size:=gj I.size fP,os:=fr.os.trans I.os,tape:=fr.tape.trans I.tape,output:=fr.output.trans I.output,nF:=?_,new:=?_,mJ:=?_,own:=?_,map:=?_,cover:=?_,NS:=?_,NN:=?_,JT:=?_,fn:=?_,mode:=?_,kind:=?_,round:=?_,defers:=?_}
 . intro id p h;rcases n id p h with⟨_,_,c⟩|⟨_,c⟩;.exact(kO.stat.cF id p c).1
   .exact gE (I.ba id p c) fP
 . intro id p h;rcases n id p h with⟨g,f,c⟩|⟨_,c⟩;.grind
   .rcases I.cF id p c with hd|⟨hd,v,b1,b2⟩;all_goals grind
 . intro id p h m z G;rcases n id p h with⟨g,f,c⟩|⟨_,c⟩;.have kZ:=idx id m g z G;obtain⟨_,Qb⟩:=kO.stat.cF id p c;cases hg:(R.HX i).get id with|none=>grind|some o1=>
       have kL:(R.H (i+1)).get id=J o1:=by rw[(T.same i Q).get];omega
       obtain⟨o2,g2,l2⟩:=T.keep kZ z f kL;refine⟨o2,g2,λl r fl e he=>?_⟩;subst he;cases hc:o1.eA with|true=>cases o1<;>simp[cq.eA]at hc;obtain⟨l',fl',e1,e2⟩:=l2.1 _ _ _ _ rfl;obtain⟨rfl,rfl,rfl,rfl⟩:=cq.cells.inj e1;rw[e2];exact kO.stat.len id p _ _ _ _ c hg|false=>exfalso;exact l2.2 (λl r fl e he=>by grind[cq.eA]) l r fl e rfl
   .exact I.obj id p c m z G
 . intro x y p q D hy N m z G eK;rcases n x p D with⟨g,f,c⟩|⟨g1,c⟩
   . rcases n y q hy with⟨k1,k2,k3⟩|⟨k1,k3⟩;.have:=kO.stat.inj x y p q c k3 N (Nn x m f (idx x m g z G) z eK);grind
     grind
   . rcases n y q hy with⟨k1,k2,k3⟩|⟨k1,k3⟩;.grind
     .exact I.inj x y p q c k3 N m z G eK
 . intro x y p q D hy N rZ m z G eK;rcases n x p D with⟨g,f,c⟩|⟨g1,c⟩
   . rcases n y q hy with⟨k1,k2,k3⟩|⟨k1,k3⟩;.have kZ:=idx y m k1 z G;exact kO.stat.mono x y p q c k3 N (eK.imp (Nn x m f kZ z) (Nn y m k2 kZ z)) rZ
     grind
   . rcases n y q hy with⟨k1,k2,k3⟩|⟨k1,k3⟩;.have ax6:=(aCX y q x p k1 k2 k3 c N).2;have kZ:=idx y m k1 z G;have hψx:A x=J p:=fr.ext _ _ (zJ ax6 c);exact kO.stat.mono x y p q hψx k3 N (eK.imp (Nn x m ab kZ z) (Nn y m k2 kZ z)) rZ
     .exact I.mono x y p q c k3 N rZ m z G eK
 . intro id p h m z hV G o' hg ha;have take:S (rootOf (R.H ops.size) id)\/(R.H i).next<=rootOf (R.H ops.size) id->id<(R.H (i+1)).next->A id=J p->(R.H (i+1)).get id=J o'->jg (R.H (i+1)) id->my (beyond R i Y A) w' o' p:=λhS hid hψ kL UP=>by
     have EY:(R.HX i).get id=J o':=by rw[<-(T.same i Q).get];omega
     have UQ:jg (R.HX i) id:=((T.same i Q).alive id).1 UP;exact(kO.obj id p o' hψ (by rw[JD id hid];exact hS) UQ EY).mono E2 rfl
   by_cases hw:rootOf (R.H ops.size) id∈R.wr i
   . have hS:=PB _ hw;have him:i<m:=(hV i Q hw).1 ((FK i).2 (.inr rfl));have afz:id<(R.H (i+1)).next:=by
       rcases n id p h with⟨_,f,_⟩|⟨_,c⟩;.omega
       . apply G7;intro EZ;obtain⟨O,K,L,c3,W,M⟩:=H id p c ab;have axH:rootOf (R.H ops.size) id<(R.H i).next:=by
           have:rootOf (R.H ops.size) id∈(R.HX i).bX:=by grind[Od]
           rcases fr.vm _ this with D|⟨D,_⟩;.grind[Heap.fresh]
           .exact D
         have:=T.next (m:=i) (m':=O) ab ab;have qu:=I.own id p c O K L W M ab;grind[Tp]
     have hψ:A id=J p:=by
       rcases n id p h with⟨_,_,c⟩|⟨hn,c⟩;.omega
       .exact fr.ext _ _ (zJ (by omega) c)
     have hex:∃o1,(R.H (i+1)).get id=J o1:=by obtain⟨_,jF⟩:=kO.stat.cF id p hψ;cases D:(R.HX i).get id with|none=>grind|some o1=>exact⟨o1,by rw[(T.same i Q).get];omega⟩
     obtain⟨o1,kL⟩:=hex;obtain⟨e1,e2⟩:=T.view (m:=i+1) (m':=m) ab z afz (λs g f wY=>by rw[<-T.root (m:=i+1) ab (bT _) afz]at wY;grind) kL;grind
   . have UO:Valid R ops.size a (rootOf (R.H ops.size) id) m:=λs kN wY=>by have:=hV s kN wY;rw[FK]at this;have cI:s≠i:=λe=>hw ai;constructor;all_goals grind
     rcases n id p h with⟨g,f,c⟩|⟨hn,c⟩;.
       have kZ:=idx id m g z G;have axn:∀s,i+1<=s->s<m->rootOf (R.H (i+1)) id∉R.wr s:=λs g1 g2 wY=>by
         rw[<-T.root (m:=i+1) ab (bT _) f]at wY;by_cases LV:rootOf (R.H ops.size) id<(R.H i).next
         . have qu:rootOf (R.H ops.size) id∈R.gr i:=by have:=(fr.mJ id p c (N9 id g) (by rw[JD id f];exact LV)).1;grind[He]
           grind
         .have vG:=(UO s ab wY).2 g2;obtain⟨_,qY,p',b1,b2,b3⟩:=I.map s vG ab _ (.inl wY);refine I.aDp T Q BH qY p' b1 ab ?_;rw[b3,T.root (m:=i+1) ab (bT _) f];exact rq (T.hinv (i+1) ab) f
       obtain⟨_,jF⟩:=kO.stat.cF id p c;cases D:(R.HX i).get id with|none=>grind|some o1=>
         have kL:(R.H (i+1)).get id=J o1:=by rw[(T.same i Q).get];omega
         obtain⟨e1,e2⟩:=T.view (m:=i+1) (m':=m) kZ z f axn kL;rw[hg]at e1;cases e1;refine take ?_ f c kL (e2.2 ha);by_cases LV:rootOf (R.H ops.size) id<(R.H i).next;.left;have:=(fr.mJ id p c (N9 id g) (by rw[JD id f];exact LV)).1;grind[He]
         omega
     . have ic:=I.cont id p c m z UO G o' hg ha;by_cases awC:(R.H (i+1)).next<=id;.exact ic.mono E1 (aNh id p c awC)
       . have L7:id<(R.H i).next:=by omega
         rcases aaK p.ba (I.ba id p c)with D|⟨E,U,g1,g2,g3,g4,g5⟩;.exact ic.mono E1 D
         .have hr:=I.inj E id U p g2 c g3 i ab g1 g4;rw[hr]at g5;have qu:rootOf (R.H ops.size) id∈R.gr i:=g5.resolve_left hw;have hS:=Il _ qu;have hVi:=hSV _ (hS (rootOf (R.H ops.size) id));obtain⟨oi,LO,_⟩:=I.obj id p c i ab L7;obtain⟨e1,e2⟩:=T.aNs UO hVi z ab G L7 rfl hg ⟨oi,LO⟩;obtain⟨f1,f2⟩:=T.view (m:=i) (m':=i+1) ab ab L7 (λs q1 q2 wY=>by have:s=i:=ab;subst this;rw[<-T.root (m:=s) ab (bT _) L7]at wY;grind) e1;exact take (.inl (hS _)) ab (fr.ext _ _ (zJ L7 c)) f1 (f2.1 (e2.1 ha))
 . intro bk N;rcases I.nF bk N with D|⟨id,p,g,f,c,v,b1,b2,b3⟩
   . rcases aaK bk (gE N I.size)with hy|⟨E,U,g1,g2,g3,g4,g5⟩;.grind
     .right;cases Fu:φ0 E with|some q=>
         have e:=I.ext _ _ Fu;rw[g2]at e;cases e;have IC:E<(R.H 0).next:=by rcases I.cF E U g2 with⟨hd,_⟩|⟨hd,_⟩;all_goals grind
         refine⟨E,U,Fu,g3,λhr=>g4 (T.ro (mw i) ab IC hr),i,aP,Q,?_⟩;rw[<-T.root (m:=0) (mw _) (bT _) IC];omega|none=>
         rcases I.new E U g2 Fu with hy|⟨j,q,K,L,c3,W,M⟩;.omega
         . have IC:j<(R.H 0).next:=by rcases I.cF j q (I.ext _ _ K)with⟨hd,_⟩|⟨hd,_⟩;all_goals grind
           refine⟨j,q,K,L.trans g3,c3,i,aP,Q,?_⟩;rw[<-T.root (m:=0) (mw _) (bT _) IC,W];omega
   grind
 . intro id p h Fu;rcases n id p h with⟨g,f,c⟩|⟨_,c⟩
   . by_cases N:w.heap.size<=p.ba;.exact .inl (gj I.size N)
     .obtain⟨j,q,K,L,c3,W,M,c6⟩:=X id p g f c ab;cases BI:φ0 j with|some q'=>
         have e:=I.ext _ _ BI;rw[L]at e;cases e;have IC:j<(R.H 0).next:=by rcases I.cF j q L with⟨hd,_⟩|⟨hd,_⟩;all_goals grind
         exact .inr ⟨j,q,BI,c3,λhr=>W (T.ro (mw i) ab IC hr),M,i,aP,Q,c6⟩|none=>
         rcases I.new j q L BI with hy|⟨j',q',d1,d2,d3,d4,v,d5,d6⟩;.omega
         grind
   . rcases I.new id p c Fu with hy|⟨j,q,K,L,c3,W,v,M,c6⟩;.omega
     grind
 . intro id p h Fu hr;rcases n id p h with⟨g,f,c⟩|⟨_,c⟩;.obtain⟨_,j,q,K,L⟩:=fr.mJ id p c (N9 id g) (by rw[JD id f];exact gE hr n01);obtain⟨d1,d2⟩:=uH K;rw[Gs j d1,JD id f]at L;cases BI:φ0 j with|some q'=>grind|none=>obtain⟨j',q',e1,e2⟩:=I.mJ j q d2 BI ab;grind
   .exact I.mJ id p c Fu hr
 . intro id p h v rX nN g f hr;rcases(FK v).1 rX with LD|rfl
   . rcases n id p h with⟨k1,k2,k3⟩|⟨_,c⟩
     . exfalso;by_cases G:v<i;.grind
       .have cI:v≠i:=λe=>BH ai;have:=T.next (m:=i+1) (m':=v) ab ab;omega
     .exact I.own id p c v LD nN g f hr
   . rcases n id p h with⟨k1,k2,k3⟩|⟨hn,c⟩;.have:=(fr.mJ id p k3 (N9 id g) (by rw[JD id f];exact hr)).1;grind[He]
     omega
 . intro v rX nN r hr;rcases(FK v).1 rX with LD|rfl;.obtain⟨g,id,p,f,c⟩:=I.map v LD nN r hr;exact⟨g,id,p,E1 _ _ f,c⟩
   . have key:r<(R.H v).next/\∃id p,oU (R.H v).next Y id=J p/\rootOf (R.H v).fresh id=r:=by
       rcases hr with hr|hr;.rw[<-Od]at hr;rcases fr.vm r hr with D|⟨D,hy⟩;all_goals grind[Heap.fresh]
       .rw[<-He]at hr;rcases fr.vC r hr with D|⟨D,hy⟩;all_goals grind[Heap.fresh]
     obtain⟨g,id,p,f,c⟩:=key;obtain⟨d1,d2⟩:=uH f;exact⟨g,id,p,E1 _ _ d2,d1,aU⟩
 . intro v rX nN id g f;rcases(FK v).1 rX with LD|rfl;.obtain⟨p,hp⟩:=I.cover v LD nN id g f;exact⟨p,E1 _ _ hp⟩
   .obtain⟨p,hp⟩:=fr.cover id g ab;exact⟨p,E2 _ _ hp⟩
 .rw[Ui ht];rw[ho];cases hd:o.dst<;>simp[hd,I.NS]
 . intro t s kN vG;obtain⟨ok,ey,hdk⟩:=T.rk.only t s kN;have PO:s<ops.size:=(ap.1 ey).1;have PG:=T.aac kN ops.size PO (bT _);rw[Ui ht,ho];by_cases hd:o.dst=J t
   . have PN:s=i:=by have:=T.rk.writes i o t ho hd;simp_all
     rw[PN]at PG;have G:t<F.tmps.size:=by have:=(T.ok.step i o ho).slot;rw[DY]at this;rw[hd]at this;simp only[eP]at this;rw[I.NS,<-T.n i ab];grind
     rw[PG];simp only[cU,hd];rw[G6,Array.getElem?_setIfInBounds_self_of_lt G];exact(hv t hd).mono E2
   . have cI:s≠i:=λe=>by simp_all
     have g:=(I.NN t s kN aU).mono E1;have f:(match(J o).bind (·.dst)with|some d=>F.tmps.setIfInBounds d u|none=>F.tmps).getD t undef=F.tmps.getD t undef:=by cases vJ:o.dst with|none=>grind|some d=>have:d≠t:=λe=>hd aU;simp only[cU,vJ,G6];grind
     grind
 . intro t kN;have hd:o.dst≠J t:=λhd=>kN i (T.rk.writes i o t ho hd) aP;rw[Ui ht,ho];have f:(match(J o).bind (·.dst)with|some d=>F.tmps.setIfInBounds d u|none=>F.tmps).getD t undef=F.tmps.getD t undef:=by cases vJ:o.dst with|none=>grind|some d=>have:d≠t:=λe=>hd aU;simp only[cU,vJ,G6];grind
   rw[f];exact(I.JT t (λk'' h D=>kN k'' h ((FK k'').2 (.inl D)))).mono E1
 .rw[(Ib ht).1];exact I.fn
 .rw[(Ib ht).2.1];exact I.mode
 .rw[(Ib ht).2.2.1];exact I.kind
 .rw[(Ib ht).2.2.2.1];exact I.round
 .rw[(Ib ht).2.2.2.2.1];exact I.defers
theorem V3(x:Nat)(l:aE):B7 x l=V↔x∈l:=by grind[B7,qN,bQ]
theorem PA{w:aE}{r:ah (List (Touch×Nat))}{x:Nat}(h:AM.clear w r=V)(a:x∈w):∃l,r=J l/\∀t,t∈l->t.2≠x:=by unfold AM.clear at h;grind[qN,V3]
theorem Ks{a b:jv}(h:apart a b=V):(AM.clear a.writes b.reads=V/\AM.clear b.writes a.reads=V/\∀x,x∈a.writes->x∉b.writes)\/QJ a b=V:=by grind[apart,qN,V3]
theorem Ps{o:aB}{k:AV}(h:eF P tm H o=J [(.look t k,r)]):xh o.op=V/\∃m x,o.op=.lookup t m x C/\bJ P tm m=J (.map r)/\bJ P tm x=J k/\Gx P t k=V:=by
 obtain⟨g,op,j,Q,f,i⟩:=o;unfold eF at h;cases op<;>simp only at h<;>try(simp at h;done)
 case load=>split at h<;>simp at h
 case store=>split at h<;>simp at h
 case slice=>split at h<;>simp at h
 case mapEntry=>grind
 case lookup e m x ok=>cases ok with|true=>grind|false=>
  simp only at h;split at h
  . rename_i l d b c;simp only[xL,List.cons.injEq,Oj,and_true]at h;obtain⟨a,rfl⟩:=h;rcases s:Gx P e d with _|_;.grind
    rw[s]at a;obtain⟨rfl,rfl⟩:=Touch.look.inj a;exact⟨rfl,m,x,rfl,b,c,s⟩
  all_goals grind
 grind
theorem aui{o:aB}{k:AV}(h:eF P tm H o=J [(.entry t k,r)]):∃m x,o.op=.mapEntry t m x/\bJ P tm m=J (.map r)/\bJ P tm x=J k:=by
 obtain⟨d,op,b,Q,a,g⟩:=o;unfold eF at h;cases op<;>simp only at h<;>try(simp at h;done)
 case load=>split at h<;>simp at h
 case store=>split at h<;>simp at h
 case slice=>split at h<;>simp at h
 all_goals grind
theorem Mw{a b:jv}(h:QJ a b=V):∃t k c r,a.reads=J [(.look t k,r)]/\b.reads=J [(.entry t c,r)]/\sameKey k c=V:=by grind[QJ,bQ]
theorem J3{i:Nat}(h:r∈R.wr i):R.K i=.act:=by grind[dk.wr]
theorem J4{i:Nat}{o:aB}(h:R.K i=.act):(R.gH P i o).writes=R.wr i:=by grind[dk.gH,dk.wr]
theorem auj(T:gG P ak rec ops ws R φ0){b:aE}{i:Nat}{o:aB}(d:rG ops ord)(u:ord=a++i::b)(g:ops[i]?=J o)(K:R.K i=.act)(F:(R.gH P i o).reads=Z\/∃l t,(R.gH P i o).reads=J l/\t∈l/\t.2=r):Valid R ops.size a r i\/∃t k,(R.gH P i o).reads=J [(.look t k,r)]:=by
 have B:i∉a:=λh=>by have:=d.nodup;grind
 have D:∀w,AM.clear w (R.gH P i o).reads=V->r∉w:=λw A j=>by grind[PA]
 by_cases y:∃t k,(R.gH P i o).reads=J [(.look t k,r)];.grind
 left;intro k v j;have e:=mS v;generalize ops[k]=q at e;have E:=J3 j;rcases Nat.lt_trichotomy k i with c|heq|Y
 . refine⟨λ_=>c,λ_=>?_⟩;rcases T.ok.pair k i q o e g c E K with p|p
   . rcases Ks p with⟨f,_,_⟩|f;.grind[J4]
     .obtain⟨t,H,x,I,s,z,_⟩:=Mw f;obtain⟨M,_⟩:=Ps s;grind[zC]
   .exact d.CP (NP T.rk p c) a b u
 .grind
 . refine⟨λG=>?_,λh=>ab⟩;rcases T.ok.pair i k o q g e Y K E with p|p;.grind[Ks,J4,Mw]
   .obtain⟨m,n,rfl⟩:=Kc G;have:=d.CP (NP T.rk p Y) m (n++i::b) ai;grind
theorem aCc{p:Nat->Prop}(n:Nat)(b:∀j,p j->j<n):(∃j,p j)->∃j,p j/\∀a,p a->a<=j:=by induction n with|zero=>grind|succ n i=>
 rintro⟨j,h⟩;by_cases c:p n;.grind
 .exact i ai ⟨j,h⟩
theorem rW{a b:AV}(h:yO a b=V):a=b:=by unfold yO at h;grind[zQ,ya]
theorem aJz:∀(s a:aJ),s.length=a.length->(List.zip s a).all (λp=>yO p.1 p.2)=V->s=a:=by intro s;induction s with|nil=>grind|cons x s i=>
 intro a h k;rcases a with _|⟨y,a⟩;.grind
 simp at h k;grind[rW]
theorem aJy{a b:AV}(h:sameKey a b=V):a=b:=by unfold sameKey at h;grind[bQ,dZ,qN,aJz,rW]
theorem atL{k:AV}{e:eL}:∀(s:List eL)(i:Nat),oY P t k s i=J Z->lD P 50 t k e.1=J V->∃j,oY P t k (s++[e]) i=J (J (j,e)):=by intro s;induction s with|nil=>intro i _ h;refine⟨i,?_⟩;show((lD P 50 t k _).bind _)=_;grind|cons x s f=>intro i a c;have u:=a;obtain⟨b,d,u⟩:=aF u;cases b<;>simp_all[oY]
theorem aBK(T:gG P ak rec ops ws R φ0){b:aE}{i:Nat}{o:aB}{G:AV}(n:rG ops ord)(O:ord=a++i::b)(F:ops[i]?=J o)(K:R.K i=.act)(X:(R.gH P i o).reads=J [(.look t G,r)])(L:¬Valid R ops.size a r i):∃m,i<m/\m<=ops.size/\Valid R ops.size a r m/\∀j,i<=j->j<m->r∈R.wr j->∃q,ops[j]?=J q/\R.K j=.act/\(R.gH P j q).reads=J [(.entry t G,r)]:=by
 have hi:i<ops.size:=(ap.1 F).1;have BH:i∉a:=λh=>by have:=n.nodup;grind
 have vM:xh o.op=V:=(Ps X).1;have M:∀w,AM.clear w (R.gH P i o).reads=V->r∉w:=λw N c=>by obtain⟨l,f,g⟩:=PA N c;simp_all
 have W:r∉R.wr i:=λh=>by grind[zC]
 have z:∀k,k<ops.size->r∈R.wr k->k<i->k∈a:=λk d c x=>by
  have y:ops[k]?=J ops[k]:=mS d;generalize ops[k]=q at y;have E:=J3 c;rcases T.ok.pair k i q o y F x E K with p|p;.grind[Ks,J4,Mw]
  .exact n.CP (NP T.rk p x) a b O
 have v:∀k,k<ops.size->r∈R.wr k->i<k->k∈a->∃q,ops[k]?=J q/\R.K k=.act/\(R.gH P k q).reads=J [(.entry t G,r)]:=λk d c Y vG=>by
  have y:ops[k]?=J ops[k]:=mS d;generalize ops[k]=q at y;have E:=J3 c;rcases T.ok.pair i k o q F y Y K E with p|p;.grind[Ks,J4,Mw,aJy]
  .exfalso;obtain⟨s,u,rfl⟩:=Kc vG;have:=n.CP (NP T.rk p Y) s (u++i::b) ai;grind
 have Q:∃j,j<ops.size/\j∈a/\r∈R.wr j/\i<j:=by apply G7;intro sW;apply L;intro k d c;grind
 obtain⟨j,⟨A,B,D,S⟩,PT⟩:=aCc ops.size (λj h=>h.1) Q;have H:Valid R ops.size a r (j+1):=λk d c=>by
  constructor;.grind
  . intro x;rcases Nat.lt_trichotomy k i with h|h|h;.grind
    .grind
    . by_cases U:k=j;.grind
      . have y:ops[k]?=J ops[k]:=mS d;have I:ops[j]?=J ops[j]:=mS A;rcases T.ok.pair k j _ _ y I ab (J3 c) (J3 D)with p|p
        . exfalso;rcases Ks p with⟨_,_,f⟩|f;.grind[J4,J3]
          .obtain⟨_,_,_,_,g,_,_⟩:=Mw f;have:=(zC T y (.inl c)).2.2;rw[(Ps g).1]at this;grind
        .obtain⟨s,u,rfl⟩:=Kc B;have:=n.CP (NP T.rk p ab) s (u++i::b) ai;grind
 refine⟨_,ab,ab,H,λk f g c=>?_⟩;have cI:k≠i:=λe=>ai;exact v k ab c ab ((H k ab c).2 g)
theorem aBM(T:gG P ak rec ops ws R φ0){i:Nat}{u w:an}{k:AV}(iT:P.underlying t=J (.map u w))(X:lD P 50 u k k=J V)(N:i<=m)(Q:m<=ops.size)(I:∀j,i<=j->j<m->r∈R.wr j->∃q,ops[j]?=J q/\R.K j=.act/\(R.gH P j q).reads=J [(.entry t k,r)])(h:∃s c,(R.H i).jU r=J (s,c)/\Ao P u w s k C=J v):∃s c,(R.H m).jU r=J (s,c)/\Ao P u w s k C=J v:=by
 have sX:r<(R.H i).next:=by obtain⟨s,c,n,_⟩:=h;exact(T.hinv i ab).get r _ (tc n)
 induction m with|zero=>have:i=0:=ab;subst this;exact h|succ j ih=>
 by_cases e:i=j+1;.subst e;exact h
 . obtain⟨s,c,n,g⟩:=ih ab ab (λj' a b=>I j' a ab);have G:=tc n;have F:rootOf (R.H j) r=r:=No n;have E:r<(R.H j).next:=(T.hinv j ab).get r _ G;by_cases D:r∈R.wr j;.obtain⟨q,S,K,vM⟩:=I j ab ab D;obtain⟨mm,x,W,kZ,lf⟩:=aui vM;have p:=((T.ok.step j q S).run (by rw[K];simp)).2;unfold fF at p;obtain⟨y,d,p⟩:=aF p;simp only[dY,W,J6]at d;rw[iT,kZ]at d;simp only at d;obtain⟨mo,kB,d⟩:=aF d;have L:(R.H j).jU r=J mo:=kB;rw[n]at L;cases L;rw[lf]at d;simp only[cU]at d;cases B:qB P u k with|false=>rw[B]at d;simp at d|true=>
    rw[B]at d;simp only[aR]at d;obtain⟨M,o,d⟩:=aF d;have pY:=T.same j ab;have sV:R.HX j=R.H' j:=by unfold dk.HX;rw[K]
    have fin:∀f l,R.H' j=(R.H j).fresh.put r r (.map f l)->(R.H (j+1)).jU r=J (f,l):=λf l e=>by unfold Heap.jU;rw[pY.get,sV,e];have:((R.H j).fresh.put r r (.map f l)).get r=J (.map f l):=a17 _ _ _;rw[this]
    cases M with
    |some ie=>obtain⟨ii,H⟩:=ie;simp only at d;cases A:sameKey H.1 k with|false=>rw[A]at d;simp at d|true=>rw[A]at d;simp only[aR]at d;cases d;obtain⟨_,e2⟩:=En.val.inj (bE p);exact⟨s,c,fin s c e2.symm,g⟩
    |none=>simp only[iK]at d;obtain⟨z,U,rfl⟩:=d;obtain⟨_,e2⟩:=En.val.inj (bE p);refine⟨dL s [(k,z,c)],fj c,fin _ _ e2.symm,?_⟩;unfold Ao at g|-;rw[o]at g;simp only[cU,U]at g;obtain⟨jj,O⟩:=atL (P:=P) (e:=(k,z,c)) s 0 o X;rw[lz,O];simp only[cU];exact g
   .obtain⟨f1,_⟩:=T.view (m:=j) (m':=j+1) ab Q E (λk' a b Y=>by have:k'=j:=ab;subst this;rw[F]at Y;exact D Y) G;refine⟨s,c,?_,g⟩;unfold Heap.jU;rw[f1]
def auf(t:Tr AV)(H:Heap)(o:aB):eF P t H.fresh o=eF P t H o:=rfl
theorem aJ1{k:AV}(h:Gx P t k=V):∃a e,P.underlying t=J (.map a e)/\lD P 50 a k k=J V:=by grind[Gx]
theorem auh{o:aB}{c:Call}(h:o.op=.call c)(d:¬∃b,c.callee=.builtin b):eF P tm H o=Z:=by obtain⟨f,op,t,Q,e,g⟩:=o;subst h;obtain⟨callee,args,a⟩:=c;cases callee with|builtin b=>grind|_=>rfl
theorem ata{o:aB}(g:∀c,o.op=.call c->∃b,c.callee=.builtin b)(h:fF P ak rec tm H o=J (.val v H')):dY P ak tm H o=J (.val v H'):=by unfold fF at h;obtain⟨x,a,h⟩:=aF h;rw[a];cases x with|val m H1=>grind|call c H1=>
 exfalso;by_cases X:∃c,o.op=.call c;.obtain⟨c,q⟩:=X;obtain⟨b,f⟩:=g c q;simp only[dY,q,Cy]at a;obtain⟨d,k,a⟩:=aF a;unfold yK at k;rw[f]at k;obtain⟨S,i,k⟩:=aF k;grind[uU,iK]
 .obtain⟨l,H2,j⟩:=T' (λc e=>X ⟨c,e⟩) _ a;simp_all
theorem aBH{o:aB}{b d:an}{m x:aK}{k:AV}(i:o.op=.lookup t m x C)(u:P.underlying t=J (.map b d))(g:bJ P tm m=J (.map r))(l:bJ P tm x=J k)(h:fF P ak rec tm H o=J (.val v H')):H'=H/\qB P b k=V/\∃s c,H.jU r=J (s,c)/\Ao P b d s k C=J v:=by unfold fF at h;obtain⟨y,a,h⟩:=aF h;simp only[dY,i,CA]at a;rw[u,g]at a;simp only at a;obtain⟨s,p,a⟩:=aF a;rw[l]at a;simp only[cU]at a;cases f:qB P b k with|false=>grind|true=>
 rw[f]at a;simp only[aR]at a;simp only[iK]at p;obtain⟨B,E,rfl⟩:=p;obtain⟨s,c⟩:=B;obtain⟨q,j,a⟩:=aF a;have A:H'=H/\Ao P b d s k C=J v:=by unfold Ao;rw[j];simp only[cU];cases q with|none=>simp only at a|-;obtain⟨z,n,a⟩:=aF a;rw[n];cases a;simp_all|some w=>obtain⟨D,e⟩:=w;simp only at a|-;cases a;simp_all
 grind
theorem Inv.aq(T:gG P ak rec ops ws R φ0)(I:Inv P ops ws R φ0 w0 F0 a Y w F)(d:iZ P φ0)(b:∀id p,φ0 id=J p->id<(R.H 0).next){i:Nat}(e:i<=ops.size):iZ P (oU (R.H i).next Y):=λg z=>by obtain⟨p,h,c⟩:=d g z;exact⟨p,zJ (gE (b g p h) (T.next ab e)) (I.ext _ _ h),c⟩
set_option maxHeartbeats 1600000 in theorem aFZ(eY:nC P rec)(pc:jQ P ak)(hn:rH P)(T:gG P ak rec ops ws R φ0){b:aE}{f:Nat}(hg:iZ P φ0)(h0:∀id p,φ0 id=J p->id<(R.H 0).next)(I:Inv P ops ws R φ0 w0 F0 a Y w F)(s:rG ops ord)(E:ord=a++f::b)(G:F.todo=.inRegion ops (f::b)::k)(hm:F.mode=.run):∃H w' u,Steps P (fh F cs w) (fh (F.finish u) cs w')/\Inv P ops ws R φ0 w0 F0 (a++[f]) H w' (F.finish u):=by
 have K:f<ops.size:=(s.all f).2 ai;have g:ops[f]?=J ops[f]:=mS K;generalize ops[f]=o at g;have st:=T.ok.step f o g;have ov:=I.aq T hg h0 (i:=f) ab;have hinv:bg (R.H f).fresh:=(T.hinv f ab).fresh;have vJ:∀y,y∈o.op.operands.toList->fp (oU (R.H f).next Y) (R.fr f).tmps F.eval y:=λy hy t e=>by subst e;exact T.ab7 ab (I.operand T s E g (T.rk.reads f o t g hy))
 have N:∀{bb:Bool},wv ops (R.fr f).tmps o=J bb->Region.wanted o (yielded ops F.tmps)=bb:=λhb=>by refine J2 (Y:=Y) (c:=F.tmps) hb (λj U d O D=>?_);have av0:=T.rk.guard f o j U g O;cases IH:ops[j]? with|none=>grind|some q=>rw[IH]at D;exact I.operand T s E g (.inr ⟨j,T.rk.writes j q d IH D,.inr (.inl av0)⟩)
 by_cases hK:R.K f=.skip
 . obtain⟨O,D,h3⟩:=st.skip hK;have hw:=N O;have B:R.HX f=(R.H f).fresh:=by grind[dk.HX]
   refine⟨_,w,undef,Steps.one (step_lone_go (by simp_all[stepG,uo])),Inv.step T (S:=λ_=>False) (A:=oU (R.H f).next Y) I s E g G (λ_ h=>h.elim) (λr h=>?_) (λr h=>?_) ?_ (λd _=>by grind[JX])⟩;.grind[zC]
   .have:=(zC T g (.inr h)).1;grind
   .rw[B];exact a23 hinv (I.AK T K (λ_ h=>h.elim))
 . obtain⟨O,D⟩:=st.run hK;have hw:=N O;have hd:=aFX D;have plain:∀S:Nat->Prop,(∀r,S r->Valid R ops.size a r f)->J' P S (R.fr f).tmps (R.H f).fresh o->(∀c,o.op=.call c->∃b,c.callee=.builtin b)->R.HX f=R.H' f->(∀r,r∈R.wr f->S r)->(∀r,r∈R.gr f->∀L,S L)->∃H w' u,Steps P (fh F cs w) (fh (F.finish u) cs w')/\Inv P ops ws R φ0 w0 F0 (a++[f]) H w' (F.finish u):=λS hS hf hc B PB W=>by have hex:dY P ak (R.fr f).tmps (R.H f).fresh o=J (.val (R.v f) (R.H' f)):=ata hc D;obtain⟨A,n,w',r1,r2,r3⟩:=ad4 hinv (I.AK T K hS) ov (Frame.reads F) vJ hf hc hex;obtain⟨a1,a2,_⟩:=GI (cs:=cs) hm G g hw hd r1;cases n with|value u=>exact⟨_,w',u,Steps.one (a1 u rfl),Inv.step T I s E g G hS PB W ai (λd _=>r2)⟩|skip=>simp only[Em]at r2;exact⟨_,w',undef,Steps.one (a2 rfl),Inv.step T I s E g G hS PB W (by rw[B];omega) (λd _=>by grind[JX])⟩|_=>simp only[Em]at r2
   cases X:R.K f with|skip=>grind|quiet=>
   obtain⟨q1,q2⟩:=st.quiet X;have UJ:=Wy q1 D;have B:R.HX f=R.H' f:=by grind[dk.HX]
   refine plain (λ_=>False) (λ_ h=>h.elim) (.inl q1) (λc e=>by grind[oJ]) B (λr h=>?_) (λr h=>?_);.grind[zC]
   .have:=(zC T g (.inr h)).1;grind|act=>
   obtain⟨q1,q2,q3,q4,q5⟩:=st.act X;have B:R.HX f=R.H' f:=by grind[dk.HX]
   have vM:(R.gH P f o).reads=eF P (R.fr f).tmps (R.H f) o:=rfl;have wS:=λr=>auj T s E g X (r:=r);have M:(R.gH P f o).reads=Z->∀r,Valid R ops.size a r f:=λwV r=>by grind
   have W:∀r,r∈R.gr f->∀L,Valid R ops.size a L f:=λr h L=>M (Ih T g h).2 L;by_cases eX:∀c,o.op=.call c->∃b,c.callee=.builtin b
   . by_cases axL:∃t kk r,(R.gH P f o).reads=J [(.look t kk,r)]/\¬Valid R ops.size a r f
     . obtain⟨t,kk,r,hr,Ve⟩:=axL;obtain⟨eK,mm,x,iH,kZ,lf,LX⟩:=Ps (vM▸hr);obtain⟨kt,et,hu,heq⟩:=aJ1 LX;obtain⟨UJ,LI,es,c,kB,E6⟩:=aBH iH hu kZ lf D;obtain⟨m,g1,g2,g3,g4⟩:=aBK T s E g X hr Ve;obtain⟨es',c',LN,aw6⟩:=aBM T hu heq ab g2 g4 ⟨es,c,kB,E6⟩;have Q:=(fK ov (Frame.reads F) (vJ mm (by grind[eO])) kZ).1;have hvk:=(fK ov (Frame.reads F) (vJ x (by grind[eO])) lf).1;have sX:r<(R.H f).next:=(T.hinv f ab).get r _ (tc kB);have oB:r<(R.H m).next:=gE sX (T.next ab g2);have Ff:rootOf (R.H ops.size) r=r:=by rw[T.root (m:=m) g2 (bT _) oB];grind[No]
       have It:execOp F.eval o=(do pure (.value (<-Instr.lookup t (F.eval mm) (F.eval x) C))):=by grind[execOp]
       generalize F.eval mm=ad at Q It;cases Q with|map _ p hp=>
         obtain⟨_,Fa⟩:=uH hp;obtain⟨_,aa,ha,Is⟩:=I.cont r p Fa m g2 ai oB _ (tc LN) (λl L fl e h=>by rw[tc LN]at h;grind);obtain⟨z,z1,z2⟩:=VY (P:=P) (w:=w) (Y:=Y) (arr:=aa) (mv:=.map (J p.ba)) hu (.inl ⟨p.ba,c',rfl,ha⟩) Is (hvk.mono (λid q h=>(uH h).2)) LI aw6;obtain⟨a1,_⟩:=GI (P:=P) (w:=w) (cs:=cs) (n:=.value z) (w':=w) hm G g hw hd aU;refine⟨_,w,z,Steps.one (a1 z rfl),Inv.step T (S:=λ_=>False) (A:=oU (R.H f).next Y) I s E g G (λ_ h=>h.elim) (λr h=>?_) (λr h=>?_) ?_ (λd Lw=>?_)⟩;.grind[zC]
         .grind
         .rw[B,UJ];exact a23 hinv (I.AK T K (λ_ h=>h.elim))
         . have Qa:(R.fr (f+1)).tmps.get d=J (R.v f):=by rw[T.slot g d,if_pos Lw]
           have:=T.ab7 (Y:=Y) (i:=f+1) (t:=d) (v:=z) ab aU;rw[Qa]at this;have tQ:(R.H (f+1)).next=(R.H f).next:=by rw[(T.same f K).2.2,B,UJ];rfl
           grind
     . refine plain (λr=>Valid R ops.size a r f) (λ_ h=>h) (.inr ?_) eX B (λr h=>?_) W
       . rw[auf,<-vM];have ha:∀l t,(R.gH P f o).reads=J l->t∈l->Valid R ops.size a t.2 f:=λl t E4 pf=>by rcases wS t.2 (.inr ⟨l,t,E4,pf,rfl⟩)with h|⟨t',kk,h⟩;all_goals grind
         grind
       .cases pX:(R.gH P f o).reads with|none=>simp_all|some l=>unfold within at q5;rw[pX]at q5;simp only[qN,A0]at q5;have:=(V3 _ _).1 (q5 r (by grind[J4]));rw[Aq,au]at this;obtain⟨t,pf,sZ⟩:=this;rcases wS r (.inr ⟨l,t,pX,pf,sZ⟩)with hx|⟨t',kk,hx⟩;all_goals grind
   . have⟨c,hc,hb⟩:∃c,o.op=.call c/\¬∃b,c.callee=.builtin b:=by simp_all
     have wV:(R.gH P f o).reads=Z:=auh hc hb;have hV:=M wV;have ey:=WA (cs:=cs) eY pc hn hinv (I.AK T K (S:=gK) (λr _=>hV r)) ov hm G g hw vJ D;obtain⟨A,w',u,p1,p2,p3⟩:=ey;refine⟨_,w',u,p3,Inv.step T (S:=gK) I s E g G (λr _=>hV r) (λ_ _=>trivial) (λ_ _ _=>trivial) ?_ (λd _=>p2)⟩;rw[B];exact⟨p1.1,p1.2.1.up (λ_ _=>trivial),p1.2.2⟩
theorem aDr{b x:Nat}{l:aE}:x∈Heap.note b r l↔x∈l\/(x=r/\r<b):=by
 constructor;.intro h;rcases vU h with h|⟨a,c⟩<;>grind
 grind[QP,FX]
theorem Q4{b x:Nat}:∀(ls l:aE),x∈fV (λl r=>Heap.note b r l) ls l↔x∈l\/(x∈ls/\x<b):=by intro ls;induction ls with|nil=>simp[pR]|cons y s i=>grind[Heap.note,pR,aDr]
theorem aNG(c:Km P ak rec ops R):∀j,j<=ops.size->(R.H j).bA=(R.H 0).bA/\(∀r,r∈(R.H j).bX↔r∈(R.H 0).bX\/(r<(R.H 0).bA/\∃i,i<j/\r∈R.wr i))/\(∀r,r∈(R.H j).cL↔r∈(R.H 0).cL\/(r<(R.H 0).bA/\∃i,i<j/\r∈R.gr i)):=by intro j;induction j with|zero=>grind|succ j d=>
 intro l;obtain⟨b,f,g⟩:=d ab;have o:ops[j]?=J _:=mS ab;have st:=c.step j _ o;have a:R.H (j+1)=R.H j->R.K j≠.act->(R.H (j+1)).bA=(R.H 0).bA/\(∀r,r∈(R.H (j+1)).bX↔r∈(R.H 0).bX\/(r<(R.H 0).bA/\∃i,i<j+1/\r∈R.wr i))/\(∀r,r∈(R.H (j+1)).cL↔r∈(R.H 0).cL\/(r<(R.H 0).bA/\∃i,i<j+1/\r∈R.gr i)):=λe h=>by grind[dk.wr,dk.gr]
 rcases h:R.K j with _|_|_;.exact a (st.skip h).2.2 ai
 .exact a (st.quiet h).2 ai
 have e:=(st.act h).2.1;have w:R.wr j=(R.H' j).bX:=by grind[dk.wr]
 have k:R.gr j=(R.H' j).cL:=by grind[dk.gr]
 rw[e];refine⟨b,λr=>?_,λr=>?_⟩;.show r∈fV _ _ _↔_;grind[Q4]
 .show r∈fV _ _ _↔_;grind[Q4]
theorem Inv.first(T:gG P ak rec ops ws R φ0){W:List Item}(s:bS gK φ0 (R.H 0) w)(A:iY φ0 (R.fr 0) F W):Inv P ops ws R φ0 w F [] φ0 w F:=by
 have c:∀id p,φ0 id=J p->id<(R.H 0).next:=λid p h=>s.stat.lt (T.hinv 0 ab) h;refine{ext:=a41 _,ba:=λid p h=>(s.stat.cF id p h).1,cF:=λid p h=>.inl ⟨c id p h,h⟩,obj:=?_,inj:=?_,mono:=?_,cont:=?_,size:=bT _,os:=rfl,tape:=rfl,output:=rfl,nF:=λ_ _=>.inl rfl,new:=λid p h M=>ai,mJ:=λid p h M=>ai,own:=λid p h i D=>ai,map:=λi D=>ai,cover:=λi D=>ai,NS:=A.tmps.1,NN:=λt k _ hk=>ai,JT:=λt _=>A.tmps.2 t,fn:=rfl,mode:=rfl,kind:=rfl,round:=rfl,defers:=rfl}
 . intro id p h m d n;obtain⟨_,Q⟩:=s.stat.cF id p h;rcases j:(R.H 0).get id with _|v;.grind
   obtain⟨X,g2,l2⟩:=T.keep (mw m) d (c id p h) j;refine⟨X,g2,λl r z e B=>?_⟩;subst B;cases U:v.eA with|true=>cases v<;>simp[cq.eA]at U;obtain⟨l',L,e1,e2⟩:=l2.1 _ _ _ _ rfl;obtain⟨rfl,rfl,rfl,rfl⟩:=cq.cells.inj e1;rw[e2];exact s.stat.len id p _ _ _ _ h j|false=>exfalso;exact l2.2 (λl r z e B=>by grind[cq.eA]) l r z e rfl
 .intro x y p q f g u m d n K;rw[T.root ab ab (c x p f),T.root ab ab (c y q g)];exact s.stat.inj x y p q f g u (λh=>K (T.ro ab d (c x p f) h))
 .intro x y p q f g u Y m d n K;exact s.stat.mono x y p q f g u (K.imp (λa b=>a (T.ro ab d (c x p f) b)) (λa b=>a (T.ro ab d (c y q g) b))) Y
 . intro id p h m d O n o j S;have G:=c id p h;obtain⟨_,Q⟩:=s.stat.cF id p h;rcases E:(R.H 0).get id with _|v;.grind
   obtain⟨I,v2⟩:=T.view (mw m) d G (λi h1 N H=>by rw[<-T.root ab (bT _) G]at H;have:=(O i ab H).2 N;grind) E;rw[j]at I;cases I;exact s.obj id p o h trivial (v2.2 S) E
theorem aF4(j:nC P rec)(t:jQ P ak)(r:rH P)(T:gG P ak rec ops ws R φ0)(n:iZ P φ0)(l:∀id p,φ0 id=J p->id<(R.H 0).next)(o:rG ops ord):∀(b a:aE)(Y:bc)(w:aT)(F:dm),ord=a++b->Inv P ops ws R φ0 w0 F0 a Y w F->F.todo=.inRegion ops b::k->F.mode=.run->∃c w' d,Steps P (fh F cs w) (fh d cs w')/\Inv P ops ws R φ0 w0 F0 ord c w' d/\d.todo=.inRegion ops []::k:=by intro b;induction b with|nil=>grind[Steps.refl]|cons i b s=>intro a Y w F m I h q;obtain⟨c,w',u,v,f⟩:=aFZ j t r T n l I o m h q;have fr:=Ib (u:=u) h;obtain⟨z,y,e,x,g,t2⟩:=s _ _ w' _ ai f fr.2.2.2.2.2 ai;exact⟨_,y,e,v.trans x,g,t2⟩
theorem gG.aB4(T:gG P ak rec ops ws R φ0){d:Nat}:∀n,n<=ops.size->(R.H 0).next<=d->d<(R.H n).next->∃i,i<n/\(R.H i).next<=d/\d<(R.H (i+1)).next:=by intro n;induction n<;>grind
set_option maxHeartbeats 1600000 in theorem apl(eY:nC P rec)(pc:jQ P ak)(hn:rH P):J9 P ak rec:=by
 intro ops fr H r P8 hr Y w F cs ord k hi hs hg O m hl;obtain⟨R,e1,e2,rfl,L⟩:=aNI hr;subst e1;subst e2;obtain⟨ws,B⟩:=aja P8;have hFt:iY Y (R.fr 0) {F with todo:=.inRegion ops (vp 0 ops.size)::k} (.inRegion ops (vp 0 ops.size)::k):=⟨m.fn,m.tmps,λ_=>rfl,m.defers,m.mode,m.kind,m.round⟩;have G:=aNJ (cs:=cs) eY pc hn L hi hs hg O hFt;have T:gG P ak rec ops ws R Y:={
  ok:=L
  rk:=B
  hinv:=λj hj=>(G j hj).1.elim λ_ h=>h.elim λ_ h=>h.elim λ_ h=>h.1
  af:=λi N=>(G (i+1) ab).2.2.2.2.2 i ab
  same:=λi N=>ng L (mS N)
  txt:=λi N=>by obtain⟨A,w',F',_,g,f,s,v⟩:=(G i N).1;exact⟨A,w',_,_,g,f,s,v.tmps⟩};have h0:∀id p,Y id=J p->id<(R.H 0).next:=λid p h=>hs.stat.lt hi h;have tM:=m.run O;have tU:=m.todo O;obtain⟨A,w',F',u,I,ht⟩:=aF4 (cs:=cs) eY pc hn T hg h0 hl ord [] Y w F rfl (Inv.first T hs m) tU tM;obtain⟨_,m1,m3,m4,m5,_⟩:=G ops.size (bT _);have M:∀i,i<ops.size->i∈ord:=λi h=>(hl.all i).1 h;obtain⟨lg1,W,X⟩:=aNG L ops.size (bT _);have af4:(R.H 0).bA<=(R.H 0).next:=hi.bA;have rt0:∀id,id<(R.H 0).next->rootOf (R.H ops.size) id=rootOf (R.H 0) id:=λid h=>T.root (mw _) (bT _) h;have lt0:∀id,id<(R.H 0).next->id<(R.H ops.size).next:=λid h=>gE h (T.next (mw _) (bT _));have z:∀id p,A id=J p->id<(R.H ops.size).next:=λid p h=>by
  rcases I.cF id p h with⟨g,_⟩|⟨_,i,_,N,_,f⟩;.grind
  .exact gE f (T.next ab (bT _))
 have n:∀id p,A id=J p->rootOf (R.H ops.size) id<(R.H 0).next->∃j q,Y j=J q/\rootOf (R.H 0) j=rootOf (R.H ops.size) id:=λid p h bZ=>by
  rcases I.cF id p h with⟨g,f⟩|⟨U,_⟩;.grind
  .obtain⟨j,q,a,b⟩:=I.mJ id p h U bZ;grind
 have E:Stat A (R.H ops.size) w'.heap.size:={
  cF:=λid p h=>by obtain⟨o,ho,_⟩:=I.obj id p h ops.size (bT _) (z id p h);exact⟨I.ba id p h,ai⟩
  len:=λid p l r fl e h kY=>by obtain⟨o,ho,hlen⟩:=I.obj id p h ops.size (bT _) (z id p h);grind
  inj:=λx y p q Q S D eK=>I.inj x y p q Q S D ops.size (bT _) (z x p Q) eK
  mono:=λx y p q Q S D eK rZ=>I.mono x y p q Q S D rZ ops.size (bT _) (z y q S) eK};have AK:bS gK A (R.H ops.size) w':=⟨E,λid p o h _ ha kY=>I.cont id p h ops.size (bT _) (λi N _=>⟨λ_=>N,λ_=>M i N⟩) (z id p h) o kY ha⟩;have frm:Fr Y (R.H 0) w A (R.H ops.size) w':={
  ext:=I.ext
  size:=I.size
  os:=I.os
  tape:=I.tape
  output:=I.output
  next:=T.next (mw _) (bT _)
  bA:=lg1
  bX:=λr h=>(W r).2 (.inl h)
  cL:=λr h=>(X r).2 (.inl h)
  root:=λid h=>rt0 id h
  view:=λid o g f s v=>by obtain⟨a,b⟩:=T.view (mw ops.size) (bT _) g (λi _ K hw=>s ((W _).2 (.inr ⟨f,i,K,hw⟩))) v;simp_all
  nF:=λbk D=>by
   rcases I.nF bk D with h|⟨id,p,g,f,s,i,v,K,h6⟩;.grind
   grind
  new:=λid p h U=>by
   rcases I.cF id p h with⟨_,f⟩|⟨_,i,_,N,f,_⟩;.grind
   . refine⟨gj (T.next (mw i) ab) f,?_⟩;rcases I.new id p h U with s|⟨j,q,s,v,K,h6,i',h7,h8,h9⟩;.omega
     .refine .inr ⟨j,q,s,v,K,ai,?_⟩;grind
  ro:=λid g f=>T.ro (mw _) (bT _) g f
  keep:=λid o g f=>T.keep (mw _) (bT _) g f
  cover:=λid g f=>by obtain⟨i,a,b,c⟩:=T.aB4 ops.size (bT _) g f;exact I.cover i (M i a) a id b c
  mJ:=λid p h U bZ=>by
   rcases I.cF id p h with⟨_,f⟩|⟨_,i,BH,N,f,s⟩;.grind
   .have:=T.next (mw i) (by omega:i<=ops.size);have qu:=I.own id p h i BH N f s ab;exact⟨(X _).2 (.inr ⟨bZ,i,N,qu⟩),n id p h ab⟩
  vm:=λr h=>by
   rcases(W r).1 h with h|⟨g,i,f,s⟩;.grind
   .obtain⟨_,id,p,a,_,c⟩:=I.map i (M i f) f r (.inl s);obtain⟨j,q,d,e⟩:=n id p a ab;grind
  vC:=λr h=>by
   rcases(X r).1 h with h|⟨g,i,f,s⟩;.grind
   .obtain⟨_,id,p,a,_,c⟩:=I.map i (M i f) f r (.inr s);obtain⟨j,q,d,e⟩:=n id p a ab;grind};refine⟨A,w',F',u,⟨T.hinv _ (bT _),AK,frm⟩,?_,m1,I.fn⟩;refine⟨by rw[I.fn,m.fn,m5],⟨by rw[I.NS,m4],λt=>?_⟩,λ_=>ht,by rw[I.defers,m3];exact m.defers.mono I.ext,?_,by rw[I.kind,m.kind],by rw[I.round,m1.round];exact m.round.mono I.ext⟩;.cases IS:ws.get t with|none=>rw[T.aab t ops.size (bT _) (λk h=>ai)];exact I.JT t (λk h=>ai)|some k'=>obtain⟨o,ho,_⟩:=B.only t k' IS;exact I.NN t k' IS (M k' (ap.1 ho).1)
 .rw[I.mode,m1.mode,m.mode,O]
theorem T8{a:ct}(p:jQ P a)(b:rH P)(h:P.follows .mixedOrders=V)(n:Nat):nC P (AM.run P a n):=by grind[aI9,apl,aBk]
end
end Go.AM
namespace Go.VM
open Go Go.AM
variable{α β:Type}{x y:ah α}
def Le{a:Type}(x y:ah a):Prop:=∀o,x=J o->y=J o
theorem Le.refl(x:ah α):Le x x:=λ_ h=>h
def a32:=@Le.refl
theorem Le.none(y:ah α):Le Z y:=λ_ h=>ai
theorem Le.bind{f g:α->ah β}(h:Le x y)(k:∀a,Le (f a) (g a)):Le (x.bind f) (y.bind g):=λo b=>by obtain⟨a,c,b⟩:=aF b;rw[h a c,cU];exact k a o b
def Le.HF(x:ah α){f g:α->ah β}(k:∀a,Le (f a) (g a)):Le (x.bind f) (x.bind g):=(a32 x).bind k
theorem Le.cond(b:Bool){a c:ah α}(h:Le x a)(k:Le y c):Le (bif b then x else y) (bif b then a else c):=ai
theorem Le.map(f:α->β)(h:Le x y):Le (x.map f) (y.map f):=λo b=>by
 rcases x with _|a;.grind
 rw[h a rfl];omega
section
variable{P:aH}{ak:ct}{rec DP:Rec}(h:∀fr H,Le (rec fr H) (DP fr H))
include h
theorem Wz(t:Tr AV)(H:Heap)(o:aB):Le (fF P ak rec t H o) (fF P ak DP t H o):=by refine Le.HF _ λr=>?_;cases r with|call c H=>exact(h c H).bind λa=>a32 _|_=>simp[a32]
theorem api(p:Array aB)(f:cJ)(H:Heap)(o:aB):Le (Bs P ak rec p f H o) (Bs P ak DP p f H o):=by refine Le.HF _ λw=>?_;exact Le.cond _ ((Wz h _ _ _).bind λa=>a32 _) (a32 _)
theorem ajx(o:Array aB):∀(l:List aB)(fr:cJ)(H:Heap),Le (AE P ak rec o l fr H) (AE P ak DP o l fr H)|[],_,_=>a32 _|_::l,_,_=>(api h _ _ _ _).bind λ|.next _ _=>ajx o l _ _
theorem RB(p:Array aB):∀(l:List aB)(j:Nat)(g:List (Nat×jv))(fr:cJ)(H:Heap),Le (wg P ak rec p l j g fr H) (wg P ak DP p l j g fr H)|[],_,_,_,_=>a32 _|o::l,j,g,fr,H=>by rw[Gu,Gu];exact Le.HF _ λw=>Le.cond _ (Le.HF _ λfr=>RB p l _ _ _ _) ((Wz h _ _ _).bind λ|.val _ _=>Le.HF _ λ_=>Le.cond _ (RB p l _ _ _ _) (Le.cond _ (RB p l _ _ _ _) (a32 _)))
theorem ane(f:cJ)(H:Heap):Le (body P ak rec f H) (body P ak DP f H):=by
 unfold body;split;.unfold vw wE xR xS xT Ku Bl;repeat' first|exact a32 _|exact h _ _|exact RB h _ _ _ _ _ _|exact ajx h _ _ _ _|refine Le.cond _ ?_ ?_|refine Le.HF _ λ_=>?_|refine Le.bind ?_ λ_=>?_|split|dsimp only
 all_goals grind[Ex,Le.refl]
end
theorem aJk{P:aH}{a:ct}:∀(n:Nat)(fr:cJ)(H:Heap),Le (AM.run P a n fr H) (AM.run P a (n+1) fr H):=by intro n;induction n with|zero=>intro fr H;exact Le.none _|succ n i=>intro fr H;exact ane i fr H
theorem JG{P:aH}{a:ct}{n m:Nat}(h:n<=m)(f:cJ)(H:Heap):Le (AM.run P a n f H) (AM.run P a m f H):=by induction h with|refl=>simp[a32]|step _ i=>exactλo b=>aJk _ _ _ o (i o b)
end Go.VM
namespace Go.VM
open Go Go.AM
variable{a:AV}{ops:Array aB}{fn:Func}{it:Item}{k:List Item}{r:Nat}{G:Out->Prop}{rc:Rec}{v:SV}{st1:St}{aS:aJ}{x:aK}{ow:aN}{captured:ao}{f h:bY}{o0:cq}
def wy(P:aH)(l:ct)(i:bV):Prop:=∀st f x aS st1 v,Qr i st f x aS=J (st1,v)->∀K e k H t n,Ok K e k H st t->dB P K (λ_=>Z) i.aq->bF K e aS n->∀d s,aG {st1 with sl:=cP st1.sl} d v=J s->∃h a c g j b,AM.bJ P t x=J h/\Ev P l f (h::n) H a c/\Nx K e k H g j b c/\Ok g j b c s (gX t d a)/\st1.n=st.n/\st1.fn=st.fn
section
variable{P:aH}{ak:ct}{rec:dW}{cf:bV}{K K' K1 K2:aY}{Y A φ0:cu}{B ω' ω0 fN ω1:aI}{H H':Heap}{lb:ew}{g g':GH}{O st' st2:St}{tm:Tr AV}{o:aB}{aq:Nat->ah ao}
theorem anD(h:Ev P ak f aS H a H'):(∃fr,AM.xW P ak f aS H=J (.call fr H)/\ak f aS H=Z/\∃n,AM.run P ak n fr H=J (.ret a H'))\/AM.xW P ak f aS H=J (.val a H'):=by
 rcases h with h|⟨b,fr,d,n,c⟩;.simp_all[AM.xW]
 .refine .inl ⟨fr,?_,b,n,c⟩;simp_all[AM.xW]
theorem Q6{c:Call}{F:aK}{i p:aJ}(q:o.op=.call c)(k:c.callee=.value F)(l:AM.bJ P tm F=J (.func f i p))(j:cB (AM.bJ P tm) c.args.toList=J aS)(u:Ev P ak f (i++aS++p) H a H'):∃g,∀n,g<=n->fF P ak (AM.run P ak n) tm H o=J (.val a H'):=by
 have hr:yK P tm c=J {target:=.fn f p,args:=i++aS}:=by grind[yK,lz]
 have e:dY P ak tm H o=AM.xW P ak f (i++aS++p) H:=by simp_all[dY,Cy,uU,lz]
 rcases anD u with⟨fr,h,_,n,b⟩|h;.refine⟨n,λm d=>?_⟩;unfold fF;rw[e,h];simp only[cU];rw[JG d fr H _ b];rfl
 simp_all[fF]
theorem aFY{c:Call}{F:aK}{i:Nat}(e:o.op=.call c)(j:c.callee=.value F)(k:AM.bJ P tm F=J (.yield i))(g:cB (AM.bJ P tm) c.args.toList=J aS)(u:UV P ak i aS H a H'):∃f,∀n,f<=n->fF P ak (AM.run P ak n) tm H o=J (.val a H'):=by
 obtain⟨fr,h,n,b⟩:=u;have hr:yK P tm c=J {target:=.yield i,args:=aS}:=by grind[yK]
 refine⟨n,λm d=>?_⟩;unfold fF dY;rw[e];simp only[Cy];simp only[hr,cU,h];rw[JG d fr H _ b];rfl
theorem Jf(s:cg K Y B H tm O.sl){d:DV}(g:bj aq O x=J d)(f:∀l e n,d≠.ay l e n):jP O x:=by
 intro t b e e1 e2;have:bj aq O (.tmp t)=J b:=by show sM (match look O.sl t with|some .dd=>Z|r=>r) _=J b;rw[e2];rfl
 obtain⟨a,_,_,h⟩:=s t _ e2;rcases h with⟨h,_⟩|⟨r,_,h⟩;.omega
 .obtain⟨l,_,_,_,_,_,_,c,_⟩:=h.ex;grind
theorem Ll{l c:ao}(h:DR K Y (.func f l c) a):∃m b,a=.func f m b/\bF K Y l m/\bF K Y c b:=by cases h with|func _ _ _ m b d e g1 g2=>exact⟨m,b,rfl,⟨d,g1⟩,⟨e,g2⟩⟩
theorem pE.Wv{r:ao}(h:bF K Y r aS):pE K Y B H r .no aS:=⟨h.1,λi d a x y=>by have:=h.2 i d a x y;split<;>exact this⟩
def Ep(P:aH)(a:ct)(c:bV)(K:aY)(e:cu)(f:aI)(H:Heap)(t s:St)(m:Tr AV)(o:aB):Prop:=∃v H' K' A ω',(∃b,∀n,b<=n->fF P a (AM.run P a n) m H o=J (.val v H'))/\(∀d,o.dst=J d->d<t.n)/\Nx K e f H K' A ω' H'/\Ok K' A ω' H' s (gX m o.dst v)/\s.n=t.n/\s.fn=t.fn/\((match kindOf c t o.op with|.wr=>False|_=>True)->(∀r,r∈H'.bX->r∈H.bX)/\(isApp o.op=C->∀r,r∈H'.cL->r∈H.cL))
theorem V5{c:Call}{i:aK}(h:c.callee=.value i)(a:x∈c.args.toList):x∈handsOn (.call c):=by cases c<;>grind[handsOn,eO,Call.operands]
theorem JK{s a:St}{d:ah Tmp}(h:aG s d v=J a){n:Nat}{fn:bY}(b:s.n=n)(c:s.fn=fn):(∀t,d=J t->t<n)/\a.n=n/\a.fn=fn:=by grind[nU]
theorem Tb{d:Type}{a:ao}{g:GH}{k:SV->GH->ah d}{x:d}(h:jA cf rec f a ow g k=J x):∃v g2,jA cf rec f a ow g (λv g=>J (v,g))=J (v,g2)/\k v g2=J x:=by unfold jA at h|-;cases p:cf.iz f with
 |true=>
 rw[p]at h;rcases c:cj _ with _|_;.grind
 rw[c]at h;obtain⟨r,hr,h⟩:=aF h;grind|false=>rw[p]at h;simp only[ch]at h|-;cases b:cf.oo f with
 |true=>
 rw[b]at h;simp only[aR]at h|-;rcases c:cj _ with _|_;.grind
 rw[c]at h;obtain⟨r,hr,h⟩:=aF h;grind|false=>rw[b]at h;obtain⟨r,hr,h⟩:=aF h;grind
theorem pS(h:dB P K (λ_=>Z) aq):dB P K Y aq:=h.mono (a01 _) (λid x h=>ai)
theorem QO(g:dB P K Y aq)(s:cg K Y B H tm O.sl){l:List aK}{d:ao}(n:∀x,x∈l->jP O x)(h:cB (bj aq O) l=J d):∃m,cB (AM.bJ P tm) l=J m/\bF K Y d m:=by grind[V0]
theorem anU(N:rE P ak cf rec)(k:Ok K Y B H O tm)(j:dB P K (λ_=>Z) cf.aq){c:Call}{F:aK}{f S:ao}{l:GH}(T:o.op=.call c)(Q:c.callee=.value F)(n:bj cf.aq O F=J (.func h f captured))(s:cB (bj cf.aq ((handsOn o.op).foldl (aQ share) O)) c.args.toList=J S)(X:jA cf rec h (f++S++captured) .no ((handsOn o.op).foldl (aQ share) O).g (λv g=>J (v,g))=J (v,l))(G:aG {((handsOn o.op).foldl (aQ share) O)with sl:=cP ((handsOn o.op).foldl (aQ share) O).sl,g:=l} o.dst v=J st')(R:(match kindOf cf O o.op with|.wr=>False|_=>True)->(cf.iz h||cf.oo h)=V):Ep P ak cf K Y B H O st' tm o:=by obtain⟨K1,ω1,d,e,i,q,t,u,w,_⟩:=Nz tm _ K B O k.hr k.sl;have L:=j.mono d.1 (a00 _);obtain⟨af,f1,_,f3⟩:=te (pS j) k.sl (Jf k.sl n (λ_ _ _=>aP)) n;obtain⟨U,m2,rfl,k1,k2⟩:=Ll f3;obtain⟨m,y1,y2⟩:=QO (pS L) i (λx hx=>t x (by grind[V5])) s;have W:bF K1 Y (f++S++captured) (U++m++m2):=((k1.mono d.1 (a00 _)).append y2).append (k2.mono d.1 (a00 _));obtain⟨a,H',K',A,ω',z,_,D,E,I⟩:=acd N ⟨e,i⟩ (pS L) L X G (λ_ _ h=>ai) (λ_=>rfl) (λ_ _=>pE.Wv W) (λp r b h=>let⟨y,M⟩:=q p r b h;⟨p,y,M⟩) (λ_ _ h=>ai);obtain⟨s1,s2,s3⟩:=JK G u w;exact⟨a,H',K',A,_,Q6 T Q f1 y1 z,s1,E K d.1 (d.gi e),D,s2,s3,λh=>let⟨w1,w2⟩:=I (R h) rfl;⟨w1,λ_=>w2⟩⟩
theorem anV(hC:rE P ak cf rec)(s:Ok K Y B H O tm)(L:dB P K (λ_=>Z) cf.aq){c:Call}{iF:aK}{xs:List aK}{S:ao}{d:DV}{g2:GH}(ho:o.op=.call c)(hc:c.callee=.value iF)(kz:c.args.toList=x::xs)(hf:bj cf.aq O iF=J (.func h [] captured))(hx:cZ cf.aq O x=J (.dv d ow))(R:cB (bj cf.aq ((handsOn o.op).foldl (aQ share) (aQ leave O x))) xs=J S)(eX:jA cf rec h (d::(S++captured)) ow ((handsOn o.op).foldl (aQ share) (aQ leave O x)).g (λv g=>J (v,g))=J (v,g2))(jG:aG {((handsOn o.op).foldl (aQ share) (aQ leave O x))with sl:=cP ((handsOn o.op).foldl (aQ share) (aQ leave O x)).sl,g:=g2} o.dst v=J st')(hk:kindOf cf O o.op=.wr):Ep P ak cf K Y B H O st' tm o:=by
 obtain⟨af,f1,_,f3⟩:=te (P:=P) (pS L) s.sl (Jf s.sl hf (λ_ _ _=>aP)) hf;obtain⟨m1,m2,rfl,k1,k2⟩:=Ll f3;obtain rfl:=k1.sB;obtain⟨t,z,pv,x1,_,x3,x4,x5⟩:=QF (P:=P) (pS L) s.hr s.sl hx;obtain⟨e1,e2,e3,e4⟩:=B' leave O x;have LV:HR K Y (B.of (uj z)) H (aQ leave O x).lb (aQ leave O x).g:=by rw[e3,e4];exact s.hr.of (Ni z)
 obtain⟨K1,ω1,k,a2,a3,a4,a5,a6,a7,_⟩:=Nz tm (handsOn o.op) K (B.of (uj z)) (aQ leave O x) LV x5;have U:=L.mono k.1 (a00 _);obtain⟨m,E,X⟩:=QO (P:=P) (pS U) a3 (λy hy=>a5 y (by grind[V5])) R;have gW:bF K1 Y (S++captured) (m++m2):=X.append (k2.mono k.1 (a00 _));have Dm:∃f:ah (Nat×Bool),(∀r b,f=J (r,b)->(∀q c,ω1 q≠J (r,c))/\r<H.next/\(b=V->∀j y,K1 j=J y->rootOf H j≠r))/\(ow.yz=V->f=Z)/\(∀ω0:aI,ω0 (.sl 0)=f->cQ K1 Y ω0 H (.sl 0) d t ow)/\∀r b,f=J (r,b)->dO B r:=by
  have uZ:(∀ω0:aI,cQ K1 Y ω0 H (.sl 0) d t ow)->∃f:ah (Nat×Bool),(∀r b,f=J (r,b)->(∀q c,ω1 q≠J (r,c))/\r<H.next/\(b=V->∀j y,K1 j=J y->rootOf H j≠r))/\(ow.yz=V->f=Z)/\(∀ω0:aI,ω0 (.sl 0)=f->cQ K1 Y ω0 H (.sl 0) d t ow)/\∀r b,f=J (r,b)->dO B r:=λh=>⟨Z,λ_ _ h=>ai,λ_=>rfl,λω0 _=>h ω0,λ_ _ h=>ai⟩;have ND:∀r b,B pv=J (r,b)->ow≠.no->ow≠.any->(∀ω0:aI,ω0 (.sl 0)=J (r,b)->cQ K1 Y ω0 H (.sl 0) d t ow)->∃f:ah (Nat×Bool),(∀r b,f=J (r,b)->(∀q c,ω1 q≠J (r,c))/\r<H.next/\(b=V->∀j y,K1 j=J y->rootOf H j≠r))/\(ow.yz=V->f=Z)/\(∀ω0:aI,ω0 (.sl 0)=f->cQ K1 Y ω0 H (.sl 0) d t ow)/\∀r b,f=J (r,b)->dO B r:=by
   intro r b G vN Ai cW;obtain⟨D,Ag,rfl⟩:∃D,z=J D/\pv=.sl D:=by grind
   have aPz:∀q c,B.of (uj z) q≠J (r,c):=by intro q c hq;obtain⟨q0,E,X⟩:=a07 hq;obtain rfl:=s.hr.inj _ _ _ _ _ X G;rw[Ag]at E;have E:qc D q=J (.sl D):=E;cases q<;>simp only[qc]at E<;>grind
   refine⟨J (r,b),λr' I h=>?_,λh=>by grind[aN.yz],cW,λr' I h=>?_⟩
   . obtain⟨rfl,rfl⟩:=jf (bE h);refine⟨λq c hq=>?_,s.hr.cF _ _ _ G,λhb j y T=>?_⟩;.grind
     . subst hb;rcases k.2 j y T with h|⟨q,c,h⟩;.exact s.hr.clean _ r j y G h
       grind
   .obtain⟨rfl,rfl⟩:=jf (bE h);exact⟨_,b,G⟩
  cases ow with|no=>exact uZ λ_=>a10 k.1 (a00 _) x3|any=>exact uZ λ_=>x3|full e=>exact uZ λ_=>⟨a10 k.1 (a00 _) x3.1,x3.2⟩|ty e=>
   rcases x3.2 with h|⟨r,b,u,w⟩;.exact uZ λ_=>⟨a10 k.1 (a00 _) x3.1,.inl h⟩
   .exact ND r b u aP aP λω0 F=>⟨a10 k.1 (a00 _) x3.1,.inr ⟨r,b,F,w⟩⟩|ex e=>
   rcases x3 with h|⟨r,u,w⟩;.exact uZ λ_=>.inl h
   .refine ND r V u aP aP λω0 F=>.inr ⟨r,F,?_⟩;obtain⟨l,M,id,W,cc,cells,fl,t1,t2,t3,t4,t5,t6,t7,t8⟩:=w.ex;exact⟨l,M,id,W,cc,cells,fl,t1,t2,t3,t4,t5,t6,t7.mono k.1 (a00 _),t8⟩
 obtain⟨f,z1,z2,z3,z4⟩:=Dm;have Di:∀p r b,ω1 p=J (r,b)->dO B r:=λp r b h=>by obtain⟨I,N⟩:=a4 p r b h;obtain⟨q,_,Q⟩:=a07 N;exact⟨q,I,Q⟩
 obtain⟨a,H',K',A,ω',b1,_,b2,b3,_⟩:=acd (st2:=(handsOn o.op).foldl (aQ share) (aQ leave O x)) (fa:=f) (ωo:=B) hC ⟨a2,a3⟩ (pS U) U eX jG z1 z2 (λω0 F=>⟨by simp[gW.1],λi dd aa p q=>by
  rcases i with _|i;.grind
  exact gW.2 i dd aa ai ai⟩:∀ω0:aI,ω0 (.sl 0)=f->pE K1 Y ω0 H (d::(S++captured)) ow (t::(m++m2))) Di z4;obtain⟨s1,s2,s3⟩:=JK jG (n:=O.n) (fn:=O.fn) ai ai;have hI:tA B H H K K1:=λj y T=>by obtain⟨u,w⟩:=k.gi a2 j y T;refine⟨u,w.imp_right (Or.imp_left ?_)⟩;rintro⟨p,b,h⟩;obtain⟨q,_,N⟩:=a07 h;exact⟨q,b,N⟩
 have LM:cB (AM.bJ P tm) c.args.toList=J (t::m):=by simp_all[cB]
 refine⟨a,H',K',A,_,Q6 ho hc f1 LM ai,s1,b3 K k.1 hI,b2,s2,s3,λh=>?_⟩;grind
theorem anW(hY:wA P ak cf rec)(k:Ok K Y B H O tm)(E:dB P K (λ_=>Z) cf.aq){c:Call}{G:aK}{l:Nat}{S:ao}{f:GH}(ho:o.op=.call c)(hc:c.callee=.value G)(F:bj cf.aq O G=J (.eu l))(u:cB (bj cf.aq ((handsOn o.op).foldl (aQ share) O)) c.args.toList=J S)(eX:rec (.eu l S ((handsOn o.op).foldl (aQ share) O).g)=J (.val v f))(I:aG {((handsOn o.op).foldl (aQ share) O)with sl:=cP ((handsOn o.op).foldl (aQ share) O).sl,g:=f} o.dst v=J st')(hk:kindOf cf O o.op=.wr):Ep P ak cf K Y B H O st' tm o:=by
 obtain⟨K1,ω1,s,d,y,M,N,Q,R,_⟩:=Nz tm _ K B O k.hr k.sl;have L:=E.mono s.1 (a00 _);obtain⟨T,f1,_,f3⟩:=te (pS E) k.sl (Jf k.sl F (λ_ _ _=>aP)) F;obtain⟨i,hi,rfl⟩:∃i,Y l=J i/\T=.yield i:=by cases f3<;>simp_all
 obtain⟨m,y1,y2⟩:=QO (pS L) y (λx hx=>N x (by grind[V5])) u;have hb:=d.callee C C;obtain⟨a,H',K',A,ω',W,z,X,b4⟩:=hY l S _ v f eX K1 Y _ H m i hb L y2 hi;have D:∀q r b,(ω1.of (lO C)) q=J (r,b)->ω1 q=J (r,b)/\((∃id,q=.g id)\/∃id w,q=.gc id w):=by grind[aI.iI,MN]
 have n:∀p r b,ω1 p=J (r,b)->dO B r:=λp r b h=>let⟨U,h'⟩:=M p r b h;⟨p,U,h'⟩;have t:xD C nq K1 Y _ H _ _ Y _ K' A _ H' f f:=⟨d,z,X,λ_=>rfl,λ_ h=>h,λ_=>rfl,(λh=>by cases h),by rintro p r b hp h⟨q,e,j⟩;obtain⟨h1,h3⟩:=D q r e j;have:=d.inj _ _ _ _ _ h h1;grind[Kept,nq]⟩;obtain⟨s1,s2,s3⟩:=JK I Q R;refine⟨a,H',K',_,_,aFY ho hc f1 y1 W,s1,z.up d.inv (λr⟨q,e,j⟩=>n _ _ _ (D q r e j).1) s.1 (s.gi d) t.ext (t.lZ n λr⟨q,e,j⟩=>n _ _ _ (D q r e j).1),t.ok y b4 aU I,s2,s3,λh=>?_⟩;grind
theorem amj(I:dB P K Y aq)(o:Ok K Y B H O tm){d:DV}(h:zF aq O x=J d):∃a,AM.bJ P tm x=J a/\DR (K.plus H λr=>∃p,B p=J (r,V)) Y d a:=by have D:∀{p:Pk}{dd:DV}{a:AV}{ow:aN},cQ K Y B H p dd a ow->DR (K.plus H λr=>∃p,B p=J _) Y dd a:=λh=>(cQ.Gc o.hr (λr hr=>⟨_,hr⟩) h).2;have ext:=a27 K H λr=>∃p,B p=J (r,V);obtain⟨R,N,h⟩:=aF h;obtain⟨a,G,W,k⟩:=ri I o.sl N;refine⟨a,G,?_⟩;cases R with
 |dv U ow=>
 obtain rfl:=bE ab;rcases k with⟨t,_,_,_,c⟩|⟨_,⟨d2,e,c⟩|⟨d2,f,_,_,e,c⟩|⟨g,l,cells,e,e1,_⟩⟩;.exact D c
 .obtain⟨rfl,_⟩:=SV.dv.inj e;exact c.mono ext (a00 _)
 .obtain⟨rfl,_⟩:=SV.dv.inj e;exact c.mono ext (a00 _)
 grind|sr s=>
 obtain⟨y,q,rfl⟩:=iK.1 h;have c:tm.get s=J a:=by
  rcases k with⟨S,_,_,_,c⟩|⟨_,⟨_,e,_⟩|⟨_,_,_,_,e,_⟩|⟨_,_,_,_,e,_⟩⟩;.exact c
  all_goals grind
 unfold nK at q;split at q;.rename_i l e n w L;cases q;obtain⟨T,v,_,E⟩:=o.sl s _ L;rw[c]at v;cases v;exact D (ow:=.ex w) E
 grind|gr id u=>
 simp only at h;obtain⟨i,m,root,z,e,g1,g2,g3⟩:∃i m root z e,Y id=J i/\H.get i=J (.cells m root z e)/\m[u]?=J a:=by
  rcases k with⟨S,_,_,_,c⟩|⟨_,⟨_,e,_⟩|⟨_,_,_,_,e,_⟩|⟨_,_,_,_,e,_⟩⟩;.exact c
  all_goals grind
 unfold EI at h;rcases A:O.g.get id with _|Q;.grind
 rw[A]at h;cases Q with|box b=>obtain⟨j,X,j2,M⟩:=o.hr.jm id _ A;obtain⟨m',F,w,k1,k2,k3,k4,k5,k6⟩:=M;grind|_=>grind
 |_=>grind
theorem aB6(g:dB P K Y aq)(o:Ok K Y B H O tm):∀(l:List aK)(s:ao),cB (zF aq O) l=J s->∃m,cB (AM.bJ P tm) l=J m/\bF (K.plus H λr=>∃p,B p=J (r,V)) Y s m:=by intro l;induction l with|nil=>intro s h;obtain rfl:=bE (show J []=J s from h);exact⟨[],rfl,a09⟩|cons x l i=>intro s h;have a:((zF _ O x).bind λb=>(cB _ l).bind _)=J s:=h;obtain⟨d,hd,a⟩:=aF a;obtain⟨t,c,a⟩:=aF a;grind[amj,bF.cons,cB]
theorem cQ.ail{p q:Pk}{d:DV}(h:cQ K' A ω' H' p d a ow)(f:d.plain=V):cQ K Y B H q d a ow:=by
 have D:∀{id o len:Nat}{c:ah _}{s:Nat},DR K' A d (.sl id o len c s)->False:=by intro id o len c s h;cases h<;>simp[DV.plain]at f
 cases ow with|no=>exact a60 h f|any=>exact h|ty e=>
 refine⟨a60 h.1 f,?_⟩;rcases h.2 with g|⟨r,b,_,g⟩;.grind
 .obtain⟨id,o,len,c,s,cells,i,rfl,_⟩:=g.ex;exact(D h.1).elim|full e=>obtain⟨j,id,o,len,s,rfl⟩:=h;grind|ex e=>
 rcases h with h|⟨r,_,h⟩;.exact .inl h
 .obtain⟨l,s,id,o,c,cells,i,rfl,_⟩:=h.ex;grind[DV.plain]
theorem anP(hC:rE P ak cf rec)(k:Ok K Y B H O tm)(u:dB P K (λ_=>Z) cf.aq){c:Call}{N:aK}{f S:ao}{g2:GH}(ho:o.op=.call c)(hc:c.callee=.value N)(M:bj cf.aq O N=J (.func h f captured))(T:cf.iz h=V)(sW:cf.rz h=C\/True)(w:cB (zF cf.aq O) c.args.toList=J S)(e:jA cf rec h (f++S++captured) .no O.g (λv g=>J (v,g))=J (v,g2))(I:v.plain=V)(Q:aG {O with sl:=cP O.sl} o.dst v=J st'):Ep P ak cf K Y B H O st' tm o:=by
 obtain⟨af,f1,_,f3⟩:=te (pS u) k.sl (Jf k.sl M (λ_ _ _=>aP)) M;obtain⟨m1,m2,rfl,k1,k2⟩:=Ll f3;obtain⟨m,y1,y2⟩:=aB6 (pS u) k _ _ w;have ext:=a27 K H λr=>∃p,B p=J (r,V);have gW:=((k1.mono ext (a00 _)).append y2).append (k2.mono ext (a00 _));unfold jA at e;rw[T]at e;rcases W:cj (f++S++captured)with _|_;.grind
 rw[W]at e;obtain⟨D,hr,e⟩:=aF e;cases D with|out o=>grind|val F gg=>
 simp only at e;rcases G:F.pure with _|_;.grind
 rw[G]at e;obtain⟨rfl,_⟩:=jf (bE e);have L:HR _ _ (λ_=>Z) H [] .empty:=⟨k.hr.inv,(Rb k.hr _ λr h=>h).1,λp q r b c h=>ai,λp r id x h=>ai,λp r b h=>ai,λs b h=>by grind[look],λid ob h=>by grind[GH.get,GH.empty,look],λ_ _=>rfl,k.hr.hQ⟩;obtain⟨a,H',K',A,ω',X,_,d,b3,b4⟩:=hC h _ _ _ F gg hr _ _ _ H _ L (u.mono ext (a00 _)) (pE.Wv (aHy gW W));obtain⟨K2,ω2,d1,d2,d3⟩:=vr L d b3 b4 G (λ_ r⟨q,b,z⟩=>ai);have i:bU (λ_=>False) H H':=d.keep.xx k.hr.inv λr _⟨q,b,z⟩=>ai;have tO:=k.hr.frame i d2.inv d2.hQ aU aU;have mH:=xk k.hr.inv k.sl i (a01 _) (a00 _) aU (λ_ _ _ h=>h);have t:=xO (O:={O with sl:=cP _}) tO mH Q d3.rh λdd _ _=>by cases E:rz _ F with|dv x ow=>rw[E]at d3 I;exact cQ.ail d3 I|tp l=>rw[E]at d3 I;obtain⟨mm,q1,q2,q3⟩:=d3;exact⟨mm,q1,q2,λj x y hx hy=>(q3 j x y hx hy).ail (A0.1 I x ai)⟩|_=>rw[E]at d3;exact d3.elim
 have n:(∀r,r∈H'.bX->r∈H.bX)/\∀r,r∈H'.cL->r∈H.cL:=⟨λr hr=>(d.log.2.1 r hr).resolve_right λ⟨_,q,b,z⟩=>ai,λr hr=>(d.log.2.2 r hr).resolve_right λ⟨_,q,b,z⟩=>ai⟩;obtain⟨R,ψ3,ω3,n1,n2⟩:=t.nx (a35 _ _);obtain⟨s1,s2,s3⟩:=JK Q rfl rfl;have U:Nx K Y B H K Y B H':=⟨a01 _,k.hr.gi i,a00 _,i.xx k.hr.inv λ_ _ h=>h.elim,λp r b h=>.inl ⟨p,b,h⟩,d.log.1,λr hr=>.inl (n.1 r hr),λr hr=>.inl (n.2 r hr)⟩;exact⟨a,H',R,_,_,Q6 ho hc f1 y1 X,s1,U.trans k.hr.inv n1,n2,s2,s3,λ_=>⟨n.1,λ_=>n.2⟩⟩
end
section
variable{P:aH}{ak:ct}{rec:dW}{cf:bV}{K K' K1 K2:aY}{Y A φ0:cu}{B ω' ω0 fN ω1:aI}{H H':Heap}{lb:ew}{g g':GH}{O st' st2:St}{tm:Tr AV}{o:aB}{gs cr:aE}{later:List aB}
theorem anL(hC:rE P ak cf rec)(hY:wA P ak cf rec)(hI:wy P ak cf)(k:Ok K Y B H O tm)(E:dB P K (λ_=>Z) cf.aq){c:Call}{i:aK}(q:o.op=.call c)(g:c.callee=.value i){r:St×SV}(h:qP cf rec O o.op i c.args.toList=J r)(G:aG {r.1 with sl:=cP r.1.sl} o.dst r.2=J st'):Ep P ak cf K Y B H O st' tm o:=by
 have N:∀{f:bY},i=.func f->kindOf cf O o.op=bif(cf.iz f||cf.oo f)&&!(aw (cf.fk f) 1||aw (cf.fk f) 2)then .rd else .wr:=by intro f e;subst e;rw[q];cases c;simp only at g;subst g;rfl
 have D:(∀f,i≠.func f)->kindOf cf O o.op=.wr:=by intro cI;rw[q];cases c;simp only at g;subst g;cases i<;>first|rfl|simp_all
 have yq:∀{f h:bY}{l1 l2:ao},i=.func f->bj cf.aq O i=J (.func h l1 l2)->h=f:=by intro f hq l1 l2 e h2;subst e;have:J (DV.func f [] [])=J (DV.func hq l1 l2):=h2;simp_all
 have aPK:∀{h:bY}{l1 l2:ao},bj cf.aq O i=J (.func h l1 l2)->((match kindOf cf O o.op with|.wr=>False|_=>True)->(cf.iz h||cf.oo h)=V/\aw (cf.fk h) 1=C/\aw (cf.fk h) 2=C):=by grind
 have aPJ:∀{h:bY}{l1 l2:ao},bj cf.aq O i=J (.func h l1 l2)->(aw (cf.fk h) 1=V\/aw (cf.fk h) 2=V)->kindOf cf O o.op=.wr:=by grind
 unfold qP at h;obtain⟨v,t,h⟩:=aF h;split at h
 . rename_i j first captured;by_cases u:aw (cf.fk j) 1=V
   . rw[u]at h;simp only[aR]at h;split at h
     . rename_i x R Q;obtain⟨aS,s,h⟩:=aF h;obtain⟨K1,ω1,z,I,L,U,X,a6,a7,_⟩:=Nz tm R K B O k.hr k.sl;have M:=E.mono z.1 (a00 _);obtain⟨m,y1,y2⟩:=QO (P:=P) (pS M) L (λy hy=>X y hy) s;obtain⟨ax,a,H',K',A,ω',b1,b2,b3,b4,b5,b6⟩:=hI _ j x aS r.1 r.2 h K1 Y ω1 H tm m ⟨I,L⟩ M y2 o.dst st' G;obtain⟨af,f1,_,f3⟩:=te (P:=P) (pS E) k.sl (Jf k.sl t (λ_ _ _=>aP)) t;obtain⟨m1,m2,rfl,k1,k2⟩:=Ll f3;obtain rfl:=k1.sB;obtain rfl:=k2.sB;have S:cB (AM.bJ P tm) c.args.toList=J (ax::m):=by rw[Q];grind[cB]
       obtain⟨s1,s2,s3⟩:=JK G (n:=O.n) (fn:=O.fn) ai ai;have W:Nx K Y B H K1 Y ω1 H:=⟨z.1,z.gi I,a00 _,a02 _ _,λp r b h=>let⟨b',h'⟩:=U p r b h;.inl ⟨p,b',h'⟩,a35 _ _⟩;refine⟨a,H',K',A,ω',Q6 q g f1 S ai,s1,W.trans k.hr.inv b3,b4,s2,s3,λhk=>?_⟩;grind
     grind
   . have u:=cb.2 u;rw[u]at h;simp only[ch]at h;by_cases w:aw (cf.fk j) 2=V
     . rw[w]at h;simp only[aR]at h;split at h
       . rename_i x R Q;split at h;.rename_i d ow hx;obtain⟨aS,s,h⟩:=aF h;grind[Tb,anV]
         grind
       grind
     . have w:=cb.2 w;rw[w]at h;simp only[ch]at h;by_cases q3:aw (cf.fk j) 3=V;.rw[q3]at h;simp only[aR]at h;cases T:cf.iz j with|false=>grind|true=>rw[T]at h;simp only[aR]at h;obtain⟨aS,s,h⟩:=aF h;grind[Tb,anP]
       .have q3:=cb.2 q3;rw[q3]at h;simp only[ch]at h;obtain⟨aS,s,h⟩:=aF h;grind[Tb,anU]
 .rename_i l;obtain⟨aS,s,h⟩:=aF h;obtain⟨F,hr,h⟩:=aF h;cases F with|out o=>simp at h|val v2 g2=>cases h;refine anW hY k E q g t s hr G (D λf e=>?_);subst e;have:J (DV.func f [] [])=J (DV.eu l):=t;simp at this
 grind
theorem nh(t:rE P ak cf rec)(w:wA P ak cf rec)(u:wy P ak cf)(k:Ok K Y B H O tm)(i:dB P K (λ_=>Z) cf.aq)(h:dK P cf rec gs cr later O o=J st'):Ep P ak cf K Y B H O st' tm o:=by
 have plain:dF P cf.aq cf.fk gs cr later ((handsOn o.op).foldl (aQ share) O) o=J st'->Ep P ak cf K Y B H O st' tm o:=by
  intro h;have hr:=λD=>aFV (ak:=ak) (rec:=D) (pS i) k.hr k.sl h;obtain⟨v,H',K',A,ω',g,j,l,m,p,q,d⟩:=(hr _).nx;refine⟨v,H',K',A,_,⟨0,λn s=>?_⟩,j,l,m,p,q,λy=>?_⟩;.exact Wz (λfr H=>JG s fr H) tm H o _ g
  .have I:kindOf cf O o.op≠.wr:=ai;exact⟨d.wl I,d.gl I⟩
 unfold dK at h;cases e:o.op with
 |call c=>cases x:c.callee with|value F=>
  have f:((qP cf rec O (.call c) F c.args.toList).bind λr=>aG {r.1 with sl:=cP r.1.sl} o.dst r.2)=J st':=by cases c;grind
  obtain⟨r,hr,G⟩:=aF f;grind[anL]|builtin b=>grind|invoke a b=>grind
 |_=>rw[e]at h;refine plain ?_;rw[e];exact h
theorem J2{w:Bool}(s:cg K Y B H tm O.sl)(h:y8 ops O o=J w):wv ops tm o=J w:=by
 unfold y8 at h;unfold wv;rcases i:o.guard with _|k;.grind
 obtain⟨j,n⟩:=k;rw[i]at h;simp only at h|-;rcases hd:(ops[j]?).bind _ with _|d;.grind
 rw[hd]at h;simp only at h|-;split at h
 . rename_i b ow l;obtain⟨a,g,_,c⟩:=s d _ l;have:a=.bool b:=by cases ow with|no=>cases c;rfl|any=>obtain⟨f,_⟩:=c;grind|full e=>have c:=c.1;cases c;rfl|ty e=>have c:=c.1;cases c;rfl|ex e=>
    rcases c with⟨f,_⟩|⟨_,_,f⟩;.grind
    .obtain⟨_,_,_,_,_,_,_,p,_⟩:=f.ex;grind
   grind
 .rename_i l;obtain⟨a,g,_,m,rfl,f,_⟩:=s d _ l;grind
 grind
theorem RO{f:cJ}{d:ah Tmp}{v:AV}(h:∀t,d=J t->t<f.n):tu f d v=J {f with tmps:=gX f.tmps d v}:=by cases d<;>simp_all[DY,gX,eP]
theorem RP(o:Ok K Y B H O tm){d:ah Tmp}(h:aG O d (.tp [])=J st'):∃K' A ω',Nx K Y B H K' A ω' H/\Ok K' A ω' H st' (gX tm d fD)/\st'.n=O.n/\st'.fn=O.fn/\∀t,d=J t->t<O.n:=by obtain⟨K',A,ω',a,b⟩:=(CN o.hr o.sl h).nx (a35 _ _);obtain⟨s,c,e⟩:=JK h rfl rfl;grind
theorem aJg(y:rE P ak cf rec)(z:wA P ak cf rec)(I:wy P ak cf):∀(l:List aB)(j:Nat)(K:aY)(Y:cu)(B:aI)(H:Heap)(O:St)(fr:cJ),Ok K Y B H O fr.tmps->dB P K (λ_=>Z) cf.aq->fr.n=O.n->km P cf rec gs cr C ops l j [] O=J st'->∃t H' K' A ω',(∃c,∀n,c<=n->AE P ak (AM.run P ak n) ops l fr H=J (.next {fr with tmps:=t} H'))/\Nx K Y B H K' A ω' H'/\Ok K' A ω' H' st' t/\st'.n=O.n/\st'.fn=O.fn:=by intro l;induction l with|nil=>intro j K Y B H O fr ok i D h;obtain rfl:=bE (show J O=J _ from h);exact⟨_,H,K,Y,B,⟨0,λn _=>rfl⟩,a45 ok.hr,ok,rfl,rfl⟩|cons o l F=>
 intro j K Y B H O fr ok i D h;obtain⟨w,E,h⟩:=aF h;have Q:=J2 ok.sl E;have p:∀{st1:St}{v:AV}{b:Heap}{K1:aY}{a:cu}{ω1:aI},(∃c,∀n,c<=n->Bs P ak (AM.run P ak n) ops fr H o=J (.next {fr with tmps:=gX fr.tmps o.dst v} b))->Nx K Y B H K1 a ω1 b->Ok K1 a ω1 b st1 (gX fr.tmps o.dst v)->st1.n=O.n->st1.fn=O.fn->km P cf rec gs cr C ops l (j+1) [] st1=J st'->∃t H' K' A ω',(∃c,∀n,c<=n->AE P ak (AM.run P ak n) ops (o::l) fr H=J (.next {fr with tmps:=t} H'))/\Nx K Y B H K' A ω' H'/\Ok K' A ω' H' st' t/\st'.n=O.n/\st'.fn=O.fn:=by intro st1 v b K1 a ω1⟨f,s⟩q u L M x;obtain⟨t,H',K',A,ω',⟨G,g1⟩,g2,g3,g4,g5⟩:=F _ K1 _ _ b _ {fr with tmps:=gX _ _ v} u (i.mono q.ext (a00 _)) ai x;refine⟨_,H',K',A,_,⟨max f G,λn W=>?_⟩,q.trans ok.hr.inv g2,g3,ab,ai⟩;show((Bs P _ _ _ fr H o).bind _)=_;rw[s n ab];exact g1 n ab
 cases w with|true=>obtain⟨st1,X,h⟩:=aF h;obtain⟨v,b,K1,a,ω1,⟨f,g⟩,k,d,e,m,r,_⟩:=nh y z I ok i X;refine p ⟨f,λn W=>?_⟩ d e m r h;grind[KM,RO]|false=>obtain⟨st1,X,h⟩:=aF h;obtain⟨K1,a,ω1,g,k,d,e,m⟩:=RP ok X;refine p ⟨0,λn _=>?_⟩ g k d e h;grind[KM,RO]
def Ef:Kd->jv->Prop|.no,d=>d.reads=J []/\d.writes=[]|.rd,d=>d.writes=[]|.wr,_=>True
theorem Tq(r:ah (List (AM.Touch×Nat))):clear [] r=V:=by rfl
theorem PC(w:aE):clear w (J [])=V:=by cases w<;>rfl
theorem al6{c k:Kd}{d a:jv}(e:Ef c d)(b:Ef k a)(h:Kd.apart c k=V):apart d a=V:=by
 have O:∀w,lx (λx=>!(B7 x [])) w=V:=by simp[qN,B7]
 have left:d.writes=[]->a.writes=[]->apart d a=V:=by simp_all[apart,Tq]
 have o:d.reads=J []/\d.writes=[]->apart d a=V:=by rintro⟨e1,e2⟩;unfold apart;rw[e1,e2,Tq,PC];rfl
 have n:a.reads=J []/\a.writes=[]->apart d a=V:=by simp_all[apart,Tq,PC]
 rcases c with _|_|_;.exact o e
 . rcases k with _|_|_;.exact n b
   .exact left e b
   grind[Kd.apart]
 rcases k with _|_|_;.exact n b
 all_goals grind[Kd.apart]
theorem tV{t:an}{a:aK}{v:AV}(g:o.op=.store t a x)(h:fF P ak rc tm H o=J (.val v H')):H'.cL=H.cL/\∀r,r∈H'.bX->r∈H.bX\/∃id f,AM.bJ P tm a=J (.ptr id f)/\tq H id=J r:=by
 obtain⟨r,hr,h⟩:=aF h;unfold dY at hr;rw[g]at hr;simp only[Ed]at hr;split at hr
 . rename_i id f m;obtain⟨j,q,hr⟩:=aF hr;rcases s:AM.storeVar P H t id f j with _|k;.grind
   rw[s]at hr;cases hr;obtain⟨_,rfl⟩:=En.val.inj (bE h);obtain⟨n,_,s⟩:=aF s;obtain⟨i,_,s⟩:=aF s;rcases d:aw (fg i) n with _|_;.grind
   rw[d]at s;unfold Heap.store at s;split at s
   . rename_i l root b e p;simp only at s;generalize(bz _ id&&(aw _ id&&(bz _ _&&b.wr)))=c at s;rcases c with _|_;.grind
     cases s;refine⟨yj ..,λr hr=>?_⟩;rw[xy]at hr;rcases vU hr with h|⟨rfl,_⟩<;>grind[tq]
   grind
 grind
theorem aB7{t:an}{m k:aK}{v:AV}(b:o.op=.mapUpdate t m k x)(h:fF P ak rc tm H o=J (.val v H')):H'.cL=H.cL:=by
 obtain⟨r,hr,h⟩:=aF h;unfold dY at hr;rw[b]at hr;simp only[Ea]at hr;split at hr
 . obtain⟨d,_,hr⟩:=aF hr;obtain⟨a,_,hr⟩:=aF hr;obtain⟨e,_,hr⟩:=aF hr;generalize qB P _ a=c at hr;rcases c with _|_;.grind
   obtain⟨f,_,hr⟩:=aF hr;cases f with|some i=>
   simp only at hr;generalize sameKey _ a=c at hr;rcases c with _|_;.grind
   cases hr;obtain⟨_,rfl⟩:=En.val.inj (bE h);rfl|none=>cases hr;obtain⟨_,rfl⟩:=En.val.inj (bE h);rfl
 grind
theorem aLV{i o:Nat}{v:aJ}(h:H.store i o v=J H'):H'.cL=H.cL:=by grind[Heap.store,yj]
theorem aor{c:Call}{v:AV}(j:o.op=.call c)(f:c.callee=.builtin .clear)(h:fF P ak rc tm H o=J (.val v H')):H'.cL=H.cL:=by
 obtain⟨r,hr,h⟩:=aF h;unfold dY at hr;rw[j]at hr;simp only[Cy,yK,f]at hr;obtain⟨d,hd,hr⟩:=aF hr;obtain⟨aS,_,hd⟩:=aF hd;obtain rfl:=bE hd;simp only[uU]at hr;have k:∀{e:AV}{a:Heap},iC P H .clear c.argTypes aS=J (e,a)->a.cL=H.cL:=by
  intro e a b;rcases aS with _|⟨x,_|⟨y,aS⟩⟩;.simp_all[iC]
  rotate_left;.simp_all[iC]
  unfold iC at b;simp only at b;split at b;.grind
  .grind
  .obtain⟨m,_,g⟩:=iK.1 b;obtain⟨_,rfl⟩:=jf g;rfl
  .rename_i id l n cp s _ _ _;cases i:aw n 0 with|true=>grind|false=>rw[i]at b;obtain⟨z,_,b⟩:=aF b;grind[iK,aLV]
  grind
 grind[iK]
theorem MG{l:aE}(h:∀r,r∈l->r∈([]:aE)):l=[]:=by cases l<;>grind[fU]
theorem PD{j:Nat}{d:ah (List (AM.Touch×Nat))}(h:H'.bX=[])(a:H'.cL=[]):rT ops o j ⟨d,H'.bX⟩ H'=V/\tj o H'=V/\within ⟨d,H'.bX⟩=V:=by
 refine⟨by grind[rT],?_,?_⟩;.grind[tj]
 .rw[h];cases d<;>rfl
theorem apm{v:AV}{j:Nat}(A:dK P cf rec gs cr later O o=J st')(F:oJ o.op=C)(y:fF P ak rc tm H.fresh o=J (.val v H'))(q:(match kindOf cf O o.op with|.wr=>False|_=>True)->(∀r,r∈H'.bX->r∈H.fresh.bX)/\(isApp o.op=C->∀r,r∈H'.cL->r∈H.fresh.cL))(I:(isApp o.op||Mg cf O o.op)=V->JR ops.toList j=V):Ef (kindOf cf O o.op) ⟨eF P tm H o,H'.bX⟩/\rT ops o j ⟨eF P tm H o,H'.bX⟩ H'=V/\tj o H'=V/\within ⟨eF P tm H o,H'.bX⟩=V:=by
 have rd:kindOf cf O o.op=.rd->isApp o.op=C->Ef (kindOf cf O o.op) ⟨eF P tm H o,H'.bX⟩/\rT ops o j ⟨eF P tm H o,H'.bX⟩ H'=V/\tj o H'=V/\within ⟨eF P tm H o,H'.bX⟩=V:=by intro e1 e2;obtain⟨k1,k2⟩:=q (by rw[e1];trivial);have w:=MG k1;rw[e1];exact⟨w,PD w (MG (k2 e2))⟩
 have no:kindOf cf O o.op=.no->isApp o.op=C->eF P tm H o=J []->Ef (kindOf cf O o.op) ⟨eF P tm H o,H'.bX⟩/\rT ops o j ⟨eF P tm H o,H'.bX⟩ H'=V/\tj o H'=V/\within ⟨eF P tm H o,H'.bX⟩=V:=by intro e1 e2 e3;obtain⟨k1,k2⟩:=q (by rw[e1];trivial);have w:=MG k1;rw[e1];exact⟨⟨e3,w⟩,PD w (MG (k2 e2))⟩
 have B:∀{x:ah St},x=Z->x=J st'->False:=λK E=>by rw[K]at E;simp at E
 cases d:o.op with
 |alloc e=>rw[<-d];exact no (by rw[d];rfl) (by rw[d];rfl) (by unfold eF;rw[d])|box e x=>rw[<-d];exact no (by rw[d];rfl) (by rw[d];rfl) (by unfold eF;rw[d])|buildSlice t n Q=>rw[<-d];exact no (by rw[d];rfl) (by rw[d];rfl) (by unfold eF;rw[d])|makeSlice t n Q=>rw[<-d];exact no (by rw[d];rfl) (by rw[d];rfl) (by unfold eF;rw[d])|makeMap t r=>rw[<-d];exact no (by rw[d];rfl) (by rw[d];rfl) (by unfold eF;rw[d])|load t a=>rw[<-d];exact rd (by rw[d];rfl) (by rw[d];rfl)|lookup t m k ok=>rw[<-d];exact rd (by rw[d];rfl) (by rw[d];rfl)|slice t x lo R S=>rw[<-d];exact rd (by rw[d];rfl) (by rw[d];rfl)|convert s t x=>rw[<-d];exact rd (by rw[d];rfl) (by rw[d];rfl)|store t a x=>
  obtain⟨g1,g2⟩:=tV d y;have g1:H'.cL=[]:=g1;refine⟨trivial,by unfold rT;rw[g1],by unfold tj;rw[d];rfl,?_⟩;unfold within eF;rw[d];simp only;split;.rfl
  . rename_i l u;rw[qN];refine A0.2 λr hr=>?_;rcases g2 r hr with h|⟨id,N,L,z⟩;.exact absurd h (by show¬r∈[];simp)
    .have z:tq H id=J r:=z;rw[L]at u;simp only[z,gM]at u;cases u;unfold B7;simp[Aq,qN,bQ]|mapUpdate t m k x=>have g1:H'.cL=[]:=aB7 d y;exact⟨trivial,by unfold rT;rw[g1],by unfold tj;rw[d];rfl,by unfold within eF;rw[d]⟩|call c=>rw[<-d];cases i:c.callee with
  |builtin b=>
    have p:dF P cf.aq cf.fk gs cr later ((handsOn o.op).foldl (aQ share) O) o=J st':=by unfold dK at A;rw[d]at A|-;cases c;simp only at i;subst i;exact A
    unfold dF at p;rw[d]at p;simp only at p;split at p;.rename_i g;exact rd (by rw[d];cases c;simp only at g;subst g;rfl) (by rw[d];cases c;simp only at g;subst g;rfl)
    . rename_i g;have e1:kindOf cf O o.op=.rd:=by rw[d];cases c;simp only at g;subst g;rfl
      have e2:isApp o.op=V:=by rw[d];cases c;simp only at g;subst g;rfl
      have e3:xh o.op=C:=by rw[d];cases c;simp only at g;subst g;rfl
      have e4:eF P tm H o=Z:=by unfold eF;rw[d];cases c;simp only at g;subst g;rfl
      obtain⟨k1,_⟩:=q (by rw[e1];trivial);have w:=MG k1;rw[e1];refine⟨w,?_,by unfold tj;rw[e3];rfl,by unfold within;rw[e4]⟩;unfold rT;split;.rfl
      .rw[I (by rw[e2];rfl),e3,e4];rfl
    . rename_i g;have g1:H'.cL=[]:=aor d g y;have e3:xh o.op=C:=by rw[d];cases c;simp only at g;subst g;rfl
      have e4:eF P tm H o=Z:=by unfold eF;rw[d];cases c;simp only at g;subst g;rfl
      have e5:kindOf cf O o.op=.wr:=by rw[d];cases c;simp only at g;subst g;rfl
      rw[e5];exact⟨trivial,by unfold rT;rw[g1],by unfold tj;rw[e3];rfl,by unfold within;rw[e4]⟩
    .rename_i g;exact rd (by rw[d];cases c;simp only at g;subst g;rfl) (by rw[d];cases c;simp only at g;subst g;rfl)
    .rename_i g;exact rd (by rw[d];cases c;simp only at g;subst g;rfl) (by rw[d];cases c;simp only at g;subst g;rfl)
    .simp at p|value M=>
    have e2:isApp o.op=C:=by rw[d];cases c;simp only at i;subst i;rfl
    have e3:xh o.op=C:=by rw[d];cases c;simp only at i;subst i;rfl
    have e4:eF P tm H o=Z:=by unfold eF;rw[d];cases c;simp only at i;subst i;rfl
    cases D:kindOf cf O o.op with
    |no=>exfalso;rw[d]at D;cases c;simp only at i;subst i;cases M with|func f=>have:(bif(cf.iz f||cf.oo f)&&!(aw (cf.fk f) 1||aw (cf.fk f) 2)then Kd.rd else Kd.wr)=Kd.no:=D;generalize((cf.iz f||cf.oo f)&&!(aw (cf.fk f) 1||aw (cf.fk f) 2))=G at this;cases G<;>simp at this|_=>simp[kindOf,oJ]at D
    |rd=>rw[<-D];exact rd D e2|wr=>
      have e5:Mg cf O o.op=V:=by
       have:Mg cf O o.op=(match kindOf cf O o.op with|.wr=>V|_=>C):=by rw[d];cases c;simp only at i;subst i;rfl
       rw[this,D]
      refine⟨trivial,?_,by unfold tj;rw[e3];rfl,by unfold within;rw[e4]⟩;unfold rT;split;.rfl
      .rw[I (by rw[e5];simp),e3,e4];rfl
  |invoke a b=>exfalso;unfold dK at A;rw[d]at A;cases c;simp only at i;subst i;unfold dF at A;rw[d]at A;simp at A
 |_=>exfalso;first|(rw[d]at F;simp[oJ]at F;done)|(unfold dK at A;rw[d]at A;unfold dF at A;rw[d]at A;simp at A)
end
section
variable{P:aH}{ak:ct}{rec:dW}{cf:bV}{K K':aY}{Y A:cu}{B:aI}{H H':Heap}{O st':St}{tm:Tr AV}{o:aB}{gs cr:aE}{later:List aB}
def xE(a:cu)(k:Kx)(d:jv):Prop:=Ef k.kd d/\match k with|.s _=>True|.pt t g _=>∃r,(∃c,d.reads=J [(c,r)])/\(∀x,x∈d.writes->x=r)/\(∀id,t=J id->a id=J r)/\∀id,(g.get id).isSome=V->t≠J id->∃i,a id=J i/\i≠r
theorem xE.mono(h:aX Y A){k:Kx}{d:jv}(x:xE Y k d):xE A k d:=by
 refine⟨x.1,?_⟩;rcases k with k|⟨t,g,w⟩;.grind
 obtain⟨r,a,b,c,f⟩:=x.2;exact⟨r,a,b,λid e=>h _ _ (c id e),λid e k=>(f id e k).imp λi x=>⟨h _ _ x.1,x.2⟩⟩
theorem aed{k b:Kx}{d a:jv}(c:xE Y k d)(e:xE Y b a)(h:Kx.yc k b=V):apart d a=V/\apart a d=V:=by
 unfold Kx.yc at h;split at h;.obtain⟨r1,⟨p,f⟩,g,i,j⟩:=c.2;obtain⟨r2,⟨q,l⟩,m,n,o⟩:=e.2;constructor;all_goals grind[bE,clear,B7,qN,bQ,apart]
 grind
theorem al7{k e:Kx}{d c:jv}(a:xE Y k d)(b:xE Y e c)(h:Kx.apart k e=V):apart d c=V:=by
 unfold Kx.apart at h;rw[AW,AW]at h;rcases h with h|h|h;.exact al6 a.1 b.1 h
 .exact(aed a b h).1
 .exact(aed b a h).2
def ay2{g:GH}{i:Nat}(h:(g.get i).isSome=V):∃o,g.get i=J o:=Option.isSome_iff_exists.1 h
theorem Ph(k:Ok K Y B H O tm){p:Pk}{b:Bool}{t:ah Nat}(d:B p=J (r,b))(e:∀id,p=.g id->t=J id):∀id,(O.g.get id).isSome=V->t≠J id->∃i,Y id=J i/\i≠r:=by intro id h a;obtain⟨o,c⟩:=ay2 h;obtain⟨i,g1,g2,_⟩:=k.hr.jm id o c;refine⟨i,g1,?_⟩;rintro rfl;exact a (e id (k.hr.inj _ _ _ _ _ d g2))
theorem vv(k:Ok K Y B H O tm)(c:dB P K (λ_=>Z) cf.aq){a:aK}{d o:Nat}{b:LB}(h:cZ cf.aq O a=J (.dv (.ptr d o) ow))(g:O.g.get d=J (.box b)):∃i,AM.bJ P tm a=J (.ptr i o)/\tq H i=J i/\Y d=J i/\B (.g d)=J (i,V):=by obtain⟨v,n,_,f⟩:=oH (pS c) k.hr k.sl (by unfold bj;rw[h];rfl);cases f with|ptr _ _ i p=>obtain⟨j,g1,g2,g3⟩:=k.hr.jm d _ g;obtain⟨m,l,e,k1,_⟩:=g3;grind[tq]
theorem apa{v:AV}(k:Ok K Y B H O tm)(G:dB P K (λ_=>Z) cf.aq)(A:dK P cf rec gs cr later O o=J st')(hv:fF P ak rc tm H.fresh o=J (.val v H'))(h:Ef (kindOf cf O o.op) ⟨eF P tm H o,H'.bX⟩):xE Y (jI cf O o.op) ⟨eF P tm H o,H'.bX⟩:=by cases p:o.op with
 |load t a=>
  have f:dF P cf.aq cf.fk gs cr later O o=J st':=by unfold dK at A;rw[p]at A;exact A
  rw[p]at h;unfold jI;simp only;split
  . rename_i id g ow D;have j:∃b,O.g.get id=J (.box b):=by unfold dF at f;rw[p]at f;grind
    obtain⟨b,j⟩:=j;obtain⟨i,I,L,h3,M⟩:=vv k G D j;refine⟨h,i,⟨.rd,?_⟩,?_,?_,Ph k M (λq e=>aU)⟩;.grind[eF]
    .have:H'.bX=[]:=h;simp_all
    simp_all
  .exact⟨h,trivial⟩|store t a x=>
  have f:dF P cf.aq cf.fk gs cr later O o=J st':=by unfold dK at A;rw[p]at A;exact A
  rw[p]at h;obtain⟨_,g2⟩:=tV p hv;unfold jI;simp only;unfold dF at f;rw[p]at f;simp only at f;obtain⟨sv,hx,f⟩:=aF f;cases sv with
  |dv d ow=>
    simp only at f;have wr:∀{i g r:Nat},AM.bJ P tm a=J (.ptr i g)->tq H i=J r->(∃c,(jv.mk (eF P tm H o) H'.bX).reads=J [(c,r)])/\∀y,y∈(jv.mk (eF P tm H o) H'.bX).writes->y=r:=by
      intro i g r I L;refine⟨⟨.wr,?_⟩,?_⟩;.grind[eF]
      . intro y Q;rcases g2 y Q with h|⟨q,dJ,e1,e2⟩;.exact absurd h (by show¬y∈[];simp)
        .rw[I]at e1;cases e1;have e2:tq H i=J y:=e2;simp_all
    split
    . rename_i id g Jm D;rw[D]at f;simp only at f;have j:∃b,O.g.get id=J (.box b):=by grind
      obtain⟨b,j⟩:=j;obtain⟨i,I,L,h3,M⟩:=vv k G D j;obtain⟨z,F⟩:=wr I L;exact⟨trivial,i,z,F,λq e=>ai,Ph k M (λq e=>ai)⟩
    . rename_i s i g D;rw[D]at f;simp only at f;obtain⟨y,Q,_⟩:=aF f;obtain⟨v',S,_,N⟩:=ri (P:=P) (pS G) k.sl D;rcases N with⟨t',rfl,hl,ht,id,o0,len,c,esz,e1,e2⟩|⟨_,⟨d',e,_⟩|⟨_,_,_,_,e,_⟩|⟨_,_,_,_,e,_⟩⟩
      . have cY:∃l e n ow,look O.sl s=J (.dv (.ay l e n) (.ex ow)):=by
         have U:∃l e n ow,look (aQ share O x).sl s=J (.dv (.ay l e n) (.ex ow)):=by grind[nK]
         obtain⟨l,e,n,ow,E⟩:=U;refine⟨l,e,n,ow,?_⟩;unfold aQ at E;cases x with
         |tmp u=>
         simp only at E;split at E
         . rename_i v0 _;rw[me]at E;split at E;.have:=bE E;cases v0 with|dv d1 o1=>cases o1<;>simp[share,oL]at this|_=>simp[share]at this
           omega
         omega|_=>exact E
        obtain⟨l,e,n,ow,cY⟩:=cY;obtain⟨sa,T,_,w⟩:=k.sl s _ cY;rw[e1]at T;cases T;rcases w with⟨w,_⟩|⟨r,w,s3⟩;.cases w
        .obtain⟨l2,X,id2,W,c2,cells,fl,q1,q2,q3,_⟩:=s3.ex;cases q2;obtain⟨z,F⟩:=wr (r:=r) (by rw[S,e2]) (by unfold tq;rw[q3]);exact⟨trivial,r,z,F,(λq e=>by cases e),Ph k w (λq e=>by cases e)⟩
      all_goals grind
    .rename_i s g D;rw[D]at f;simp only at f;obtain⟨b,j,_⟩:=aF f;obtain⟨v',S,_,N⟩:=Ko (P:=P) (pS G) k.hr k.sl D;obtain⟨i,R,i2⟩:=k.hr.box s b j;obtain rfl:=N i _ R;obtain⟨m,fl,e,q3,_⟩:=i2;obtain⟨z,F⟩:=wr (r:=i) S (by unfold tq;rw[q3]);exact⟨trivial,i,z,F,(λq e=>by cases e),Ph k R (λq e=>by cases e)⟩
    .exact⟨h,trivial⟩|_=>simp at f
 |_=>rw[p]at h;exact⟨h,trivial⟩
end
section
variable{P:aH}{ak:ct}{rec:dW}{cf:bV}{K K' K1 K2:aY}{Y A φ0 φ1:cu}{B ω' ω0 fN ω1:aI}{H H' H1:Heap}{lb:ew}{g g':GH}{O st' st2:St}{tm:Tr AV}{o:aB}{gs cr:aE}{later:List aB}
theorem ahm{b:Nat}:∀(w l:aE),r∈fV (λl r=>Heap.note b r l) w l->r∈l\/(r∈w/\r<b):=by intro w;induction w with|nil=>intro l h;exact .inl h|cons x w i=>intro l h;have h:r∈fV _ w _:=h;grind[vU]
def Nx.quiet(h:HR K Y B H lb g)(n:Nx K Y B H.fresh K1 φ1 ω1 H.fresh):Nx K Y B H K1 φ1 ω1 H:=⟨n.ext,n.dy,n.np,a02 _ _,n.lZ,a35 _ _⟩
theorem Nx.resume(n:Nx K Y B H.fresh K1 φ1 ω1 H1):Nx K Y B H K1 φ1 ω1 (H.resume H1):=by
 refine⟨n.ext,n.dy,n.np,⟨n.keep.next,n.keep.get,n.keep.dz,n.keep.root⟩,n.lZ,rfl,λr hr=>?_,λr hr=>?_⟩
 . rcases ahm _ _ hr with h|⟨a,b⟩;.grind
   . rcases n.log.2.1 r a with h|⟨_,h⟩;.exact absurd h (by show¬r∈[];simp)
     grind
 . rcases ahm _ _ hr with h|⟨a,b⟩;.grind
   . rcases n.log.2.2 r a with h|⟨_,h⟩;.exact absurd h (by show¬r∈[];simp)
     grind
theorem aJf(hC:rE P ak cf rec)(hY:wA P ak cf rec)(hI:wy P ak cf){s0:St}(IN:∀i o,ops.toList[i]?=J o->(isApp o.op||Mg cf s0 o.op)=V->JR ops.toList i=V):∀(l:List aB)(a:Nat)(d:List (Nat×Kx))(X:List (Nat×jv))(K:aY)(Y:cu)(B:aI)(H:Heap)(O:St)(fr:cJ),ops.toList.drop a=l->(∀e,e∈X->∃k,(e.1,k)∈d/\xE Y k e.2)->Ok K Y B H O fr.tmps->dB P K (λ_=>Z) cf.aq->fr.n=O.n->km P cf rec gs cr V ops l a d O=J st'->∃m H' K' A ω',(∃n0,∀n,n0<=n->wg P ak (AM.run P ak n) ops l a X fr H=J (.next {fr with tmps:=m} H'))/\Nx K Y B H K' A ω' H'/\Ok K' A ω' H' st' m/\st'.n=O.n/\st'.fn=O.fn:=by intro l;induction l with|nil=>intro a d X K Y B H O fr I z ok p q h;obtain rfl:=bE (show J O=J st' from h);exact⟨fr.tmps,H,K,Y,B,⟨0,λn _=>rfl⟩,a45 ok.hr,ok,rfl,rfl⟩|cons o l M=>
 intro a d X K Y B H O fr I z ok p q h;have IH:ops.toList[a]?=J o:=by
  have:(ops.toList.drop a)[0]?=J o:=by rw[I];rfl
  rwa[xI,vq]at this
 have N:ops.toList.drop (a+1)=l:=by
  have:(ops.toList.drop a).drop 1=l:=by rw[I];rfl
  rwa[Eh]at this
 unfold km at h;obtain⟨w,hw,h⟩:=aF h;have Q:=J2 ok.sl hw;cases w with|false=>simp only[ch]at h;obtain⟨st1,y,h⟩:=aF h;obtain⟨K1,φ1,ω1,f,G,c,D,g⟩:=RP ok y;obtain⟨m,H',K',A,ω',⟨u,g1⟩,g2,g3,g4,g5⟩:=M (a+1) d X K1 φ1 ω1 H st1 {fr with tmps:=gX fr.tmps o.dst fD} N (λe b=>(z e b).imp λk x=>⟨x.1,x.2.mono f.np⟩) G (p.mono f.ext (a00 _)) (by rw[c];exact q) h;refine⟨m,H',K',A,ω',⟨u,λn W=>?_⟩,f.trans ok.hr.inv g2,g3,by rw[g4,c],by rw[g5,D]⟩;rw[Gu,Q];simp only[cU,ze,aR];rw[RO λt L=>by rw[q];exact g t L];exact g1 n W|true=>simp only[aR,xC,xB]at h;cases F:I' ops.toList d a (jI cf O o.op)with|false=>rw[F]at h;simp at h|true=>
  rw[F]at h;simp only[aR]at h;obtain⟨st1,y,h⟩:=aF h;have R:Ok K Y B H.fresh O fr.tmps:=ok.same (rn H) (bT _);obtain⟨v,H1,K1,φ1,ω1,⟨s,f⟩,G,c,D,g,S,b7⟩:=nh hC hY hI R p y;have jG:tu fr o.dst v=J {fr with tmps:=gX fr.tmps o.dst v}:=RO λt L=>by rw[q];exact G t L
  have r:∀{U:List (Nat×jv)},(∀e,e∈U->e∈X\/(e.1=a/\xE Y (jI cf O o.op) e.2))->∀e,e∈U->∃k,(e.1,k)∈(a,jI cf O o.op)::d/\xE φ1 k e.2:=by
   intro U hA e b;rcases hA e b with h|⟨T,h2⟩;.obtain⟨k,k1,k2⟩:=z e h;exact⟨k,jy _ k1,k2.mono c.np⟩
   .exact⟨_,by rw[T];exact fU,h2.mono c.np⟩
  cases E:oJ o.op with|true=>have hH:H1=H.fresh:=Wy E (f s (bT _));subst hH;have nx:=Nx.quiet ok.hr c;have xc:Ok K1 φ1 ω1 H st1 (gX fr.tmps o.dst v):=D.same (rn H).symm ok.hr.inv.bA;obtain⟨m,H',K',A,ω',⟨u,g1⟩,g2,g3,g4,g5⟩:=M (a+1) ((a,jI cf O o.op)::d) X K1 φ1 ω1 H st1 {fr with tmps:=gX fr.tmps o.dst v} N (r λe b=>.inl b) xc (p.mono c.ext (a00 _)) (by rw[g];exact q) h;refine⟨m,H',K',A,ω',⟨max s u,λn W=>?_⟩,nx.trans ok.hr.inv g2,g3,by rw[g4,g],by rw[g5,S]⟩;rw[Gu,Q];simp only[cU,xC,ch,f n ab,jG,E,aR];exact g1 n ab|false=>
   obtain⟨d1,d2,d3,d4⟩:=apm (j:=a) (ops:=ops) y E (f s (bT _)) b7 (IN a o IH);have d1:=apa ok p y (f s (bT _)) d1;have nx:=Nx.resume c;have xc:Ok K1 φ1 ω1 (H.resume H1) st1 (gX fr.tmps o.dst v):=D.same (aJF H H1) (by have T:=ok.hr.inv.bA;have h2:H.next<=H1.next:=c.keep.next;show H.bA<=H1.next;omega);obtain⟨m,H',K',A,ω',⟨u,g1⟩,g2,g3,g4,g5⟩:=M (a+1) ((a,jI cf O o.op)::d) ((a,⟨eF P fr.tmps H o,H1.bX⟩)::X) K1 φ1 ω1 (H.resume H1) st1 {fr with tmps:=gX fr.tmps o.dst v} N (r λe b=>by
    rcases CI.1 b with rfl|b;.exact .inr ⟨rfl,d1⟩
    .exact .inl b) xc (p.mono c.ext (a00 _)) (by rw[g];exact q) h;refine⟨m,H',K',A,ω',⟨max s u,λn W=>?_⟩,nx.trans ok.hr.inv g2,g3,by rw[g4,g],by rw[g5,S]⟩;have wO:lx (λ(e:Nat×jv)=>apart e.2 ⟨eF P fr.tmps H o,H1.bX⟩||rA ops.toList e.1 a) X=V:=by
    rw[qN];refine A0.2 λe b=>?_;obtain⟨k,k1,k2⟩:=z e b;have:=A0.1 F _ k1;simp only[AW]at this|-;rcases this with h|h;.exact .inl (al7 k2 d1 h)
    .exact .inr h
   rw[Gu,Q];simp only[cU,xC,ch,f n ab,jG,E,wO,d2,d3,d4,xz,aR];exact g1 n ab
theorem ZU(g:rE P ak cf rec)(j:wA P ak cf rec)(I:wy P ak cf){d:Bool}{fr:cJ}(l:Ok K Y B H O fr.tmps)(c:dB P K (λ_=>Z) cf.aq)(k:fr.n=O.n)(h:(bif !d||nI cf O ops.toList then km P cf rec gs cr d ops ops.toList 0 [] O else Z)=J st'):∃t H' K' A ω',(∃a,∀n,a<=n->(bif d then(bif wa ops.toList then wg P ak (AM.run P ak n) ops ops.toList 0 [] fr H else Z)else AE P ak (AM.run P ak n) ops ops.toList fr H)=J (.next {fr with tmps:=t} H'))/\Nx K Y B H K' A ω' H'/\Ok K' A ω' H' st' t/\st'.n=O.n/\st'.fn=O.fn:=by
 rcases d with _|_;.obtain⟨t,H',K',A,ω',⟨a,f⟩,b⟩:=aJg g j I _ 0 K Y B H O fr l c k (by simpa using h);exact⟨_,H',K',A,_,⟨a,λn p=>f n p⟩,b⟩
 rcases hd:nI cf O ops.toList with _|_;.grind
 rw[hd]at h;unfold nI at hd;simp only[gD]at hd;obtain⟨t,H',K',A,ω',⟨a,f⟩,b⟩:=aJf (s0:=O) g j I (λi o m x=>by have:=A0.1 hd.2 _ (bv.2 m);grind) _ 0 [] [] K Y B H O fr rfl (λe q=>ai) l c k (by simpa using h);refine⟨_,H',K',A,_,⟨a,λn p=>?_⟩,b⟩;grind
end
def dV(P:aH)(a:ct)(fr:cJ)(H:Heap)(G:Out->Prop):Prop:=∃n o,AM.run P a n fr H=J o/\G o
section
variable{P:aH}{ak:ct}{rec:dW}{cf:bV}{K K' K1 K2:aY}{Y A φ0 φ1:cu}{B ω' ω0 fN ω1:aI}{H H' H1:Heap}{lb:ew}{g g':GH}{O st' st2:St}{tm:Tr AV}{G:Out->Prop}{fr fH:cJ}
theorem dV.step(a:Nat)(h:∀n,a<=n->body P ak (AM.run P ak n) fr H=AM.run P ak n fH H')(r:dV P ak fH H' G):dV P ak fr H G:=by obtain⟨n,o,b,c⟩:=r;refine⟨max a n+1,o,?_,c⟩;show body P _ (AM.run P _ _) fr H=J o;rw[h _ ab];exact JG ab _ H' o b
def a26:=@dV.step
theorem dV.same(h:∀rc,body P ak rc fr H=body P ak rc fH H')(r:dV P ak fH H' G):dV P ak fr H G:=by
 obtain⟨n,o,a,b⟩:=r;rcases n with _|n;.exact absurd a (by show¬(Z=J o);simp)
 exact⟨n+1,o,by show body P _ _ fr H=J o;rw[h];exact a,b⟩
theorem ajg:∀(n:Nat)(fr:cJ)(H:Heap)(a b:List Item),fr.mode=.returning->AM.run P ak n {fr with todo:=a} H=AM.run P ak n {fr with todo:=b} H
 |0,_,_,_,_,_=>rfl|n+1,fr,H,a,b,h=>by
  have i:=ajg n;show body P ak (AM.run P ak n) _ H=body P ak (AM.run P ak n) _ H;obtain⟨fn,nn,tm,t,d,m,ro⟩:=fr;obtain rfl:m=.returning:=h;unfold body Ex;simp only;split;.rfl
  . split
    . split;.exact i ⟨fn,nn,tm,t,‹aE›,.returning,_⟩ _ a b rfl
      .rfl
    .rfl
def JU(o:eH)(r:List Item):List Item:=match o with|.fJ _=>r|.ext id _=>.code (.exit id)::r|.rt _=>.code .ret::r
def eH.GJ:eH->St|.fJ O|.ext _ O|.rt O=>O
theorem S5{id:Nat}(h:fr.mode=.run):body P ak rc {fr with todo:=.code (.exit id)::k} H=(match exitTo id k with|some k=>rc {fr with todo:=k} H|none=>match fr.roundOf with|none=>Z|some l=>match H.get l with|some (.loop r)=>J (.ret (.bool C) (H.put l l (.loop {r with state:=.done,pending:=J (.exit id)})))|_=>Z):=by obtain⟨fn,nn,t,todo,d,m,o⟩:=fr;obtain rfl:m=.run:=h;rfl
theorem ath{d:Nat}(h:fr.mode=.run)(t:∀i,it=.inBlock i->i≠d)(r:dV P ak {fr with todo:=.code (.exit d)::k} H G):dV P ak {fr with todo:=.code (.exit d)::it::k} H G:=by
 refine r.same λrc=>?_;rw[S5 h,S5 h];have:exitTo d (it::k)=exitTo d k:=by cases it<;>grind[exitTo]
 grind
theorem aIP(m:fr.mode=.run)(r:dV P ak {fr with todo:=.code .ret::k} H G):dV P ak {fr with todo:=.code .ret::it::k} H G:=by
 obtain⟨n,o,h,a⟩:=r;rcases n with _|n;.exact absurd h (by show¬(Z=J o);simp)
 refine⟨n+1,o,?_,a⟩;rw[<-h];simp only[m];rcases fr.roundOf with _|l;.exact ajg n {fr with mode:=.returning,roundOf:=Z} H _ _ rfl
 rfl
theorem DJ{o:eH}(h:fr.mode=.run)(n:∀O,o≠.fJ O)(t:∀i,it=.inBlock i->∀O,o≠.ext i O)(r:dV P ak {fr with todo:=JU o k} H G):dV P ak {fr with todo:=JU o (it::k)} H G:=by
 rcases o with O|⟨id,O⟩|O;.grind
 .exact ath h ai r
 exact aIP h r
def Oc(b:Nat)(a:aI)(H:Heap)(s:aE):Prop:=s.Nodup/\∀r,r∈s->H.get r=J (.deferred V)/\¬dO a r/\b<=r
structure xG(bs:Nat)(rd:ah Nat)(fr:cJ)(O:St)(Y:cu)(B:aI)(H:Heap):Prop where
 fn:fr.fn=O.fn
 n:fr.n=O.n
 mode:fr.mode=.run
 base:bs<=H.next
 rd:match rd with|none=>fr.roundOf=Z/\Oc bs B H fr.defers|some l=>∃i,Y l=J i/\fr.roundOf=J i/\fr.defers=[]
theorem Oc.nx{d:aE}(i:bg H){s:Nat}(h:Oc s B H d)(n:Nx K Y B H K' A ω' H'):Oc s ω' H' d:=by
 refine⟨h.1,λr hr=>?_⟩;obtain⟨c,g,e⟩:=h.2 r hr;have a:=i.get _ _ c;have j:rootOf H r=r:=by grind[rootOf]
 refine⟨by rw[n.keep.get r a ai];omega,λ⟨p,b,f⟩=>?_,e⟩;rcases n.lZ p r b f with h|h<;>grind
theorem xG.nx{b:Nat}{r:ah Nat}(d:bg H)(h:xG b r fr O Y B H)(n:Nx K Y B H K' A ω' H')(a:st'.n=O.n)(c:st'.fn=O.fn)(tm':Tr AV)(td:List Item):xG b r {fr with tmps:=tm',todo:=td} st' A ω' H':=by
 refine⟨by rw[c];exact h.fn,by rw[a];exact h.n,h.mode,gj h.base n.keep.next,?_⟩;have:=h.rd;rcases r with _|l;.exact⟨this.1,this.2.nx d n⟩
 obtain⟨i,k1,k2,k3⟩:=this;exact⟨i,n.np _ _ k1,k2,k3⟩
def AX(P:aH)(a:ct)(b:Nat)(d:ah Nat)(K:aY)(c:cu)(e:aI)(H:Heap)(s:St)(f:cJ)(r:List Item)(G:Out->Prop)(o:eH):Prop:=∀K' A ω' H' t m,Nx K c e H K' A ω' H'->Ok K' A ω' H' o.GJ t->o.GJ.n=s.n->o.GJ.fn=s.fn->xG b d {f with tmps:=t,defers:=m} o.GJ A ω' H'->dV P a {f with tmps:=t,defers:=m,todo:=JU o r} H' G
def Ho(P:aH)(a:ct)(c:bV)(r:dW):Prop:=∀b O rd o,r (.loop b O rd)=J (.out o)->∀bs K Y B H fr rest G,Ok K Y B H O fr.tmps->dB P K (λ_=>Z) c.aq->xG bs rd fr O Y B H->AX P a bs rd K Y B H O fr rest G o->dV P a {fr with todo:=.code (.loop b)::rest} H G
theorem ahg{b:Type}(l:List (Nat×b)):∀(a:aE)(t:Nat)(v:b),look (a.filterMap λs=>(look l s).map λv=>(s,v)) t=J v->look l t=J v:=by intro a;induction a with|nil=>simp[look]|cons k a i=>cases h:look l k<;>grind[look,bQ]
theorem V2{l:aE}(o:Ok K Y B H O tm):Ok K Y B H (mask l O) tm where
 hr:=by obtain⟨a,c,d,e,f,g,i,j,k⟩:=o.hr;refine⟨a,c,d,e,f,λs b m=>g s b ?_,i,j,k⟩;exact ahg O.lb _ s b m
 sl:=λt v h=>o.sl t v (ahg O.sl _ t v h)
theorem uQ(a:bg H){i:Nat}{o:cq}(g:H.get i=J o0)(k:o0.eA=C)(n:o.eA=C):bg (H.put i r o):=by
 refine⟨λj c h=>?_,λj l b m e1 h=>?_,λj l b m e1 h=>?_,a.dz,a.bA⟩
 . by_cases e:j=i;.rw[e];exact a.get _ _ g
   .rw[pq H r _ e]at h;exact a.get j c h
 . by_cases e:j=i;.grind[xg,cq.eA]
   .rw[pq H r _ e]at h;exact a.root j l b _ e1 h
 . by_cases e:j=i;.grind[xg,cq.eA]
   .rw[pq H r _ e]at h;obtain⟨q,f,d,p⟩:=a.oK j l b _ e1 h;grind[cq.eA,pq]
theorem Rq{i:Nat}{o:cq}(g:H.get i=J o0)(h:o0.eA=C)(a:o.eA=C)(j:Nat):rootOf (H.put i r o) j=rootOf H j:=by grind[yL,xg,rootOf,pq]
theorem ut{i:Nat}{o:cq}(g:H.get i=J o0)(a:o0.eA=C)(b:o.eA=C):bU (λx=>x=i) H (H.put i r o)where
 next:=bT _
 get:=λj _ h=>pq H r _ (λx=>h (by subst x;exact yL g a))
 dz:=λc _ h=>rfl
 root:=λj _=>Rq g a b j
theorem akp(u:pN H){i:Nat}{o:cq}(m:H.get i=J o0)(d:o0.eA=C)(g:o.eA=C):pN (H.put i r o):=λj l c f e h=>by
 by_cases a:j=i;.grind[xg,cq.eA]
 .rw[pq H r _ a]at h;obtain⟨n,b,k⟩:=u j l c f e h;grind[cq.eA,pq]
theorem Z7{d i:Nat}{R R':AT}{y:GO}(A:Ok K Y B H O tm)(S:Y d=J i)(N:B (.g d)=J (i,V))(t:H.get i=J (.loop R))(T:AY K Y B (H.put i i (.loop R')) d y i):Ok K Y B (H.put i i (.loop R')) {O with sl:=cP O.sl,g:=O.g.set d y} tm/\Nx K Y B H K Y B (H.put i i (.loop R')):=by
 have a:=A.hr;have m:=ut (r:=i) (o:=.loop R') t rfl rfl;have I:∀q f b,q≠.g d->B q=J _->¬f=i:=λq f b M h e=>by subst e;exact M (a.inj _ _ _ _ _ h N)
 have hr:HR K Y B (H.put i i (.loop R')) O.lb (O.g.set d y):=by
   refine⟨uQ a.inv t rfl rfl,λj cells e1 G=>?_,a.inj,λp r1 j x w l=>by rw[Rq t rfl rfl];exact a.clean p r1 j x w l,a.cF,λs b F=>?_,λk z n=>?_,λk Q=>a.mZ k Q,akp a.hQ t rfl rfl⟩;.obtain⟨root,P,g1,g2⟩:=a.dy j _ e1 G;exact⟨_,P,by grind[pq],g2⟩
   .obtain⟨j,l,u⟩:=a.box s b F;exact⟨j,l,u.keep a.inv m (a01 _) (a00 _) ai λv f c x=>⟨x,ai⟩⟩
   . have n:look (put _ d y) k=J z:=n;rw[me]at n;by_cases e:k=d;.grind
     .rw[if_neg e]at n;obtain⟨j,l,u,E⟩:=a.jm k z n;exact⟨j,l,u,E.keep a.inv m (a01 _) (a00 _) ai λv f c x=>⟨x,ai⟩⟩
 refine⟨⟨hr,?_⟩,?_⟩;.exact xk a.inv A.sl m (a01 _) (a00 _) (λp f b L h=>⟨h,I p f b (by intro e;subst e;exact L) h⟩) ai
 . refine⟨a01 _,a.gi m,a00 _,m.xx a.inv λr _ e=>⟨.g d,V,ai⟩,λp r b h=>.inl ⟨p,b,h⟩,rfl,λr hr=>?_,λr hr=>.inl hr⟩;rcases vU hr with h|⟨w,D⟩;.grind
   .exact .inr ⟨D,.g d,V,ai⟩
theorem awK(k:Ok K Y B H O tm)(o:cq)(n:o.eA=C):Ok K Y B (H.alloc o) O tm/\Nx K Y B H K Y B (H.alloc o):=by
 have a:bU (λ_=>False) H (H.alloc o):=kh H _ _;have c:∀l r f e,o=.cells l r f e->r=H.next:=λl r f e h=>by grind[cq.eA]
 refine⟨⟨k.hr.frame a (wC k.hr.inv _ c) (NV k.hr.inv k.hr.hQ _ c) ai ai,λt s m=>?_⟩,a01 _,k.hr.gi a,a00 _,kh H _ _,λp r b h=>.inl ⟨p,b,h⟩,rfl,λr hr=>.inl hr,λr hr=>.inl hr⟩;obtain⟨d,g,i,j⟩:=k.sl t s m;exact⟨d,g,i,j.keep k.hr.inv a (a01 _) (a00 _) ai ai ai ai⟩
def aG9:SV->SV:=λv=>match v with|.dv d .no=>SV.dv d .no|.dv d .any=>.dv d .any|.ev d=>.ev d|_=>.dd
def aG3(l:db):mg l=l.map λx=>(x.1,aG9 x.2):=rfl
theorem aHc(s:cg K Y B H tm O.sl):xM K Y tm (mg O.sl):=by
 intro t v h;rw[aG3,rf _ _]at h;rcases b:look O.sl t with _|N;.grind
 rw[b]at h;cases h;obtain⟨a,e,_,c⟩:=s t _ b;refine⟨a,e,?_⟩;cases N with
 |dv d o=>cases o<;>first|exact c|trivial
 |ev d=>exact c|_=>trivial
theorem aCW(o:Ok K Y B H O tm){r:aa9}{R:AT}(h:R.state=r.state/\R.pending=r.pending/\R.fn=r.fn/\R.n=r.n/\R.params=r.params/\R.assign=r.assign/\R.body=r.body)(c:xM K Y R.tmps r.sl):∃a ω',a O.g.next=J H.next/\Ok K a ω' (H.alloc (.loop R)) {O with g:=O.g.alloc (.loop r)} tm/\Nx K Y B H K a ω' (H.alloc (.loop R)):=by
 have G:(H.alloc (.loop R)).get H.next=J (.loop R):=mF H _;have N:bg (H.alloc (.loop R)):=wC o.hr.inv _ (λl r z w g=>ai);obtain⟨a,ω',e,i,k,m,A,n⟩:=QV (y:=.loop r) o.hr N (by grind[rootOf]) λa ω' d u=>⟨R,G,h.1,h.2.1,h.2.2.1,h.2.2.2.1,h.2.2.2.2.1,h.2.2.2.2.2.1,h.2.2.2.2.2.2,c.mono (a01 _) d⟩;refine⟨_,_,i,⟨k,λt v s=>?_⟩,a01 _,o.hr.gi (kh H _ (λ_=>False)),e,kh H _ _,λp r b c=>?_,rfl,λr hr=>.inl hr,λr hr=>.inl hr⟩;.obtain⟨f,g1,g2,g3⟩:=o.sl t v s;refine⟨f,g1,g2,g3.keep o.hr.inv (kh H _ _) (a01 _) e (λp r b c x=>⟨m p r b ?_ x,id⟩) ai ai ai⟩;rcases c with rfl|⟨j,rfl⟩<;>trivial
 . rcases n p r b c with⟨q,h⟩|rfl;.exact .inl ⟨q,b,h⟩
   omega
theorem aH0(hC:rE P ak cf rec){bs:Nat}{N:ah Nat}{f:aK}{m:Array Tmp}{S b:bM}{k:eH->ah bh}{Q:bh}{s:List Item}(w:Ok K Y B H O fr.tmps)(di:dB P K (λ_=>Z) cf.aq)(U:xG bs N fr O Y B H)(h:exec P cf rec N (.rangeFunc f m S b) O k=J Q)(hk:∀o,k o=J Q->AX P ak bs N K Y B H O fr s G o):dV P ak {fr with todo:=.code (.rangeFunc f m S b)::s} H G:=by
 unfold exec at h;split at h;.rename_i hf first captured hv;cases vE:((cf.iW hf (first++[.eu O.g.next]++captured)).isSome||!(AB N O.g))with|true=>grind|false=>
  rw[vE]at h;simp only[ch]at h;simp only[J8,Bool.not_eq_false']at vE;obtain⟨axw,vM⟩:=vE;have axw:cf.iW hf (first++[.eu O.g.next]++captured)=Z:=by simp_all
  obtain⟨rs,Vp,h⟩:=aF h;cases rs with|out o=>simp_all|val v g'=>
  simp only at h;obtain⟨af,f1,_,f3⟩:=te (P:=P) (pS di) w.sl (Jf w.sl hv (λ_ _ _=>aP)) hv;obtain⟨m1,m2,rfl,k1,k2⟩:=Ll f3;have made:∃(d0:Nat)(I:aE)(j:Heap),(match fr.roundOf with
      |some l=>match H.get l with|some (.loop r)=>J (r.defers,([]:aE),H)|_=>Z
      |none=>J (H.next,[H.next],H.alloc (.deferred V)))=J (d0,I,j)/\Ok K Y B j O fr.tmps/\Nx K Y B H K Y B j/\xG bs N {fr with defers:=dL I fr.defers} O Y B j:=by have afS:=U.rd;cases N with
    |none=>
      obtain⟨r1,r3,r4⟩:=afS;obtain⟨o1,n1⟩:=awK w (.deferred V) rfl;refine⟨H.next,[H.next],H.alloc (.deferred V),ai,o1,n1,⟨U.fn,U.n,U.mode,gj U.base n1.keep.next,r1,?_,?_⟩⟩;all_goals simp only[lz]
      .refine List.nodup_cons.2 ⟨λhm=>?_,aU⟩;have:=w.hr.inv.get _ _ (r4 _ hm).1;omega
      . intro r hr;rcases CI.1 hr with rfl|hr;.exact⟨mF H _,λ⟨p,b,L⟩=>by have:=w.hr.cF p _ b L;omega,U.base⟩
        .obtain⟨h1,h2,h3⟩:=r4 r hr;exact⟨by rw[nL H _ (by have:=w.hr.inv.get _ _ h1;omega)];omega,h2,h3⟩|some l=>
      obtain⟨i,r1,r2,r3⟩:=afS;unfold AB at vM;simp only at vM;split at vM;.rename_i r ov;obtain⟨i',q1,_,A,q2,_⟩:=w.hr.jm l _ ov;obtain rfl:i=i':=bE (r1.symm.trans q1);refine⟨A.defers,[],H,aU,w,a45 w.hr,⟨U.fn,U.n,U.mode,U.base,i,r1,r2,?_⟩⟩;grind[dL]
      simp_all
  obtain⟨d0,I,j,PS,MM,Wo,fra⟩:=made;obtain⟨D,d,l1,T,Q5⟩:=aCW MM (r:={state:=.ready,pending:=Z,fn:=O.fn,n:=O.n,sl:=mg O.sl,params:=m.toList,assign:=S,body:=b}) (R:={state:=.ready,pending:=Z,fn:=fr.fn,n:=fr.n,tmps:=fr.tmps,params:=m.toList,assign:=S,body:=b,defers:=d0}) ⟨rfl,rfl,U.fn,U.n,rfl,rfl,rfl⟩ (aHc MM.sl);have gW:bF K D (first++[.eu O.g.next]++captured) (m1++[.yield j.next]++m2):=((k1.mono (a01 _) (Wo.np.trans Q5.np)).append (a06 (.eu _ _ l1) a09)).append (k2.mono (a01 _) (Wo.np.trans Q5.np));obtain⟨a,F,W,u,E,c1,c0,c2,c3,c4⟩:=hC hf _ .no _ v g' Vp K D _ _ _ (T.hr.callee C C) di (pE.Wv gW);have Dg:∀q r b,(d.of (lO C)) q=J (r,b)->d q=J (r,b)/\((∃id,q=.g id)\/∃id off,q=.gc id off):=by grind[aI.iI,MN]
  have cr:xD C nq K D d (j.alloc (.loop {state:=.ready,pending:=Z,fn:=fr.fn,n:=fr.n,tmps:=fr.tmps,params:=m.toList,assign:=S,body:=b,defers:=d0})) O.lb (O.g.alloc (.loop {state:=.ready,pending:=Z,fn:=O.fn,n:=O.n,sl:=mg O.sl,params:=m.toList,assign:=S,body:=b})) D (d.of (lO C)) W u E F g' g':=⟨T.hr,c2,c3,λ_=>rfl,λ_ h=>h,λ_=>rfl,(λh=>by cases h),by rintro p r bb L h⟨q,cc,hq⟩;obtain⟨h1,h3⟩:=Dg q r cc hq;have:=T.hr.inj _ _ _ _ _ h h1;grind[Kept,nq]⟩;have DG:Ok W u (uD nq Z d E) F {O with sl:=cP O.sl,g:=g'} fr.tmps:=cr.ok (dst:=Z) (O:={O with g:=O.g.alloc (.loop {state:=.ready,pending:=Z,fn:=O.fn,n:=O.n,sl:=mg O.sl,params:=m.toList,assign:=S,body:=b})}) T.sl c4 (λh=>aU) rfl;have Di:∀r,dO (d.of (lO C)) r->dO d r:=λr⟨q,cc,hq⟩=>⟨q,cc,(Dg q r cc hq).1⟩;have nx3:Nx K D d _ W u (uD nq Z d E) F:=c2.up T.hr.inv Di (a01 _) (T.hr.gi (a02 (λ_=>False) _)) c2.np (cr.lZ (λp r bb h=>⟨p,bb,h⟩) Di);obtain⟨X,e1,n1,e2⟩:∃X,AM.xW P ak hf (m1++[.yield j.next]++m2) (j.alloc (.loop {state:=.ready,pending:=Z,fn:=fr.fn,n:=fr.n,tmps:=fr.tmps,params:=m.toList,assign:=S,body:=b,defers:=d0}))=J (.call X (j.alloc (.loop {state:=.ready,pending:=Z,fn:=fr.fn,n:=fr.n,tmps:=fr.tmps,params:=m.toList,assign:=S,body:=b,defers:=d0})))/\∃n,AM.run P ak n X (j.alloc (.loop {state:=.ready,pending:=Z,fn:=fr.fn,n:=fr.n,tmps:=fr.tmps,params:=m.toList,assign:=S,body:=b,defers:=d0}))=J (.ret a F):=by rcases c1 with c1|⟨p1,X,p2,n,p3⟩;all_goals grind[AM.xW]
  split at h
  . rename_i r ov;obtain⟨i,q1,qw,A,q2,q3,q4,q5,q6,q7,q8,q9,lQ⟩:=DG.hr.jm _ _ ov;have hi:i=j.next:=by have:=c2.np _ _ l1;simp_all
    subst hi;obtain⟨ML,nx4⟩:=Z7 (R':={A with state:=.exhausted}) (y:=.loop {r with state:=.exhausted}) DG q1 qw q2 ⟨_,xg _ _ _ _,rfl,q4,q5,q6,q7,q8,q9,lQ⟩;have ML:Ok W u (uD nq Z d E) (F.put j.next j.next (.loop {A with state:=.exhausted})) {O with sl:=cP O.sl,g:=g'.set O.g.next (.loop {r with state:=.exhausted})} fr.tmps:=by refine⟨ML.hr,λt sv M=>ML.sl t sv ?_⟩;show look (cP (cP O.sl)) t=J sv;have M:look (cP O.sl) t=J sv:=M;unfold cP at M|-;rw[rf (O.sl.map λx=>(x.1,p7 x.2)) p7,M];rw[rf O.sl p7]at M;cases h0:look O.sl t with|none=>simp_all|some s0=>rw[h0]at M;cases M;cases s0<;>rfl
    have aFb:=((Wo.trans w.hr.inv Q5).trans w.hr.inv nx3).trans w.hr.inv nx4;have aOD:xG bs N {fr with tmps:=fr.tmps,defers:=dL I fr.defers} {O with sl:=cP O.sl,g:=g'.set O.g.next (.loop {r with state:=.exhausted})} u (uD nq Z d E) (F.put j.next j.next (.loop {A with state:=.exhausted})):=xG.nx (st':={O with sl:=cP O.sl,g:=g'.set O.g.next (.loop {r with state:=.exhausted})}) (fr:={fr with defers:=dL I fr.defers}) (tm':=fr.tmps) (td:=fr.todo) MM.hr.inv fra ((Q5.trans MM.hr.inv nx3).trans MM.hr.inv nx4) rfl rfl;have step:∀(o:eH),o.GJ={O with sl:=cP O.sl,g:=g'.set O.g.next (.loop {r with state:=.exhausted})}->r.state≠.busy->k o=J Q->(∀rc:Rec,(match A.pending with|some c=>rc {fr with todo:=.code c::s,defers:=dL I fr.defers} (F.put j.next j.next (.loop {A with state:=.exhausted}))|none=>rc {fr with todo:=s,defers:=dL I fr.defers} (F.put j.next j.next (.loop {A with state:=.exhausted})))=rc {fr with todo:=JU o s,defers:=dL I fr.defers} (F.put j.next j.next (.loop {A with state:=.exhausted})))->dV P ak {fr with todo:=.code (.rangeFunc f m S b)::s} H G:=by intro o ho hb hko L4;have jo:=hk o hko W u _ _ fr.tmps (dL I fr.defers) aFb aU ai ai aU;refine a26 n1 (λn hn=>?_) jo;have ED:=JG hn X _ _ e2;obtain⟨fn,nn,ad,todo,aa,mode,roundOf⟩:=fr;obtain rfl:mode=.run:=U.mode;unfold body vw Ku;simp only at f1 PS e1 ED L4|-;rw[f1];simp only;refine(gT (λz=>sM z _) PS).trans ?_;simp only[cU,lz]at e1 ED|-;rw[e1];simp only[ED,cU,q2];have hRb:A.state≠.busy:=aU;have Qe:=L4 (AM.run P ak n);simp only[lz]at Qe;cases hRs:A.state with|busy=>simp_all|ready=>exact Qe|done=>exact Qe|exhausted=>exact Qe
    split at h;.simp_all
    . rename_i m9;split at h;.rename_i L;refine step (.fJ _) rfl (λe=>m9 e) h λrc=>?_;rw[q4,L];rfl
      .rename_i L;refine step (.rt _) rfl (λe=>m9 e) h λrc=>?_;rw[q4,L];rfl
      .rename_i id L;refine step (.ext id _) rfl (λe=>m9 e) h λrc=>?_;rw[q4,L];rfl
      simp_all
  simp_all
 simp_all
end
section
variable{P:aH}{ak:ct}{rec:dW}{cf:bV}{K K' K1 K2:aY}{Y A φ0 φ1:cu}{B ω' ω0 fN ω1:aI}{H H' H1:Heap}{lb:ew}{g g':GH}{O st' st2:St}{tm:Tr AV}{fr fH:cJ}{bs:Nat}{rd:ah Nat}
def dV.todo{d t:List Item}(m:fr.mode=.run)(h:∀(rc:Rec)(fr:cJ),fr.mode=.run->body P ak rc {fr with todo:=d} H=rc {fr with todo:=t} H)(r:dV P ak {fr with todo:=t} H G):dV P ak {fr with todo:=d} H G:=r.step 0 λn _=>h _ fr m
theorem AX.here{r:List Item}{o:eH}(h:AX P ak bs rd K Y B H O fr r G o)(k:Ok K Y B H O fr.tmps)(d:xG bs rd fr O Y B H)(e:o.GJ=O):dV P ak {fr with todo:=JU o r} H G:=h K Y B H fr.tmps fr.defers (a45 k.hr) ai ai ai aU
theorem AX.trans{r:List Item}{o:eH}{w:Tr AV}{a:aE}(h:AX P ak bs rd K Y B H O fr r G o)(i:bg H)(n:Nx K Y B H K1 φ1 ω1 H1)(c:st1.n=O.n)(d:st1.fn=O.fn):AX P ak bs rd K1 φ1 ω1 H1 st1 {fr with tmps:=w,defers:=a} r G o:=λK' A ω' H' t m b Q e1 e2 f=>h K' A ω' H' t m (n.trans i b) Q ab ai f
theorem Pf(hC:rE P ak cf rec)(hY:wA P ak cf rec)(hI:wy P ak cf)(hL:Ho P ak cf rec)(G:Out->Prop):∀(c:bM)(O:St)(k:eH->ah bh)(s:bh)(K:aY)(Y:cu)(B:aI)(H:Heap)(fr:cJ)(rest:List Item),exec P cf rec rd c O k=J s->Ok K Y B H O fr.tmps->dB P K (λ_=>Z) cf.aq->xG bs rd fr O Y B H->(∀o,k o=J s->AX P ak bs rd K Y B H O fr rest G o)->dV P ak {fr with todo:=.code c::rest} H G:=by intro c;induction c with
 |skip=>intro O k s K Y B H fr rest h ok p d j;exact dV.todo d.mode (λrc fr F=>by obtain⟨_,_,_,_,_,m,_⟩:=fr;obtain rfl:m=.run:=F;rfl) ((j _ h).here ok d rfl)|label l=>intro O k s K Y B H fr rest h ok p d j;exact dV.todo d.mode (λrc fr F=>by obtain⟨_,_,_,_,_,m,_⟩:=fr;obtain rfl:m=.run:=F;rfl) ((j _ h).here ok d rfl)|seq a b I L=>
 intro O k s K Y B H fr rest h ok p d j;refine dV.todo d.mode (λrc fr F=>by obtain⟨_,_,_,_,_,m,_⟩:=fr;obtain rfl:m=.run:=F;rfl) ?_;refine I O _ _ K Y B H fr _ h ok p d λo u=>?_;intro K' A ω' H' t X D Q e1 e2 q;rcases o with st1|⟨id,st1⟩|st1;.exact L _ k _ K' A _ H' {fr with tmps:=t,defers:=X} _ u Q (p.mono D.ext (a00 _)) q λo2 uR=>(j o2 uR).trans ok.hr.inv D e1 e2
 .exact DJ (fr:={fr with tmps:=t,defers:=X}) d.mode aP aP (j _ u K' A _ H' _ _ D Q e1 e2 q)
 exact DJ (fr:={fr with tmps:=t,defers:=X}) d.mode aP aP (j _ u K' A _ H' _ _ D Q e1 e2 q)|cond x a b I L=>
 intro O k s K Y B H fr rest h ok p d j;have h:(match bj _ O x with|some (.bool y)=>bif y then exec P cf _ rd a O k else exec P cf _ rd b O k|_=>Z)=J _:=h;split at h
 . rename_i y hx;obtain⟨av,N,_,a3⟩:=oH (pS p) ok.hr ok.sl hx;obtain rfl:av=.bool y:=by cases a3;rfl
   cases y with|true=>refine a26 0 (λn _=>?_) (I O k _ K Y B H fr _ h ok p d j);obtain⟨_,_,_,_,_,m,_⟩:=fr;obtain rfl:m=.run:=d.mode;unfold body vw wE xR xS xT Bl;simp only at N|-;rw[N];rfl|false=>refine a26 0 (λn _=>?_) (L O k _ K Y B H fr _ h ok p d j);obtain⟨_,_,_,_,_,m,_⟩:=fr;obtain rfl:m=.run:=d.mode;unfold body vw wE xR xS xT Bl;simp only at N|-;rw[N];rfl
 grind|block id b T=>
 intro O k s K Y B H fr rest h ok p d j;refine dV.todo d.mode (λrc fr F=>by obtain⟨_,_,_,_,_,m,_⟩:=fr;obtain rfl:m=.run:=F;rfl) ?_;refine T O _ _ K Y B H fr _ h ok p d λo u=>?_;intro K' A ω' H' t X D Q e1 e2 q;have pop:dV P _ _ H' G->dV P ak {fr with tmps:=t,defers:=X,todo:=.inBlock id::rest} H' G:=λr=>dV.todo (fr:={fr with tmps:=t,defers:=X}) d.mode (λrc fr F=>by obtain⟨_,_,_,_,_,m,_⟩:=fr;obtain rfl:m=.run:=F;rfl) r;rcases o with st1|⟨i,st1⟩|st1;.exact pop (j _ u K' A _ H' _ _ D Q e1 e2 q)
 . have u:(bif aw i id then k _ else k _)=J _:=u;rw[bQ]at u;by_cases e:i=id
   . simp only[e,dX,aR]at u;have r:=j _ u K' A _ H' _ _ D Q e1 e2 q;refine r.step 0 λn _=>?_;have hb:=S5 (P:=P) (ak:=ak) (rc:=AM.run P ak n) (H:=H') (id:=i) (k:=.inBlock id::rest) (fr:={fr with tmps:=t,defers:=X}) d.mode;refine hb.trans ?_;have he:exitTo i (.inBlock id::rest)=J rest:=by grind[exitTo]
     rw[he];rfl
   .simp only[e,lC,ch]at u;exact DJ (fr:={fr with tmps:=t,defers:=X}) d.mode aP aU (j _ u K' A _ H' _ _ D Q e1 e2 q)
 exact DJ (fr:={fr with tmps:=t,defers:=X}) d.mode aP aP (j _ u K' A _ H' _ _ D Q e1 e2 q)|loop b _=>
 intro O k s K Y B H fr rest h ok p d j;obtain⟨r,hr,h⟩:=aF h;rcases r with⟨v,g⟩|o;.grind[fL]
 refine hL b _ rd o hr bs K Y B H fr _ G (V2 ok) p ⟨d.fn,d.n,d.mode,d.base,d.rd⟩ ?_;intro K' A ω' H' t X D Q e1 e2 q;exact j o h K' A _ H' _ _ D Q e1 e2 q|scope b T=>
 intro O k s K Y B H fr rest h ok p d j;refine dV.todo d.mode (λrc fr F=>by obtain⟨_,_,_,_,_,m,_⟩:=fr;obtain rfl:m=.run:=F;rfl) ?_;refine T O _ _ K Y B H fr _ h ok p d λo u=>?_;intro K' A ω' H' t X D Q e1 e2 q;rcases o with st1|⟨i,st1⟩|st1;.exact dV.todo (fr:={fr with tmps:=t,defers:=X}) d.mode (λrc fr F=>by obtain⟨_,_,_,_,_,m,_⟩:=fr;obtain rfl:m=.run:=F;rfl) (j _ u K' A _ H' _ _ D Q e1 e2 q)
 .exact DJ (fr:={fr with tmps:=t,defers:=X}) d.mode aP aP (j _ u K' A _ H' _ _ D Q e1 e2 q)
 exact DJ (fr:={fr with tmps:=t,defers:=X}) d.mode aP aP (j _ u K' A _ H' _ _ D Q e1 e2 q)|exit id=>intro O k s K Y B H fr rest h ok p d j;exact(j _ h).here ok d rfl|ret=>intro O k s K Y B H fr rest h ok p d j;exact(j _ h).here ok d rfl|region U ops E=>
 intro O k s K Y B H fr rest h ok p d j;have h:(bif !E||nI cf O _ then(km P cf _ _ _ _ _ _ 0 [] O).bind _ else Z)=J _:=h;have h2:∃st1,(bif !E||nI cf O ops.toList then km P cf rec (cf.tL O.fn) (cf.zI O.fn) E ops ops.toList 0 [] O else Z)=J st1/\k (.fJ (mask (cf.keep O.fn U) st1))=J s:=by
   rcases hc:(!E||nI cf O _)with _|_;.grind
   simp_all[aF]
 obtain⟨st1,h3,h4⟩:=h2;obtain⟨t,H',K',A,ω',⟨n0,r1⟩,r2,r3,W,r5⟩:=ZU (fr:={fr with todo:=rest}) hC hY hI ok p d.n h3;have q:=d.nx ok.hr.inv r2 W r5 t fr.todo;refine(j _ h4 K' A _ H' _ _ r2 (V2 r3) W r5 ⟨q.fn,q.n,q.mode,q.base,q.rd⟩).step n0 λn hn=>?_;have:=r1 n hn;obtain⟨fn,nn,aa,todo,R,m,M⟩:=fr;obtain rfl:m=.run:=d.mode;exact gT (λz=>sM z _) this|rangeFunc f S sS b _ _=>grind[aH0]|goto l=>intro O k s K Y B H fr rest h ok p d j;have h:(Z:ah _)=J _:=h;grind|refuse w=>intro O k s K Y B H fr rest h ok p d j;have h:(Z:ah _)=J _:=h;grind
end
section
variable{P:aH}{ak:ct}{rec:dW}{cf:bV}{K K' K1 K2:aY}{Y A φ0 φ1:cu}{B ω' ω0 fN ω1:aI}{H H' H1:Heap}{lb:ew}{g g':GH}{O st' st2:St}{tm tm':Tr AV}{fr fH:cJ}{rd:ah Nat}
def zl(K:aY)(d:cu)(e:aI)(H:Heap)(x:DV×aN)(a:AV)(f:ah (Nat×Bool)):Prop:=(∀r b,f=J (r,b)->(∀q c,e q≠J (r,c))/\r<H.next/\(b=V->∀j y,K j=J y->rootOf H j≠r))/\∀(ω0:aI)(p:Pk),ω0 p=f->cQ K d ω0 H p x.1 a x.2
theorem aMs(n:HR K Y B H lb g){o:Pk}{d:DV}(h:cQ K Y B H o d a ow){src:Pk->ah Pk}(A:∀q,src q≠J o):∃f,zl K Y (B.of src) H (d,ow) a f/\∀r b,f=J (r,b)->dO B r:=by
 have uZ:(∀(ω0:aI)(p:Pk),cQ K Y _ H p d a ow)->∃f,zl K Y (B.of src) H (d,ow) a f/\∀r b,f=J (r,b)->dO B r:=λh=>⟨Z,⟨λ_ _ h=>ai,λω0 p _=>h ω0 p⟩,λ_ _ h=>ai⟩;have N:∀r b,B o=J (r,b)->(∀(ω0:aI)(p:Pk),ω0 p=J (r,b)->cQ K Y ω0 H p d a ow)->∃f,zl K Y (B.of src) H (d,ow) a f/\∀r b,f=J (r,b)->dO B r:=by
  intro r b k W;refine⟨_,⟨λx t e=>?_,W⟩,λx t e=>?_⟩;.obtain⟨rfl,rfl⟩:=jf (bE e);refine⟨λq c w=>?_,n.cF _ _ _ k,λu j y v=>by subst u;exact n.clean _ _ _ _ k v⟩;obtain⟨z,l,i⟩:=a07 w;obtain rfl:=n.inj _ _ _ _ _ i k;grind
  .obtain⟨rfl,rfl⟩:=jf (bE e);exact⟨_,b,k⟩
 cases ow with|no=>exact uZ λ_ _=>h|any=>exact uZ λ_ _=>h|full e=>exact uZ λ_ _=>h|ty e=>
  obtain⟨l,i⟩:=h;rcases i with i|⟨r,b,m,s⟩;.exact uZ λ_ _=>⟨l,.inl i⟩
  .exact N r b m λω0 p k=>⟨l,aU⟩|ex e=>
  rcases h with i|⟨r,m,s⟩;.exact uZ λ_ _=>.inl i
  .exact N r _ m λω0 p k=>.inr ⟨r,k,s⟩
theorem zl.nx{x:DV×aN}{g:ah (Nat×Bool)}(h:zl K Y B H x a g)(l:bg H)(n:Nx K Y B H K' A ω' H):zl K' A ω' H x a g:=by
 refine⟨λr b e=>?_,λω0 p o=>?_⟩
 . obtain⟨i,k,t⟩:=h.1 r b e;have P:∀f,dO B f->f≠r:=λf⟨q,c,d⟩e=>i q c (e▸d);refine⟨λq c d=>?_,k,λv j y m=>?_⟩;.rcases n.lZ q r c d with⟨w,s,h⟩|h<;>grind
   .obtain⟨_,u⟩:=n.dy j y m;grind
 .exact(h.2 _ p o).keep l (a02 _ _) n.ext n.np λr b e=>⟨e,id⟩
theorem ajf{t:Tmp}{x:DV×aN}(k:Ok K Y B H O tm)(h:vf O t=J (x,st1)):∃a f ω',tm.get t=J a/\Ok K Y ω' H st1 tm/\zl K Y ω' H x a f/\(∀r b,f=J (r,b)->dO B r)/\(∀p r b,ω' p=J (r,b)->dO B r)/\st1.g=O.g:=by
 unfold vf at h;split at h;.rename_i d o l;obtain⟨rfl,rfl⟩:=jf (bE h);obtain⟨a,c,g,e⟩:=k.sl t _ l;have y:=g aP;obtain⟨f,k1,k2⟩:=aMs (src:=qc t) k.hr e (λq i=>by cases q<;>simp only[qc]at i<;>grind);refine⟨a,f,_,c,⟨k.hr.of (aaf t),RR k.hr k.sl l c y e⟩,k1,k2,λp r b h=>let⟨q,_,h⟩:=a07 h;⟨q,b,h⟩,rfl⟩
 grind
def Ju(P:aH)(m:Tr AV)(H:Heap):oS->ah AV|.tmp t=>J ((m.get t).getD fD)|.cell a t=>match(m.get a).getD fD with|.ptr id o=>AM.loadVar P H t id o|_=>Z
theorem aIF{r:oS}{z:DV×aN}(k:Ok K Y B H O tm')(Q:tm'.get (we r)=tm.get (we r))(h:Jv P O r=J (z,st1)):∃a f K' A ω' w,Ju P tm H r=J a/\Nx K Y B H K' A ω' H/\Ok K' A ω' H st1 w/\zl K' A ω' H z a f/\(∀r b,f=J (r,b)->dO B r)/\(∀t,t≠we r->w.get t=tm'.get t):=by
 rcases r with t|⟨c,t⟩;.obtain⟨a,f,ω',E,F,I,L,M,_⟩:=ajf k (show vf O t=J _ from h);refine⟨a,f,K,Y,_,_,?_,⟨a01 _,k.hr.gi (a02 (λ_=>False) _),a00 _,a02 _ _,λp r b N=>.inl (M p r b N),a35 _ _⟩,F,I,L,λ_ _=>rfl⟩;show J _=J a;have Q:tm'.get t=tm.get t:=Q;grind
 have d:∀(y:Loc)(b:LB)(o i:Nat)(r:SV×LB)(st2:St),O.at y=J b->B y.top=J (i,V)->pF K Y B H y.pk b i->tm'.get c=J (.ptr i o)->fI P .take t b o=J r->aG (O.setAt y r.2) (J c) r.1=J st2->vf st2 c=J (z,st1)->∃a f K' A ω' w,Ju P tm H (.cell c t)=J a/\Nx K Y B H K' A ω' H/\Ok K' A ω' H st1 w/\zl K' A ω' H z a f/\(∀r b,f=J (r,b)->dO B r)/\(∀v,v≠c->w.get v=tm'.get v):=by
   intro y b o i r st2 g hi lL W l G S;obtain⟨a,a1,T⟩:=H0 k.hr k.sl g hi lL l G;obtain⟨K1,ψ1,ω1,n,xc⟩:=T.nx (a35 _ _);obtain⟨a',f,ω2,E,F,I,L,M,_⟩:=ajf xc S;have:(tm'.ins c a).get c=J a:=a17 _ _ _;rw[show gX _ _ a=tm'.ins c a from rfl,this]at E;obtain rfl:=bE E;refine⟨a,f,K1,_,_,_,?_,⟨n.ext,n.dy,n.np,n.keep,λp r b N=>?_,n.log⟩,F,I,λr b e=>?_,λv Fi=>a11 _ _ ai⟩;.show(match(tm.get c).getD _ with|.ptr id o=>AM.loadVar P H t id _|_=>Z)=J a;rw[<-(show tm'.get c=tm.get c from Q),W];grind
   .obtain⟨q,D,m⟩:=M p r b N;exact n.lZ q r D m
   . obtain⟨q,D,m⟩:=L r b e;rcases n.lZ q r D m with h|h;.omega
     .have:=xc.hr.cF _ _ _ m;omega
 have h:(match look O.sl c with|some (.lp s o)=>(look _ s).bind _|some (.dv (.ptr id o) _)=>(match O.g.get id with|some (.box b)=>(fI P _ t b _).bind _|_=>Z)|_=>Z)=J _:=h;split at h;.rename_i s o l;obtain⟨b,g,h⟩:=aF h;obtain⟨r,hr,h⟩:=aF h;obtain⟨st2,G,h⟩:=aF h;obtain⟨i,u,R,_⟩:=k.hr.at (x:=.l s) g;obtain⟨a,g1,_,g3⟩:=k.sl c _ l;exact d (.l s) b _ i r _ g u R (by rw[g1,g3 i _ u]) hr G h
 . rename_i id o ow l;split at h
   . rename_i b hgb;obtain⟨r,hr,h⟩:=aF h;obtain⟨st2,G,h⟩:=aF h;have U:O.at (.g id)=J b:=by grind[St.at]
     obtain⟨i,u,R,i3⟩:=k.hr.at U;obtain⟨a,g1,_,g3⟩:=k.sl c _ l;have X:=a57 k.hr g3;cases X with|ptr _ _ j hj=>have:=i3 id rfl;rw[hj]at this;obtain rfl:=bE this;exact d _ b _ j r _ U u R g1 hr G h
   grind
 grind
theorem aDo:∀{l:aE},yF l=V->l.Nodup:=by intro l;induction l<;>grind[yF,bQ]
theorem atH:∀(l:List oS)(e:List (DV×aN))(O st2:St)(K:aY)(Y:cu)(B:aI)(tm':Tr AV),tK P l O=J (e,st2)->Ok K Y B H O tm'->(∀t,t∈l.map we->tm'.get t=tm.get t)->(l.map we).Nodup->∃(aS:aJ)(s:List (ah (Nat×Bool)))(K':aY)(A:cu)(ω':aI)(m:Tr AV),cB (Ju P tm H) l=J aS/\Nx K Y B H K' A ω' H/\Ok K' A ω' H st2 m/\e.length=aS.length/\e.length=s.length/\(∀(j:Nat)(x:DV×aN)(a:AV)(g:ah (Nat×Bool)),e[j]?=J x->aS[j]?=J a->s[j]?=J g->zl K' A ω' H x a g)/\(∀(j:Nat)(r:Nat)(b:Bool),s[j]?=J (J (r,b))->dO B r)/\∀(i j:Nat)(r:Nat)(b c:Bool),s[i]?=J (J (r,b))->s[j]?=J (J (r,c))->i=j:=by intro l;induction l with|nil=>intro e O st2 K Y B tm' h ok _ _;obtain⟨rfl,rfl⟩:=jf (bE (show J ([],O)=J (e,st2)from h));exact⟨[],[],K,Y,B,tm',rfl,a45 ok.hr,ok,rfl,rfl,λj x a g h=>ai,λj r b h=>ai,λi j r b c h=>ai⟩|cons r l W=>
 intro e O st2 K Y B tm' h ok R F;have h:((Jv P O r).bind λx=>(tK P l x.2).bind λy=>J (x.1::y.1,y.2))=J (e,st2):=h;obtain⟨⟨x,st1⟩,T,h⟩:=aF h;obtain⟨⟨ys,G⟩,U,h⟩:=aF h;obtain⟨rfl,rfl⟩:=jf (bE h);rw[gb,List.nodup_cons]at F;obtain⟨a,g,K1,n,ω1,X,a1,u,v,w,a5,a6⟩:=aIF (tm:=tm) ok (R _ aP) T;obtain⟨aS,s,K2,o,p,m,b1,z,L,b4,b5,b6,D,b8⟩:=W ys st1 G K1 n ω1 X U v (λt S=>by grind) F.2;have I:∀(j:Nat)(d:Nat)(b c:Bool),g=J (d,b)->s[j]?=J (J (d,c))->False:=by intro j d b c e1 e2;obtain⟨q,M,k⟩:=D j d c e2;exact(w.1 d b e1).1 q M k
 refine⟨a::aS,g::s,K2,o,p,m,?_,u.trans ok.hr.inv z,L,ai,ai,?_,?_,?_⟩;.grind[cB]
 .intro j y c f E N Q;cases j with|zero=>cases E;cases N;cases Q;exact w.nx ok.hr.inv z|succ j=>grind
 .intro j d b E;cases j with|zero=>grind|succ j=>
  obtain⟨q,c,k⟩:=D j d b ai;rcases u.lZ q d c k with h|h;.omega
  .have:=v.hr.cF _ _ _ k;omega
 grind
theorem HR.aop{l:Pk->ah (Nat×Bool)}(d:HR K Y B H lb g)(s:∀p x,l p=J x->p.slot)(P:∀p r b,l p=J (r,b)->(∀q c,B q≠J (r,c))/\r<H.next/\(b=V->∀j y,K j=J y->rootOf H j≠r))(O:∀p q r b c,l p=J (r,b)->l q=J (r,c)->p=q):HR K Y (λp=>(l p).or (B p)) H lb g:=by
 have back:∀p r b,(l p).or (B p)=J (r,b)->l p=J (r,b)\/(l p=Z/\B p=J (r,b)):=by simp_all
 refine d.vd (a01 _) (λq k=>?_) d.dy ?_ ?_ ?_;.cases i:l q<;>grind
 . intro p q r b c a e;rcases back p r b a with h|⟨_,h⟩;.grind
   . rcases back q r c e with f|⟨_,f⟩;.grind
     .exact d.inj _ _ _ _ _ h f
 . intro p r j x a e;rcases back p r _ a with h|⟨_,h⟩;.grind
   .exact d.clean p r j x h e
 . intro p r b a;rcases back p r b a with h|⟨_,h⟩;.grind
   .exact d.cF _ _ _ h
def AU(P:aH)(K:aY)(b:cu)(c:aI)(H:Heap)(v:SV)(g:GH)(o:Out):Prop:=∃a H' K' A ω',o=.ret a H'/\Nx K b c H K' A ω' H'/\HR K' A ω' H' [] g/\j9 K' A ω' H' v a
theorem aeg(W:Ok K Y B H O tm)(h:ye P fn O=J (.val v g')):∃a K' A ω',((cB (Ju P tm H) fn.results.toList).map λ|[v]=>v|F=>.cO F)=J a/\Nx K Y B H K' A ω' H/\HR K' A ω' H [] g'/\j9 K' A ω' H v a:=by unfold ye at h;cases L:yF (fn.results.toList.map we)with|false=>grind|true=>rw[L]at h;simp only[aR]at h;cases I:tK P fn.results.toList O with|none=>grind|some y=>
 obtain⟨i,st2⟩:=y;rw[I]at h;obtain⟨rfl,rfl⟩:=bh.val.inj (bE h);obtain⟨aS,s,K',A,ω',xq,X,e,M,G,N,n,b7,b8⟩:=atH (tm:=tm) _ _ _ _ K Y B tm I W (λ_ _=>rfl) (aDo L);have z:=M.hr.callee C C;have U:∀p r b,(ω'.of (lO C)) p=J (r,b)->ω' p=J (r,b):=λp r b h=>by grind[aI.iI,MN]
 have g:∀(j:Nat)(f:ah (Nat×Bool)),s[j]?=J f->∃x a,i[j]?=J x/\aS[j]?=J a:=λj f k=>by have o:=(am.1 k).1;exact⟨_,_,dC ab,dC ab⟩
 have fin:∀(l:Pk->ah (Nat×Bool))(E:Nat->Pk),(∀p x,l p=J x->∃j,p=E j/\s[j]?=J (J x))->(∀j,(E j).slot)->∃d,(∀p,d p=(l p).or ((ω'.of (lO C)) p))/\Nx K Y B H K' A d H/\HR K' A d H [] st2.g:=by
  intro l E T cW;refine⟨λp=>(l p).or ((ω'.of (lO C)) p),λ_=>rfl,⟨e.ext,e.dy,e.np,e.keep,λp r b h=>?_,e.log⟩,HR.aop z (λp x h=>?_) (λp r b h=>?_) (λp q r b c h1 h2=>?_)⟩;.cases R:l p with|none=>rw[R]at h;exact e.lZ p r b (U p r b h)|some x=>grind
  .grind
  .obtain⟨j,_,k⟩:=T p (r,b) h;obtain⟨x,a,D,Q⟩:=g j _ k;obtain⟨k1,k2,k3⟩:=(n j x a _ D Q k).1 r b rfl;grind
  grind
 have cO:DH i=.tp i->aS.length≠1->∃a K' A ω',((cB (Ju P tm H) fn.results.toList).map λ|[v]=>v|F=>AV.cO F)=J a/\Nx K Y B H K' A ω' H/\HR K' A ω' H [] st2.g/\j9 K' A ω' H (DH i) a:=by
  intro e1 e2;obtain⟨d,u,w,c3⟩:=fin (λp=>match p with|.tp 0 j=>(s[j]?).join|_=>Z) (λj=>.tp 0 j) (λp x h=>by grind) (λ_=>trivial);refine⟨.cO aS,K',A,d,?_,w,c3,?_⟩;.grind
  .rw[e1];refine⟨aS,rfl,G,λj x y D S=>?_⟩;have o:j<s.length:=ai;refine(n j x y _ D S (dC o)).2 d (.tp 0 j) ?_;rw[u];show((s[j]?).join).or _=_;rw[dC o];show(s[j]).or ((ω'.of (lO C)) (.tp 0 j))=s[j];have:(ω'.of (lO C)) (.tp 0 j)=Z:=rfl;grind
 by_cases m:i.length=1
 .obtain⟨x,rfl⟩:=List.length_eq_one_iff.1 m;obtain⟨a,rfl⟩:=List.length_eq_one_iff.1 (by rw[<-G];exact m);obtain⟨f0,rfl⟩:=List.length_eq_one_iff.1 (by rw[<-N];exact m);obtain⟨d,u,w,c3⟩:=fin (λp=>match p with|.sl 0=>f0|_=>Z) (λ_=>.sl 0) (λp x h=>by cases p with
  |sl t=>cases t with|zero=>have h:f0=J x:=h;exact⟨0,rfl,ai⟩|succ t=>grind
  |_=>grind) (λ_=>trivial);refine⟨a,K',A,d,ai,w,c3,?_⟩;refine(n 0 x a f0 rfl rfl rfl).2 d (.sl 0) ?_;rw[u];show f0.or ((ω'.of (lO C)) (.sl 0))=f0;have:(ω'.of (lO C)) (.sl 0)=Z:=rfl;grind
 .refine cO ?_ ab;match i,m with|[],_=>rfl|[_],h=>grind|_::_::_,_=>rfl
end
section
variable{P:aH}{K K':aY}{Y:cu}{B:aI}{H:Heap}{g g':GH}
theorem aI3(b:LB)(o l e:Nat)(a:Bool):(yM b o l e a).length=l:=by simp[yM]
theorem ajp(b:LB)(o l e:Nat)(a:Bool){i:Nat}(h:i<l):(yM b o l e a)[i]?=J (bif a then .agg ((b.cells.drop (o+i*e)).take e)else((b.cells.drop (o+i*e)).headD .nl)):=by grind[yM]
theorem ajo{c:ao}{o l e i:Nat}{a:Bool}(s:∀(k:Nat)(d:DV),c[k]?=J d->d.aV=V)(h:o+l*e<=c.length)(f:a=V\/e=1)(j:i<l):((bif a then DV.agg ((c.drop (o+i*e)).take e)else((c.drop (o+i*e)).headD .nl)).flat)=(c.drop (o+i*e)).take e:=by cases a with|true=>rfl|false=>obtain rfl:e=1:=ai;have b:o+i*1<c.length:=ab;have g:=dC b;have hd:=(Ei b);rw[hd];generalize c[o+i*1]=d at*;cases d<;>first|rfl|grind[DV.aV]
theorem fq(E:HR K Y B H [] g){d d2:DV}(h:xu P g d=J d2)(L:DR (K.plus H λr=>∃p,B p=J (r,V)) Y d a):DR (K.plus H λr=>∃p,B p=J (r,V)) Y d2 a/\(d.aV=V->d2.aV=V):=by cases d with
 |cY id n len e s=>
 simp only[xu]at h;split at h;.rename_i b A hb hag;cases w:(bz (n+len*s) b.cells.length&&bz 1 s&&(A||aw s 1)&&b.own.any (λx=>isFull e x.2))with|false=>rw[w]at h;simp at h|true=>rw[w]at h;cases h;simp only[gD,AW,bQ,dp,jB]at w;obtain⟨⟨⟨Q,q2⟩,q3⟩,q4⟩:=w;refine⟨?_,λ_=>rfl⟩;cases L with|cY _ _ _ _ _ i c hi hc=>
  obtain⟨i',N,O,p3⟩:=E.jm id _ hb;rw[hi]at N;cases N;obtain⟨m,fl,D,G,U,X,h4,h5,I⟩:=p3;obtain rfl:D=e:=by obtain⟨⟨k,o⟩,o1,M⟩:=List.any_eq_true.1 q4;cases o with
   |full t=>
    have o3:t=e:=by simpa[bQ,isFull]using M
    exact(U.2 k t o1).symm.trans o3|_=>simp[isFull]at M
  have z:=lS G;have hK:K.plus H (λr=>∃p,B p=J (r,V)) i=J (m,D):=by
   unfold aY.plus;have R:K i=Z:=by
    rcases f:K i with _|x;.rfl
    exact absurd z (E.clean _ _ i x O f)
   rw[R];rw[if_pos ⟨⟨.g id,by rw[z];exact O⟩,by rw[z];exact h4,by rw[z];exact X⟩];exact Qm G
  have F:∀(k:Nat)(d:DV),b.cells[k]?=J d->d.aV=V:=λk d f=>by have bZ:=(am.1 f).1;exact(I k d _ f (dC ab)).1
  have l:=aI3 b n len s A;have v:=DR.ay (Y:=Y) (yM b n len s A) D s i n c m hK q2 (by rw[l];omega) (λk f=>by rw[l];exact hc k f) (λj x q=>by
    have u:j<len:=by have:=(am.1 q).1;omega
    rw[ajp _ _ _ _ _ u]at q;cases q;have he:=ajo F Q q3 u;have jb:(j+1)*s<=len*s:=lW _ u;rw[xK]at jb;rw[he];refine⟨by rw[sL,List.length_drop];omega,λy hy=>?_⟩;obtain⟨k,f⟩:=a8.1 (SA (SB hy));exact F k y f) (λj x k T S q W wM=>by
    have u:j<len:=by have:=(am.1 q).1;omega
    rw[ajp _ _ _ _ _ u]at q;cases q;rw[ajo F Q q3 u]at W;have f:k<s:=by have:=(am.1 W).1;rw[sL]at this;omega
    rw[CG f,xI]at W;exact(cQ.Gc E (λr hr=>⟨_,hr⟩) (I _ T S W wM).2).2);rw[l]at v;exact v
 .simp at h|_=>cases h;exact⟨L,id⟩
theorem akr(f:HR K Y B H [] g){d e:DV}(h:Sd P g d=J e)(b:DR (K.plus H λr=>∃p,B p=J (r,V)) Y d a):DR (K.plus H λr=>∃p,B p=J (r,V)) Y e a:=by cases d with
 |agg l=>obtain⟨l2,s,rfl⟩:=iK.1 h;obtain⟨w,n⟩:=FI s;cases b with|agg _ m u v o=>
 refine .agg l2 m ab (λd b=>?_) (λi d a k t=>?_);.obtain⟨i,q⟩:=a8.1 b;have c:i<l.length:=ai;have g0:=dC c;obtain⟨j,e1,e2⟩:=n i _ g0;rw[q]at e2;cases e2;exact(fq f e1 (o i _ _ g0 (dC ab))).2 aU
 .have c:i<l.length:=ai;have g0:=dC c;obtain⟨j,e1,e2⟩:=n i _ g0;rw[k]at e2;cases e2;exact(fq f e1 ai).1
 |_=>exact(fq (P:=P) (d2:=e) f (by exact h) b).1
theorem aNg(f:HR K Y B H [] g){w:SV}{k:GH}(u:j9 K Y B H v a)(h:AR P (.val v g)=J (.val w k)):∃K' i,Nx K Y B H K' Y i H/\HR K' Y i H [] k/\j9 K' Y i H w a:=by
 let R:=λr=>∃p,B p=J (r,V);obtain⟨n,_,_,_⟩:=Rb f R (λr h=>h);have E:k={g with kj:=[]}:=by cases v with|dv d o=>obtain⟨_,_,e⟩:=iK.1 h;grind|tp l=>obtain⟨_,_,e⟩:=iK.1 h;grind|_=>grind[AR]
 refine⟨K.plus H R,λ_=>Z,⟨a27 _ _ _,λj x t=>?_,a00 _,a02 _ _,λp r b h=>ai,a35 _ _⟩,?_,?_⟩
 . obtain⟨cells,e⟩:=x;obtain⟨root,I,k1,_⟩:=n j _ e t;refine⟨f.inv.get _ _ k1,?_⟩;rcases aY.WL t with h|⟨p,h⟩;.grind
   .exact .inr (.inl ⟨p,_,h⟩)
 .subst E;exact⟨f.inv,n,λp q r b c h=>ai,λp r id x h=>ai,λp r b h=>ai,λs b h=>by grind[look],λid o h=>by grind[GH.get,look],f.mZ,f.hQ⟩
 .cases v with|dv d o=>obtain⟨d2,e1,e2⟩:=iK.1 h;obtain⟨rfl,_⟩:=bh.val.inj e2;exact akr f e1 (cQ.Gc f ai u).2|tp l=>obtain⟨l2,e1,e2⟩:=iK.1 h;obtain⟨rfl,_⟩:=bh.val.inj e2;obtain⟨M,G⟩:=FI e1;obtain⟨m,rfl,L,F⟩:=u;refine⟨m,rfl,ab,λj x y A D=>?_⟩;have z:j<l.length:=ai;have g0:=dC z;obtain⟨N,k1,k2⟩:=G j _ g0;rw[A]at k2;cases k2;obtain⟨d2,k3,rfl⟩:=iK.1 k1;exact akr f k3 (cQ.Gc f ai (F j _ y g0 D)).2|_=>grind[AR]
end
def Oi(P:aH)(k:ct)(e:bV):Prop:=∀f args v,e.iW f args=J (J v)->∀ow,(e.fk f=2->vZ ow=V)->∀g K h j H aS,HR K h j H [] g->dB P K (λ_=>Z) e.aq->pE K h j H args ow aS->∃a c d i b,Ev P k f aS H a c/\Nx K h j H d i b c/\HR d i b c [] g/\j9 d i b c v a
section
variable{P:aH}{ak:ct}{rec:dW}{cf:bV}{K K' K1 K2:aY}{Y A φ0 φ1:cu}{B ω' ω0 fN ω1:aI}{H H' H1:Heap}{lb:ew}{g g':GH}{O st' st2:St}{tm tm':Tr AV}{fr fH:cJ}{rd:ah Nat}
def dV.imp{a:Out->Prop}(h:∀o,G o->a o)(r:dV P ak fr H G):dV P ak fr H a:=let⟨n,o,b,c⟩:=r;⟨n,o,b,h o c⟩
theorem AU.trans{o:Out}(i:bg H)(n:Nx K Y B H K1 φ1 ω1 H1)(h:AU P K1 φ1 ω1 H1 v g' o):AU P K Y B H v g' o:=by obtain⟨a,H',K',A,ω',b,c,d,e⟩:=h;exact⟨a,H',K',A,_,b,n.trans i c,d,e⟩
theorem awL{o:cq}(k:Ok K Y B H O tm)(q:H.get r=J o0)(d:o0.eA=C)(g:o.eA=C)(P:¬dO B r){s:aY}{c:Heap}(n:Nx s φ0 ω0 c K Y B H)(R:c.next<=r)(Q:c.bA<=c.next):Ok K Y B (H.put r r o) O tm/\Nx s φ0 ω0 c K Y B (H.put r r o):=by
 have u:=ut (r:=r) q d g;have S:∀{id l a f e},H.get id=J (.cells l a f e)->a≠r:=by intro id l a f e h N;obtain⟨T,y,e2,z⟩:=k.hr.inv.oK _ _ _ _ _ h;grind[cq.eA]
 have U:∀id x,K id=J x->¬rootOf H id=r:=by intro id x I;obtain⟨cells,e⟩:=x;obtain⟨a,f,g1,_⟩:=k.hr.dy id _ e I;grind[lS]
 have L:∀p a b,B p=J _->¬a=r:=λp a b G e=>P ⟨p,b,e▸G⟩;refine⟨⟨k.hr.frame u (uQ k.hr.inv q d g) (akp k.hr.hQ q d g) L U,λt v E=>?_⟩,n.ext,λj x D=>?_,n.np,?_,n.lZ,n.log.1,λa hr=>?_,n.log.2.2⟩;.obtain⟨w,g1,g2,g3⟩:=k.sl t v E;refine⟨w,g1,g2,?_⟩;cases v with|gr id M=>obtain⟨i,m,root,f,e,k1,k2,k3⟩:=g3;refine⟨i,m,root,f,e,k1,?_,k3⟩;grind[pq,cq.eA]|_=>exact g3.keep k.hr.inv u (a01 _) (a00 _) ai ai ai ai
 .rw[Rq q d g];exact n.dy j x D
 .refine⟨n.keep.next,λid hid F=>?_,n.keep.dz,λid hid=>by rw[Rq q d g];exact n.keep.root id hid⟩;rw[pq H r _ ab];exact n.keep.get id hid F
 . rcases vU hr with h|⟨z,A⟩;.exact n.log.2.1 a h
   .rw[n.log.1]at A;omega
def K8(P:aH)(c:bV)(f:bY)(n:Func)(s:St):ah bh:=bif c.AQ f then(ye P n s).bind (AR P)else ye P n s
theorem atI(h:K8 P cf f fn O=J (.val v g')):(ye P fn O=J (.val v g'))\/∃a g1,ye P fn O=J (.val a g1)/\AR P (.val a g1)=J (.val v g'):=by unfold K8 at h;cases u:cf.AQ f with|false=>rw[u]at h;exact .inl h|true=>rw[u]at h;obtain⟨r,c,b⟩:=aF h;cases r with|val a g1=>exact .inr ⟨a,g1,c,b⟩|_=>simp[AR]at b
theorem atJ(o:Ok K Y B H O tm)(h:K8 P cf f fn O=J (.val v g')):∃a K' A ω',((cB (Ju P tm H) fn.results.toList).map λ|[v]=>v|s=>.cO s)=J a/\Nx K Y B H K' A ω' H/\HR K' A ω' H [] g'/\j9 K' A ω' H v a:=by
 rcases atI h with h|⟨n,g1,l,m⟩;.exact aeg o h
 .obtain⟨a,K',A,ω',c,d,e,g⟩:=aeg o l;obtain⟨K2,b,i,j,k⟩:=aNg e g m;exact⟨a,K2,A,b,c,d.trans o.hr.inv i,j,k⟩
theorem aIO{e:aY}{b:Heap}{nn:Nat}(G:bg b)(y:P.funcs[f]?=J fn)(U:K8 P cf f fn O=J (.val v g')):∀(s:aE)(H:Heap)(t:List Item),Nx e φ0 ω0 b K Y B H->Ok K Y B H O tm->s.Nodup->(∀r,r∈s->H.get r=J (.deferred V)/\¬dO B r/\b.next<=r)->dV P ak {fn:=f,n:=nn,tmps:=tm,todo:=t,defers:=s,mode:=.returning,roundOf:=Z} H (AU P e φ0 ω0 b v g'):=by intro s;induction s with
 |nil=>
 intro H t n ok _ _;obtain⟨a,K',A,ω',h,c,d,g⟩:=atJ ok U;refine⟨1,_,?_,a,H,K',A,_,rfl,n.trans G c,d,g⟩;show(Li f λf=>P.funcs[f]?).bind _=_;rw[Uv,y];have:Jx P fn {fn:=f,n:=nn,tmps:=tm,todo:=t,defers:=[],mode:=.returning,roundOf:=Z} H=J a:=by refine Eq.trans ?_ h;rfl
 grind|cons r s i=>
 intro H t n ok q p;obtain⟨h,c,d⟩:=p r fU;rw[List.nodup_cons]at q;obtain⟨FZ,j⟩:=awL (o:=.deferred C) ok h rfl rfl c n d G.bA;refine a26 0 (λm _=>?_) (i _ t j FZ q.2 λk L=>?_);.show(match H.get r with|some (.deferred V)=>AM.run P _ m {fn:=f,n:=nn,tmps:=tm,todo:=t,defers:=s,mode:=.returning,roundOf:=Z} _|_=>Z)=_;grind
 grind[pq]
theorem amn:∀(aS:aJ)(t0:Tr AV)(i t:Nat),(fV (λ(p:Tr AV×Nat)a=>(p.1.ins p.2 a,fj p.2)) aS (t0,i)).1.get t=if i<=t/\t<i+aS.length then aS[t-i]? else t0.get t:=by intro aS;induction aS with|nil=>intro t0 i t;rw[if_neg ai];rfl|cons a aS h=>intro t0 i t;have:(fV _ (a::aS) (t0,i))=fV (λ(p:Tr AV×Nat)a=>(p.1.ins p.2 a,fj p.2)) aS _:=rfl;grind[Tr.lG,Tr.jC]
theorem aml:∀(l:ao)(i:Nat)(ow:aN)(t:Nat)(s:SV),look (uB i ow l) t=J s->∃d,i<=t/\l[t-i]?=J d/\s=.dv d (if t=i then ow else .no):=by intro l;induction l<;>grind[uB,look,bQ]
theorem anR(N:rE P ak cf rec)(U:wA P ak cf rec)(O:wy P ak cf)(R:Ho P ak cf rec)(T:Oi P ak cf)(S:∀f args aS H,cf.iW f args=Z->ak f aS H=Z):rE P ak cf (y7 P cf rec):=by intro f args ow g v g' h K Y B H aS k w x;simp only[y7]at h;cases q:cf.iW f _ with
 |some r=>
 rcases r with _|v0;.grind
 have hx:cf.fk f=2->vZ ow=V:=λe=>by cases j:vZ ow<;>simp_all
 obtain⟨a,H',K',A,ω',h1,c,z,D⟩:=T f _ v0 q ow hx g K Y B H aS k w x;grind|none=>
 rw[q]at h;obtain⟨fn,yq,h⟩:=aF h;obtain⟨b,hb,h⟩:=aF h;rw[dp]at h;by_cases l:args.length<=fn.ntmps
 . simp only[l,dX,aR]at h;have u:=S f args aS H q;have F:aS.length<=fn.ntmps:=by rw[<-x.1];omega
   have I:wJ P f aS=J {fn:=f,n:=fn.ntmps,tmps:=(fV (λ(p:Tr AV×Nat)a=>(p.1.ins p.2 a,fj p.2)) aS (Tr.nil,0)).1,todo:=[.code b],defers:=[],mode:=.run,roundOf:=Z}:=by grind[wJ,dp,dZ]
   have L:Ok K Y B H {fn:=f,n:=fn.ntmps,sl:=uB 0 ow args,lb:=[],g:=g} (fV (λ(p:Tr AV×Nat)a=>(p.1.ins p.2 a,fj p.2)) aS (Tr.nil,0)).1:=by
    refine⟨k,λt sv hl=>?_⟩;obtain⟨d,_,c,rfl⟩:=aml _ _ _ _ _ hl;rw[Nat.sub_zero]at c;have s:t<aS.length:=by rw[<-x.1];grind
    have X:aS[t]?=J aS[t]:=dC s;have W:=x.2 t d _ c X;exact⟨aS[t],by grind[amn],λ_=>W.rh,W⟩
   have jo:=Pf (rd:=Z) (bs:=H.next) N U O R (AU P K Y B H v g') b _ _ _ K Y B H {fn:=f,n:=fn.ntmps,tmps:=(fV (λ(p:Tr AV×Nat)a=>(p.1.ins p.2 a,fj p.2)) aS (Tr.nil,0)).1,todo:=[.code b],defers:=[],mode:=.run,roundOf:=Z} [] h L w ⟨rfl,rfl,rfl,bT _,rfl,List.nodup_nil,λr h=>ai⟩ (λo j=>by
    have y:∀st1,(o=.fJ st1\/o=.rt st1)->K8 P cf f fn st1=J (.val v g')->AX P ak H.next Z K Y B H {fn:=f,n:=fn.ntmps,sl:=uB 0 ow args,lb:=[],g:=g} {fn:=f,n:=fn.ntmps,tmps:=(fV (λ(p:Tr AV×Nat)a=>(p.1.ins p.2 a,fj p.2)) aS (Tr.nil,0)).1,todo:=[.code b],defers:=[],mode:=.run,roundOf:=Z} [] (AU P K Y B H v g') o:=by
     intro st1 E pU K' A ω' H' tm' mX n' Q e1 e2 M;obtain⟨_,r2,r3⟩:=M.rd;have G:o.GJ=st1:=by rcases E with rfl|rfl<;>rfl
     rw[G]at Q;have hr:=aIO (ak:=ak) (nn:=fn.ntmps) k.inv yq pU mX H' (JU o []) n' Q r2 r3;refine a26 0 (λm _=>?_) hr;rcases E with rfl|rfl<;>rfl
    cases o with|fJ st1=>exact y st1 (.inl rfl) j|rt st1=>exact y st1 (.inr rfl) j|ext i st1=>simp at j);obtain⟨n,o,hn,a,H',K',A,ω',rfl,c,z,D⟩:=jo;exact⟨a,H',K',A,_,.inr ⟨u,_,I,n,hn⟩,λ_=>u,c,z,D⟩
 grind
theorem aBR(g:rE P ak cf rec)(j:wA P ak cf rec)(I:wy P ak cf)(L:Ho P ak cf rec):Ho P ak cf (y7 P cf rec):=by
 intro b O rd o h bs K Y B H fr rest G ok i d c;refine dV.todo d.mode (λrc fr k=>by obtain⟨_,_,_,_,_,m,_⟩:=fr;obtain rfl:m=.run:=k;rfl) ?_;refine Pf g j I L G b O _ _ K Y B H fr _ h ok i d λl a=>?_;intro K' A ω' H' tm' X n Q e1 e2 f;rcases l with st1|⟨id,st1⟩|st1;.have hr:=L b _ rd o a bs K' A _ H' _ _ G (V2 Q) (i.mono n.ext (a00 _)) ⟨f.fn,f.n,f.mode,f.base,f.rd⟩ (c.trans ok.hr.inv n (by rw[<-e1];rfl) (by rw[<-e2];rfl));refine dV.same (λrc=>?_) hr;obtain⟨fn,nn,t,todo,e,m,r⟩:=fr;obtain rfl:m=.run:=d.mode;rfl
 .obtain rfl:=bh.out.inj (bE a);exact DJ (fr:={fr with tmps:=tm',defers:=X}) d.mode aP aP (c K' A _ H' _ _ n Q e1 e2 f)
 obtain rfl:=bh.out.inj (bE a);exact DJ (fr:={fr with tmps:=tm',defers:=X}) d.mode aP aP (c K' A _ H' _ _ n Q e1 e2 f)
theorem aHb{s:db}{p:Tmp}{d:DV}(h:xM K Y tm s)(g:DR K Y d a):xM K Y (tm.ins p a) (put s p (.dv d .no)):=by
 intro t v l;rw[me]at l;by_cases e:t=p;.subst e;rw[if_pos rfl]at l;cases l;grind[Tr.lG]
 .rw[if_neg e]at l;obtain⟨b,c,f⟩:=h t v l;grind[Tr.jC]
theorem aKa{n:Nat}:∀(s:List Tmp)(b:ao)(aS:aJ)(sl:db)(tm:Tr AV),xM K Y tm sl->bF K Y b aS->b.length=s.length->(∀p,p∈s->p<n)->xM K Y (fV (λt(p:Tmp×AV)=>bif cw p.1 n then t.ins p.1 p.2 else t) (List.zip s aS) tm) (Ct s b sl):=by intro s;induction s with|nil=>intro b aS sl tm h _ _ _;exact h|cons p s i=>
 intro b aS sl tm h hd l e;rcases b with _|⟨d,b⟩;.grind
 obtain⟨a,t,rfl,c,P⟩:=hd.cons_inv;have:fV (λt(p:Tmp×AV)=>bif cw p.1 n then t.ins p.1 p.2 else t) (List.zip (p::s) (a::t)) tm=fV (λt(p:Tmp×AV)=>bif cw p.1 n then t.ins p.1 p.2 else t) (List.zip s t) (tm.ins p a):=by show fV _ (List.zip s t) (bif cw p n then tm.ins p a else tm)=_;grind[eP]
 rw[this];exact i b t _ _ (aHb h c) P ai λq f=>e q ai
theorem aHa{s:db}(h:xM K Y tm s):cg K Y B H tm s:=by intro t v l;obtain⟨a,c,b⟩:=h t v l;refine⟨a,c,?_⟩;cases v with
 |dv d o=>cases o with|no=>exact⟨λ_=>DR.rh b,b⟩|any=>exact⟨λ_=>ai,b⟩|_=>grind
 |ev d=>refine⟨λ_=>?_,b⟩;grind|dd=>exact⟨λh=>absurd rfl h,trivial⟩|_=>grind
