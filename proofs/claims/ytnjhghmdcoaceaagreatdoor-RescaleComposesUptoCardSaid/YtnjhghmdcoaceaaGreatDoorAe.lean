/- Proved: the value machine is sound; the tables of this program and the laws by which its code is stepped through. -/
import Derived.Test.YtnjhghmdcoaceaaGreatDoorAd
open Option renaming some->J,none->Z
open Bool renaming true->V,false->C
open Go renaming TypeId->an,Oper->aB,Value->aD,Program->aH,Operand->aK,World->aT,Code->bM,FuncId->bY,Frame->dm,lone->fh,IntKind->fT,ResultVar->oS
open Go.Lib renaming compact->tB
open Go.Op renaming operands->eO,mapUpdate->rI
open Int renaming ofNat->du,add->jX
open List renaming rec->ja,replicate->mr
open Nat renaming beq->aw,ble->bz,blt->cw,succ->fj,mul->fA,add->iw
open SizeOf renaming sizeOf->pM
open UInt8 renaming toNat->ko
noncomputable section
set_option maxRecDepth 100000
set_option maxHeartbeats 4000000
set_option linter.all false
namespace Go.VM
open Go Go.AM
variable{α:Type}{j:CF}{x:bh}
section
variable{P:aH}{ak:ct}{rec:dW}{cf:bV}{K K' K1 K2:aY}{Y A φ0 φ1:cu}{B ω' ω0 fN ω1:aI}{H H' H1:Heap}{lb:ew}{g g':GH}{O st' st2:St}{tm tm':Tr AV}{fr fH:cJ}{rd:ah Nat}
def ef(p:ah bM):LoopState:=match p with|none=>.ready|some _=>.done
theorem Ue{d:aY}{c:Heap}{l i:Nat}{p:ah bM}{v:SV}(G:bg c)(n:Nx d φ0 ω0 c K Y B H)(o:Ok K Y B H O tm)(j:Y l=J i)(h:wL l O p=J (.val v g')):∃R,H.get i=J (.loop R)/\AU P d φ0 ω0 c v g' (.ret (.bool p.isNone) (H.put i i (.loop {R with state:=ef p,pending:=p}))):=by
 unfold wL at h;split at h;.rename_i r g;obtain⟨rfl,rfl⟩:=bh.val.inj (bE h);obtain⟨k,e,w,R,f,q3,q4,q5,q6,q7,q8,q9,lQ⟩:=o.hr.jm l _ g;obtain rfl:i=k:=bE (j.symm.trans e);obtain⟨FZ,a⟩:=Z7 (R':={R with state:=ef p,pending:=p}) (y:=.loop {r with state:=ef p,pending:=p}) o e w f ⟨_,xg _ _ _ _,rfl,rfl,q5,q6,q7,q8,q9,lQ⟩;refine⟨R,f,_,_,K,Y,_,rfl,n.trans G ⟨a.ext,a.dy,a.np,a.keep,λp r b h=>?_,a.log⟩,FZ.hr.callee C C,.bool _⟩;obtain⟨q,_,h⟩:=a07 h;exact a.lZ q r b h
 grind
theorem aN3(Q:rE P ak cf rec)(X:wA P ak cf rec)(U:wy P ak cf)(W:Ho P ak cf rec):wA P ak cf (y7 P cf rec):=by
 intro l args g v g' h K Y B H S i b N O D;simp only[y7]at h;split at h;.rename_i r hg;obtain⟨i',q1,qw,R,q2,q3,q4,q5,q6,q7,q8,q9,lQ⟩:=b.jm l _ hg;obtain rfl:i=i':=bE (D.symm.trans q1);cases x:(aw args.length r.params.length&&r.params.all λp=>cw p r.n)with|false=>grind|true=>
  rw[x]at h;simp only[aR]at h;simp only[gD,bQ,jB]at x;have kO:∀p,p∈r.params->p<r.n:=λp hp=>by simp_all
  have hinv:uU P ak (.yield i) S H=J (.call {fn:=R.fn,n:=R.n,tmps:=fV (λt(p:Tmp×AV)=>bif cw p.1 R.n then t.ins p.1 p.2 else t) (List.zip R.params S) R.tmps,todo:=[.code R.assign,.beginRound,.code R.body],defers:=[],mode:=.run,roundOf:=J i} H):=by
   unfold uU;simp only[q2];have:aw (fg S) (fg R.params)=V:=by rw[dZ,dZ,<-O.1,q7,x.1];simp_all
   grind
  have cW:=aKa (n:=R.n) R.params args S r.sl R.tmps lQ O ai (λp hp=>ai);have ey:Ok K Y B H {fn:=r.fn,n:=r.n,sl:=Ct r.params args r.sl,lb:=[],g:=g} (fV (λt(p:Tmp×AV)=>bif cw p.1 R.n then t.ins p.1 p.2 else t) (List.zip R.params S) R.tmps):=⟨b,aHa ai⟩;have jo:=Pf (rd:=J l) (bs:=H.next) Q X U W (AU P K Y B H v g') r.assign _ _ _ K Y B H {fn:=R.fn,n:=R.n,tmps:=fV (λt(p:Tmp×AV)=>bif cw p.1 R.n then t.ins p.1 p.2 else t) (List.zip R.params S) R.tmps,todo:=[.code R.assign,.beginRound,.code R.body],defers:=[],mode:=.run,roundOf:=J i} [.beginRound,.code r.body] h ey N ⟨q5,q6,rfl,bT _,i,q1,rfl,rfl⟩ (λo j=>by cases o with|ext id s=>grind|rt s=>grind|fJ s=>
   simp only at j;split at j
   . rename_i r1 kL;split at j;.rename_i cA;intro K1 φ1 ω1 H1 I KO n1 xc e1 e2 f1;obtain⟨i1,j1,j2,E⟩:=f1.rd;have rX:i=i1:=bE (show J i=J i1 from j2);subst rX;have E:KO=[]:=E;subst E;obtain⟨i2,k1,kw,L,k2,k3,k4,k5,k6,k7,k8,k9,VH⟩:=xc.hr.jm l _ kL;obtain rfl:i=i2:=bE (j1.symm.trans k1);obtain⟨FZ,n2⟩:=Z7 (R':={L with state:=.busy}) (y:=.loop {r1 with state:=.busy}) xc k1 kw k2 ⟨_,xg _ _ _ _,rfl,k4,k5,k6,k7,k8,k9,VH⟩;have f2:=f1.nx xc.hr.inv n2 (st':={s with sl:=cP s.sl,g:=s.g.set l (.loop {r1 with state:=.busy})}) rfl rfl I [.beginRound,.code r.body];have d:=n1.trans b.inv n2;have qW:=Pf (rd:=J l) (bs:=H.next) Q X U W (AU P K Y B H v g') r.body _ _ _ K1 φ1 ω1 _ {fn:=R.fn,n:=R.n,tmps:=I,todo:=[.beginRound,.code r.body],defers:=[],mode:=.run,roundOf:=J i} [] j FZ (N.mono d.ext (a00 _)) f2 (λo2 u=>by intro K3 φ3 ω3 k c T n3 DG e3 e4 f3;obtain⟨i3,F,j5,j6⟩:=f3.rd;have z:i=i3:=bE (show J i=J i3 from j5);subst z;have q:=d.trans b.inv n3;cases o2 with|fJ G=>have u:wL l G Z=J (.val v g'):=u;obtain⟨M,e,f⟩:=Ue (P:=P) b.inv q DG F u;refine⟨1,_,?_,f⟩;show body P ak (AM.run P ak 0) {fn:=R.fn,n:=R.n,tmps:=c,todo:=[],defers:=T,mode:=.run,roundOf:=J i} k=_;unfold body vw wE xR xS xT Bl;simp only[e];rfl|rt G=>have u:wL l G (J .ret)=J (.val v g'):=u;obtain⟨M,e,f⟩:=Ue (P:=P) b.inv q DG F u;refine⟨1,_,?_,f⟩;show body P ak (AM.run P ak 0) {fn:=R.fn,n:=R.n,tmps:=c,todo:=[.code .ret],defers:=T,mode:=.run,roundOf:=J i} k=_;unfold body vw wE xR xS xT Bl;simp only[e];rfl|ext id G=>have u:wL l G (J (.exit id))=J (.val v g'):=u;obtain⟨M,e,f⟩:=Ue (P:=P) b.inv q DG F u;refine⟨1,_,?_,f⟩;show body P ak (AM.run P ak 0) {fn:=R.fn,n:=R.n,tmps:=c,todo:=[.code (.exit id)],defers:=T,mode:=.run,roundOf:=J i} k=_;unfold body vw wE xR xS xT Bl;simp only[exitTo,e];rfl);refine a26 0 (λm _=>?_) qW;show body P ak _ {fn:=R.fn,n:=R.n,tmps:=I,todo:=[.beginRound,.code r.body],defers:=[],mode:=.run,roundOf:=J i} H1=_;unfold body vw wE xR xS xT Bl;have w:L.state=.ready:=aU;simp only[k2,w];rfl
     grind
   grind);obtain⟨n,o,hn,a,H',K',A,ω',rfl,h2,h3,h4⟩:=jo;refine⟨a,H',K',A,ω',⟨_,hinv,n,?_⟩,h2,h3,h4⟩;grind
 grind
theorem aNx(I:wy P ak cf)(e:Oi P ak cf)(N:∀f args S H,cf.iW f args=Z->ak f S H=Z):∀n,rE P ak cf (J1 P cf n)/\wA P ak cf (J1 P cf n)/\Ho P ak cf (J1 P cf n):=by intro n;induction n with
 |zero=>
 refine⟨λf args w g v g' h=>?_,λl args g v g' h=>?_,λb O rd o h=>?_⟩;.have h:(Z:ah _)=J _:=h;grind
 .have h:(Z:ah _)=J _:=h;grind
 .have h:(Z:ah _)=J _:=h;grind|succ n i=>obtain⟨a,c,d⟩:=i;exact⟨anR a c I d e N,aN3 a c I d,aBR a c I d⟩
end
section
variable(P:aH)(cf:bV)
def Eg(j:CF)(x:bh):Prop:=∃n,∀m,n<=m->J1 P cf m j=J x
open Classical in def ev:dW:=λj=>if h:∃x,Eg P cf j x then J h.choose else Z
theorem Eg.hQ{y:bh}(h:Eg P cf j x)(k:Eg P cf j y):x=y:=by obtain⟨n,h⟩:=h;obtain⟨m,k⟩:=k;exact bE ((h (max n m) ab).symm.trans ai)
theorem T7:ev P cf j=J x↔Eg P cf j x:=by
 unfold ev;constructor;.intro h;split at h<;>grind
 .intro h;have e:∃x,Eg P cf j x:=⟨x,h⟩;grind[Eg.hQ]
def Cn{a:Type}(F:dW->ah a):Prop:=∀o,F (ev P cf)=J o->∃n,∀m,n<=m->F (J1 P cf m)=J o
variable{P cf}
def Cn.const(x:ah α):Cn P cf λ_=>x:=λ_ h=>⟨0,λ_ _=>h⟩
def Cn.Fx(j:CF):Cn P cf λr=>r j:=λ_ h=>(T7 P cf).1 h
theorem Cn.bind{d:Type}{F:dW->ah α}{G:dW->α->ah d}(h:Cn P cf F)(k:∀a,Cn P cf λr=>G r a):Cn P cf λr=>(F r).bind (G r):=λo b=>by obtain⟨a,c,b⟩:=aF b;obtain⟨n,g⟩:=h a c;obtain⟨m,f⟩:=k a o b;refine⟨max n m,λi e=>?_⟩;grind
theorem Cn.cond(b:Bool){F G:dW->ah α}(h:Cn P cf F)(k:Cn P cf G):Cn P cf λr=>bif b then F r else G r:=by cases b<;>simp_all
def a14:=@Cn.cond
theorem Cn.jA(f:bY)(s:ao)(o:aN)(g:GH){k:dW->SV->GH->ah α}(h:∀v g,Cn P cf λr=>k r v g):Cn P cf λr=>jA cf r f s o g (k r):=by refine a14 _ (a14 _ ((Cn.Fx _).bind λa=>?_) (Cn.const _)) (a14 _ (a14 _ ((Cn.Fx _).bind λa=>?_) (Cn.const _)) ((Cn.Fx _).bind λa=>?_));all_goals cases a<;>simp_all[a14,Cn.const]
theorem Cn.qP(s:St)(o:Op)(i:aK)(g:List aK):Cn P cf λr=>qP cf r s o i g:=by refine(Cn.const _).bind λv=>?_;cases v with
 |func h first c=>
 refine a14 _ (Cn.const _) (a14 _ ?_ (a14 _ ?_ ?_));.cases first with|cons a b=>simp[Cn.const]|nil=>
  rcases g with _|⟨x,f⟩;.simp[Cn.const]
  show Cn P cf λr=>match cZ _ s x with|some (.dv d w)=>(cB _ f).bind _|_=>Z;rcases cZ _ s x with _|e;.simp[Cn.const]
  cases e<;>simp[Cn.const,bind,Cn.jA]
 .exact a14 _ ((Cn.const _).bind λS=>Cn.jA _ _ _ _ λ_ _=>Cn.const _) (Cn.const _)
 simp[Cn.const,bind,Cn.jA]|eu l=>simp[Cn.const,bind,Cn.Fx]|_=>exact Cn.const _
theorem Cn.dK(g b:aE)(l:List aB)(s:St)(o:aB):Cn P cf λr=>dK P cf r g b l s o:=by unfold VM.dK;cases o.op with
 |call c=>cases c with|mk callee args a=>cases callee<;>simp[Cn.qP,bind,Cn.const]
 |_=>exact Cn.const _
theorem Cn.km(s c:aE)(d:Bool)(p:Array aB):∀(l:List aB)(j:Nat)(g:List (Nat×Kx))(st:St),Cn P cf λr=>km P cf r s c d p l j g st:=by intro l;induction l with|nil=>intro j g st;exact Cn.const _|cons o l i=>intro j g st;refine(Cn.const _).bind λw=>a14 _ (a14 _ ((Cn.dK _ _ _ _ _).bind λa=>i _ _ _) (Cn.const _)) ((Cn.const _).bind λa=>i _ _ _)
theorem Cn.exec(u:ah Nat):∀(c:bM)(st:St)(k:dW->eH->ah bh),(∀o,Cn P cf λr=>k r o)->Cn P cf λr=>exec P cf r u c st (k r):=by intro c;induction c with
 |skip=>intro st k d;exact d _|label _=>intro st k d;exact d _|seq a b i e=>intro st k d;refine i st _ λo=>?_;cases o<;>simp_all|cond c a b i e=>
 intro st k d;show Cn P cf λr=>match bj _ st c with|some (.bool x)=>bif x then VM.exec P cf r u a st _ else VM.exec P cf r u b st _|_=>Z;rcases bj _ st c with _|v;.simp[Cn.const]
 cases v<;>simp_all[a14,Cn.const]|block id b l=>intro st k d;refine l st _ λo=>?_;cases o<;>simp_all[a14]|loop b l=>
 intro st k d;refine Cn.bind (Cn.Fx _) λa=>?_;rcases a with⟨v,g⟩|o;.exact Cn.const _
 exact d _|scope b l=>intro st k d;exact l st k d|exit id=>intro st k d;exact d _|ret=>intro st k d;exact d _|region id z w=>intro st k d;exact a14 _ ((Cn.km _ _ _ _ _ _ _ _).bind λa=>d _) (Cn.const _)|rangeFunc f m S b i e=>intro st k d;unfold VM.exec;cases bj _ st f with|none=>simp[Cn.const]|some v=>cases v with
  |func h first t=>refine a14 _ (Cn.const _) ((Cn.Fx _).bind λa=>?_);cases a with|out o=>simp[Cn.const]|val v g=>show Cn P cf λr=>match g.get _ with|some (.loop q)=>(match q.state with|.busy=>Z|_=>(match q.pending with|none=>k r _|some .ret=>k r _|some (.exit id)=>k r _|_=>Z))|_=>Z;cases g.get _ with|none=>simp[Cn.const]|some y=>cases y with
   |loop q=>cases q with|mk s p fn n sl m j body=>cases s with|busy=>simp[Cn.const]|_=>
   rcases p with _|c;.simp_all
   cases c<;>simp_all[Cn.const]
   |_=>simp[Cn.const]
  |_=>exact Cn.const _
 |goto _=>intro st k d;exact Cn.const _|refuse _=>intro st k d;exact Cn.const _
theorem Cn.y7(j:CF):Cn P cf λr=>y7 P cf r j:=by
 rcases j with⟨f,args,w,g⟩|⟨b,st,rd⟩|⟨l,args,g⟩;.show Cn P cf λr=>match cf.iW f _ with|some r=>bif aw _ 2&&!vZ w then Z else r.map _|none=>(P.funcs[f]?).bind _;cases cf.iW f _ with|some v=>simp[Cn.const]|none=>refine(Cn.const _).bind λfn=>(Cn.const _).bind λb=>a14 _ (Cn.exec _ b _ _ λo=>Cn.const _) (Cn.const _)
 .refine Cn.exec rd b st _ λo=>?_;cases o<;>simp[Cn.Fx,Cn.const]
 show Cn P cf λr=>match g.get l with|some (.loop R)=>bif aw _ _&&R.params.all _ then VM.exec P cf r _ _ _ _ else Z|_=>Z;cases g.get l with|none=>simp[Cn.const]|some c=>cases c with
 |loop R=>refine a14 _ (Cn.exec _ _ _ _ λo=>?_) (Cn.const _);cases o with
  |fJ st=>show Cn P cf λr=>match st.g.get l with|some (.loop r1)=>(match r1.state with|.ready=>VM.exec P cf r _ _ _ _|_=>Z)|_=>Z;cases st.g.get l with|none=>simp[Cn.const]|some c=>cases c with
   |loop r1=>cases r1 with|mk s p fn n sl m a body=>cases s<;>simp[Cn.exec,Cn.const]
   |_=>simp[Cn.const]
  |_=>simp[Cn.const]
 |_=>simp[Cn.const]
theorem K4(h:y7 P cf (ev P cf) j=J x):ev P cf j=J x:=by
 obtain⟨n,a⟩:=Cn.y7 j x h;refine(T7 P cf).2 ⟨n+1,λm b=>?_⟩;rcases m with _|m;.omega
 exact a m ab
theorem asu{a:ct}(I:wy P a cf)(c:Oi P a cf)(N:∀f args S H,cf.iW f args=Z->a f S H=Z):rE P a cf (ev P cf):=by intro f args o g v b h;obtain⟨n,d⟩:=(T7 P cf).1 h;exact(aNx I c N n).1 f _ o g v b aU
end
end Go.VM
namespace Go.AM
open Go
variable{E E' H:Heap}{j:Nat}{σ:Nat->ah Nat}{P:aH}{w:aT}{Y A:bc}
def Jz(d:Nat->ah Nat)(i:AV->ah AV)(a:AV):ah AV:=match a with|.ptr id o=>(d id).bind λj=>J (.ptr j o)|.sl id o len c e=>(d id).bind λj=>J (.sl j o len c e)|.map _|.yield _=>Z|.func f a b=>(cB i a).bind λa=>(cB i b).bind λb=>J (.func f a b)|.agg l=>(cB i l).bind λl=>J (.agg l)|.cO l=>(cB i l).bind λl=>J (.cO l)|a=>J a
def nT(a:Nat->ah Nat)(n:Nat):AV->ah AV:=Nat.rec (λ_=>Z) (λ_ i=>Jz a i) n
theorem B0{d e:Type}{f:d->ah e}:∀{l:List d}{m:List e},cB f l=J m->l.length=m.length/\∀(i:Nat)(a:d)(b:e),l[i]?=J a->m[i]?=J b->f a=J b:=by intro l;induction l with|nil=>intro m h;obtain rfl:=bE (show J []=J m from h);grind|cons x l k=>intro m h;have c:((f x).bind λb=>(cB f l).bind _)=J m:=h;obtain⟨b,g,c⟩:=aF c;obtain⟨t,j,c⟩:=aF c;grind
theorem Nk{n:Nat}{a b:AV}(h:nT σ n a=J b):b.aV=a.aV:=by
 rcases n with _|n;.simp_all[nT]
 replace h:Jz σ _ a=J b:=h;unfold Jz at h;cases a<;>simp only at h<;>(try(cases h;rfl))<;>(try(simp at h;done));all_goals obtain⟨_,_,h⟩:=aF h;first|(cases h;rfl)|(obtain⟨_,_,h⟩:=aF h;cases h;rfl)
def ajj(b:Nat->ah Nat)(n:Nat)(a:AV):nT b (n+1) a=Jz b (nT b n) a:=rfl
theorem aji{F:bc}(x:∀i j p,σ i=J j->F i=J p->A j=J p):∀(n:Nat)(a b:AV)(v:aD),nT σ n a=J b->VR F a v->VR A b v:=by intro n;induction n with|zero=>simp[nT]|succ n ih=>
 intro a b v h U;rw[ajj]at h;unfold Jz at h;have d:∀{l m:aJ}{c:Array aD},cB (nT σ n) l=J m->l.length=c.size->(∀(i:Nat)(a:AV)(v:aD),l[i]?=J a->c[i]?=J v->VR F a v)->m.length=c.size/\∀(i:Nat)(a:AV)(v:aD),m[i]?=J a->c[i]?=J v->VR A a v:=λ{l m c}u hl hg=>by grind[B0]
 cases U with|top n=>cases h;exact .top n|bool c=>cases h;exact .bool c|int k m=>cases h;exact .int k m|str l s G=>cases h;exact .str l s G|eS=>cases h;exact .eS|ptr id o p w=>obtain⟨j,E,h⟩:=aF h;cases h;exact .ptr j o p (x _ _ _ E w)|bH=>cases h;exact .bH|sl id o len c D p R B w y z H I K M N=>obtain⟨j,E,h⟩:=aF h;cases h;exact .sl j o len c D p R B (x _ _ _ E w) y z H I K M N|fY=>cases h;exact .fY|map r p w=>grind|func f l1 l2 O P t S g1 g2=>obtain⟨X,W,h⟩:=aF h;obtain⟨Y,L,h⟩:=aF h;cases h;obtain⟨e,q⟩:=d W t g1;obtain⟨y,z⟩:=d L S g2;exact .func f X Y O P e y q z|yield l p w=>grind|nilFunc=>cases h;exact .nilFunc|agg l c t G g=>obtain⟨m,u,h⟩:=aF h;cases h;obtain⟨e,q⟩:=d u t g;refine .agg m c e (λb T=>?_) q;obtain⟨i,hi⟩:=a8.1 T;obtain⟨k1,k2⟩:=B0 u;have Q:i<l.length:=ai;have ha:l[i]?=J l[i]:=dC Q;grind[Nk,Hj]|cO l c t g=>obtain⟨m,u,h⟩:=aF h;cases h;obtain⟨e,q⟩:=d u t g;exact .cO m c e q
theorem Rx{x:bc}(O:∀i j p,σ i=J j->A j=J p->x i=J p):∀(n:Nat)(a b:AV)(v:aD),nT σ n a=J b->VR A b v->VR x a v:=by intro n;induction n with|zero=>simp[nT]|succ n W=>
 intro a b v h e;rw[ajj]at h;unfold Jz at h;have d:∀{l m:aJ}{c:Array _},cB (nT σ n) l=J m->m.length=c.size->(∀(i:Nat)(a:AV)(v:aD),m[i]?=J a->c[i]?=J v->VR A a v)->l.length=c.size/\∀(i:Nat)(a:AV)(v:aD),l[i]?=J a->c[i]?=J v->VR x a v:=λ{l m c}s T S=>by grind[B0]
 cases a with
 |ptr id w=>obtain⟨j,M,h⟩:=aF h;cases h;cases e with|ptr _ _ p N=>exact .ptr id _ p aU
 |sl id w len c I=>obtain⟨j,M,h⟩:=aF h;cases h;cases e with|sl _ _ _ _ _ p Q H N t u y z B D E=>exact .sl id _ _ c _ p _ _ aU t u y z B D E
 |map r=>grind|yield l=>grind|func f l1 l2=>obtain⟨X,P,h⟩:=aF h;obtain⟨Y,L,h⟩:=aF h;cases h;cases e with|func _ _ _ F G q K g1 g2=>obtain⟨k,o⟩:=d P q g1;obtain⟨t,u⟩:=d L K g2;exact .func f l1 l2 F G k t o u
 |agg l=>obtain⟨m,s,h⟩:=aF h;cases h;cases e with|agg _ c q U g=>obtain⟨k,o⟩:=d s q g;refine .agg l c k (λa R=>?_) o;grind[List.mem_iff_getElem?,B0,Nk,Hj]
 |cO l=>obtain⟨m,s,h⟩:=aF h;cases h;cases e with|cO _ c q g=>obtain⟨k,o⟩:=d s q g;exact .cO l c k o
 |_=>cases h;cases e<;>constructor<;>assumption
theorem aIS{e:bc}(b:∀i j p,σ i=J j->A j=J p->e i=J p){n:Nat}{l m:aJ}{c:List aD}(h:cB (nT σ n) l=J m)(d:aZ A m c):aZ e l c:=by obtain⟨f,q⟩:=B0 h;refine⟨by rw[f];exact d.1,λi a v r k=>?_⟩;have o:i<m.length:=ai;have g:=dC o;exact Rx b n _ _ _ ai (d.2 i _ _ g k)
structure AZ(E H:Heap)(σ:Nat->ah Nat):Prop where
 obj:∀id,id<E.next->∃l root e j l' r' fl',E.get id=J (.cells l root .ro e)/\σ id=J j/\H.get j=J (.cells l' r' fl' e)/\(H.br r').1<=j/\cB (nT σ 50) l=J l'
 low:∀id j,σ id=J j->id<E.next
def tw(a:Nat->ah Nat)(b:bc):bc:=λi=>(a i).bind b
theorem R7{i:Nat}{p:Pl}(h:σ i=J j)(g:Y j=J p):tw σ Y i=J p:=by grind[tw]
theorem yW{i:Nat}{p:Pl}(h:tw σ Y i=J p):∃j,σ i=J j/\Y j=J p:=aF h
theorem AZ.ro(h:AZ E H σ){i:Nat}(b:σ i=J j):fQ E i:=by obtain⟨l,root,e,_,_,_,_,a,_⟩:=h.obj i (h.low i j b);exact⟨l,_,e,a⟩
theorem AZ.AK(h:AZ E H σ)(s:bS gK Y H w):bS gK (tw σ Y) E w:=by
 have N:∀i j p,σ i=J j->Y j=J p->tw σ Y i=J p:=λi j p a b=>R7 a b;refine⟨⟨λid p f=>?_,λid p l r A e f m=>?_,λx y p q t u k K=>?_,λx y p q t u k K T=>?_⟩,λid p o f _ M m=>?_⟩;.obtain⟨j,c,d⟩:=yW f;obtain⟨l,root,e,_,_,_,_,g1,_⟩:=h.obj id (h.low id j c);exact⟨(s.stat.cF j p d).1,ai⟩
 .obtain⟨j,c,d⟩:=yW f;obtain⟨l0,root,e0,v,D,L,g,g1,g2,g3,g4,g5⟩:=h.obj id (h.low id j c);rw[c]at g2;cases g2;rw[m]at g1;obtain⟨rfl,_⟩:=cq.cells.inj (bE g1);rw[(B0 g5).1];exact s.stat.len j p _ _ _ _ d g3
 .obtain⟨j,c,_⟩:=yW t;exact absurd (h.ro c) K
 . obtain⟨j,c,_⟩:=yW t;obtain⟨v,d,_⟩:=yW u;rcases K with K|K;.exact absurd (h.ro c) K
   .exact absurd (h.ro d) K
 .obtain⟨j,c,d⟩:=yW f;obtain⟨l0,root,e0,v,D,L,g,g1,g2,g3,g4,g5⟩:=h.obj id (h.low id j c);rw[c]at g2;cases g2;rw[m]at g1;cases g1;obtain⟨z,B,e1,F,G,I,P,Q,R,S⟩:=s.obj j p _ d trivial (λl r A e n=>ai) g3;obtain⟨k1,k2⟩:=B0 g5;refine⟨z,B,e1,F,G,I,λi a O=>?_,λa U=>?_,λn=>absurd rfl n,λn=>ai⟩<;>grind[Rx,List.mem_iff_getElem?,Nk,Hj]
theorem AZ.post{d:aT}(h:AZ E H σ)(m:gd (tw σ Y) E w A E' d):(∀b,b<w.heap.size->d.heap[b]?=w.heap[b]?)/\(∀id p,A id=J p->E.next<=id->w.heap.size<=p.ba\/tw σ Y id=J p):=by
 obtain⟨_,_,fr⟩:=m;refine⟨λb l=>?_,λid p hid n=>?_⟩
 . rcases fr.nF b l with x|⟨id,p,e,_,f,_⟩;.omega
   .obtain⟨j,a,_⟩:=yW e;exact absurd (h.ro a) f
 .cases c:tw σ Y id with|some q=>have:=fr.ext _ _ c;grind|none=>
   obtain⟨_,a⟩:=fr.new id p hid c;rcases a with a|⟨j,q,g,_,i,_⟩;.omega
   .obtain⟨o,k,_⟩:=yW g;exact absurd (h.ro k) i
structure aa1(H H2:Heap)(n:Nat):Prop where
 next:H2.next=H.next+n
 old:∀id,id<H.next->H2.get id=H.get id
 dz:∀r,H2.br r=H.br r
 bA:H2.bA=H.bA
 bX:H2.bX=H.bX
 cL:H2.cL=H.cL
 inv:bg H2
def news(H:Heap)(n:Nat)(f:Nat->Nat)(a b:bc):bc:=λi=>if i<H.next then a i else if i<H.next+n then b (f (i-H.next))else Z
theorem atg{G:Heap}{w':aT}{n:Nat}{W:Nat->Nat}(h:AZ E H σ)(hi:bg H)(D:bS gK Y H w)(R:gd (tw σ Y) E w A E' w')(f:aa1 H G n)(N:∀k,k<n->∃l root u e m,E'.get (W k)=J (.cells l root u e)/\(E'.br root).1<=W k/\E.next<=W k/\G.get (H.next+k)=J (.cells m (H.next+k) .ro e)/\l.length=m.length/\W k<E'.next/\∀(i:Nat)(b:AV),m[i]?=J b->∃a,l[i]?=J a/\a.aV=b.aV/\∀v,VR A a v->VR (news H n W Y A) b v):gd Y H w (news H n W Y A) G w':=by
 obtain⟨pY,nd⟩:=h.post R;obtain⟨cN,X,fr⟩:=R;have bZ:∀id p,Y id=J p->id<H.next:=λid p g=>D.stat.lt hi g;have E1:Ext Y (news H n W Y A):=λid p g=>by grind[news]
 have s:∀id p,news H n W Y A id=J p->(id<H.next/\Y id=J p)\/∃k,k<n/\id=H.next+k/\A (W k)=J p:=λid p g=>by grind[news]
 have L:∀k p,k<n->A (W k)=J p->w.heap.size<=p.ba:=λk p Q g=>by
   obtain⟨_,_,_,_,_,_,_,z,_⟩:=N k Q;rcases nd (W k) p g z with K|K;.omega
   .obtain⟨j,d,_⟩:=yW K;have:=h.low _ _ d;omega
 have O:∀id,id<H.next->rootOf G id=rootOf H id:=λid g=>by unfold rootOf;rw[f.old id g]
 have T:∀id,id<H.next->(fQ G id↔fQ H id):=λid g=>by unfold fQ;rw[f.old id g]
 have S:∀id,id<H.next->(jg G id↔jg H id):=λid g=>by unfold jg;rw[f.old id g];exact⟨λx l r u e y=>by rw[<-f.dz];grind,λx l r u e y=>by rw[f.dz];grind⟩
 have aPU:∀k,k<n->fQ G (H.next+k):=λk Q=>by obtain⟨l,root,u,e,m,_,_,_,d,_⟩:=N k Q;exact⟨m,_,e,d⟩
 refine⟨f.inv,⟨⟨λid p g=>?_,λid p l r u e g F=>?_,λx y p q K U I P=>?_,λx y p q K U I P rZ=>?_⟩,λid p o g _ ha F=>?_⟩,?_⟩
 . rcases s id p g with⟨c,t⟩|⟨k,c,rfl,z⟩;.exact⟨gE (D.stat.cF id p t).1 fr.size,by rw[f.old id c];exact(D.stat.cF id p t).2⟩
   .obtain⟨l,root,u,e,m,_,_,_,d,_⟩:=N k c;exact⟨(X.stat.cF _ p z).1,ai⟩
 . rcases s id p g with⟨c,t⟩|⟨k,c,rfl,z⟩;.rw[f.old id c]at F;exact D.stat.len id p l r u e t F
   .obtain⟨l0,root,rS,e0,m,g1,_,_,d,B,_⟩:=N k c;rw[F]at d;obtain⟨rfl,_⟩:=cq.cells.inj (bE d);rw[<-B];exact X.stat.len _ p _ _ _ _ z g1
 . rcases s x p K with⟨c,t⟩|⟨k,c,rfl,z⟩
   . rcases s y q U with⟨d,B⟩|⟨k,d,rfl,B⟩;.rw[O x c,O y d];exact D.stat.inj x y p q t B I (λM=>P ((T x c).2 M))
     .have:=L k q d B;have:=(D.stat.cF x p t).1;omega
   grind
 . rcases s x p K with⟨c,t⟩|⟨k,c,rfl,z⟩
   . rcases s y q U with⟨d,B⟩|⟨k,d,rfl,B⟩;.exact D.stat.mono x y p q t B I (P.imp (λa b=>a ((T x c).2 b)) (λa b=>a ((T y d).2 b))) rZ
     .have:=L k q d B;have:=(D.stat.cF x p t).1;omega
   grind
 . rcases s id p g with⟨c,t⟩|⟨k,c,rfl,z⟩;.rw[f.old id c]at F;exact(D.obj id p o t trivial ((S id c).1 ha) F).mono E1 (pY _ (D.stat.cF id p t).1)
   .obtain⟨l,root,u,e,m,g1,g2,_,d,B,_,h6⟩:=N k c;rw[F]at d;cases d;obtain⟨cs,fz,e1,o1,o2,o3,o4,o5,_,_⟩:=X.obj _ p _ z trivial (λl' r' fl' e' M=>aU) g1;refine⟨cs,fz,e1,o1,o2,o3,λi b I=>?_,λb I=>?_,λM=>absurd rfl M,λM=>aU⟩;all_goals grind[List.mem_iff_getElem?]
 .exact{
     ext:=E1
     size:=fr.size
     os:=fr.os
     tape:=fr.tape
     output:=fr.output
     next:=by rw[f.next];omega
     bA:=f.bA
     bX:=λr g=>by rw[f.bX];omega
     cL:=λr g=>by rw[f.cL];omega
     root:=λid g=>O id g
     view:=λid o g _ _ F=>⟨by rw[f.old id g];omega,(S id g).2,(S id g).1⟩
     nF:=λb I=>.inl (pY b I)
     new:=λid p g hn=>by grind
     ro:=λid g hr=>(T id g).2 hr
     keep:=λid o g F=>⟨o,by rw[f.old id g];omega,a44 o⟩
     cover:=λid c t=>by rw[f.next]at t;obtain⟨l,root,u,e,m,_,_,g3,_,_,g6,_⟩:=N (id-H.next) ab;obtain⟨p,R⟩:=fr.cover _ g3 g6;grind[news]
     mJ:=λid p g hn U'=>by
      rcases s id p g with⟨_,t⟩|⟨k,c,rfl,z⟩;.simp_all
      .obtain⟨l,root,u,e,m,_,_,_,d,_⟩:=N k c;rw[qC d]at U';have:=hi.bA;omega
     vm:=λr g=>by rw[f.bX]at g;simp_all
     vC:=λr g=>by rw[f.cL]at g;simp_all}
def KT(a b:Bool):Bool:=bif a then b else !b
def TW(a b:ah Nat):Bool:=match a with|none=>(match b with|none=>V|some _=>C)|some x=>(match b with|none=>C|some y=>aw x y)
def wK(f:AV->AV->Bool)(l:aJ):aJ->Bool:=ja (λm=>ja V (λ_ _ _=>C) m) (λa _ i m=>ja C (λb t _=>bif f a b then i t else C) m) l
def KV(h:AV->AV->Bool)(a b:AV):Bool:=match a with|.top=>(match b with|.top=>V|_=>C)|.bool x=>(match b with|.bool y=>KT x y|_=>C)|.int j x=>(match b with|.int k y=>j==k&&aj x y|_=>C)|.str x=>(match b with|.str y=>xZ x y|_=>C)|.ptr i o=>(match b with|.ptr j p=>aw i j&&aw o p|_=>C)|.eS=>(match b with|.eS=>V|_=>C)|.sl i o l c e=>(match b with|.sl j p m d f=>aw i j&&(aw o p&&(aw l m&&(TW c d&&aw e f)))|_=>C)|.bH=>(match b with|.bH=>V|_=>C)|.fY=>(match b with|.fY=>V|_=>C)|.func f l1 l2=>(match b with|.func g n q=>aw f g&&(wK h l1 n&&wK h l2 q)|_=>C)|.nilFunc=>(match b with|.nilFunc=>V|_=>C)|.agg l=>(match b with|.agg m=>wK h l m|_=>C)|.cO l=>(match b with|.cO m=>wK h l m|_=>C)|_=>C
def yb(n:Nat):AV->AV->Bool:=Nat.rec (λ_ _=>C) (λ_ i=>KV i) n
theorem O1{f:AV->AV->Bool}(d:∀a b,f a b=V->a=b):∀(l m:aJ),wK f l m=V->l=m:=by intro l;induction l with|nil=>intro m h;cases m<;>grind[wK]|cons a l i=>
 intro m h;rcases m with _|⟨b,t⟩;.grind[wK]
 have c:(bif f a b then wK f l t else C)=V:=h;grind
theorem aqT{a b:Bool}(h:KT a b=V):a=b:=by grind[KT]
theorem aq2{a b:ah Nat}(h:TW a b=V):a=b:=by cases a<;>cases b<;>simp[TW,bQ]at h|-;omega
def aq6(n:Nat)(a b:AV):yb (n+1) a b=KV (yb n) a b:=rfl
theorem O2:∀(n:Nat)(a b:AV),yb n a b=V->a=b:=by intro n;induction n with|zero=>simp[yb]|succ n i=>intro a b h;rw[aq6]at h;unfold KV at h;grind[bQ,aqT,zQ,ya,aq2,O1]
structure eI where
 args:aJ
 H:Heap
 v:AV
 news:List (aJ×an)
def sg(n:Nat)(k:Tr Nat)(i:Nat):ah Nat:=bif cw i n then k.get i else Z
theorem aKm{n:Nat}{k:Tr Nat}{i:Nat}(h:sg n k i=J j):i<n:=by grind[sg,eP]
def uE(E H:Heap)(a:Nat->ah Nat)(i:Nat):Bool:=match E.get i with|some (.cells l _ .ro e)=>(match a i with|some j=>(match H.get j with|some (.cells c r _ b)=>aw e b&&(bz (H.br r).1 j&&(match cB (nT a 50) l with|some m=>wK (yb 50) m c|none=>C))|_=>C)|none=>C)|_=>C
def CO(f:Nat->Bool)(n:Nat):Bool:=Nat.rec V (λk i=>bif f k then i else C) n
theorem SP{f:Nat->Bool}:∀(n:Nat),CO f n=V->∀k,k<n->f k=V:=by intro n;induction n<;>grind[CO]
theorem aBh{k:Tr Nat}(h:CO (uE E H (sg E.next k)) E.next=V):AZ E H (sg E.next k):=by
 refine⟨λid hid=>?_,λid j a=>aKm a⟩;have c:=SP _ h id hid;unfold uE at c;split at c;.split at c<;>grind[bQ,dp,O1,O2]
 grind
def abd(a:Nat->ah Nat)(l:List (aJ×an)):Heap->ah Heap:=ja (λH=>J H) (λx _ i H=>(cB (nT a 50) x.1).bind λm=>i (H.cT m .ro x.2)) l
theorem alB{d:Nat->ah Nat}:∀(l:List (aJ×an))(H a:Heap),bg H->abd d l H=J a->aa1 H a l.length/\∀(k:Nat)(x:aJ×an),l[k]?=J x->∃m,cB (nT d 50) x.1=J m/\a.get (H.next+k)=J (.cells m (H.next+k) .ro x.2):=by intro l;induction l with|nil=>intro H a i h;obtain rfl:=bE (show J H=J a from h);exact⟨⟨rfl,λ_ _=>rfl,λ_=>rfl,rfl,rfl,rfl,i⟩,λk x h=>ai⟩|cons x l j=>
 intro H a i h;have b:=h;obtain⟨m,f,b⟩:=aF b;have X:bg (H.cT m .ro x.2):=wC i _ (λl r n e g=>ai);obtain⟨A,hN⟩:=j _ a X b;have t:(H.cT m .ro x.2).next=H.next+1:=rfl;refine⟨⟨by rw[A.next,t];grind,λid hid=>?_,λr=>by rw[A.dz];rfl,A.bA,A.bX,A.cL,A.inv⟩,λk y c=>?_⟩;.rw[A.old id ab];exact nL H _ ab
 . rcases k with _|k;.simp at c;subst c;refine⟨m,f,?_⟩;rw[vq,A.old _ ab];exact mF H _
   grind
def Jn(f:AV->AV->List (Nat×Nat))(l:aJ):aJ->List (Nat×Nat):=ja (λ_=>[]) (λa _ i m=>ja [] (λb t _=>dL (f a b) (i t)) m) l
def yC(n:Nat):AV->AV->List (Nat×Nat):=Nat.rec (λ_ _=>[]) (λ_ h a b=>match a with|.ptr i _=>(match b with|.ptr j _=>[(i,j)]|_=>[])|.sl i _ _ _ _=>(match b with|.sl j _ _ _ _=>[(i,j)]|_=>[])|.func _ l1 l2=>(match b with|.func _ c d=>dL (Jn h l1 c) (Jn h l2 d)|_=>[])|.agg l=>(match b with|.agg m=>Jn h l m|_=>[])|.cO l=>(match b with|.cO m=>Jn h l m|_=>[])|_=>[]) n
def avt(E H:Heap)(f:Nat):List (Nat×Nat)->Tr Nat->Tr Nat:=Nat.rec (λ_ k=>k) (λ_ i w k=>ja k (λx s _=>match k.get x.1 with|some _=>i s k|none=>(match E.get x.1 with|some (.cells l _ _ _)=>(match H.get x.2 with|some (.cells a _ _ _)=>i (dL (Jn (yC 50) l a) s) (k.ins x.1 x.2)|_=>k)|_=>k)) w) f
def Qz(n:Nat)(a:Nat->ah Nat)(m i:Nat):ah Nat:=bif cw i n then a i else J (iw m (Nat.sub i n))
def D3(n:Nat)(f:aE)(i:Nat):ah Nat:=bif cw i n then J i else pj f (Nat.sub i n)
def Oy(b:Nat->ah Nat)(l a:aJ):Bool:=match cB (nT b 50) l with|some m=>wK (yb 50) m a|none=>C
def UA(a:Nat->ah Nat)(n:Nat):Bool:=CO (λg=>match a g with|some j=>aw j g|none=>C) n
def Cv(n:Nat)(E:eI)(a:aJ)(H:Heap)(k:Tr Nat):ah (AV×Heap):=bif Oy (sg E.H.next k) E.args a&&(CO (uE E.H H (sg E.H.next k)) E.H.next&&UA (sg E.H.next k) n)then(nT (Qz E.H.next (sg E.H.next k) H.next) 50 E.v).bind λv=>(abd (Qz E.H.next (sg E.H.next k) H.next) E.news H).bind λb=>J (v,b)else Z
structure SF(E:eI)(v0:AV)(E':Heap)(fW:aE):Prop where
 len:fW.length=E.news.length
 val:nT (D3 E.H.next fW) 50 E.v=J v0
 obj:∀(k:Nat)(x:aJ×an),E.news[k]?=J x->∃j l root fl,fW[k]?=J j/\E'.get j=J (.cells l root fl x.2)/\(E'.br root).1<=j/\E.H.next<=j/\cB (nT (D3 E.H.next fW) 50) x.1=J l
set_option maxHeartbeats 1600000 in theorem akt{x:Rec}(hn:rH P)(eY:nC P x){f:bY}{E:eI}{G:cJ}{v0 v:AV}{U:Heap}{W:aE}{kQ:Tr Nat}{r:aJ}(BE:wJ P f E.args=J G)(hr:x G E.H=J (.ret v0 E'))(Q:bg E.H)(R:SF E v0 E' W)(h:Cv P.globals.size E r H kQ=J (v,U))(d:bc)(w:aT)(n:Array aD)(c:dm)(F:List dm)(N:bg H)(S:bS gK d H w)(hg:iZ P d)(hv:aZ d r n.toList):∃A B u,gd d H w A U B/\VR A v u/\((callFunc f n).run P w=.ok (.enter f n) w/\Steps P (fh (Frame.enter P f n .normal) (c::F) w) (fh (c.finish u) F B)):=by
 unfold Cv at h;generalize hσ:sg E.H.next kQ=σ at h;rcases M:(Oy σ E.args r&&(CO (uE E.H H σ) E.H.next&&UA σ P.globals.size))with _|_;.grind
 rw[M]at h;simp only[aR]at h;obtain⟨v',BP,h⟩:=aF h;obtain⟨H2',I,h⟩:=aF h;obtain⟨rfl,rfl⟩:=jf (bE h);simp only[gD]at M;obtain⟨iG,kf,zY⟩:=M;have L:AZ E.H H σ:=by grind[aBh]
 have kz:cB (nT σ 50) E.args=J r:=by grind[Oy,O1,O2]
 have D:iZ P (tw σ d):=λg zZ=>by
  have:=SP _ zY g zZ;split at this;.rename_i j y;rw[bQ,jB]at this;subst this;obtain⟨p,o,h2⟩:=hg j zZ;grind[R7]
  grind
 have Ds:aZ (tw σ d) E.args n.toList:=aIS (λi j p a b=>R7 a b) kz hv;obtain⟨e1,e2,e4,fn,b,e5,e6⟩:=KS (Y:=tw σ d) BE Ds;have ey:=eY G E.H _ hr (tw σ d) w _ (c::F) Q (L.AK S) D e1;obtain⟨A,B,u,z,q2,q3⟩:=kJ.back ey;obtain⟨aa,hN⟩:=alB _ _ _ N I;have s:∀i j p,Qz E.H.next σ H.next i=J j->tw (D3 E.H.next _) A i=J p->news H E.news.length (λk=>(W[k]?).getD 0) d A j=J p:=λi j p o h2=>by
  unfold Qz at o;obtain⟨j',e,h4⟩:=yW h2;unfold D3 at e;rw[eP]at o e;by_cases bZ:i<E.H.next
  . simp only[bZ,dX,aR]at o e;cases e;have y:∃q,d j=J q/\q=p:=by
     rcases hq:tw σ d i with _|q;.have:=(z.2.2.new i p h4 hq).1;omega
     have:=z.2.2.ext _ _ hq;grind[yW]
    obtain⟨q,h5,rfl⟩:=y;unfold news;rw[if_pos (S.stat.lt N h5)];omega
  .simp only[bZ,lC,ch]at o e;rw[xa]at e;have BC:W[i-E.H.next]?=J j':=e;have K:=(am.1 BC).1;rw[R.len]at K;grind[news]
 have t:∀i j p,D3 _ _ i=J j->A j=J p->tw (D3 E.H.next W) A i=J p:=λi j p a b=>R7 a b;refine⟨_,B,u,atg L N S z aa (λk hk=>?_),aji s 50 _ _ _ BP (Rx t 50 _ _ _ R.val q2),Kz hn e5 e6 _ w,q3⟩;have hx:=dC hk;obtain⟨j,l,root,fl,o1,o2,o3,o4,o5⟩:=R.obj k _ hx;obtain⟨m,m1,m2⟩:=hN k _ hx;obtain⟨k1,k2⟩:=B0 o5;obtain⟨k3,k4⟩:=B0 m1;have y:(W[k]?).getD 0=j:=ai;refine⟨l,root,fl,_,m,ai,ab,ab,m2,ab,by rw[y];exact z.1.get j _ o2,λi b K=>?_⟩;have gN:i<(E.news[k]).1.length:=ai;have X:=dC gN;have O:i<l.length:=ab;have ha:=dC O;have f1:=k2 i _ _ X ha;have f2:=k4 i _ _ X K;exact⟨_,ha,by rw[Nk f1,Nk f2],λvv T=>aji s 50 _ _ _ f2 (Rx t 50 _ _ _ f1 T)⟩
def Lc(n:Nat)(a:aJ)(H:Heap)(f:Nat)(l:List eI):ah (AV×Heap):=ja Z (λE _ i=>Option.rec i (λr=>J r) (Lj (avt E.H H f (dL (Nat.rec [] (λk t=>(k,k)::t) n) (Jn (yC 50) E.args a)) .nil) λQ=>Cv n E a H Q)) l
def G9(P:aH)(f:bY)(E:eI):Prop:=∃r fr v E' W,nC P r/\wJ P f E.args=J fr/\r fr E.H=J (.ret v E')/\bg E.H/\SF E v E' W
theorem atT{n:Nat}{a:aJ}{f:Nat}{r:AV×Heap}:∀(l:List eI),Lc n a H f l=J r->∃E k,E∈l/\Cv n E a H k=J r:=by intro l;induction l with|nil=>simp[Lc]|cons E l i=>intro h;unfold Lc at h;simp only[Pt]at h;generalize u:Cv n E _ H _=x at h;cases x<;>grind[Lc,Pt]
def mQ(n u:Nat)(t:Tr (List eI))(a:ct):ct:=λf args H=>match t.get f with|none=>a f args H|some l=>(match Lc n args H u l with|some r=>J (J r)|none=>a f args H)
theorem aNW(y:rH P){n:ct}(p:jQ P n){fuel:Nat}{t:Tr (List eI)}(z:∀f l E,t.get f=J l->E∈l->G9 P f E):jQ P (mQ P.globals.size fuel t n):=by
 intro f args H v m h Y w e c s i j g k;unfold mQ at h;split at h;.exact p f args H v m h Y w e c s i j g k
 . rename_i l x;split at h;.rename_i r hr;obtain rfl:=bE (bE h);obtain⟨E,Q,o,q⟩:=atT l hr;obtain⟨B,fr,F,E',W,k1,k2,k3,k4,k5⟩:=z f l E x o;obtain⟨A,D,u,a,b,d⟩:=akt y k1 k2 k3 k4 k5 q Y w e c s i j g k;exact⟨A,D,u,a,b,.inr d⟩
   .exact p f args H v m h Y w e c s i j g k
def oW:Heap:={tr:=.nil,dz:=.nil,next:=0,bA:=0,bX:=[],cL:=[]}
def jV(l:List (aJ×an)):Heap:=fV (λH x=>H.cT x.1 .ro x.2) l oW
theorem aqG:bg oW where
 get:=λid o h=>by
  have:oW.get id=Z:=by unfold Heap.get oW;rfl
  rw[this]at h;simp at h
 root:=λid l r a e h=>by
  have:oW.get id=Z:=by unfold Heap.get oW;rfl
  rw[this]at h;simp at h
 oK:=λid l r a e h=>by
  have:oW.get id=Z:=by unfold Heap.get oW;rfl
  rw[this]at h;simp at h
 dz:=λr f h=>by
  have:oW.dz.get r=Z:=by unfold oW;rfl
  rw[this]at h;simp at h
 bA:=bT _
theorem auc:∀(l:List (aJ×an))(H:Heap),bg H->bg (fV (λH x=>H.cT x.1 .ro x.2) l H):=by intro l;induction l with|nil=>intro H h;exact h|cons x l i=>intro H h;exact i _ (wC h _ aU)
def oG(l:List (aJ×an)):bg (jV l):=auc l oW aqG
def acp(E:eI)(a:Heap)(f:aE)(k:Nat):Bool:=match pj E.news k with|some x=>(match pj f k with|some j=>(match a.get j with|some (.cells l root _ e)=>aw x.2 e&&(bz (a.br root).1 j&&(bz E.H.next j&&(match cB (nT (D3 E.H.next f) 50) x.1 with|some m=>wK (yb 50) m l|none=>C)))|_=>C)|none=>C)|none=>C
def WG(E:eI)(v:AV)(a:Heap)(f:aE):Bool:=aw (fg f) (fg E.news)&&((match nT (D3 E.H.next f) 50 E.v with|some m=>yb 50 m v|none=>C)&&CO (acp E a f) (fg E.news))
def entry(P:aH)(r:Rec)(f:bY)(E:eI)(W:aE):Bool:=match wJ P f E.args with|some fr=>(match r fr E.H with|some (.ret v E')=>WG E v E' W|none=>C)|none=>C
theorem aF9{E:eI}{v:AV}{f:aE}(h:WG E v E' f=V):SF E v E' f:=by
 unfold WG at h;simp only[gD,bQ,jB,dZ]at h;obtain⟨c,e,d⟩:=h;refine⟨c,?_,λk x b=>?_⟩;.grind[O2]
 .have a:=SP _ d k (am.1 b).1;unfold acp at a;rw[xa,xa,b]at a;simp only at a;split at a<;>grind[bQ,dp,O1,O2]
theorem aqQ{r:Rec}{f:bY}{E:eI}{W:aE}(e:nC P r)(i:bg E.H)(h:entry P r f E W=V):G9 P f E:=by
 unfold entry at h;split at h
 . rename_i fr d;split at h;.rename_i v E' hr;exact⟨r,fr,v,E',W,e,d,hr,i,aF9 h⟩
   .simp at h
 .simp at h
def rb(b:aE):aE->Bool:=ja (λ_=>V) (λx _ i a=>ja C (λy t _=>bif aw x y then i t else C) a) b
def BR(b a:aE):Nat->ah Nat:=ja (λi=>bif rb b []then J i else Z) (λx s h i=>bif rb b (x::s)then J i else h (fj i)) a
def Qo:ah Nat->AV|some i=>ia i|none=>.int .i64 (-1)
def ET(H:Heap)(g:Nat):Bool:=match H.get g with|some (.cells [.top] root _ _)=>bz (H.br root).1 g|_=>C
def M0(c g:Nat)(k:ct):ct:=λf args H=>bif aw f c then match args with|[.str a,.str b]=>bif ET H g&&cw (fg a) 4294967281 then J (J (Qo (BR b a 0),H))else J Z|_=>J Z else k f args H
theorem aMR(a b:UInt8):aw a.toNat b.toNat=(a==b):=by grind[bQ,UInt8.toNat_inj]
theorem GG:∀(b a:List UInt8),rb (b.map ko) (a.map ko)=b.isPrefixOf a:=by intro b;induction b with|nil=>intro a;rfl|cons x b i=>
 intro a;rcases a with _|⟨y,a⟩;.rfl
 show(bif aw _ _ then rb _ _ else C)=_;grind[aMR]
theorem ayw(b:List UInt8):∀(a:List UInt8)(i:Nat),BR (b.map ko) (a.map ko) i=if Lib.index a b=-1 then Z else J (i+(Lib.index a b).toNat):=by intro a;induction a with|nil=>intro i;show(bif rb _ (([]:List _).map ko)then J i else Z)=_;grind[GG,Lib.index]|cons x a h=>intro i;show(bif rb _ ((x::a).map _)then J i else BR _ _ _)=_;rw[GG,h];have g:=Lib.index_ge a b;grind[Lib.index]
theorem ayx(a b:List UInt8):Qo (BR (b.map ko) (a.map ko) 0)=.int .i64 (Lib.index a b):=by
 rw[ayw];have g:=Lib.index_ge a b;by_cases h:Lib.index a b=-1;.rw[if_pos h,h];rfl
 .rw[if_neg h];show AV.int _ _=_;grind
theorem av4{g:Nat}(s:bS gK Y H w)(b:iZ P Y)(z:g<P.globals.size)(h:ET H g=V):∃m,w.cell? ⟨g,0,Z⟩=J (.int .i64 m):=by
 unfold ET at h;split at h
 . rename_i root j e G;obtain⟨p,a,n,q⟩:=b g z;have N:jg H g:=λl r f i u=>by simp_all
   have o:=s.obj g p _ a trivial N G;obtain⟨d,k,_,k1,k2,k3,k4,k5⟩:=o;obtain⟨c,t,v⟩:=k4 0 _ rfl;cases v<;>grind[World.cell?]
 grind
theorem aHk{k:ct}(F:jQ P k){d g:Nat}(T:g<P.globals.size)(X:∀args w,(callFunc d args).run P w=.ok (.enter d args) w)(B:∀(s sub:ByteArray)(m:Int)(w:aT),s.size<4294967281->w.cell? ⟨g,0,Z⟩=J (.int .i64 m)->Calls P d #[.string s,.string sub] w λe i=>e=.returned (.int .i64 (Lib.index s.data.toList sub.data.toList))/\i=w):jQ P (M0 d g k):=by
 intro f args H v z h Y w n c A r j p u;unfold M0 at h;rw[bQ]at h;by_cases o:f=d
 . subst o;simp only[dX,aR]at h;split at h
   . rename_i a b;rcases q:(ET H g&&cw (fg a) 4294967281)with _|_;.grind
     rw[q]at h;obtain⟨rfl,rfl⟩:=jf (bE (bE h));simp only[gD,eP,jB,dZ]at q;obtain⟨m,E⟩:=av4 j p T q.1;obtain⟨x,t,e1,K,G⟩:=u.cons_inv;obtain⟨y,t2,e2,M,R⟩:=G.cons_inv;obtain rfl:=R.sB;cases K with|str _ s N=>cases M with|str _ sub Q=>
     have S:n=#[.string s,.string sub]:=by grind
     subst S;subst N;subst Q;have l:s.size<4294967281:=by simp_all
     obtain⟨e,i,fr,⟨D,I⟩,L,U,O⟩:=B s _ m w l E _;subst D;subst I;refine⟨Y,i,.int .i64 (Lib.index s.data.toList sub.data.toList),⟨r,j,Fr.refl Y H i⟩,?_,.inr ⟨X _ _,?_⟩⟩;.rw[ayx];exact .int _ _
     .exact Steps.trans L (Steps.head (step_leave_returned O) (Steps.refl _ _))
   grind
 .simp only[o,lC,ch]at h;exact F f _ H v z h Y w n c A r j p u
def cmpL(a:aE):aE->Int:=ja (λb=>ja 0 (λ_ _ _=>-1) b) (λx _ i b=>ja 1 (λy t _=>bif cw x y then-1 else bif cw y x then 1 else i t) b) a
def Rf(c:Nat)(k:ct):ct:=λf args H=>bif aw f c then match args with|[.str a,.str b]=>J (J (.int .i64 (cmpL a b),H))|_=>J Z else k f args H
theorem cmpL_eq:∀a b:List UInt8,cmpL (a.map ko) (b.map ko)=Lib.compareBytes a b:=by intro a;induction a with|nil=>intro b;cases b<;>rfl|cons x a i=>
 intro b;rcases b with _|⟨y,b⟩;.rfl
 show(bif cw x.toNat y.toNat then-1 else bif cw y.toNat x.toNat then 1 else cmpL (a.map ko) (b.map ko))=_;rw[i b,eP,eP];show _=if x<y then(-1:Int)else if y<x then 1 else Lib.compareBytes a b;by_cases c:x<y;.have h:x.toNat<y.toNat:=c;simp[c,h]
 . have h:¬x.toNat<y.toNat:=c;by_cases d:y<x;.have e:y.toNat<x.toNat:=d;simp[c,h,d,e]
   .have e:¬y.toNat<x.toNat:=d;simp[c,h,d,e]
theorem aHj{k:ct}(z:jQ P k){d:Nat}(X:∀args w,(callFunc d args).run P w=.ok (.enter d args) w)(q:∀(a b:ByteArray)(w:aT),Calls P d #[.string a,.string b] w λe g=>e=.returned (.int .i64 (Lib.compareBytes a.data.toList b.data.toList))/\g=w):jQ P (Rf d k):=by
 intro f args H v o h Y w i c p l m u n;unfold Rf at h;rw[bQ]at h;by_cases j:f=d
 . subst j;simp only[dX,aR]at h;split at h;.rename_i a b;obtain⟨rfl,rfl⟩:=jf (bE (bE h));obtain⟨x,t,e1,D,A⟩:=n.cons_inv;obtain⟨y,t2,e2,E,K⟩:=A.cons_inv;obtain rfl:=K.sB;cases D with|str _ s F=>cases E with|str _ sub I=>
    have M:i=#[.string s,.string sub]:=by grind
    subst M;subst F;subst I;obtain⟨e,g,fr,⟨r,B⟩,L,N,G⟩:=q s _ w _;subst r;subst B;refine⟨Y,g,.int .i64 (Lib.compareBytes s.data.toList sub.data.toList),⟨l,m,Fr.refl Y H g⟩,?_,.inr ⟨X _ _,?_⟩⟩;.rw[cmpL_eq];exact .int _ _
    .exact Steps.trans L (Steps.head (step_leave_returned G) (Steps.refl _ _))
   grind
 .simp only[j,lC,ch]at h;exact z f _ H v o h Y w i c p l m u n
end Go.AM
namespace Go.VM
open Go Go.AM
noncomputable abbrev PP:aH:=Proofs.Tryz.prog
structure FR where
 g:aE
 c:aE
 k:Nat
 p:Bool
 r:List aE
def nt{b:Type}(d:b):List b->Nat->b|[],_=>d|a::_,0=>a|_::l,n+1=>nt d l n
def dH(r:List aE):FR:=⟨[],[],3,V,r⟩
def qI(r:List aE):FR:=⟨[],[],0,V,r⟩
def jx(r:List aE):FR:=⟨[],[],0,C,r⟩
def q3:=dH [[5,4,3],[5,4,3,24],[6],[5,7,4,3,8],[5,7,4,9,3,10,8],[5,7,4,11,9,3,12,10,8],[5,7,4,13,11,9,3,14,12,10,8],[6]]
def q4:=dH [[3,2],[4]]
def q5:FR:=⟨[],[39],3,V,[[3,2],[6,3,2],[6,3,2,16],[4],[3,2,25],[4],[7,3,2],[7,3,2,30],[4],[3,2,35],[4],[39,3,2,38],[3,2,38,39,40],[3,2,38,39,8],[9,3,2,38,39],[9,3,2,38,39,47],[4],[39,3,2,38],[4]]⟩
def q6:FR:=⟨[1],[],0,V,[]⟩
def q7:FR:=⟨[12],[50],0,V,[[6,2,4,3],[6,8,2,4],[6,8,2,4,19],[6,7],[6,9,2,4],[6,9,2,4,25],[6,7],[6,11,2,10,4],[6,11,2,10,4,35],[6,7],[12,6],[50,12,6,49],[12,6,49,50,51],[12,6,49,50,13],[12,6,49,50,14],[12,6,49,50],[50,12,6,49],[6,7]]⟩
def q8:=dH [[3,2],[3,2,19],[4],[5,3,2],[3,2,5,24],[5,3,2],[3,2,5,38],[4],[4]]
def q9:=dH [[1,2],[5,1,2],[5,1,2,14],[5,1,2],[5,1,2,23],[4],[6,5,1,2],[5,1,2,6,31],[6,5,1,2],[5,1,2,6,45],[4],[4]]
def lQ:=jx [[1,0],[4]]
def pr:=dH [[1],[2]]
def WY:FR:=⟨[],[20,22],0,V,[[1],[5,1],[5,1,17],[2,3],[1,6],[22,1,6,20,21],[1,20,21,22,6,23],[1,20,21,22,8,6],[10,1,20,21,22,9,8,6],[10,1,20,21,22,9,8,6,33],[2,3],[1,6,20,21,22],[22,1,6,20,21],[2,3]]⟩
def W5:FR:=⟨[],[14,16],3,V,[[0],[0,13],[2],[16,14,15],[14,15,16,17],[14,15,16,3,4],[5,14,15,16,3,4],[5,14,15,16,3,4,24],[2],[14,15,16,29],[2],[16,14,15],[2]]⟩
def lR:=dH [[0],[2]]
def Xb:FR:=⟨[4,5],[30,32],3,V,[[4,5,3],[4,5,7,3],[8,4,5,7],[8,4,5,7,20],[6],[4,5,7,28],[6],[32,4,30,5,7,31],[4,30,5,7,31,32,33],[4,30,5,7,31,32,9,10],[4,30,5,7,31,32,45],[6],[32,4,30,5,7,31],[50],[6],[6]]⟩
def Xg:FR:=⟨[],[3],0,V,[[2,0],[2,3],[2],[2]]⟩
def Gi:=jx [[3,1,0],[3]]
def Xu:=qI [[2,0],[2,0,9],[2,3],[2,3]]
def Xx:=qI [[10,9,3,6,7,5],[10,14,13,9,3,6,7],[10,14,13,9,3,6,7,24],[10,11,12],[10,13,9,3,6,7,27],[10,11,12],[10,13,9,3,6,49],[10,11,12],[10,13,9,3,6,60],[10,11,12],[10,13,9,3,6,15],[10,14,16,13],[10,14,16,13,87],[10,11,12],[10,16,13],[10,11,12]]
def XB:=dH [[1],[5,4],[5,4,12],[2,3],[2,3]]
def XG:=dH [[1,0],[6,1,0],[6,1,0,16],[4,5],[4,5]]
def XR:=qI [[2,4,3],[8,2,4],[8,2,4,14],[6,7],[9,2,4],[9,2,4,19],[6,7],[6,7]]
def XU:FR:=⟨[],[24,26],0,V,[[4,1,2],[4,7,1,2],[4,7,1,2,17],[4,5],[4,1,2,22],[4,5],[4,26,1,2,24,25],[4,1,2,24,25,26,27],[4,1,2,24,25,26,9],[4,10,1,2,24,25,26,9],[4,10,1,2,24,25,26,9,34],[4,5],[4,1,2,24,25,26,44],[4,5],[4,26,1,2,24,25],[4,5]]⟩
def X0:=dH [[3,2],[3,2,22],[4],[5,3,2],[3,2,5,27],[5,3,2],[3,2,5,40],[4],[6,3,2],[3,2,6,45],[6,3,2],[3,2,6,75],[4],[4]]
def X3:=dH [[0],[8],[2],[2]]
def X9:FR:=⟨[],[17,19,24,26],0,V,[[2,0],[4,2,0],[19,4,17,2,18],[4,17,2,18,19,20],[4,17,2,18,19,6],[7,4,17,2,18,19,6],[26,7,24,4,17,2,18,19,25],[24,4,17,2,18,19,25,26,7,27],[24,4,17,2,18,19,25,26,9,7],[7,24,4,17,2,18,19,25,26],[26,7,24,4,17,2,18,19,25],[4,17,2,18,19],[19,4,17,2,18],[2,10,4],[2,4,10,46],[2,10,4],[2,4,10,61],[2,3],[2,4,66],[2,3],[2,3]]⟩
def M8:FR:=⟨[5,7],[],0,C,[[0],[0,4],[2],[2]]⟩
def Yh:FR:=⟨[11],[14,26,28],0,V,[[2,1],[2,5,1],[14,2,5,1,13],[2,5,1,13,14,15],[2,5,1,13,14,6],[2,5,1,13,14],[14,2,5,1,13],[28,5,1,26,27],[5,1,26,27,28,29],[5,1,26,27,28,8],[5,1,26,27,28,8,9],[5,1,26,27,28],[28,5,1,26,27],[4]]⟩
def ui:=qI [[0],[0,4],[2],[2]]
def M':=dH [[1,0],[1,0,10],[4],[5,1,0],[1,0,5,14],[5,1,0],[1,0,5,26],[4],[4]]
def YF:=dH [[2,3],[2,3,28],[4],[5,2,3],[2,3,5,33],[5,2,3],[2,3,5,46],[4],[6,3,2],[3,2,6,51],[6,3,2],[3,2,6,75],[4],[4]]
def YI:=dH [[0],[3,0],[0,3,11],[3,0],[0,3,19],[2],[2]]
def nS:FR:=⟨[],[8],0,C,[[0,1],[8,0,1,7],[0,1,7,8,9],[5,0,1,7,8],[5,0,1,7,8,16],[4],[8,0,1,7],[4]]⟩
def YO:FR:=⟨[],[21,23],3,V,[[1],[4,1],[4,1,13],[2,3],[1,18],[2,3],[5,1],[23,5,1,21,22],[5,1,21,22,23,24],[6,5,1,21,22,23,7],[8,6,5,1,21,22,23,7],[8,6,5,1,21,22,23,7,33],[2,3],[6,5,1,21,22,23,7,39],[2,3],[5,1,21,22,23],[23,5,1,21,22],[2,3]]⟩
def YT:=qI [[2,1],[2,6,4],[2,3]]
def Y1:=dH [[1],[1,10],[2],[1,18],[2],[2]]
def Y7:=dH [[3,2],[6],[4]]
def Y':=jx [[2,1,3],[4]]
def Zb:=dH [[1,2],[1,5],[7],[4]]
def Zo:FR:=⟨[23],[],0,C,[[3,2],[7,3,6,2],[7,3,6,2,16],[4,5],[8],[9,8],[9,8,27],[4,5],[4,5]]⟩
def Zp:FR:=⟨[],[38,40],3,V,[[1],[4,1],[4,1,13],[2,3],[1,5],[1,5,21],[5],[6,1,5],[1,6,5,27],[6,1,5],[1,5,6],[7,5],[40,7,38,39],[38,39,40,7,41],[38,39,40,9,7],[7,38,39,40],[40,7,38,39],[2,3]]⟩
def Zq:FR:=⟨[],[5,7],3,V,[[0],[7,5,6],[5,6,7,8],[5,6,7,4],[5,6,7,12],[2],[7,5,6],[2]]⟩
def sE:=dH [[1,0],[4]]
def Cl:FR:=⟨[],[13],3,V,[[1,0],[1,0,10],[4],[13,1,0,12],[1,0,12,13,14],[1,0,12,13,5],[1,0,12,13,24],[4],[13,1,0,12],[4]]⟩
def Zr:=dH [[3,2],[3,2,9],[4],[3,2,14],[4],[4]]
def Zs:FR:=⟨[1],[36],0,V,[[2,1],[3,2,1],[3,2,1],[36,3,2,1,35],[3,2,1,35,36,37],[3,2,1,35,36,4],[3,2,1,35,36,5],[3,2,1,35,36],[36,3,2,1,35],[2]]⟩
def Zt:=jx [[0,1,2],[0,7,1,2],[1,2,0,7,15],[1,2,0,7,24],[0,7,1,2],[0,7,1,2],[6]]
def Zu:=dH [[3,2],[3,2,34],[4],[5,3,2],[3,2,5,39],[5,3,2],[3,2,5,52],[4],[4]]
def Zv:=dH [[2,3],[4]]
def Zw:FR:=⟨[],[11,13],3,V,[[0],[0,9],[2],[3,0],[13,3,11,12],[3,11,12,13,14],[3,11,12,13,5],[6,3,11,12,13,5],[6,3,11,12,13,5,20],[2],[3,11,12,13,5,25],[2],[3,11,12,13],[13,3,11,12],[2]]⟩
def Nb:FR:=⟨[2,3],[],3,V,[[2,3],[6],[4]]⟩
def Zx:FR:=⟨[1,2,3,4,5,7],[],0,V,[[2,3,4,1],[2,3,4,6,5,1],[2,3,4,6,5,1,18],[2,3,4],[2,3,4,5,7,1],[2,3,4,6,5,7],[2,3,4,6,5,7,30],[2,3,4],[2,3,4,5,7,34],[2,3,4,5,7,8,36],[2,3,4,5,7,9,8],[2,3,4,11,5,7,9,10],[2,3,4,11,5,7,9,10,46],[2,3,4],[2,3,4,5,7],[2,3,4,5,7,64],[2,3,4],[2,3,4]]⟩
def Zy:FR:=⟨[],[42,44],0,C,[[0],[0,6],[2],[0,23],[2],[0,30],[2],[44,0,42,43],[0,42,43,44,45],[0,42,43,44,4,3],[5,0,42,43,44,4,3],[5,0,42,43,44,4,3,53],[2],[0,42,43,44,70],[2],[44,0,42,43],[2]]⟩
def Zz:=dH [[3,0],[5,3,0],[5,3,0,9],[4],[4]]
def ZA:FR:=⟨[],[30,32],0,V,[[6,0,5,1],[6,9,0,5,1],[6,9,0,5,1,17],[6,7,8],[6,0,5,1,22],[6,7,8],[6,0,5,1,28],[6,7,8],[6,32,0,30,5,1,31],[6,0,30,5,1,31,32,33],[6,0,30,5,1,31,32,10,11],[6,0,30,5,1,31,32,48],[6,7,8],[6,32,0,30,5,1,31],[6,12,5],[6,12,5,57],[6,7,8],[6,7,8]]⟩
def ZB:=dH [[1],[1,6],[2],[2]]
def ZC:FR:=⟨[],[4],3,V,[[1],[1,4],[2],[1,4,5],[1,4,5],[1,10],[2],[1,11],[1,15],[2],[2]]⟩
def ZD:=dH [[3,2],[3,2,9],[4],[3,2,19],[4],[3,2,29],[4],[34],[4],[4]]
def ZE:=dH [[3,2],[3,2,29],[4],[5,3,2],[3,2,5,34],[5,3,2],[3,2,5,47],[4],[6,3,2],[3,2,6,52],[6,3,2],[3,2,6,65],[4],[4]]
def ZF:FR:=⟨[],[9],0,V,[[0],[3],[9,3,8],[3,8,9,10],[3,8,9,4],[3,8,9],[9,3,8],[2]]⟩
def ZG:FR:=⟨[],[6,8],3,V,[[0],[3,0],[8,3,6,7],[3,6,7,8,9],[5,3,6,7,8],[5,3,6,7,8,14],[2],[8,3,6,7],[2]]⟩
def ZH:FR:=⟨[],[11,12,13],3,V,[[1,0],[1,0,5],[6,1,0,5],[6,1,0,11],[12],[4],[4],[1,0,13],[4],[1,0,16],[4],[19],[4],[4]]⟩
def ZI:FR:=⟨[],[10],3,V,[[3,2],[10,3,2,8,9],[3,2,8,9,10,11],[3,2,8,9,10,6],[7,3,2,8,9,10],[7,3,2,8,9,10,19],[4],[10,3,2,8,9],[4]]⟩
def Nc:=dH [[1,0],[1,0,10],[4],[5,1,0],[1,0,5,14],[5,1,0],[1,0,5,25],[4],[4]]
def ZJ:=dH [[2,1,3],[6]]
def ZK:=dH [[0],[3,0],[0,3,7],[3,0],[0,3,25],[2],[2]]
def ZL:=dH [[0],[3,0],[0,3,11],[3,0],[0,3,20],[2],[2]]
def ZM:FR:=⟨[],[16,18],3,V,[[1],[1,9],[2],[1,13],[2],[3,1],[18,3,16,17],[3,16,17,18,19],[3,16,17,18,5],[3,16,17,18,5,22],[2],[3,16,17,18,5,27],[2],[3,16,17,18,5,32],[2],[3,16,17,18],[18,3,16,17],[2]]⟩
def ZN:FR:=⟨[],[8,10],0,C,[[0],[10,8,9],[8,9,10,11],[8,9,10,5],[7,6,8,9,10],[7,6,8,9,10,21],[2,3],[10,8,9],[2,3]]⟩
def ZO:FR:=⟨[1],[],0,C,[[2,1],[2]]⟩
def Gk:=jx [[0],[1]]
def ZP:=dH [[0],[0,18],[2],[21],[2],[2]]
def Nd:=jx [[1,0],[2,3]]
def ZQ:FR:=⟨[3,4,5],[],3,V,[[5,3,4],[6,7]]⟩
def Gl:=jx [[1,0],[2]]
def WO:=jx [[1,0],[4],[2]]
def WQ:FR:=⟨[2,3,6],[],0,V,[[3,2],[6,3,2],[8,6],[8,6,23],[4,5],[4,5]]⟩
def WR:FR:=⟨[],[37,39],0,V,[[1],[4,1],[4,1,15],[2,3],[5],[5,6],[5,6,22],[5,6],[9,5,6,8],[9,5,6,8,35],[2,3],[39,5,37,6,38],[37,6,38,39,5,40],[37,6,38,39,11,5],[37,6,38,39,11,5,46],[5,37,6,38,39],[39,5,37,6,38],[5,6,54],[2,3],[2,3]]⟩
def WS:=dH [[1],[5,1],[5,1,12],[2,3,4],[7,6],[2,3,4]]
def Ch:FR:=⟨[1],[],0,C,[[1],[2]]⟩
def WT:=qI [[1],[4,1],[4,1,8],[2,3],[2,3]]
def WU:FR:=⟨[],[28,30],3,V,[[3,2],[5,3,2],[5,3,2,11],[4],[3,2,13],[4],[3,2,22],[4],[30,3,28,29],[3,28,29,30,31],[3,28,29,30,7],[3,28,29,30,7,34],[4],[3,28,29,30,7,38],[4],[3,28,29,30],[30,3,28,29],[4]]⟩
def WV:=jx [[3,0],[3,0,24],[4],[5,3,0],[5,3,0,29],[4],[3,6,0],[7,3,6,0],[7,3,6,0,44],[4],[3,6,46],[4],[3,6,56],[4],[3,8,6],[3,9,10,11],[92],[4],[4]]
def WW:=dH [[3,2],[5,3,2],[5,3,2,12],[4],[4]]
def WX:FR:=⟨[],[38,40],3,V,[[3,0],[5,3,0],[5,3,0,13],[4],[3,0,24],[4],[6,3],[6,3,36],[4],[40,6,38,39],[6,38,39,40,41],[6,38,39,40,7,8],[9,6,38,39,40,7,8],[9,6,38,39,40,7,8,48],[4],[6,38,39,40,57],[4],[40,6,38,39],[4]]⟩
def Ci:=jx [[2,1],[3]]
def Cj:=qI [[2,1],[2]]
def WZ:=dH [[3,2],[3,2,9],[4],[4]]
def W0:=qI [[0,2,1],[0,2,1],[0,2,1,7],[0,2,1,7,16],[6],[2,0,1,7,8],[2,0,1,7,8,22],[6],[1,0,7,2,8,31],[9,1,0,7,2],[9,1,0,7],[9],[6],[0,2,1,7,8],[0,2,1,7,8,68],[0,2,1],[0],[6],[0,7,1],[0],[6]]
def W3:=qI [[0],[0]]
def W4:=qI [[0,2,1],[0,2,1],[0,2,1,16],[6],[7,2,0,1],[0,7],[0],[6]]
def W6:=dH [[0],[0,7],[0],[0,3],[4,0,3],[0,4,3,15],[4,0,3],[0,3,4],[2]]
def W7:=dH [[1],[1,3],[2],[1,17],[2],[31],[2],[2]]
def W8:=dH [[1,0],[1,0,7],[4],[10],[4],[4]]
def pw:=dH []
def W9:=dH [[0],[3,0],[0,3,11],[3,0],[0,3,29],[2],[2]]
def Xa:FR:=⟨[],[19],3,V,[[0],[0,16],[2],[19,0,18],[0,18,19,20],[0,18,19,3],[0,18,19,33],[2],[19,0,18],[2]]⟩
def Gh:=jx [[0],[1,2]]
def M3:FR:=⟨[2,3],[],0,C,[[2,3],[4]]⟩
def Xc:=jx [[1,0],[5,1,3],[5,19],[2],[2]]
def Xd:FR:=⟨[8],[],0,C,[[2,1,0],[3,4]]⟩
def Xe:FR:=⟨[],[24,59,61],0,C,[[0,3],[6,0,3],[6,0,3],[6,0,3,24],[6,0,3,24,25],[6,0,3,24,25],[6,0,3,28],[6,0,3,41],[4,5],[7,6,0,3],[7,6,0,3,55],[4,5],[61,0,59,60],[0,59,60,61,62],[0,59,60,61,9],[11,10,0,59,60,61],[11,10,0,59,60,61,72],[4,5],[61,0,59,60],[4,5]]⟩
def Xf:FR:=⟨[5,6],[],3,V,[[1],[4,1],[4,1,10],[2,3],[6,5,1],[6,5],[2,3]]⟩
def Xh:FR:=⟨[],[24,26,35,37],3,V,[[0,3],[0,3,15],[4],[0,3,21],[4],[5,0,3],[26,5,24,0,3,25],[5,24,0,3,25,26,27],[5,24,0,3,25,26,7],[5,24,0,3,25,26],[26,5,24,0,3,25],[8,0,5,3],[37,8,0,5,35,36],[8,0,5,35,36,37,38],[8,0,5,35,36,37,10,9],[8,0,5,35,36,37,10,9,45],[8,0,5,35,36,37,47],[4],[0,5,35,36,37,10,11,8],[0,5,35,36,37,10,11,8,60],[4],[0,5,35,36,37,10,11,71],[4],[8,0,5,35,36,37],[37,8,0,5,35,36],[4]]⟩
def Xi:=jx [[0],[2],[2,6],[1],[9],[1],[1]]
def Xj:FR:=⟨[],[9,11],0,C,[[2,0,1],[11,2,0,1,9,10],[2,0,1,9,10,11,12],[2,0,1,9,10,11,5],[7,2,0,1,9,10,11,6],[7,2,0,1,9,10,11,6,24],[3],[2,0,1,9,10,11],[11,2,0,1,9,10],[3]]⟩
def Xk:FR:=⟨[],[20,22],3,V,[[0,5,1],[8,0,5,1],[8,0,5,1,15],[6,7],[0,5,1,19],[6,7],[22,0,20,5,1,21],[0,20,5,1,21,22,23],[0,20,5,1,21,22,10],[0,20,5,1,21,22,35],[6,7],[22,0,20,5,1,21],[11,5,1,0],[11,5,1,0,40],[6,7],[6,7]]⟩
def Xl:FR:=⟨[],[24,26],3,V,[[1,2],[6,1,2],[6,1,2,14],[4,5],[1,2,18],[4,5],[7,1],[26,7,24,25],[7,24,25,26,27],[8,7,24,25,26,9],[8,7,24,25,26,9,10],[8,7,24,25,26,9,10,34],[10,8,7,24,25,26],[10,8,7,24,25,26,39],[4,5],[26,7,24,25],[4,5]]⟩
def Xm:=dH [[1],[3,1],[3,1,10],[2],[6],[19],[2],[2]]
def Xn:FR:=⟨[1,2,3,4,5,6,7,8],[],0,V,[[2,3,4,1],[2,3,4,5,1],[2,3,4,6,5,1],[2,3,4,6,5,10],[2,3,4,6,5,7,12],[2,3,4,6,5,7,8],[2,3,4,6,5,7,8],[2,3,4,6,5,7,8,16],[2,3,4,6,5,7,8],[2,3,4,6,5,7,8,24],[2,3,4,6,5,7,8,28],[2,3,4],[2,3,4,6,5,7,8],[2,3,4,6,5,7],[2,3,4,6,5,7,41],[2,3,4,6,5],[2,3,4,6,5,48],[2,3,4],[2,3,4]]⟩
def M4:FR:=⟨[3],[],3,V,[[3,0],[4]]⟩
def Xo:FR:=⟨[1,5,6,7,8,9],[18,29],3,V,[[1],[7,6,5,1],[7,6,5,11],[7,6,5,8],[7,6,5,8,9],[7,6,5,8,9,18],[7,6,5,8,9],[7,6,5,8,9],[7,6,5,8,29],[7,6,5],[7,6,5],[2,3,4]]⟩
def Xp:FR:=⟨[],[10,12,25],0,C,[[1,12,0,10,11],[1,0,10,11,12,13],[1,3,0,10,11,12,4],[6,1,3,5,0,10,11,12],[25,6,1,3,5,0,10,11,12,24],[6,1,3,5,0,10,11,12,24,25,26],[6,1,3,5,0,10,11,12,24,25,8],[6,1,3,5,0,10,11,12,24,25,9],[6,1,3,5,0,10,11,12,24,25,9],[6,1,3,5,0,10,11,12,24,25,9,39],[6,1,3,5,0,10,11,12,24,25],[25,6,1,3,5,0,10,11,12,24],[1,0,10,11,12,57],[1,12,0,10,11]]⟩
def Xq:=qI [[1],[5,1],[5,1,9],[2,3,4],[2,3,4]]
def Xr:FR:=⟨[1,2,5],[],3,V,[[2,1],[2,1,4,3],[2,1,4,13],[2],[2,1,15],[2],[2,17],[2,5],[2,6],[2,6,22],[2],[2]]⟩
def Xs:FR:=⟨[],[7,19,21],0,V,[[1],[1,3],[1,3,7],[1,3,7,8],[1,3,7,8],[2],[3,1,7,16],[21,3,19,20],[19,20,21,3,22],[19,20,21,5,3],[3,19,20,21],[21,3,19,20],[1,3,7,30],[1,3],[2],[1,3,51,7],[1,3,51],[2],[2]]⟩
def Xt:FR:=⟨[],[23,25],3,V,[[1],[1,6],[2],[1,15],[2],[3,1],[25,3,23,24],[23,24,25,3,26],[23,24,25,5,3],[23,24,25,5,3,29],[2],[23,24,25,5,36],[2],[3,23,24,25],[25,3,23,24],[2]]⟩
def Ck:FR:=⟨[],[9,11,25,27],0,V,[[0],[3,0],[11,3,9,0,10],[9,0,10,11,3,12],[9,0,10,11,5,3],[3,9,0,10,11],[3,9,0,10,11,20],[3,9,0,10,11],[11,3,9,0,10],[6,0],[27,6,25,26],[25,26,27,6,28],[25,26,27,8,6],[6,25,26,27],[27,6,25,26],[2]]⟩
def Xv:=dH [[1],[1,3],[2],[12],[2],[2]]
def Xw:FR:=⟨[],[32,53,55],3,V,[[3,2],[5,3,2],[5,3,2,16],[4],[3,2,25],[4],[32,30,3,2,31],[30,3,2,31,32,33],[30,3,2,31,32,7],[8,30,3,2,31,32],[8,30,3,2,31,32,39],[4],[32,30,3,2,31],[9,3,2],[9,3,2,46],[4],[3,2,51],[4],[55,3,2,53,54],[3,2,53,54,55,56],[3,2,53,54,55,11,10],[12,3,2,53,54,55,11,10],[12,3,2,53,54,55,11,10,65],[4],[3,2,53,54,55,79],[4],[55,3,2,53,54],[4]]⟩
def Xy:FR:=⟨[],[31,33],0,V,[[7,2,1,4],[12,11,7,2],[12,11,7,2,26],[8,9,10],[11,7,2,30],[8,9,10],[33,11,31,7,2,32],[11,31,7,2,32,33,34],[11,31,7,2,32,33,14],[15,11,31,7,2,32,33],[15,11,31,7,2,32,33,41],[8,9,10],[33,11,31,7,2,32],[16,7,2,11],[16,7,2,11,48],[8,9,10],[18,17],[18,17,64],[8,9,10],[8,9,10]]⟩
def Xz:=dH [[1],[1,31],[2],[3,1],[1,3,36],[3,1],[1,3,45],[2],[2]]
def XA:=dH [[1],[1,7],[2],[3],[4,3],[3,4,13],[4,3],[3,4,22],[2],[2]]
def XC:=dH [[1],[1,3],[1,3,7],[1,3],[4,1,3],[1,4,3,12],[4,1,3],[1,3,4],[2]]
def XD:=dH [[1],[3,1],[1,3,15],[3,1],[1,3,55],[2],[4,1],[1,4,64],[4,1],[5,1,4],[5,1,4,105],[2],[6,5,1,4],[5,1,4,6,110],[6,5,1,4],[5,1,4,6,119],[2],[2]]
def XE:FR:=⟨[],[13,15],3,V,[[0,1],[0,1,11],[4],[0,5,1],[15,0,5,13,14],[0,5,13,14,15,16],[0,5,13,14,15,7],[8,0,5,13,14,15,7],[8,0,5,13,14,15,7,23],[4],[0,5,13,14,15,7,28],[4],[0,5,13,14,15,7],[0,5,13,14,15,41],[4],[15,0,5,13,14],[4]]⟩
def XF:=dH [[5,1,0],[8,7],[8,7,17],[6],[20],[6],[6]]
def XH:FR:=⟨[3,4,5],[],0,C,[[2,3],[2,4,3],[2,5,4,3],[2,5]]⟩
def XI:=jx [[3,4,0,7,6],[3,4,0,7,6,14],[8],[3,4,0],[3,4,0,22],[3],[8]]
def XJ:FR:=⟨[],[52,54],3,V,[[3,2],[3,2,16],[3,2,5],[3,2,5,25],[4],[3,2,32,5],[3,2,32],[4],[54,3,52,53],[3,52,53,54,55],[3,52,53,54,7],[8,3,52,53,54],[8,3,52,53,54,62],[4],[54,3,52,53],[4]]⟩
def XK:FR:=⟨[],[10],0,V,[[4,3,2],[4,5,3,2],[4,5,3,2,10],[4,5,3,2,10,11],[4],[4,2,5,3,22],[4],[4]]⟩
def XL:=dH [[1],[1,4,3],[1,4,10],[2],[1,13],[2],[2]]
def XM:FR:=⟨[],[22,24],3,V,[[3,2],[3,2,15],[4,5],[6,2,3],[24,6,2,22,3,23],[2,22,3,23,24,6,25],[2,22,3,23,24,6,8],[10,2,22,3,23,24,9,6],[10,2,22,3,23,24,9,6,35],[4,5],[6,2,22,3,23,24],[24,6,2,22,3,23],[11,3],[11,3,47],[4,5],[56],[4,5],[4,5]]⟩
def XN:FR:=⟨[1,3,4],[],0,V,[[1],[3,1],[3,6],[3,4],[3,4,10],[3],[3],[2]]⟩
def XO:FR:=⟨[],[19,21],0,V,[[1],[1,11],[2],[1,14],[2],[3,1],[21,3,19,20],[19,20,21,3,22],[19,20,21,5,3],[3,19,20,21],[21,3,19,20],[2]]⟩
def XP:FR:=⟨[1,2,4],[],3,V,[[2,1],[2,3,1],[2,3,1,8],[2],[2,11],[2,4],[2,15],[2],[2]]⟩
def XQ:FR:=⟨[1],[4],0,C,[[1],[1,4],[1,4,5],[2],[1,4,8],[1,4,8],[1,4,8],[2],[1,4,14],[2],[1,22],[2],[2]]⟩
def XS:=dH [[3,2],[3,2,45],[4],[4]]
def yI:=jx [[1,2],[3]]
def M5:FR:=⟨[],[11,13],3,V,[[1],[5,4,1],[13,5,4,11,12],[11,12,13,5,4,14],[11,12,13,5,4,7],[11,12,13,9,5,8,4],[5,4,11,12,13],[13,5,4,11,12],[2,3]]⟩
def XT:FR:=⟨[],[64],3,V,[[1],[1,12],[2],[1,3],[1,3,17],[2],[1,3,32],[2],[1,3,64],[4,1,3],[4,1,3,69],[2],[112],[2],[2]]⟩
def XV:=dH [[1],[3,1],[3,1,12],[2],[5,1,4],[5,1,4,22],[2],[28],[2],[2]]
def XW:FR:=⟨[],[10,12],3,V,[[0],[0,8],[2],[3,0],[12,3,0,10,11],[3,0,10,11,12,13],[3,0,10,11,12,5,4],[3,0,10,11,12,5,4,17],[2],[3,0,10,11,12,5,21],[2],[3,0,10,11,12,5,34],[2],[3,0,10,11,12],[12,3,0,10,11],[2]]⟩
def XX:FR:=⟨[13,8],[20,22],3,V,[[3,2],[5,3,2],[6,5,3,2],[22,6,5,3,2,20,21],[6,5,3,2,20,21,22,23],[6,5,3,2,20,21,22,8,7],[9,6,5,3,2,20,21,22,8,7],[9,6,5,3,2,20,21,22,8,7,32],[4],[6,5,3,2,20,21,22,8,7,44],[4],[10,6,5,3,2,20,21,22,8,7],[10,6,5,3,2,20,21,22,8,7,49],[4],[6,5,3,2,20,21,22,55],[4],[22,6,5,3,2,20,21],[4]]⟩
def XY:=dH [[4,5,3],[7],[7,16],[6],[6]]
def XZ:=dH [[2,3],[2,5,6],[4]]
def X1:FR:=⟨[24],[25,27],0,C,[[1,2],[6,1,2],[6,1,2,14],[4,5],[7,1,2],[7,1,2,19],[4,5],[8,1],[27,8,25,26],[8,25,26,27,28],[8,25,26,27,10],[8,25,26,27],[27,8,25,26],[4,5]]⟩
def X2:FR:=⟨[],[32,34,84,86],0,C,[[3,0],[3,0,11],[4],[3,0,26],[4],[34,3,0,32,33],[3,0,32,33,34,35],[3,0,32,33,34,6,5],[3,0,32,33,34,8,6,5],[3,0,32,33,34,8,6,5,49],[4],[3,0,32,33,34,8,63],[4],[3,0,32,33,34,79],[4],[34,3,0,32,33],[86,3,0,84,85],[3,0,84,85,86,87],[3,0,84,85,86,9,10],[3,0,84,85,86,9,10,91],[4],[3,0,84,85,86,115],[4],[86,3,0,84,85],[4]]⟩
def X4:=dH [[1],[1,12],[2],[3],[4,3],[3,4,18],[4,3],[3,4,27],[2],[2]]
def M6:=dH [[1,2],[1,2,5],[6,1,2,5],[1,2,6,5,16],[6,1,2,5],[1,2,5,6],[4]]
def X5:=qI [[1],[1,3],[4,1,3],[1,4,3,11],[4,1,3],[1,3,4],[2]]
def X6:=dH [[0],[3,0],[0,3,7],[3,0],[0,3,16],[2],[2]]
def X7:FR:=⟨[],[19,21],0,C,[[6,5,4,2,3],[6,5,4,2,3],[6,5,4,17],[7],[21,6,5,4,19,20],[6,5,4,19,20,21,22],[6,5,4,19,20,21,9],[6,5,4,19,20,21,9,29],[7],[6,5,4,19,20,21,9,32],[6,5,4,19,20,21],[21,6,5,4,19,20],[7]]⟩
def X8:=qI [[1,0],[5],[5],[4]]
def X':FR:=⟨[],[16,18],0,C,[[1,2],[5,1,2],[5,1,2,13],[4],[18,1,16,17],[1,16,17,18,19],[1,16,17,18,7],[8,1,16,17,18],[8,1,16,17,18,26],[4],[18,1,16,17],[4]]⟩
def Ya:FR:=⟨[],[73],3,V,[[1],[1,3,4],[1,3,17],[2],[1,22],[2],[1,6,5],[1,6,5,52],[2],[1,7,6,5],[1,7,6,5,66],[2],[1,8,7,6,5],[1,8,7,6,5,73],[9,1,8,7,6,5],[9,1,8,7,6,5,77],[2],[113],[2],[2]]⟩
def Yb:=dH [[3,2],[3,2,10],[4,5],[3,2,19],[4,5],[3,2,27],[4,5],[3,6],[3,6,44],[4,5],[7,3],[7,68],[4,5],[4,5]]
def Yc:FR:=⟨[],[8,10,14],3,V,[[1,0],[10,1,0,8,9],[1,0,8,9,10,11],[1,0,8,9,10,6],[1,0,8,9,10,6,7],[1,0,8,9,10,6,7,14],[1,0,8,9,10,6,7,14,15],[1,0,8,9,10,6,7,14,15],[1,0,8,9,10,6,7,14,15],[1,0,8,9,10,6,7,14,15],[1,0,8,9,10,7],[1,0,8,9,10,6,7,14,22],[1,0,8,9,10,6,7,14,22],[1,0,8,9,10,6,7,14,22],[1,0,8,9,10,7],[1,0,8,9,10,6,7,28],[1,0,8,9,10,7],[1,0,8,9,10,36],[4],[10,1,0,8,9],[4]]⟩
def Yd:FR:=⟨[],[],1,V,[]⟩
def Gj:FR:=⟨[],[],2,V,[]⟩
def M7:=jx []
def Ye:FR:=⟨[],[51],3,V,[[3,2],[3,2,47],[4],[51,3,2,50],[3,2,50,51,52],[3,2,50,51,5],[3,2,50,51,65],[4],[51,3,2,50],[4]]⟩
def yJ:FR:=⟨[],[15,17],0,C,[[2,1,0],[2,1,0,14],[6],[17,2,1,15,16],[2,1,15,16,17,18],[2,1,15,16,17,8,7],[2,1,15,16,17,9,8],[2,1,15,16,17,30],[6],[17,2,1,15,16],[6]]⟩
def Yf:FR:=⟨[],[12,14],0,C,[[1,2],[1,2,10],[4],[14,1,12,13],[1,12,13,14,15],[1,12,13,14,6],[1,12,13,14,21],[4],[14,1,12,13],[4]]⟩
def Yg:=dH [[2,1,0],[6]]
def Yi:FR:=⟨[5],[],0,C,[[0,3],[5,0,6,7],[5,0,47],[4],[],[4]]⟩
def Yj:FR:=⟨[],[44,46],3,V,[[4,5,7,1,3],[12,4,11,5,7,1],[12,4,11,5,7,1,30],[10],[4,11,5,7,1,34],[10],[13,4,11,5,7],[13,4,11,5,7,40],[10],[14,4,11,5,15],[46,14,4,11,5,44,15,45],[4,11,5,44,45,46,14,15,47],[4,11,5,44,45,46,17,14,16],[4,11,5,44,45,46,19,18,20],[4,11,5,44,45,46,19,18,70],[10],[14,4,11,5,44,15,45,46],[46,14,4,11,5,44,15,45],[77],[10],[10]]⟩
def Yk:=qI [[0],[4],[4,10],[2,3],[2,3]]
def Yl:FR:=⟨[],[47,49,62,64],3,V,[[1],[1,10],[2],[1,29],[2],[49,1,47,48],[1,47,48,49,50],[1,47,48,49,4],[5,1,47,48,49],[5,1,47,48,49,58],[2],[49,1,47,48],[6,1],[64,6,1,62,63],[1,62,63,64,6,65],[1,62,63,64,8,6],[9,1,62,63,64,8],[9,1,62,63,64,8,73],[2],[6,1,62,63,64],[64,6,1,62,63],[2]]⟩
def Ym:FR:=⟨[3],[],3,V,[[3,2],[4]]⟩
def Yn:FR:=⟨[3,4,5],[],0,C,[[3,4,5],[6]]⟩
def Yo:FR:=⟨[3],[],0,C,[[3,0],[3,0],[4]]⟩
def Yp:FR:=⟨[51],[32,34,53,55],0,C,[[4,1,6,3],[10,4,1,6,3],[10,4,1,6,3,24],[8,9],[4,1,6,3,31],[8,9],[34,4,32,1,6,3,33],[4,32,1,6,3,33,34,35],[4,32,1,6,3,33,34,12],[13,4,32,1,6,3,33,34],[13,4,32,1,6,3,33,34,43],[8,9],[34,4,32,1,6,3,33],[1,14,6],[55,1,14,53,54],[1,14,53,54,55,56],[1,14,53,54,55,16],[17,1,14,53,54,55],[17,1,14,53,54,55,67],[8,9],[55,1,14,53,54],[8,9]]⟩
def Yq:=jx [[1,4,0]]
def M9:=dH [[1],[1,3],[4,1,3],[1,4,3,9],[4,1,3],[1,3,4],[2]]
def Yr:FR:=⟨[],[8],3,V,[[0,1],[8,0,1,7],[0,1,7,8,9],[5,0,1,7,8],[5,0,1,7,8,16],[4],[8,0,1,7],[4]]⟩
def Ys:=dH [[0],[0,4],[2,3],[0,11],[2,3],[14],[2,3],[2,3]]
def Yt:FR:=⟨[],[4],3,V,[[0],[4],[4,5],[4,5],[2,3],[8,4],[8],[2,3],[2,3]]⟩
def Yu:=dH [[1],[3,1],[3,1,8],[2],[31],[2],[2]]
def Yv:=dH [[0,3],[4]]
def Yw:=dH [[2,1,0,8,3],[2,1,0,9,8,3],[2,1,0,9,8,10,3],[2,1,0,9,8,10,3,23],[],[2,1,0,9,8,10,3,29],[],[2,0,9,8,1,10,3,35],[2,0,9,8,1,10,3],[2,0,9,8,3,1,10],[2,0,9,8,3,1,10,11,12],[2,0,9,8,3,1,10,11,12,50],[2,0,9,8,3,1,10,11],[2,0,9,8,3,11,1,10],[2,0,9,8,3,11,1,10,12],[2,0,9,8,3,11,1,10,68],[2,0,9,8,3,11,1,10,72],[2,0,9,8,3,11,1,10,87],[2,0,9,8,3,13],[2,1,0,9,8,3],[2,0,3,14,1,10,15],[2,0,9,3,14,1,10],[2,0,9,3,14,1,16,17,10],[2,0,9,3,14,1,18,16,17],[2,0,9,3,14,1,18,16,17,113],[2,0,9,8,3,14,1],[2,0,9,8,3,14],[2,1,0,9,8,3],[1,0,9,8,3,14,2],[1,0,9,8,3,14],[2,1,0,9,8,3]]
def Yx:=dH [[0],[2],[2]]
def Yy:FR:=⟨[2,3,4,5,6],[8,10,27],0,C,[[2,1],[10,2,1,8,9],[2,1,8,9,10,11],[2,1,8,9,10,3,4],[2,1,8,9,10,3,4,21],[2,1,8,9,10,3,23],[2,1,8,9,10,5,3,25],[2,1,8,9,10,6,5,3],[2,1,8,9,10,6,5,3,27],[2,1,8,9,10,6,5,3,27,28],[2,1,8,9,10,6,5],[2,1,8,9,10,6,5,3,35],[2,1,8,9,10,6,5],[2,1,8,9,10,46],[10,2,1,8,9]]⟩
def Yz:=qI [[4,2,1],[4,2,5],[4,2,5,10],[4,5],[4,5,18],[4],[4]]
def YA:FR:=⟨[],[11],0,V,[[6,1,5,0],[6,1,7,5],[6,1,7,5,11],[6,7],[6,7],[6]]⟩
def YB:FR:=⟨[3,4,5],[],0,C,[[2,3,1],[2,3,7],[2,4,3,9],[2,5,4,3],[2,5,4,3,12],[25],[38]]⟩
def YC:FR:=⟨[2,3,4],[16,28],0,C,[[2,1],[2,1,10],[3,2,1,12],[4,3,2,1],[4,3,2,5,1],[4,3,2,5,1,16],[4,3,2,5,1],[4,3,2,5,1],[4,3,2,5,1,16,25],[4,3,2,5,1,28],[4,3,2,5,1],[4,3,2,1,37,16],[4,3,2,1,37],[4,3,2,5,1],[4,3,2,5,1],[4,3,2,5,1,50],[4,3,2],[61]]⟩
def YD:FR:=⟨[],[9,45],0,V,[[8,5,4,2,3],[8,5,4,2,9],[8,5,4,2],[8,5,4,2,25],[8,5,4,2],[8,5,4,2],[8,5,4,45],[8,5],[8]]⟩
def YE:FR:=⟨[3,5],[],0,V,[[6,3,5,1],[6,3],[6]]⟩
def YG:=jx [[3,6,1,4],[10,3,6,1,4],[10,3,6,1,4,14],[8,9],[8,9]]
def YH:FR:=⟨[10],[24,26],0,C,[[0,2,1],[7,8,0,2,1],[26,7,8,0,2,1,24,25],[7,8,0,2,1,24,25,26,27],[7,8,0,2,1,24,25,26,10,9],[11,7,8,0,2,1,24,25,26,10,9],[11,7,8,0,2,1,24,25,26,10,9,39],[6],[7,8,0,2,1,24,25,26,10,12,9],[7,8,0,2,1,24,25,26,10,12,9,42],[6],[7,8,0,2,1,24,25,26,10,12,9,50],[6],[7,8,0,2,1,24,25,26,10,63],[6],[7,8,0,2,1,24,25,26,10,81],[7,0,2,1,24,25,26,13,8,14,15],[7,0,2,1,24,25,26,13,112],[6],[7,8,0,2,1,24,25,26],[26,7,8,0,2,1,24,25],[6]]⟩
def YJ:FR:=⟨[6],[11,13],3,V,[[1,2],[1,2,10],[4],[13,1,2,11,12],[1,2,11,12,13,14],[1,2,11,12,13,6,5],[1,2,11,12,13,6,5,18],[4],[1,2,11,12,13,6,39],[4],[7,1,2,11,12,13],[7,1,2,11,12,13,49],[4],[13,1,2,11,12],[4]]⟩
def YK:FR:=⟨[],[63,65],3,V,[[4,3,2],[4,3,2,12],[6],[4,3,47],[6],[7,4,3],[7,4,3,56],[6],[4,3,61],[6],[65,63,4,3,64],[63,4,3,64,65,66],[63,4,3,64,65,9],[10,63,4,3,64,65],[10,63,4,3,64,65,72],[6],[65,63,4,3,64],[11,4],[11,4,88],[6],[92],[6],[6]]⟩
def YL:FR:=⟨[5],[39,41],0,C,[[0,3,5,2,1],[0,3,5,2,1,6],[0,3,5,2,1,34],[41,0,3,5,2,1,39,40],[0,3,5,2,1,39,40,41,42],[0,3,5,2,1,39,40,41,8],[0,3,5,2,1,39,40,41,8,49],[0,3,5,2,1,39,40,41,9,10],[0,3,5,2,1,39,40,41,65],[41,0,3,5,2,1,39,40]]⟩
def YM:=jx [[0,1],[0,1,10],[4],[5,0,1],[5,0,1,15],[5,0,1],[5,0,1,28],[5,6,0,1],[7,5,6,0,1],[6,0,1,7,5,35],[7,5,6,0,1],[6,0,1,7,5,49],[6,0,1,7,5],[5,6,0,1,7],[5,0],[4],[4]]
def YN:=jx [[4,3,2],[5]]
def Na:FR:=⟨[],[11,13],0,C,[[2,1,0],[13,2,1,11,0,12],[2,1,11,0,12,13,14],[2,1,11,0,12,13,8,7],[2,1,11,0,12,13,8,7,21],[6],[2,1,11,0,12,13,9,8],[10,2,1,11,0,12,13],[10,2,1,11,0,12,13,31],[6],[13,2,1,11,0,12],[38],[6],[6]]⟩
def YP:=dH [[5,1,3],[8,5,7],[8,5,7,16],[6],[6]]
def YQ:=jx [[0,5,4],[0,5,4,10],[6],[0,5,4,25],[6],[0,5,4],[0,5],[0,5,57],[6],[7,0,8,9],[7,0,94],[6],[],[6]]
def YR:FR:=⟨[3],[],0,V,[[4,0,3],[4,5,0],[4]]⟩
def YS:=jx [[4,2,1,0,10,3],[4,2,1,0,11,10,3],[4,2,1,0,11,10,12,3],[4,2,1,0,11,10,12,3,25],[],[4,2,1,0,11,10,12,3,32],[],[4,2,0,11,10,1,12,3,39],[4,2,0,11,10,1,12,3],[4,2,0,11,10,3,1,12],[4,2,0,11,10,3,1,12,13,14],[4,2,0,11,10,3,1,12,13,14,56],[4,2,0,11,10,3,1,12,13],[4,2,0,11,10,3,13,1,12],[4,2,0,11,10,3,13,1,12,14],[4,2,0,11,10,3,13,1,12,75],[4,2,0,11,10,3,13,1,12,80],[4,2,0,11,10,3,13,1,12,97],[4,2,0,11,10,3,15],[4,2,1,0,11,10,3],[4,2,0,3,16,1,12,17],[4,2,0,11,3,16,1,12],[4,2,0,11,3,16,1,18,19,12],[4,2,0,11,3,16,1,20,18,19],[4,2,0,11,3,16,1,20,18,19,125],[4,2,0,11,10,3,16,1],[4,2,0,11,10,3,16],[4,2,1,0,11,10,3],[4,1,0,11,10,3,16,2],[4,1,0,11,10,3,16],[4,2,1,0,11,10,3]]
def YU:=dH [[0,1],[0,1,5,6],[0,7,1,5,6],[0,8,7,1,5,6],[9,0,8,7,1,5,6],[0,7,1,5,6,9,8,20],[9,0,8,7,1,5,6],[0,8,7,1,5,6,9],[7,1,0,5,6,8,39],[4],[7,1,0,5,10,6,8],[7,1,0,5,6,10,8,44],[7,1,0,5,6,10,8],[7,1,0,5,6,10,8],[7,1,0,5,6,8,10],[7,10,1,0,5,6,8],[7,10,1,0,5,6,8,77],[4],[4]]
def YV:=dH [[0,6,1,2],[0,1,2,6,12],[0,6,1,2],[7,0,1,2,6],[0,1,2,6,7,30],[7,0,1,2,6],[0,1,2,6,7]]
def YW:=dH [[6,0,1,2],[6,0,7,1,2],[6,8,0,7],[9,6,8,0,7],[6,8,0,7,9,19],[9,6,8,0,7],[6,8,0,7,9],[10,6,7,0],[6,7,0,10,30],[10,6,7,0],[6,7,0,10],[6,7,0,10]]
def YX:FR:=⟨[7],[],3,V,[[0,1,6],[0,1,6,15],[0,1,6,7],[0,1,6,8,7],[9,0,1,6,8,7],[0,1,6,8,7,9,33],[9,0,1,6,8,7],[0,1,6,8,7,9,10],[0,1,6,8,7,9,10,43],[0,1,6,8,7,9,10],[0,1,6,8,7,9]]⟩
def YY:FR:=⟨[9],[49],3,V,[[0,1,2],[0,8,1],[9,0,8,1],[9,0,10,8,1],[9,0,11,10,8,1],[9,0,12,11,10,8],[9,0,12,11,10,8,32],[9,0,12,11,10,34],[9,10,0,12,11],[9,11,10,0,12],[9,12,11,10,0],[11,9],[11,49],[6,7],[11,49,51],[6,7],[11,54],[6,7]]⟩
def YZ:=dH [[6,0,2],[7,6,0],[0,7,6,13],[0,7,6],[6,0,7],[7,6,0]]
def Y0:=dH [[0,2,1],[7,0,2,1],[7,8,0,2,1],[7,0,2,1,8,14],[7,8,0,2,1],[0,2,1,8,7,32],[7,0,2,1,8],[7,0,2,1,8,37],[6],[7,0,2,1,8,41],[6],[7,0,2,1,8],[7,0,2,1,8,61],[7,0,2,1,8,9],[7,0,2,1,8,9,65],[7,0,2,1,8,9],[7,0,2,1,8,9,78],[7,0,2,1,8,9],[7,0,2,1,8,98],[7,0,2,1,8,10],[7,0,2,1,8,10,103],[7,0,2,1,8,10],[7,0,2,1,8,10,116],[7,0,2,1,8,10],[6]]
def Y2:=dH [[0,1,2,3],[0,1,2],[9,10,0,1],[10,0,1,9,43],[9,10,0,1],[9,0,1,10,59],[10,9,0,1],[9,0,1,10,64],[0,1,10,9],[9,0,1,10],[9,10,0,1],[8]]
def Y3:=dH [[0,1,2,3],[0,1,2],[10,11,0,1],[11,0,1,10,43],[10,11,0,1],[0,1,10,11,60],[11,0,1,10],[11,0,1,10,65],[11],[8,9],[0,1,11,10],[10,0,1,11],[10,11,0,1],[11,0,1,10,112],[10,11,0,1],[0,1,10,11,129],[11,0,1,10],[11,0,1,10,134],[0,1,11,10],[10,0,1,11],[10,11,0,1],[11],[8,9]]
def Y4:=dH [[0,2],[0,2,4],[0],[2,0],[2,0,8],[0,2],[0,2],[2]]
def Y5:=dH [[0,2],[0,2,4],[0],[2,0],[2,0,8],[0,2],[2,0],[2,0,14],[0,2],[0,2],[2]]
def Y6:=qI [[4,1,0],[4,1,0,7],[4],[4]]
def Y8:FR:=⟨[],[9,11,15,17],3,V,[[2,1],[2,11,9,10],[2,9,10,11,12],[6,2,9,10,11],[17,6,2,15,9,10,11,16],[6,2,15,9,10,11,16,17,18],[6,2,15,9,10,11,16,17,8,7],[6,2,15,9,10,11,16,17,8,7,22],[4],[6,2,15,9,10,11,16,17,28],[4],[17,6,2,15,9,10,11,16],[2,11,9,10],[4]]⟩
def Y9:FR:=⟨[],[6,8],0,V,[[0],[3,0],[8,3,6,7],[6,7,8,3,9],[6,7,8,5,3],[3,6,7,8],[8,3,6,7],[2]]⟩
def Za:=jx [[0,8,3,1,2],[0,3,1,2,8,14],[0,8,3,1,2],[9,0,3,1,2,8],[0,3,1,2,8,9,34],[9,0,3,1,2,8],[0,3,1,2,8,9]]
def Zc:=jx [[3,8,0,1,2],[3,8,0,9,1,2],[3,8,10,0,9],[11,3,8,10,0,9],[3,8,10,0,9,11,21],[11,3,8,10,0,9],[3,8,10,0,9,11],[12,3,8,9,0],[3,8,9,0,12,33],[12,3,8,9,0],[3,8,9,0,12],[3,8,9,0,12]]
def Zd:FR:=⟨[9],[],0,C,[[0,1,8],[0,1,8,17],[0,1,8,9],[0,1,8,10,9],[11,0,1,8,10,9],[0,1,8,10,9,11,35],[11,0,1,8,10,9],[0,1,8,10,9,11,12],[0,1,8,10,9,11,12,45],[0,1,8,10,9,11,12],[0,1,8,10,9,11]]⟩
def Ze:FR:=⟨[11],[55],0,C,[[3,0,1,2],[3,0,10,1],[11,3,0,10,1],[11,3,0,12,10,1],[11,3,0,13,12,10,1],[11,3,0,14,13,12,10],[11,3,0,14,13,12,10,34],[11,3,0,14,13,12,36],[11,3,12,0,14,13],[11,3,13,12,0,14],[11,3,14,13,12,0],[13,11],[13,55],[8,9],[13,55,57],[8,9],[13,60],[8,9]]⟩
def Zf:=jx [[8,0,2],[9,8,0],[0,9,8,15],[0,9,8],[8,0,9],[9,8,0]]
def Zg:=jx [[0,3,2,1],[9,0,3,2,1],[9,10,0,3,2,1],[9,0,3,2,1,10,16],[9,10,0,3,2,1],[0,3,2,1,10,9,36],[9,0,3,2,1,10],[9,0,3,2,1,10,41],[8],[9,0,3,2,1,10,45],[8],[9,0,3,2,1,10],[9,0,3,2,1,10,65],[9,0,3,2,1,10,11],[9,0,3,2,1,10,11,69],[9,0,3,2,1,10,11],[9,0,3,2,1,10,11,84],[9,0,3,2,1,10,11],[9,0,3,2,1,10,104],[9,0,3,2,1,10,12],[9,0,3,2,1,10,12,109],[9,0,3,2,1,10,12],[9,0,3,2,1,10,12,124],[9,0,3,2,1,10,12],[8]]
def Zh:=jx [[0,1,4,2,3],[0,1,4,2],[11,12,0,1,4],[12,0,1,4,11,47],[11,12,0,1,4],[11,0,1,4,12,65],[12,11,0,1,4],[11,0,1,4,12,70],[0,1,4,12,11],[11,0,1,4,12],[11,12,0,1,4],[10]]
def Zi:=jx [[0,1,4,2,3],[0,1,4,2],[12,13,0,1,4],[13,0,1,4,12,47],[12,13,0,1,4],[0,1,4,12,13,66],[13,0,1,4,12],[13,0,1,4,12,71],[13],[10,11],[0,1,4,13,12],[12,0,1,4,13],[12,13,0,1,4],[13,0,1,4,12,120],[12,13,0,1,4],[0,1,4,12,13,139],[13,0,1,4,12],[13,0,1,4,12,144],[0,1,4,13,12],[12,0,1,4,13],[12,13,0,1,4],[13],[10,11]]
def Zj:=dH [[0],[0,4],[5,0,4],[0,5,4,12],[5,0,4],[0,4,5],[7,6,4,0],[8,7,6,4],[4,8,7,6,25],[8,7,6,4],[4,8,7,6,30],[6,4,8,7],[7,6,4,8],[2,3]]
def Zk:=dH [[8,3,0,2],[3,0,2,8,9],[3,0,2,8,9,16],[3,0,2,8,9,36],[3,0,2,9,8],[3,0,2,9,8,52],[3,0,2,9],[8,3,0,2]]
def Zl:=jx [[0],[0],[0],[0],[2]]
def Zm:=jx [[2,1,0],[6]]
def Zn:=jx [[4,0,3,2,1],[4,1,0,3,2],[4,2,1,0],[2],[10]]
def zb:=jx [[1,2,3,0],[1,2,3,18],[1,2],[8,9],[8,9]]
def q0:=qI []
def frT:=[q0,q0,q0,q3,q4,q5,q6,q7,q8,q9,lQ,pr,WY,W5,lR,Xb,Xg,Gi,Xu,Xx,XB,XG,XR,XU,X0,X3,X9,M8,Yh,ui,ui,q4,M',YF,YI,nS,YO,YT,Y1,Y7,lQ,Y',Zb,q0,Zo,q0,q0,Zp,Zq,lR,sE,Cl,Zr,q8,Zs,Zt,q4,Zu,Zv,pr,Zw,Nb,Zx,pr,nS,q0,Zy,Zz,ZA,q0,q0,q0,q0,ZB,q0,ZC,ZD,ZE,M',ZF,M8,ui,ui,ZG,ZH,ZI,Nc,ZJ,ZK,ZL,ZM,ZN,ZO,Gk,Gk,ZP,Nd,ZQ,Gl,Nb,WO,WQ,WR,WS,Ch,WT,WU,q0,q0,lQ,lR,WV,WW,WX,q4,q0,lQ,q0,q0,q4,q0,q0,q0,WZ,ui,W0,q0,q0,pr,W4,q0,q0,W6,q0,q0,q0,W7,W8,q4,ui,lR,q4,q4,pw,pr,W9,Xa,lR,Gh,lR,lR,lQ,lR,lR,M3,Xc,Xd,Xe,Gh,Xf,Gl,Xh,Nd,Xi,Xj,Xk,Gh,Xl,Xm,Xn,M4,Xo,Xp,Xq,M4,Xr,Xs,Xt,pr,nS,Ck,Xv,Xw,nS,q0,q0,Cj,pw,pw,W3,q0,q0,q0,Xy,q0,Cj,Nc,pw,Xz,XA,XC,XD,lR,lR,sE,nS,Gk,Gl,XE,XF,XH,XI,XJ,XK,XL,XM,XN,XO,XP,XQ,lQ,Ci,q4,nS,Ci,XS,Ch,yI,M5,XT,q0,XV,XW,XX,XY,XZ,q0,q0,q0,q0,X1,X2,q0,q0,q0,q0,q0,q0,q0,pw,X4,pr,M6,X5,M6,X6,sE,X7,X8,sE,M5,X',Ya,Yb,Yc,Yd,Gj,M7,Ch,M3,Ch,nS,Ye,yJ,Cl,yJ,M7,Yf,Yg,sE,q4,pr,Cj,Yi,Ci,Yj,Yk,Cl,Cl,q0,q0,q0,q0,q0,Yl,Cj,q4,pr,lQ,yI,Ym,Yn,Yo,q4,q0,q4,Yp,q0,q0,q0,q0,M9,M9,pw,Ck,Yr,Ys,Yt,Yu,Yv,Yw,Yx,Yy,Yz,YA,YB,YC,Ck,YD,YE,yJ,q4,yJ,q4,yJ,q4,YG,YH,q0,q0,YJ,YK,nS,lQ,yI,YL,q0,lQ,q0,q0,q0,Yq,YM,YN,Na,q4,q0,q0,q0,Na,q4,q4,YP,YQ,YR,q0,q0,q0,q0,sE,pw,lR,YU,q0,YV,YW,YX,YY,YZ,Y0,sE,Y2,Y3,Y4,Y5,ui,Gj,Y6,Gj,q0,Ck,Ci,q0,q0,q0,q0,q0,sE,yI,Y8,Y9,lQ,pr,nS,nS,q0,q0,q0,q0,q0,q0,q0,YS,q0,yI,q0,q0,q0,q0,q0,q0,q0,q0,q0,q0,q0,q0,pw,Zj,Zk,lR,Zl,Zm,Zn,pw,pw,q0,q0,q0,q0,q0,q0,q0,q0,q0,q0,q0,q0,q0,nS,q0,q0,q0,q0,q0,q0,q0,Za,Zc,Zd,Ze,Zf,Zg,Zh,Zi,q0,q0,q0,q0,q0,q0,q0,q0,q0,q0,q0,q0,q0,q0,q0,q0,q0,q0,q0,q0,q0,q0,q0,zb]
def fr:=nt q0 frT
def Pv:ao:=[.bool V,.bool V,.bool V,.bool C,.bool C,.bool C,.bool V,.bool C,.bool C,.bool C,.bool V,.bool V,.bool V,.bool C,.bool V,.bool V]
def Pw:ao:=[.int .i64 0,.int .i64 0,.bool V,.bool V,.bool C,.bool C,.int .i64 2,.int .i64 64,.bool C,.bool C,.bool C,.bool C,.int .i64 2,.int .i64 64,.bool C,.bool C,.bool C,.bool C,.int .i64 2,.int .i64 64,.bool C,.bool C,.bool C,.bool C,.int .i64 1,.int .i64 1,.bool C,.bool C,.bool C,.bool C,.int .i64 1,.int .i64 1,.bool V,.bool V,.bool V,.bool C,.int .i64 1,.int .i64 1,.bool C,.bool C,.bool V,.bool V,.int .i64 1,.int .i64 1,.bool C,.bool V,.bool C,.bool C,.int .i64 2,.int .i64 2,.bool C,.bool C,.bool C,.bool C,.int .i64 1,.int .i64 1,.bool V,.bool V,.bool V,.bool C,.int .i64 1,.int .i64 1,.bool C,.bool C,.bool V,.bool V]
def inL(l:aE)(f:Nat):Bool:=l.any (aw f)
def rb:aE->aE->Bool|[],_=>V|a::s,b::t=>aw a b&&rb s t|_::_,[]=>C
def Dw(s:aE):Nat->aE->ah Nat|i,[]=>bif rb s []then J i else Z|i,b::t=>bif rb s (b::t)then J i else Dw s (i+1) t
def M2:DV->ao|.ay l _ _=>l|_=>[]
def su(l:ao)(e n:Nat):DV:=match l with|[]=>.nl|_=>.ay l e n
def oP:DV->Int|.int _ n=>n|_=>0
def uV:DV->Bool|.int .i64 _=>V|_=>C
def mj(l:ao):ao:=((l.map oP).mergeSort λx y=>decide (x<=y)).map (DV.int .i64)
def xX(l:ao):ao:=(tB (l.map oP)).map (DV.int .i64)
def Da(e s b:Nat):ao->ah SV|[.nl,.int .i64 (.ofNat n)]=>bif bz (n*b) bm&&bz n bm then J (bif aw n 0 then .dv .nl .any else .dv (.ay [] e s) (.ex e))else Z|_=>Z
def sH(n:Nat):Bool:=cw n 1000000000
def cf:bV:={
 aq:=λg=>bif aw g 0 then J Pv else bif aw g 1 then J Pw else Z
 iW:=λf args=>bif aw f 313 then(match args with|[.str a,.str b]=>bif cw a.length 4294967281 then J (J (.dv (match Dw b 0 a with|some i=>goN i|none=>.int .i64 (-1)) .no))else J Z|_=>J Z)else bif aw f 6 then(match args with|[]=>J (J (.dv (.bool V) .no))|_=>J Z)else bif aw f 373 then J (Da 3 1 8 args)else bif aw f 389 then J (Da 59 8 88 args)else bif aw f 436 then J (Da 385 2 16 args)else bif aw f 265 then J Z else bif aw f 266 then(match args with|[.nl]=>J (J (.dv .nl .no))|[.ay (x::l) 3 1]=>bif(x::l).all uV&&sH (x::l).length then J (J (.dv (su (xX (x::l)) 3 1) .no))else J Z|_=>J Z)else bif aw f 386 then(match args with|[.ay l 62 14,.int .i64 (.ofNat 0),.ay [x] 62 14]=>bif sH l.length then J (J (.dv (.ay (x::l) 62 14) .no))else J Z|_=>J Z)else bif aw f 388 then(match args with|[.ay l 62 14,.int .i64 (.ofNat i),.int .i64 (.ofNat j)]=>bif sH l.length&&(cw i j&&bz j l.length)then J (J (.dv (.ay (l.take i++l.drop j) 62 14) .no))else J Z|_=>J Z)else bif aw f 143 then(match args with|[.str a,.str b]=>J (J (.dv (.int .i64 (cmpL a b)) .no))|_=>J Z)else bif aw f 230 then J (Da 86 5 56 args)else Z
 AQ:=λf=>aw f 28||aw f 54||aw f 286||aw f 7
 oo:=λf=>aw f 27
 iz:=λf=>(fr f).p
 tL:=λf=>(fr f).g
 zI:=λf=>(fr f).c
 rz:=λf=>aw f 173
 fk:=λf=>(fr f).k
 qz:=λf d z=>bif aw f 265 then(match d,z with|.nl,[]=>J (.nl,.tp [])|.ay (x::l) 3 1,[]=>bif(x::l).all uV&&sH (x::l).length then J (su (mj (x::l)) 3 1,.tp [])else Z|_,_=>Z)else Z
 live:=λf=>nt [] ([]::(fr f).r)
 keep:=λf=>nt [] (fr f).r}
abbrev CC(n:Nat)(a:List DV)(v:bh):=ev PP cf (.call n a .no .empty)=J v
end Go.VM
namespace Go.VM
open Go Go.AM
variable{α β:Type}{want z:Bool}{x:DV}{rs:List oS}{a s t:Nat}{f:SV->SV}{gs:aE}{P:aH}{e:an}{l:ao}
theorem vy{n:Nat}(h:s<n):cw s n=V:=aU
theorem kT{b:Nat}(h:a≠b):aw a b=C:=by simp_all[Bool.eq_false_iff]
theorem bB{x y:ah α}{f:α->ah β}(h:x=y):x.bind f=y.bind f:=ai
theorem bC{c d:Bool}{a b:α}(h:c=d):cond c a b=cond d a b:=ai
section
variable{P:aH}{cf:bV}{rec:dW}{rd:ah Nat}{O:St}{k:eH->ah bh}
inductive Tg{α:Type}:α->Type|mk(a:α):Tg a
inductive Hd(α:Type)|mk(a:α)(t:Tg a)
def Hd.get{b:Type}:Hd b->b|.mk a _=>a
def RL(P:aH)(c:bV)(r:dW)(d:ah Nat)(b:Hd bM)(k:eH->ah bh):eH->ah bh|.fJ O=>exec P c r d b.get O k|.ext i O=>k (.ext i O)|.rt O=>k (.rt O)
def Ky(d:Nat)(k:eH->ah bh):eH->ah bh|.fJ O=>k (.fJ O)|.ext i O=>bif aw i d then k (.fJ O)else k (.ext i O)|.rt O=>k (.rt O)
def Cm(P:aH)(r:List oS):eH->ah bh|.fJ O|.rt O=>(tK P r O).bind λy=>J (.val (DH y.1) y.2.g)|.ext ..=>Z
theorem ate{a b:bM}:exec P cf rec rd (.seq a b) O k=exec P cf rec rd a O (RL P cf rec rd (.mk b (.mk b)) k):=by rfl
theorem as5{i:Nat}{b:bM}:exec P cf rec rd (.block i b) O k=exec P cf rec rd b O (Ky i k):=by rfl
theorem aJ3{b:bM}{t:Tg b}:RL P cf rec rd (.mk b t) k (.fJ O)=exec P cf rec rd b O k:=(rfl)
theorem aJ2{b:Hd bM}{i:Nat}:RL P cf rec rd b k (.ext i O)=k (.ext i O):=(rfl)
theorem aJ4{b:Hd bM}:RL P cf rec rd b k (.rt O)=k (.rt O):=(rfl)
theorem am6{i:Nat}:Ky i k (.fJ O)=k (.fJ O):=(rfl)
theorem am7{i:Nat}:Ky i k (.rt O)=k (.rt O):=(rfl)
theorem am4{i:Nat}:Ky i k (.ext i O)=k (.fJ O):=by show cond _ _ _=_;simp_all
theorem am5{i d:Nat}(h:i≠d):Ky d k (.ext i O)=k (.ext i O):=by show cond _ _ _=_;grind[kT]
theorem aIM:Cm P rs (.fJ O)=(tK P rs O).bind λy=>J (.val (DH y.1) y.2.g):=(rfl)
theorem aIN:Cm P rs (.rt O)=(tK P rs O).bind λy=>J (.val (DH y.1) y.2.g):=(rfl)
theorem atG{s:St}:tK P [] s=J ([],s):=(rfl)
theorem atF{s:St}{r:oS}{l:List oS}:tK P (r::l) s=(Jv P s r).bind λx=>(tK P l x.2).bind λy=>J (x.1::y.1,y.2):=(rfl)
theorem aIG{s:St}{t:Tmp}:Jv P s (.tmp t)=vf s t:=(rfl)
def OQ:SV->ah (DV×aN)|.dv d o=>J (d,o)|_=>Z
theorem aID{s:St}{t:Tmp}:vf s t=(look s.sl t).bind λv=>(OQ v).bind λr=>J (r,{s with sl:=put s.sl t (leave v)}):=by
 unfold vf;rcases look _ t with _|v;.rfl
 cases v<;>rfl
theorem bs{a:α}{f:α->ah β}:(J a).bind f=f a:=(rfl)
theorem ctt{a b:α}:cond V a b=a:=(rfl)
theorem ctf{a b:α}:cond C a b=b:=(rfl)
theorem aoK{c:Bool}{x y:ah α}{f:α->ah β}:(bif c then x else y).bind f=bif c then x.bind f else y.bind f:=ai
theorem cond_not{c:Bool}{x y:α}:(bif !c then x else y)=bif c then y else x:=aU
theorem atf:exec P cf rec rd .skip O k=k (.fJ O):=(rfl)
theorem as8{i:Nat}:exec P cf rec rd (.exit i) O k=k (.ext i O):=(rfl)
theorem atc:exec P cf rec rd .ret O k=k (.rt O):=(rfl)
def OP(P:aH)(c:bV)(r:dW)(d:ah Nat)(a b:Hd bM)(s:St)(k:eH->ah bh):DV->ah bh|.bool x=>bif x then exec P c r d a.get s k else exec P c r d b.get s k|_=>Z
theorem as6{c:aK}{a b:bM}:exec P cf rec rd (.cond c a b) O k=(bj cf.aq O c).bind (OP P cf rec rd (.mk a (.mk a)) (.mk b (.mk b)) O k):=by
 show(match bj _ O c with|some (.bool x)=>_|_=>Z)=_;rcases bj _ O c with _|v;.rfl
 cases v<;>rfl
theorem aoI{a:bM}{t:Tg a}{b:Hd bM}:OP P cf rec rd (.mk a t) b O k (.bool V)=exec P cf rec rd a O k:=(rfl)
theorem aoH{b:bM}{t:Tg b}{a:Hd bM}:OP P cf rec rd a (.mk b t) O k (.bool C)=exec P cf rec rd b O k:=(rfl)
def aih(k:eH->ah bh)(s:St):ah bh:=k (.fJ s)
def ry(P:aH)(c:bV)(r:dW)(g a:aE)(o l:Hd (List aB))(k:eH->ah bh)(s:St):ah bh:=(km P c r g a C ⟨o.get⟩ l.get 0 [] s).bind (aih k)
inductive sP|ex(rd:Option Nat)(a:Hd bM)(O:St)(k:eH->Option bh)|so(gs cr:List Nat)(os l:Hd (List aB))(k:eH->Option bh)(O:St)(o:Hd aB)|sk(gs cr:List Nat)(os l:Hd (List aB))(k:eH->Option bh)(O:St)(d:Option Tmp)|bd(a:sP)(f:bh->Option bh)
def kn(P:aH)(c:bV)(r:dW):sP->ah bh|.ex rd a O k=>exec P c r rd a.get O k|.so gs cr s l k O o=>(dK P c r gs cr l.get O o.get).bind (ry P c r gs cr s l k)|.sk gs cr s l k O d=>(aG O d (.tp [])).bind (ry P c r gs cr s l k)|.bd a f=>(kn P c r a).bind f
def W(P:aH)(c:bV)(r:dW)(a:sP):ah bh:=kn P c r a
theorem alr{a:sP}{f:bh->ah bh}:(W P cf rec a).bind f=W P cf rec (.bd a f):=(rfl)
theorem sp{A B:sP}{r:ah bh}(h:z=V->kn P cf rec A=r)(a:z=C->kn P cf rec B=r):(bif z then W P cf rec A else W P cf rec B)=r:=by
 cases z;.exact a rfl
 .exact h rfl
theorem aoJ{a b:Hd bM}:OP P cf rec rd a b O k (.bool z)=bif z then W P cf rec (.ex rd a O k)else W P cf rec (.ex rd b O k):=(rfl)
theorem JE{c:aE}{p:Array aB}:∀(l:List aB)(i j:Nat)(log:List (Nat×Kx))(O:St),km P cf rec gs c C p l i log O=km P cf rec gs c C p l j log O:=by intro l;induction l with|nil=>intro i j log O;rfl|cons o l h=>intro i j log O;unfold km;congr 1;funext w;grind
def FM(l:aE)(k:eH->ah bh):eH->ah bh|.fJ O=>k (.fJ (mask l O))|o=>k o
theorem aCI{l:aE}:FM l k (.fJ O)=k (.fJ (mask l O)):=(rfl)
theorem atb{i:Nat}{o:List aB}:exec P cf rec rd (.region i ⟨o⟩ C) O k=ry P cf rec (cf.tL O.fn) (cf.zI O.fn) (.mk o (.mk o)) (.mk o (.mk o)) (FM (cf.keep O.fn i) k) O:=(rfl)
def lg(r:dW)(b:Hd bM)(s:St)(d:ah Nat):ah bh:=r (.loop b.get s d)
theorem as9{b:bM}:exec P cf rec rd (.loop b) O k=(lg rec (.mk b (.mk b)) (mask (cf.live O.fn (Dk b)) O) rd).bind (fL k):=(rfl)
variable{gs cr:aE}{ops:Array aB}{l:List aB}{j:Nat}{log:List (Nat×Kx)}{d:ah Tmp}{op:Op}{ty:an}{pos:String}{af:Array Edge}{wh:ah (Nat×Bool)}
section
variable{os:Hd (List aB)}{tl:Tg l}{o:aB}{tg:Tg o}
theorem aJc{t:Tg []}:ry P cf rec gs cr os (.mk [] t) k O=k (.fJ O):=(rfl)
theorem aJa{t:Tg (⟨d,op,ty,pos,af,Z⟩::l)}:ry P cf rec gs cr os (.mk (⟨d,op,ty,pos,af,Z⟩::l) t) k O=(dK P cf rec gs cr l O ⟨d,op,ty,pos,af,Z⟩).bind (ry P cf rec gs cr os (.mk l (.mk l)) k):=by
 show((dK P cf _ gs cr l O _).bind _).bind _=_;rcases dK P cf _ gs cr l O _ with _|s;.rfl
 show(km P cf _ gs cr _ _ l 1 [] _).bind _=_;rw[JE l 1 0];rfl
def N1(o:Hd (List aB))(s:St)(i:Nat)(w:Bool):ah Bool:=y8 ⟨o.get⟩ s ⟨Z,.assign (.tmp 0),0, "",#[],J (i,w)⟩
def Px(P:aH)(c:bV)(r:dW)(g a:aE)(s l:Hd (List aB))(k:eH->ah bh)(t:St)(o:Hd aB)(w:Bool):ah bh:=bif w then(dK P c r g a l.get t o.get).bind (ry P c r g a s l k)else(aG t o.get.dst (.tp [])).bind (ry P c r g a s l k)
theorem aJb{i:Nat}{t:Tg (⟨d,op,ty,pos,af,J (i,want)⟩::l)}:ry P cf rec gs cr os (.mk (⟨d,op,ty,pos,af,J (i,want)⟩::l) t) k O=(N1 os O i want).bind (Px P cf rec gs cr os (.mk l (.mk l)) k O (.mk ⟨d,op,ty,pos,af,J (i,want)⟩ (.mk _))):=by show((N1 os O i _).bind _).bind _=_;cases N1 os O i _ with|none=>rfl|some w=>cases w with
 |true=>
 show((dK P cf _ gs cr l O _).bind _).bind _=(dK P cf _ gs cr l O ⟨d,op,ty,_,af,_⟩).bind _;rcases dK P cf _ gs cr l O _ with _|s;.rfl
 show(km P cf _ gs cr _ _ l 1 [] _).bind _=_;rw[JE l 1 0];rfl|false=>
 show((aG O d _).bind _).bind _=(aG O d _).bind _;rcases aG O d _ with _|s;.rfl
 show(km P cf _ gs cr _ _ l 1 [] _).bind _=_;rw[JE l 1 0];rfl
theorem avq:Px P cf rec gs cr os (.mk l tl) k O (.mk o tg) V=(dK P cf rec gs cr l O o).bind (ry P cf rec gs cr os (.mk l tl) k):=(rfl)
theorem avp:Px P cf rec gs cr os (.mk l tl) k O (.mk o tg) C=(aG O o.dst (.tp [])).bind (ry P cf rec gs cr os (.mk l tl) k):=(rfl)
theorem avr:Px P cf rec gs cr os (.mk l tl) k O (.mk o tg) z=bif z then W P cf rec (.so gs cr os (.mk l tl) k O (.mk o tg))else W P cf rec (.sk gs cr os (.mk l tl) k O o.dst):=(rfl)
theorem aND{r:ah Nat}{a:bM}{t:Tg a}:kn P cf rec (.ex r (.mk a t) O k)=exec P cf rec r a O k:=(rfl)
theorem aNF:kn P cf rec (.so gs cr os (.mk l tl) k O (.mk o tg))=(dK P cf rec gs cr l O o).bind (ry P cf rec gs cr os (.mk l tl) k):=(rfl)
theorem aNE{l:Hd (List aB)}:kn P cf rec (.sk gs cr os l k O d)=(aG O d (.tp [])).bind (ry P cf rec gs cr os l k):=(rfl)
theorem aNC{a:sP}{f:bh->ah bh}:kn P cf rec (.bd a f)=(kn P cf rec a).bind f:=(rfl)
end
def DZ:List aB->Nat->ah Tmp|[],_=>Z|a::_,0=>a.dst|_::l,i+1=>DZ l i
theorem aKP{a:aB}{l:List aB}:DZ (a::l) 0=a.dst:=rfl
theorem aKO{a:aB}{l:List aB}{i:Nat}:DZ (a::l) (i+1)=DZ l i:=rfl
theorem oN:∀(l:List aB)(i:Nat),(l[i]?).bind (·.dst)=DZ l i|[],_=>by simp[DZ]|a::_,0=>rfl|a::l,i+1=>by simp only[Ke];exact oN l i
def N2(w:Bool):ah SV->ah Bool|some (.dv (.bool b) _)=>J (b==w)|some (.tp [])=>J C|_=>Z
def er(s:db)(w:Bool):ah Tmp->ah Bool|some d=>N2 w (look s d)|none=>J C
theorem aNK{o:List aB}{t:Tg o}{i:Nat}:N1 (.mk o t) O i want=er O.sl want (DZ o i):=by unfold N1 y8;simp only[Hd.get,List.getElem?_toArray,oN];cases DZ o i with|none=>rfl|some d=>simp only[er];unfold N2;rfl
theorem aNN{s:db}{d:Tmp}:er s want (J d)=N2 want (look s d):=rfl
theorem aNL{b:Bool}{o:aN}:N2 want (J (.dv (.bool b) o))=J (b==want):=rfl
theorem aNM:N2 want (J (.tp []))=J C:=rfl
theorem DB{m n:Nat}{x:α}{t:List (Nat×α)}:look ((m,x)::t) n=if m=n then J x else look t n:=by show cond _ _ _=_;simp_all
theorem aBL{n:Nat}:look ([]:List (Nat×α)) n=Z:=rfl
theorem un{m n:Nat}{x y:α}{t:List (Nat×α)}:put ((m,y)::t) n x=if m=n then(n,x)::t else(m,y)::put t n x:=by show cond _ _ _=_;simp_all
theorem az2{d:DV}{o:aN}:p8 s (.dv d o)=.dv d o:=rfl
theorem az9{l:List (DV×aN)}:p8 s (.tp l)=.tp l:=rfl
theorem az6{b:Nat}:p8 s (.lp a b)=.lp a b:=rfl
theorem az3{d:DV}:p8 s (.ev d)=.ev d:=rfl
theorem az4{b:Nat}:p8 s (.gr a b)=.gr a b:=rfl
theorem az5:p8 s (.hd a)=.hd a:=rfl
theorem az1:p8 s .dd=.dd:=rfl
theorem az8:p8 s (.sr t)=if t=s then .dd else .sr t:=by show cond _ _ _=_;simp_all
theorem az7{i f:Nat}:p8 s (.se t i f)=if t=s then .dd else .se t i f:=by show cond _ _ _=_;simp_all
theorem aKg{v:SV}:aG O Z v=J O:=rfl
section
variable{fn n s:Nat}{sl:db}{lb:ew}{g:GH}{dd:DV}{o:aN}
theorem aKb(h:s<n):aG ⟨fn,n,sl,lb,g⟩ (J s) (.dv dd o)=J ⟨fn,n,put (ix sl s) s (.dv dd o),lb,g⟩:=by show cond (cw s n&&!C) _ _=_;grind[vy]
theorem aKj{l:List (DV×aN)}(h:s<n):aG ⟨fn,n,sl,lb,g⟩ (J s) (.tp l)=J ⟨fn,n,put (ix sl s) s (.tp l),lb,g⟩:=by show cond (cw s n&&!C) _ _=_;grind[vy]
theorem aKf{b:Nat}(h:s<n):aG ⟨fn,n,sl,lb,g⟩ (J s) (.lp a b)=J ⟨fn,n,put (ix sl s) s (.lp a b),lb,g⟩:=by show cond (cw s n&&!C) _ _=_;grind[vy]
theorem aKc(h:s<n):aG ⟨fn,n,sl,lb,g⟩ (J s) (.ev dd)=J ⟨fn,n,put (ix sl s) s (.ev dd),lb,g⟩:=by show cond (cw s n&&!C) _ _=_;grind[vy]
theorem aKe(h:s<n):aG ⟨fn,n,sl,lb,g⟩ (J s) (.hd a)=J ⟨fn,n,put (ix sl s) s (.hd a),lb,g⟩:=by show cond (cw s n&&!C) _ _=_;grind[vy]
theorem aKd{b:Nat}(h:s<n):aG ⟨fn,n,sl,lb,g⟩ (J s) (.gr a b)=J ⟨fn,n,put (ix sl s) s (.gr a b),lb,g⟩:=by show cond (cw s n&&!C) _ _=_;grind[vy]
theorem aKi(h:s<n)(k:a≠s):aG ⟨fn,n,sl,lb,g⟩ (J s) (.sr a)=J ⟨fn,n,put (ix sl s) s (.sr a),lb,g⟩:=by show cond (cw s n&&!(aw a s)) _ _=_;grind[vy,kT]
theorem aKh{i f:Nat}(h:s<n)(k:a≠s):aG ⟨fn,n,sl,lb,g⟩ (J s) (.se a i f)=J ⟨fn,n,put (ix sl s) s (.se a i f),lb,g⟩:=by show cond (cw s n&&!(aw a s)) _ _=_;grind[vy,kT]
theorem ain:aQ f ⟨fn,n,sl,lb,g⟩ (.tmp t)=match look sl t with|some v=>⟨fn,n,put sl t (f v),lb,g⟩|none=>⟨fn,n,sl,lb,g⟩:=rfl
theorem aFw{v:aD}:aQ f O (.const v)=O:=rfl
theorem aFx{v:bY}:aQ f O (.func v)=O:=rfl
theorem aFy{v:Nat}:aQ f O (.global v)=O:=rfl
end
section
variable{aq:Nat->ah ao}{fn n:Nat}{sl:db}{lb:ew}{g:GH}
def B9:ah SV->ah SV|some .dd=>Z|r=>r
theorem aFT:cZ aq O (.tmp t)=B9 (look O.sl t):=by rfl
theorem aC8{d:DV}{o:aN}:B9 (J (.dv d o))=J (.dv d o):=rfl
theorem aDc{b:Nat}:B9 (J (.lp a b))=J (.lp a b):=rfl
theorem aC9{d:DV}:B9 (J (.ev d))=J (.ev d):=rfl
theorem aDf{d}:B9 (J (.tp d))=J (.tp d):=rfl
theorem aDe:B9 (J (.sr a))=J (.sr a):=rfl
theorem aDd{b c:Nat}:B9 (J (.se a b c))=J (.se a b c):=rfl
theorem aDa{b:Nat}:B9 (J (.gr a b))=J (.gr a b):=rfl
theorem aDb:B9 (J (.hd a))=J (.hd a):=rfl
theorem aFM{k:fT}{z:Int}:cZ aq O (.const (.int k z))=J (.dv (.int k z) .no):=rfl
theorem aFL{b:Bool}:cZ aq O (.const (.bool b))=J (.dv (.bool b) .no):=rfl
theorem aFN:cZ aq O (.const (.slice Z 0 0))=J (.dv .nl .any):=rfl
theorem aFR{f:bY}:cZ aq O (.func f)=J (.dv (.func f [] []) .no):=rfl
theorem aFS{i:Nat}:cZ aq O (.global i)=(aq i).map λl=>.ev (.agg l):=rfl
theorem aFW{x:aK}:bj aq O x=(cZ aq O x).bind C1:=rfl
theorem aqv{d:DV}{o:aN}:C1 (.dv d o)=J d:=rfl
end
section
variable{x y a b c:aK}{fn n:Nat}{sl:db}{lb:ew}{g:GH}{t:an}
def vW(s:St)(x:aK)(d:Tmp)(u:iM):SV->ah St|.tp l=>aG (aQ leave s x) (J d) (.tp l)|.dv dd o=>(match u,o,x with|.take,.ex _,_=>(aG s (J d) (.dv dd o)).map λs=>aQ (λ_=>.sr d) s x|.take,_,_=>aG (aQ leave s x) (J d) (.dv dd o)|.len,.ex _,_=>(ni dd).bind λn=>aG s (J d) (.hd n)|.ref,.ex _,.tmp t=>aG s (J d) (.sr t)|_,.any,_=>aG s (J d) (.dv dd o)|_,_,_=>aG (aQ share s x) (J d) (.dv dd .no))|v=>aG s (J d) v
theorem alh{d:Tmp}:dK P cf rec gs cr l O ⟨J d,.move x,ty,pos,af,wh⟩=(cZ cf.aq O x).bind (vW O x d (GR cf.fk cr l d)):=by
 show(cZ _ O x).bind _=(cZ _ O x).bind _;rcases cZ _ O x with _|v;.rfl
 cases v<;>rfl
theorem akV:dK P cf rec gs cr l O ⟨d,.assign x,ty,pos,af,wh⟩=(cZ cf.aq O x).bind λv=>aG (aQ leave O x) d v:=(rfl)
theorem zk:∀{sl:db}{t:Nat}{v:SV},look sl t=J v->put sl t v=sl
 |[],_,_,h=>by simp[look]at h|(m,y)::l,t,v,h=>by
  rw[DB]at h;rw[un];by_cases e:m=t;.subst e;rw[if_pos rfl]at h|-;rw[bE h]
  .rw[if_neg e]at h|-;rw[zk h]
theorem aim{t:Nat}{v:SV}(h:look sl t=J v)(k:f v=v):aQ f ⟨fn,n,sl,lb,g⟩ (.tmp t)=⟨fn,n,sl,lb,g⟩:=by grind[ain,zk]
theorem aCp{t d:Nat}{u:iM}{a:DV}(h:look sl t=J (.dv a .no)):vW ⟨fn,n,sl,lb,g⟩ (.tmp t) d u (.dv a .no)=aG ⟨fn,n,sl,lb,g⟩ (J d) (.dv a .no):=by have e1:aQ leave _ _=(⟨fn,n,sl,lb,g⟩:St):=aim h rfl;have e2:aQ share _ _=(⟨fn,n,sl,lb,g⟩:St):=aim h rfl;grind[vW]
def dh(s:St)(l:List aK):St:=l.foldl (aQ share) s
theorem aKB:dh O []=O:=rfl
theorem aKA{l:List aK}:dh O (x::l)=dh (aQ share O x) l:=rfl
theorem alj:dK P cf rec gs cr l O ⟨d,.pick c a b,ty,pos,af,wh⟩=(bj cf.aq (dh O [c,a,b]) c).bind λ|.bool z=>bif z then(bj cf.aq (dh O [c,a,b]) a).bind λv=>aG (dh O [c,a,b]) d (.dv v .no)else(bj cf.aq (dh O [c,a,b]) b).bind λv=>aG (dh O [c,a,b]) d (.dv v .no)|_=>Z:=by
 show(match bj _ (dh O [c,a,b]) c with|some (.bool z)=>_|_=>Z)=_;rcases bj _ _ c with _|v;.rfl
 cases v<;>rfl
theorem akW{o:BinOp}{u:an}:dK P cf rec gs cr l O ⟨d,.binOp o t x y u,ty,pos,af,wh⟩=(bj cf.aq O x).bind λa=>(bj cf.aq O y).bind λb=>(gu P o t a b).bind λv=>aG O d (.dv v .no):=(rfl)
theorem aln{o:UnOp}:dK P cf rec gs cr l O ⟨d,.unOp o t x,ty,pos,af,wh⟩=(bj cf.aq O x).bind λa=>(JW o a).bind λv=>aG O d (.dv v .no):=(rfl)
theorem akT{d:Tmp}:dK P cf rec gs cr l O ⟨J d,.alloc e,ty,pos,af,wh⟩=(cE P e).bind λz=>DC (gs.any (aw d)) O (J d) z.flat:=(rfl)
theorem akX{d:Tmp}:dK P cf rec gs cr l O ⟨J d,.box e x,ty,pos,af,wh⟩=(bj cf.aq (dh O [x]) x).bind λv=>DC (gs.any (aw d)) (dh O [x]) (J d) v.flat:=(rfl)
theorem aCV{d:Tmp}{c:ao}(h:d<n):DC C ⟨fn,n,sl,lb,g⟩ (J d) c=J ⟨fn,n,put (ix (EO sl d) d) d (.lp d 0),put lb d ⟨c,[]⟩,g⟩:=by show cond _ _ _=_;grind[vy]
theorem aCU{d:Tmp}{c:ao}(h:d<n):DC V ⟨fn,n,sl,lb,g⟩ (J d) c=J ⟨fn,n,put (ix sl d) d (.dv (.ptr g.next 0) .no),lb,g.alloc (.box ⟨c,[]⟩)⟩:=by show cond _ _ _=_;grind[vy]
theorem azT{d:DV}{o:aN}:vQ s (.dv d o)=.dv d o:=rfl
theorem azZ{l:List (DV×aN)}:vQ s (.tp l)=.tp l:=rfl
theorem azU{d:DV}:vQ s (.ev d)=.ev d:=rfl
theorem azY{a:Nat}:vQ s (.sr a)=.sr a:=rfl
theorem azX{a b e:Nat}:vQ s (.se a b e)=.se a b e:=rfl
theorem azV{a:Nat}:vQ s (.hd a)=.hd a:=rfl
theorem azS:vQ s .dd=.dd:=rfl
theorem azW{a o:Nat}:vQ s (.lp a o)=if a=s then .dd else .lp a o:=by show cond _ _ _=_;simp_all
def MT(a:Nat->ah ao)(s:St):List (Nat×aK)->ah (List (Nat×DV))|[]=>J []|p::t=>((bj a s p.2).map λv=>(p.1,v)).bind λq=>(MT a s t).bind λr=>J (q::r)
theorem WK{a:Nat->ah ao}:∀l:List (Nat×aK),cB (λ(p:Nat×aK)=>(bj a O p.2).map λv=>(p.1,v)) l=MT a O l|[]=>rfl|p::t=>by show((bj a O p.2).map λv=>(p.1,v)).bind _=((bj a O p.2).map λv=>(p.1,v)).bind _;congr 1;funext q;show(cB _ t).bind _=_;rw[WK t]
def opsV(a:Nat->ah ao)(s:St):List aK->ah ao|[]=>J []|p::t=>(bj a s p).bind λq=>(opsV a s t).bind λr=>J (q::r)
theorem DI{a:Nat->ah ao}:∀l:List aK,cB (bj a O) l=opsV a O l|[]=>rfl|p::t=>by show(bj a O p).bind _=(bj a O p).bind _;congr 1;funext q;show(cB _ t).bind _=_;rw[DI t]
def S8(P:aH)(t:an)(a:St)(d:ah Tmp)(s:List (Nat×DV))(z:DV):ah St:=match P.underlying t with|some (.struct e)=>(cB (λ(f:Field)=>(aW P f.type).map λn=>(f.offset,n)) e.toList).bind λp=>(yd (λi=>pj p i) s z.flat).bind λl=>aG a d (.dv (.agg l) .no)|some (.array _ m)=>(aW P m).bind λn=>(yd (λi=>J (fA i n,n)) s z.flat).bind λl=>aG a d (.dv (.agg l) .no)|_=>Z
theorem akZ{p:List (Nat×aK)}:dK P cf rec gs cr l O ⟨d,.build t ⟨p⟩,ty,pos,af,wh⟩=(cE P t).bind λz=>(MT cf.aq (dh O (Op.build t ⟨p⟩).operands.toList) p).bind λq=>S8 P t (dh O (Op.build t ⟨p⟩).operands.toList) d q z:=by show(cE P t).bind _=(cE P t).bind _;congr 1;rw[WK];rfl
def Mv(P:aH)(t:an)(u:iM)(a:St)(d:ah Tmp):SV->ah St|.lp s o=>(look a.lb s).bind λb=>(fI P u t b o).bind λr=>aG {a with lb:=put a.lb s r.2} d r.1|.ev v=>(match bN P t with|some V=>(aW P t).bind λn=>bif !v.aV&&aw v.flat.length n then aG a d (.dv v .no)else Z|some C=>bif v.aV then aG a d (.dv v .no)else Z|none=>Z)|.se s i o=>(nK a s).bind λx=>(x.1[i]?).bind λv=>(jt P t v.flat o).bind λv=>aG a d (.dv v .no)|.dv (.ptr id o) _=>(match a.g.get id with|some (.box b)=>(match u,eB b o,bN P t with|.ref,.ex _,J C=>bif cw o b.cells.length then aG a d (.gr id o)else Z|_,_,_=>(fI P u t b o).bind λr=>aG {a with g:=a.g.set id (.box r.2)} d r.1)|_=>Z)|_=>Z
theorem ak8{d:Tmp}:dK P cf rec gs cr l O ⟨J d,.load t x,ty,pos,af,wh⟩=(cZ cf.aq O x).bind (Mv P t (GR cf.fk cr l d) O (J d)):=by show(match cZ _ O x with|some (.lp s _)=>_|some (.ev d)=>_|some (.se s i _)=>_|some (.dv (.ptr id _) _)=>_|_=>Z)=_;cases cZ _ O x with|none=>rfl|some v=>cases v with|dv v o=>cases v<;>rfl|_=>rfl
def RW(P:aH)(t:an)(a:St)(d:ah Tmp)(x:aK)(v:DV)(w:aN):SV->ah St|.lp s o=>(look a.lb s).bind λb=>(yU P t b o v w).bind λb=>aG {aQ leave a x with sl:=cP (aQ leave a x).sl,lb:=put a.lb s b} d (.tp [])|.dv (.ptr id o) _=>(match a.g.get id with|some (.box b)=>(yU P t b o v w).bind λb=>aG {aQ leave a x with sl:=cP (aQ leave a x).sl,g:=a.g.set id (.box b)} d (.tp [])|_=>Z)|.se s i o=>(nK (aQ share a x) s).bind λy=>(y.1[i]?).bind λel=>(aW P t).bind λn=>bif aw v.flat.length n&&bz (o+n) el.flat.length then(reshape el (lj el.flat o v.flat)).bind λe=>aG {aQ share a x with sl:=put (cP (aQ share a x).sl) s (.dv (.ay (iJ y.1 i e) y.2.1 y.2.2) (.ex y.2.1))} d (.tp [])else Z|_=>Z
theorem alm:dK P cf rec gs cr l O ⟨d,.store t a x,ty,pos,af,wh⟩=(cZ cf.aq O x).bind λv=>(OQ v).bind λv=>(cZ cf.aq O a).bind (RW P t O d x v.1 v.2):=by show(cZ _ O x).bind _=(cZ _ O x).bind _;congr 1;funext v;cases v with
 |dv v o=>show(match cZ _ O a with|some (.lp s _)=>_|some (.dv (.ptr id _) _)=>_|some (.se s i _)=>_|_=>Z)=(cZ _ O a).bind _;cases cZ _ O a with|none=>rfl|some w=>cases w with|dv w o=>cases w<;>rfl|_=>rfl
 |_=>rfl
def Wb(t:St)(d:ah Tmp):SV->ah St|.lp s o=>(look t.lb s).bind λ_=>aG t d (.lp s o)|.ev v=>aG t d (.ev v)|.se a b c=>aG t d (.se a b c)|.dv (.ptr id o) _=>aG t d (.dv (.ptr id o) .no)|_=>Z
theorem ali:dK P cf rec gs cr l O ⟨d,.nilCheck x,ty,pos,af,wh⟩=(cZ cf.aq O x).bind (Wb O d):=by show(cZ _ O x).bind _=(cZ _ O x).bind _;congr 1;funext v;cases v with|dv v o=>cases v<;>rfl|_=>rfl
def aeb(P:aH)(a:St)(d:ah Tmp)(t:an)(f:Nat):SV->ah St|.lp b o=>(look a.lb b).bind λ_=>aG a d (.lp b (o+f))|.dv (.ptr id o) _=>aG a d (.dv (.ptr id (o+f)) .no)|.se s i o=>aG a d (.se s i (o+f))|.ev (.agg l)=>(jt P t l f).bind λv=>aG a d (.ev v)|_=>Z
def bG(P:aH)(t:an)(f:Nat):ah (an×Nat):=match P.underlying t with|some (.struct i)=>(i[f]?).bind λd=>(aW P d.type).bind λn=>(match n with|0=>Z|_=>J (d.type,d.offset))|_=>Z
theorem ak4{f:Nat}:dK P cf rec gs cr l O ⟨d,.fieldAddr t x f,ty,pos,af,wh⟩=(bG P t f).bind λq=>(cZ cf.aq O x).bind (aeb P O d q.1 q.2):=by
 unfold bG;show(match P.underlying t with
 |some (.struct e)=>(e[f]?).bind λc=>(aW P c.type).bind λn=>match n,cZ cf.aq O x with|fj _,J (.lp b a)=>(look O.lb b).bind λ_=>aG O d (.lp b (a+c.offset))|fj _,J (.dv (.ptr id a) _)=>aG O d (.dv (.ptr id (a+c.offset)) .no)|fj _,J (.se s i a)=>aG O d (.se s i (a+c.offset))|fj _,J (.ev (.agg l))=>(jt P c.type l c.offset).bind λv=>aG O d (.ev v)|_,_=>Z
 |_=>Z)=_;split;.rename_i e h;cases e[f]? with|none=>rfl|some c=>simp only[cU];cases aW P c.type with|none=>rfl|some n=>cases n with|zero=>rfl|succ n=>simp only[cU];cases cZ cf.aq O x with|none=>rfl|some v=>cases v with|dv v o=>cases v<;>rfl|ev v=>cases v<;>rfl|_=>rfl
 rfl
theorem ak3{i:Nat}:dK P cf rec gs cr l O ⟨d,.extract (.tmp s) i,ty,pos,af,wh⟩=(match look O.sl s with|some (.tp l)=>(l[i]?).bind λx=>aG {O with sl:=put O.sl s (.tp (l.take i++(match x.2 with|.ex _=>(DV.jk,aN.no)|_=>(x.1,.no))::l.drop (i+1)))} d (.dv x.1 x.2)|_=>Z):=rfl
def Ak(P:aH)(t:St)(d:ah Tmp)(x:aK)(i:Nat):ah TypeDesc->SV->ah St|some (.slice m),.dv (.ay l e z) w=>(aW P m).bind λn=>bif aw n z&&aw e m then(match w,x with|.ex _,.tmp s=>bif cw i l.length then aG t d (.se s i 0)else Z|_,_=>(l[i]?).bind λv=>aG t d (.ev v))else Z|some (.slice m),.dv (.cY id o len e z) _=>(aW P m).bind λn=>bif aw n z&&aw e m&&cw i len then aG t d (.dv (.ptr id (o+i*z)) .no)else Z|some (.slice m),.sr s=>(nK t s).bind λy=>(aW P m).bind λn=>bif aw n y.2.2&&(aw y.2.1 m&&cw i y.1.length)then aG t d (.se s i 0)else Z|some (.array len m),.ev (.agg l)=>(aW P m).bind λn=>bif cw i len then(jt P m l (i*n)).bind λv=>aG t d (.ev v)else Z|some (.array len m),.lp s o=>(aW P m).bind λn=>bif cw i len then(look t.lb s).bind λ_=>aG t d (.lp s (o+i*n))else Z|_,_=>Z
def FQ:DV->ah Nat|.int _ (.ofNat i)=>J i|_=>Z
theorem ak5{i:aK}:dK P cf rec gs cr l O ⟨d,.indexAddr t x i,ty,pos,af,wh⟩=(bj cf.aq O i).bind λv=>(FQ v).bind λi=>(cZ cf.aq O x).bind (Ak P O d x i (P.underlying t)):=by show(match bj _ O i with|some (.int _ (.ofNat i))=>(match P.underlying t,cZ _ O x with|some (.slice m),J (.dv (.ay l e a) b)=>(aW P _).bind _|some (.slice m),J (.dv (.cY id f len e a) _)=>(aW P _).bind _|some (.slice m),J (.sr s)=>(nK O s).bind _|some (.array len m),J (.ev (.agg l))=>(aW P _).bind _|some (.array len m),J (.lp s f)=>(aW P _).bind _|_,_=>Z)|_=>Z)=_;cases bj _ O i with|none=>rfl|some v=>cases v with
 | int k z => rcases z with i|i;.show _=(cZ _ O x).bind _;cases h:P.underlying t with|none=>cases cZ _ O x<;>rfl|some u=>cases cZ _ O x with|none=>grind|some w=>cases u with
              |slice e=>cases w with|dv w o=>cases w<;>rfl|_=>rfl
              |array n e=>cases w with|dv w o=>rfl|ev w=>cases w<;>rfl|_=>rfl
              |_=>rfl
              rfl|_=>rfl
def QH(t:St):ah TypeDesc->SV->ah Nat|some (.array n _),.dv _ _=>J n|some .string,.dv (.str s) _=>J s.length|some (.slice _),.dv d _=>ni d|some (.slice _),.hd n=>J n|some (.slice _),.sr s=>(nK t s).map λy=>y.1.length|some (.slice _),.gr id o=>(EI t id o).bind ni|_,_=>Z
theorem ak7{a:List an}:dK P cf rec gs cr l O ⟨d,.call ⟨.builtin .len,⟨[x]⟩,⟨t::a⟩⟩,ty,pos,af,wh⟩=(cZ cf.aq O x).bind λv=>(QH O (P.underlying t) v).bind λn=>aG O d (.dv (goN n) .no):=by show(cZ _ O x).bind _=(cZ _ O x).bind _;congr 1;funext v;show(match P.underlying t,v with|some (.array n _),.dv _ _=>aG O d _|some .string,.dv (.str s) _=>aG O d _|some (.slice _),.dv v _=>(ni v).bind λn=>aG O d _|some (.slice _),.hd n=>aG O d _|some (.slice _),.sr s=>(nK O s).bind λy=>aG O d _|some (.slice _),.gr id o=>(EI O id _).bind λv=>(ni v).bind λn=>aG O d _|_,_=>Z)=_;grind[QH,nK]
def S7(P:aH)(g:aE)(t:St)(d:ah Tmp)(a:Nat)(s:List (Nat×DV))(e n:Nat)(z:DV):ah St:=bif aw n 0||!(bz (a*n) 16777216)then Z else bif aw z.flat.length n then(lE (λ(l:ao)(p:Nat×DV)=>bif cw p.1 l.length&&(aw p.2.flat.length n&&(p.2.aV==z.aV))then J (iJ l p.1 p.2)else Z) s (mr a z)).bind λl=>aG t d (.dv (.ay l e n) (bif aw a 0&&Db g d then .full e else .ex e))else Z
def Gz:ah TypeDesc->ah an|some (.slice e)=>J e|_=>Z
theorem akY{a:Nat}{s:List (Nat×aK)}:dK P cf rec gs cr l O ⟨d,.buildSlice t a ⟨s⟩,ty,pos,af,wh⟩=(Gz (P.underlying t)).bind λm=>(aW P m).bind λn=>(MT cf.aq (dh O (Op.buildSlice t a ⟨s⟩).operands.toList) s).bind λq=>(cE P m).bind λz=>S7 P gs (dh O (Op.buildSlice t a ⟨s⟩).operands.toList) d a q m n z:=by show(match P.underlying t with|some (.slice m)=>(aW P _).bind λn=>bif aw n 0||!(bz _ _)then Z else(cB (λ(p:Nat×aK)=>(bj _ (dh O (Op.buildSlice t _ _).operands.toList) _).map _) s).bind λb=>(cE P _).bind λz=>bif aw _ n then(lE _ _ _).bind λl=>aG (dh O (Op.buildSlice t _ _).operands.toList) d _ else Z|_=>Z)=_;cases P.underlying t with|none=>rfl|some u=>cases u with|slice e=>show(aW P e).bind _=(aW P e).bind _;congr 1;funext n;rw[WK];unfold S7;cases(aw n 0||!(bz _ _))<;>simp_all|_=>rfl
def abq(a:aE)(t:St)(d:ah Tmp)(x:aK)(e s b:Nat)(z v:DV)(w:DV×aN):ah St:=bif aw z.flat.length s then(w8 s v).bind λn=>bif n.all (λy=>aw y.flat.length s)then bif ru a d w.1 w.2 n then(fE e s b w.1 w.2 n).bind λ_=>aG {aQ leave t x with sl:=cP (aQ leave t x).sl,g:=t.g.alloc (.box ⟨n.flatMap DV.flat,[((n.flatMap DV.flat).length,.full e)]⟩)} d (.dv (.cY t.g.next 0 n.length e s) .no)else(fE e s b w.1 w.2 n).bind λr=>bif d.isSome then aG {aQ leave t x with sl:=cP (aQ leave t x).sl} d (.dv r.1 r.2)else Z else Z else Z
def Ow:ah TypeDesc->ah Unit|some (.slice _)|some .string=>J ()|_=>Z
theorem aIY{d:ah Tmp}{x:DV}{l:ao}:ru gs d x .any l=C:=by unfold ru;split<;>simp_all
theorem aI2{d:ah Tmp}{x:DV}{l:ao}:ru gs d x (.ty e) l=C:=by unfold ru;split<;>simp_all
theorem aIZ{d:ah Tmp}{x:DV}{l:ao}:ru gs d x (.ex e) l=C:=by unfold ru;split<;>simp_all
theorem aI0{d:ah Tmp}{x:DV}{o:aN}{l:ao}:ru [] d x o l=C:=by unfold ru;split<;>first|rfl|(cases d<;>rfl)
theorem aBo{n e k:Nat}{l:ao}:w8 n (.ay l e k)=J l:=rfl
theorem aBp{n:Nat}:w8 n .nl=J []:=rfl
def dT(P:aH)(e:an):ah (Nat×Nat):=(P.info? e).map λi=>(i.size,i.bytes)
theorem akU{u:an}:dK P cf rec gs cr l O ⟨d,.call ⟨.builtin .append,⟨[x,y]⟩,⟨[t,u]⟩⟩,ty,pos,af,wh⟩=(Gz (P.underlying t)).bind λm=>(Ow (P.underlying u)).bind λ_=>(dT P m).bind λi=>(cE P m).bind λz=>(cZ cf.aq O x).bind λw=>(OQ w).bind λw=>(bj cf.aq O y).bind λv=>abq gs O d x m i.1 i.2 z v w:=by show(match P.underlying t,P.underlying u with|some (.slice m),J (.slice _)|some (.slice m),J .string=>(match P.info? _,cE P _,cZ _ O x,bj _ O y with|some i,J z,J (.dv v f),J w=>bif aw _ _ then(w8 _ w).bind _ else Z|_,_,_,_=>Z)|_,_=>Z)=_;cases P.underlying t with|none=>rfl|some a=>cases a with
 |slice e=>cases P.underlying u with|none=>rfl|some b=>cases b with
  |slice c=>simp only[Gz,Ow,cU,dT];cases P.info? e with|none=>rfl|some i=>cases cE P e with|none=>rfl|some z=>cases cZ _ O x with|none=>rfl|some w=>cases w with|dv w o=>cases bj _ O y<;>rfl|_=>rfl
  |string=>simp only[Gz,Ow,cU,dT];cases P.info? e with|none=>rfl|some i=>cases cE P e with|none=>rfl|some z=>cases cZ _ O x with|none=>rfl|some w=>cases w with|dv w o=>cases bj _ O y<;>rfl|_=>rfl
  |_=>rfl
 |_=>cases P.underlying u<;>rfl
theorem anH{f:bY}{o:Op}{a:List aK}(h:cf.fk f=0):qP cf rec O o (.func f) a=(opsV cf.aq (dh O (handsOn o)) a).bind λar=>jA cf rec f ar .no (dh O (handsOn o)).g λv g=>J ({dh O (handsOn o)with g:=g},v):=by show(bif aw _ 1 then _ else bif aw _ 2 then _ else bif aw _ 3 then _ else _)=_;rw[h];show(cB _ _).bind _=_;rw[DI];congr 1;funext ar;rw[jY];rfl
def HB(a:Nat->ah ao)(s:St):List aK->ah ao|[]=>J []|p::t=>(zF a s p).bind λq=>(HB a s t).bind λr=>J (q::r)
theorem SU{a:Nat->ah ao}:∀l:List aK,cB (zF a O) l=HB a O l|[]=>rfl|p::t=>by show(zF a O p).bind _=(zF a O p).bind _;congr 1;funext q;show(cB _ t).bind _=_;rw[SU t]
theorem anK{f:bY}{o:Op}{a:List aK}(h:cf.fk f=3)(b:cf.iz f=V):qP cf rec O o (.func f) a=(HB cf.aq O a).bind λar=>jA cf rec f ar .no O.g λv _=>bif v.plain then J (O,v)else Z:=by show(bif aw _ 1 then _ else bif aw _ 2 then _ else bif aw _ 3 then _ else _)=_;rw[h];show(bif cf.iz f then _ else Z)=_;grind[SU]
theorem ak0{x:aK}{a:List aK}{t:Array an}:dK P cf rec gs cr l O ⟨d,.call ⟨.value x,⟨a⟩,t⟩,ty,pos,af,wh⟩=(qP cf rec O (.call ⟨.value x,⟨a⟩,t⟩) x a).bind λr=>aG {r.1 with sl:=cP r.1.sl} d r.2:=(rfl)
theorem azJ{d:DV}{o:aN}:p7 (.dv d o)=.dv d o:=rfl
theorem azQ{d}:p7 (.tp d)=.tp d:=rfl
theorem azN{a b:Nat}:p7 (.lp a b)=.lp a b:=rfl
theorem azK{d:DV}:p7 (.ev d)=.ev d:=rfl
theorem azP{a:Nat}:p7 (.sr a)=.sr a:=rfl
theorem azO{a b e:Nat}:p7 (.se a b e)=.se a b e:=rfl
theorem azM{a:Nat}:p7 (.hd a)=.hd a:=rfl
theorem azI:p7 .dd=.dd:=rfl
theorem azL{a b:Nat}:p7 (.gr a b)=.dd:=rfl
theorem ace{f:bY}{a:ao}{o:aN}{g:GH}{k:SV->GH->ah α}(h:cf.iz f=V)(b:cj a=V):jA cf rec f a o g k=(rec (.call f a o .empty)).bind λ|.val v _=>bif v.pure then k (rz (cf.rz f&&o.yz) v) g else Z|_=>Z:=by grind[jA]
theorem aO{c:bV}{f n:Nat}{b:Func}{j:bM}{a:ao}{w:aN}{g:GH}{r:bh}(l:P.funcs[f]?=J b)(h:exec P c (ev P c) Z j ⟨f,n,uB 0 w a,[],g⟩ (Cm P rs)=J r)(k:b.body=J j:=by rfl)(m:b.results=⟨rs⟩:=by rfl)(t:b.ntmps=n:=by rfl)(p:c.iW f a=Z:=by rfl)(d:(yF (rs.map we)&&bz a.length n&&!c.AQ f)=V:=by rfl):ev P c (.call f a w g)=J r:=by
 apply K4;subst t;rw[gD,gD,Ss]at d;obtain⟨d,u⟩:=d;unfold y7;simp only[p,l,cU,k,d.2,u,aR,ch];refine Eq.trans ?_ h;have e:∀O,ye P b O=(tK P rs O).bind λy=>J (.val (DH y.1) y.2.g):=by intro O;unfold ye;rw[m];rw[d.1];cases tK P rs O<;>rfl
 congr 1;funext o;cases o with|fJ O=>exact e O|rt O=>exact e O|ext i O=>rfl
end
end
end Go.VM
namespace Go.VM
open Go Go.AM
variable{m:Nat}{l:db}
attribute[go_sem↓]aCI aND aNF aNE aNC aNK aKP aKO alr ate atb atc atf as8 as6 as5 aJ3 aJ4 aJ2 am6 am7 am4 am5 aIN aIM aJa aJb aJc alh akV alj akW aln akT akX akZ ak8 alm ali ak4 ak3 ak5 ak7 akY akU ak0 bs aoK cond_not
attribute[go_sem↓high]aoI aoH avq avp
attribute[go_sem↓low]aoJ avr
attribute[go_sem]Nat.reduceLT Nat.reduceEqDiff
theorem aBJ{s:Nat}:look (ix l s) m=(look l m).map (p8 s):=rf l (p8 s) m
theorem aBI{s:Nat}:look (EO l s) m=(look l m).map (vQ s):=rf l (vQ s) m
theorem aBG:look (cP l) m=(look l m).map p7:=rf l p7 m
theorem aHB{n:Nat}{x y:GO}{t:List (Nat×GO)}:put ((m,y)::t) n x=if m=n then(n,x)::t else(m,y)::put t n x:=un
theorem aHC{n:Nat}{x:GO}:put [] n x=[(n,x)]:=rfl
attribute[go_sem]me aBJ aBI aBG aHB aHC gM rK aFL aFM aFN aFR aFS aFT aC8 aDc aC9 aDf aDe aDd aDa aDb aFW aqv ain aFw aFx aFy uB aKb aKj aKf aKc aKi aKh aKd aKe aKg az2 az9 az6 az3 az8 az7 az4 az5 az1 DB aBL aCp aKB aKA leave share oL aNN aNL aNM atF atG aIG aID OQ DH aCV aCU azT azZ azU azY azX azV azS azW azJ azQ azN azK azP azO azM azI azL if_true if_false reduceIte beq_true beq_false
end Go.VM
namespace Go.VM
open Go Go.AM
variable{α:Type}{g:GH}{ops:List aB}{a e f I:Nat}{v:SV}{P:aH}{x:aK}{ow:aN}{t:an}{l m:ao}{fk:bY->Nat}{R r:bh}{lb:ew}{k:fT}
theorem alJ:bN PP 124=J V/\bN PP 73=J V/\bN PP 120=J V/\bN PP 281=J V/\bN PP 68=J V/\bN PP 62=J V/\bN PP 59=J V/\bN PP 225=J V/\bN PP 344=J V/\bN PP 55=J V/\bN PP 385=J V/\bN PP 65=J V/\bN PP 70=J V/\bN PP 208=J V/\bN PP 322=J V/\bN PP 313=J V/\bN PP 339=J V/\bN PP 314=J V/\bN PP 329=J V/\bN PP 22=J C/\bN PP 3=J C/\bN PP 117=J C/\bN PP 118=J C/\bN PP 485=J C/\bN PP 41=J C/\bN PP 9=J C/\bN PP 71=J C/\bN PP 57=J C/\bN PP 60=J C/\bN PP 221=J C/\bN PP 279=J C/\bN PP 32=J C/\bN PP 66=J C/\bN PP 4=J C/\bN PP 160=J C/\bN PP 206=J C/\bN PP 5=J C/\bN PP 592=J C/\bN PP 593=J C/\bN PP 318=J C/\bN PP 371=J C/\bN PP 378=J C:=by and_intros<;>kernel_rfl
theorem aur:bG PP 120 3=J (118,3)/\bG PP 124 0=J (22,0)/\bG PP 124 1=J (73,1)/\bG PP 73 3=J (62,3)/\bG PP 124 2=J (120,19)/\bG PP 120 2=J (117,2)/\bG PP 225 0=J (221,0)/\bG PP 281 4=J (59,4)/\bG PP 281 7=J (57,14)/\bG PP 281 5=J (41,12)/\bG PP 281 6=J (41,13)/\bG PP 281 9=J (41,16)/\bG PP 281 8=J (279,15)/\bG PP 68 1=J (66,1)/\bG PP 68 0=J (9,0)/\bG PP 73 1=J (71,1)/\bG PP 73 2=J (41,2)/\bG PP 73 4=J (57,17)/\bG PP 73 0=J (9,0)/\bG PP 62 6=J (59,6)/\bG PP 62 0=J (3,0)/\bG PP 62 1=J (60,1)/\bG PP 344 3=J (59,3)/\bG PP 120 0=J (3,0)/\bG PP 120 1=J (3,1)/\bG PP 281 0=J (3,0)/\bG PP 281 1=J (3,1)/\bG PP 59 1=J (57,1)/\bG PP 344 0=J (3,0)/\bG PP 344 1=J (3,1)/\bG PP 344 2=J (3,2)/\bG PP 281 2=J (3,2)/\bG PP 281 3=J (3,3)/\bG PP 208 0=J (206,0)/\bG PP 62 2=J (3,2)/\bG PP 62 3=J (3,3)/\bG PP 70 1=J (3,1)/\bG PP 65 1=J (3,1)/\bG PP 385 0=J (3,0)/\bG PP 385 1=J (3,1)/\bG PP 65 0=J (9,0)/\bG PP 59 0=J (3,0)/\bG PP 59 2=J (3,2)/\bG PP 59 3=J (3,3)/\bG PP 59 4=J (3,4)/\bG PP 59 5=J (55,5)/\bG PP 70 0=J (9,0)/\bG PP 62 4=J (3,4)/\bG PP 339 2=J (4,2)/\bG PP 339 4=J (4,4)/\bG PP 314 1=J (4,1)/\bG PP 313 0=J (41,0)/\bG PP 313 1=J (41,1)/\bG PP 313 2=J (3,2)/\bG PP 314 0=J (4,0)/\bG PP 329 0=J (4,0)/\bG PP 329 1=J (62,1)/\bG PP 62 5=J (3,5)/\bG PP 339 0=J (3,0)/\bG PP 339 1=J (3,1)/\bG PP 339 5=J (4,5)/\bG PP 339 3=J (4,3)/\bG PP 55 0=J (3,0)/\bG PP 55 2=J (9,2):=by and_intros<;>kernel_rfl
theorem aus:bG PP 55 1=J (3,1):=by and_intros<;>kernel_rfl
theorem aMl:aW PP 124=J 23/\aW PP 73=J 18/\aW PP 120=J 4/\aW PP 117=J 1/\aW PP 118=J 1/\aW PP 281=J 17/\aW PP 485=J 1/\aW PP 41=J 1/\aW PP 68=J 2/\aW PP 9=J 1/\aW PP 57=J 1/\aW PP 60=J 1/\aW PP 59=J 8/\aW PP 225=J 1/\aW PP 221=J 1/\aW PP 279=J 1/\aW PP 55=J 3/\aW PP 385=J 2/\aW PP 32=J 1/\aW PP 66=J 1/\aW PP 65=J 2/\aW PP 70=J 2/\aW PP 4=J 1/\aW PP 208=J 1/\aW PP 5=J 1/\aW PP 593=J 1/\aW PP 322=J 2/\aW PP 313=J 3/\aW PP 339=J 6/\aW PP 371=J 1/\aW PP 314=J 2/\aW PP 329=J 15:=by and_intros<;>kernel_rfl
theorem aOa:cE PP 120=J (.agg [.int .i64 0,.int .i64 0,.nl,.nl])/\cE PP 3=J (.int .i64 0)/\cE PP 118=J (.nl)/\cE PP 281=J (.agg [.int .i64 0,.int .i64 0,.int .i64 0,.int .i64 0,.int .i64 0,.nl,.int .i64 0,.int .i64 0,.int .i64 0,.int .i64 0,.int .i64 0,.str [],.nl,.nl,.nl,.nl,.nl])/\cE PP 485=J (.nl)/\cE PP 41=J (.nl)/\cE PP 68=J (.agg [.str [],.nl])/\cE PP 62=J (.agg [.int .i64 0,.nl,.int .i64 0,.int .i64 0,.int .i64 0,.int .i64 0,.int .i64 0,.nl,.int .i64 0,.int .i64 0,.int .i64 0,.int .i64 0,.int .i64 0,.str []])/\cE PP 57=J (.nl)/\cE PP 60=J (.nl)/\cE PP 59=J (.agg [.int .i64 0,.nl,.int .i64 0,.int .i64 0,.int .i64 0,.int .i64 0,.int .i64 0,.str []])/\cE PP 225=J (.agg [.nl])/\cE PP 344=J (.agg [.int .i64 0,.int .i64 0,.int .i64 0,.int .i64 0,.nl,.int .i64 0,.int .i64 0,.int .i64 0,.int .i64 0,.int .i64 0,.str []])/\cE PP 279=J (.nl)/\cE PP 55=J (.agg [.int .i64 0,.int .i64 0,.str []])/\cE PP 385=J (.agg [.int .i64 0,.int .i64 0])/\cE PP 32=J (.int .i64 0)/\cE PP 65=J (.agg [.str [],.int .i64 0])/\cE PP 70=J (.agg [.str [],.int .i64 0])/\cE PP 4=J (.bool C)/\cE PP 208=J (.agg [.nilFunc])/\cE PP 593=J (.nilFunc)/\cE PP 267=J (.agg [.nl,.nl,.int .i64 0])/\cE PP 322=J (.agg [.nl,.nl])/\cE PP 313=J (.agg [.nl,.nl,.int .i64 0])/\cE PP 339=J (.agg [.int .i64 0,.int .i64 0,.bool C,.bool C,.bool C,.bool C])/\cE PP 371=J (.nilFunc)/\cE PP 329=J (.agg [.bool C,.int .i64 0,.nl,.int .i64 0,.int .i64 0,.int .i64 0,.int .i64 0,.int .i64 0,.nl,.int .i64 0,.int .i64 0,.int .i64 0,.int .i64 0,.int .i64 0,.str []]):=by and_intros<;>kernel_rfl
theorem ays:dT PP 281=J (17,240)/\dT PP 41=J (1,24)/\dT PP 225=J (1,24)/\dT PP 344=J (11,112)/\dT PP 208=J (1,8):=by and_intros<;>kernel_rfl
theorem gJ:aW PP 3=J 1:=aL
theorem i4:dT PP 3=J (1,8):=aL
theorem xn:aW PP 62=J 14:=aL
theorem Vz:dT PP 62=J (14,152):=aL
theorem agk:dT PP 59=J (8,88):=aL
theorem sT:aW PP 344=J 11:=aL
theorem agi:dT PP 385=J (2,16):=aL
attribute[go_sem]alJ aur aus aMl aOa ays gJ i4 xn Vz agk sT agi
open Go.Proofs.Tryz in attribute[go_sem]underlying124 underlying73 underlying120 underlying281 underlying68 underlying62 underlying59 underlying225 underlying344 underlying55 underlying385 underlying65 underlying70 underlying208 underlying267 underlying322 underlying313 underlying340 underlying339 underlying315 underlying314 underlying329 underlying22 underlying3 underlying117 underlying118 underlying485 underlying41 underlying9 underlying71 underlying57 underlying60 underlying221 underlying279 underlying32 underlying66 underlying4 underlying160 underlying206 underlying261 underlying331 underlying451 underlying470 underlying522 underlying151 underlying5 underlying179 underlying262 underlying381 underlying450 underlying320 underlying592 underlying593 underlying140 underlying265 underlying318 underlying319 underlying371 underlying332 underlying304 underlying157 underlying334 underlying494 underlying180 underlying229 underlying547 underlying551 underlying378 underlying507 underlying555
theorem auD:fr 3=q3/\fr 4=q4/\fr 5=q5/\fr 6=q6/\fr 7=q7/\fr 8=q8/\fr 9=q9/\fr 10=lQ/\fr 11=pr/\fr 12=WY/\fr 13=W5/\fr 14=lR/\fr 15=Xb/\fr 16=Xg/\fr 17=Gi/\fr 18=Xu/\fr 19=Xx/\fr 20=XB/\fr 21=XG/\fr 22=XR/\fr 23=XU/\fr 24=X0/\fr 25=X3/\fr 26=X9/\fr 27=M8/\fr 28=Yh/\fr 29=ui/\fr 30=ui/\fr 31=q4/\fr 32=M'/\fr 33=YF/\fr 34=YI/\fr 35=nS/\fr 36=YO/\fr 37=YT/\fr 38=Y1/\fr 39=Y7/\fr 40=lQ/\fr 41=Y'/\fr 42=Zb/\fr 44=Zo/\fr 47=Zp/\fr 48=Zq/\fr 49=lR/\fr 50=sE/\fr 51=Cl/\fr 52=Zr/\fr 53=q8/\fr 54=Zs/\fr 55=Zt/\fr 56=q4/\fr 57=Zu/\fr 58=Zv/\fr 59=pr/\fr 60=Zw/\fr 61=Nb/\fr 62=Zx/\fr 63=pr/\fr 64=nS/\fr 66=Zy:=by and_intros<;>kernel_rfl
theorem auE:fr 67=Zz/\fr 68=ZA/\fr 73=ZB/\fr 75=ZC/\fr 76=ZD/\fr 77=ZE/\fr 78=M'/\fr 79=ZF/\fr 80=M8/\fr 81=ui/\fr 82=ui/\fr 83=ZG/\fr 84=ZH/\fr 85=ZI/\fr 86=Nc/\fr 87=ZJ/\fr 88=ZK/\fr 89=ZL/\fr 90=ZM/\fr 91=ZN/\fr 92=ZO/\fr 93=Gk/\fr 94=Gk/\fr 95=ZP/\fr 96=Nd/\fr 97=ZQ/\fr 98=Gl/\fr 99=Nb/\fr 100=WO/\fr 101=WQ/\fr 102=WR/\fr 103=WS/\fr 104=Ch/\fr 105=WT/\fr 106=WU/\fr 109=lQ/\fr 110=lR/\fr 111=WV/\fr 112=WW/\fr 113=WX/\fr 114=q4/\fr 116=lQ/\fr 119=q4/\fr 123=WZ/\fr 124=ui/\fr 125=W0/\fr 128=pr/\fr 129=W4/\fr 132=W6/\fr 136=W7/\fr 137=W8/\fr 138=q4/\fr 139=ui/\fr 140=lR/\fr 141=q4/\fr 142=q4/\fr 143=pw/\fr 144=pr/\fr 145=W9/\fr 146=Xa:=by and_intros<;>kernel_rfl
theorem auF:fr 147=lR/\fr 148=Gh/\fr 149=lR/\fr 150=lR/\fr 151=lQ/\fr 152=lR/\fr 153=lR/\fr 154=M3/\fr 155=Xc/\fr 156=Xd/\fr 157=Xe/\fr 158=Gh/\fr 159=Xf/\fr 160=Gl/\fr 161=Xh/\fr 162=Nd/\fr 163=Xi/\fr 164=Xj/\fr 165=Xk/\fr 166=Gh/\fr 167=Xl/\fr 168=Xm/\fr 169=Xn/\fr 170=M4/\fr 171=Xo/\fr 172=Xp/\fr 173=Xq/\fr 174=M4/\fr 175=Xr/\fr 176=Xs/\fr 177=Xt/\fr 178=pr/\fr 179=nS/\fr 180=Ck/\fr 181=Xv/\fr 182=Xw/\fr 183=nS/\fr 186=Cj/\fr 187=pw/\fr 188=pw/\fr 189=W3/\fr 193=Xy/\fr 195=Cj/\fr 196=Nc/\fr 197=pw/\fr 198=Xz/\fr 199=XA/\fr 200=XC/\fr 201=XD/\fr 202=lR/\fr 203=lR/\fr 204=sE/\fr 205=nS/\fr 206=Gk/\fr 207=Gl/\fr 208=XE/\fr 209=XF/\fr 210=XH/\fr 211=XI/\fr 212=XJ:=by and_intros<;>kernel_rfl
theorem auG:fr 213=XK/\fr 214=XL/\fr 215=XM/\fr 216=XN/\fr 217=XO/\fr 218=XP/\fr 219=XQ/\fr 220=lQ/\fr 221=Ci/\fr 222=q4/\fr 223=nS/\fr 224=Ci/\fr 225=XS/\fr 226=Ch/\fr 227=yI/\fr 228=M5/\fr 229=XT/\fr 230=q0/\fr 231=XV/\fr 232=XW/\fr 233=XX/\fr 234=XY/\fr 235=XZ/\fr 240=X1/\fr 241=X2/\fr 249=pw/\fr 250=X4/\fr 251=pr/\fr 252=M6/\fr 253=X5/\fr 254=M6/\fr 255=X6/\fr 256=sE/\fr 257=X7/\fr 258=X8/\fr 259=sE/\fr 260=M5/\fr 261=X'/\fr 262=Ya/\fr 263=Yb/\fr 264=Yc/\fr 265=Yd/\fr 266=Gj/\fr 267=M7/\fr 268=Ch/\fr 269=M3/\fr 270=Ch/\fr 271=nS/\fr 272=Ye/\fr 273=yJ/\fr 274=Cl/\fr 275=yJ/\fr 276=M7/\fr 277=Yf/\fr 278=Yg/\fr 279=sE/\fr 280=q4/\fr 281=pr/\fr 282=Cj/\fr 283=Yi:=by and_intros<;>kernel_rfl
theorem auH:fr 284=Ci/\fr 285=Yj/\fr 286=Yk/\fr 287=Cl/\fr 288=Cl/\fr 294=Yl/\fr 295=Cj/\fr 296=q4/\fr 297=pr/\fr 298=lQ/\fr 299=yI/\fr 300=Ym/\fr 301=Yn/\fr 302=Yo/\fr 303=q4/\fr 305=q4/\fr 306=Yp/\fr 311=M9/\fr 312=M9/\fr 313=pw/\fr 314=Ck/\fr 315=Yr/\fr 316=Ys/\fr 317=Yt/\fr 318=Yu/\fr 319=Yv/\fr 320=Yw/\fr 321=Yx/\fr 322=Yy/\fr 323=Yz/\fr 324=YA/\fr 325=YB/\fr 326=YC/\fr 327=Ck/\fr 328=YD/\fr 329=YE/\fr 330=yJ/\fr 331=q4/\fr 332=yJ/\fr 333=q4/\fr 334=yJ/\fr 335=q4/\fr 336=YG/\fr 337=YH/\fr 340=YJ/\fr 341=YK/\fr 342=nS/\fr 343=lQ/\fr 344=yI/\fr 345=YL/\fr 347=lQ/\fr 351=Yq/\fr 352=YM/\fr 353=YN/\fr 354=Na/\fr 355=q4/\fr 359=Na/\fr 360=q4/\fr 361=q4/\fr 362=YP:=by and_intros<;>kernel_rfl
theorem auI:fr 363=YQ/\fr 364=YR/\fr 369=sE/\fr 370=pw/\fr 371=lR/\fr 372=YU/\fr 373=q0/\fr 374=YV/\fr 375=YW/\fr 376=YX/\fr 377=YY/\fr 378=YZ/\fr 379=Y0/\fr 380=sE/\fr 381=Y2/\fr 382=Y3/\fr 383=Y4/\fr 384=Y5/\fr 385=ui/\fr 386=Gj/\fr 387=Y6/\fr 388=Gj/\fr 389=q0/\fr 390=Ck/\fr 391=Ci/\fr 397=sE/\fr 398=yI/\fr 399=Y8/\fr 400=Y9/\fr 401=lQ/\fr 402=pr/\fr 403=nS/\fr 404=nS/\fr 412=YS/\fr 414=yI/\fr 427=pw/\fr 428=Zj/\fr 429=Zk/\fr 430=lR/\fr 431=Zl/\fr 432=Zm/\fr 433=Zn/\fr 434=pw/\fr 435=pw/\fr 436=q0/\fr 449=nS/\fr 457=Za/\fr 458=Zc/\fr 459=Zd/\fr 460=Ze/\fr 461=Zf/\fr 462=Zg/\fr 463=Zh/\fr 464=Zi:=by and_intros<;>kernel_rfl
theorem aod(h:f≠27):cf.oo f=C:=cb.2 λe=>h (Nat.eq_of_beq_eq_true e)
theorem aoe:cf.oo 27=V:=rfl
theorem aof:cf.tL f=(fr f).g:=rfl
theorem aoc:cf.zI f=(fr f).c:=rfl
theorem acj:cf.fk f=(fr f).k:=rfl
theorem ack:cf.iz f=(fr f).p:=rfl
theorem aoh{h:Nat}:cf.live f h=nt [] ([]::(fr f).r) h:=rfl
theorem aog{h:Nat}:cf.keep f h=nt [] (fr f).r h:=rfl
attribute[go_sem]auD auE auF auG auH auI nt aod aoe aof aoc acj ack aoh aog q0 dH qI jx q3 q4 q5 q6 q7 q8 q9 lQ pr WY W5 lR Xb Xg Gi Xu Xx XB XG XR XU X0 X3 X9 M8 Yh ui M' YF YI nS YO YT Y1 Y7 Y' Zb Zo Zp Zq sE Cl Zr Zs Zt Zu Zv Zw Nb Zx Zy Zz ZA ZB ZC ZD ZE ZF ZG ZH ZI Nc ZJ ZK ZL ZM ZN ZO Gk ZP Nd ZQ Gl WO WQ WR WS Ch WT WU WV WW WX Ci Cj WZ W0 W3 W4 W6 W7 W8 pw W9 Xa Gh M3 Xc Xd Xe Xf Xh Xi Xj Xk Xl Xm Xn M4 Xo Xp Xq Xr Xs Xt Ck Xv Xw Xy Xz XA XC XD XE XF XH XI XJ XK XL XM XN XO XP XQ XS yI M5 XT XV XW XX XY XZ X1 X2 X4 M6 X5 X6 X7 X8 X' Ya Yb Yc Yd Gj M7 Ye yJ Yf Yg Yi Yj Yk Yl Ym Yn Yo Yp Yq M9 Yr Ys Yt Yu Yv Yw Yx Yy Yz YA YB YC YD YE YG YH YJ YK YL YM YN Na YP YQ YR YS YU YV YW YX YY YZ Y0 Y2 Y3 Y4 Y5 Y6 Y8 Y9 Za Zc Zd Ze Zf Zg Zh Zi Zj Zk Zl Zm Zn zb
inductive Expr|mk(op:Int)(nl:Bool)(args:List Expr)(var eQ neg kind num:Int)(str:List Nat)
inductive ae|mk(op:Int)(nl:Bool)(args:List ae)(ty var scope span:Int)(cond:Expr)
abbrev bt:=List ae
def bK(a:Bool)(l:ao)(e n:Nat):DV:=match l with|[]=>bif a then .nl else .ay [] e n|l=>.ay l e n
mutual
def Expr.cells : Expr -> ao
  | .mk o l args v e n k num str => [.int .i64 o, bK l (Expr.bn args) 59 8, .int .i64 v, .int .i64 e, .int .i64 n, .int .i64 k, .int .i64 num, .str str]
def Expr.bn : List Expr -> ao
  | [] => []
  | e :: t => .agg e.cells :: Expr.bn t
end
mutual
def ae.cells : ae -> ao
  | .mk o n args t v s p c => [.int .i64 o, bK n (ae.bn args) 62 14, .int .i64 t, .int .i64 v, .int .i64 s, .int .i64 p] ++ c.cells
def ae.bn : bt -> ao
  | [] => []
  | e :: t => .agg e.cells :: ae.bn t
end
theorem Expr.KR:∀(l:List Expr)(i:Nat),(Expr.bn l)[i]?=(l[i]?).map λe=>.agg e.cells|[],i=>by simp[Expr.bn]|a::l,0=>by simp[Expr.bn]|a::l,i+1=>by simp[Expr.bn,Expr.KR l i]
theorem ae.KR:∀(l:bt)(i:Nat),(ae.bn l)[i]?=(l[i]?).map λe=>.agg e.cells|[],i=>by simp[ae.bn]|a::l,0=>by simp[ae.bn]|a::l,i+1=>by simp[ae.bn,ae.KR l i]
theorem Mt{b:Bool}{n:Nat}:ni (bK b l e n)=J l.length:=by
 rcases l with _|⟨a,l⟩;.cases b<;>rfl
 rfl
theorem aBn{a:Bool}{n k:Nat}:w8 k (bK a l e n)=J l:=by
 unfold bK;split;.cases a<;>simp_all[w8,QI]
 .rfl
theorem Nu{b:Bool}{n:Nat}:(bK b l e n).aV=V:=by
 rcases l with _|⟨a,l⟩;.cases b<;>rfl
 rfl
def zM{b:Bool}{a:DV}{n:Nat}:bK b (a::l) e n=.ay (a::l) e n:=rfl
theorem Expr.dI:∀e:Expr,e.cells.length=8|.mk ..=>rfl
theorem ae.dI:∀e:ae,e.cells.length=14|.mk _ _ _ _ _ _ _ c=>by simp[ae.cells,Expr.dI c]
theorem Expr.qS:∀l:List Expr,(Expr.bn l).length=l.length|[]=>rfl|_::l=>by simp[Expr.bn,Expr.qS l]
theorem ae.qS:∀l:bt,(ae.bn l).length=l.length|[]=>rfl|_::l=>by simp[ae.bn,ae.qS l]
theorem ayA:inL [] f=C:=rfl
theorem al1{d:Nat}:([]:aE).any (aw d)=C:=rfl
theorem aoi:cf.rz f=if f=173 then V else C:=by show aw f _=_;by_cases h:f=173<;>simp_all[kT]
def Gb(s:db):aE->db|[]=>[]|t::l=>match look s t with|some v=>(t,v)::Gb s l|none=>Gb s l
def MV(a:ew)(l:aE):ew:=l.eraseDups.filterMap λs=>(look a s).map λb=>(s,b)
def Gm:db->aE|[]=>[]|(_,.lp s _)::l=>s::Gm l|_::l=>Gm l
theorem y6:∀l:db,l.flatMap (λx=>za x.2)=Gm l|[]=>rfl|(a,v)::l=>by rw[Hh,y6 l];cases v<;>rfl
theorem aB9{l:aE}{f n:Nat}{a:db}:mask l ⟨f,n,a,lb,g⟩=⟨f,n,Gb a l,MV lb (Gm (Gb a l)),g⟩:=by
 have e:l.filterMap (λs=>(look a s).map λv=>(s,v))=Gb a l:=by induction l<;>grind[Gb]
 unfold mask;simp only[e,y6];rfl
theorem aGW:MV lb []=[]:=rfl
attribute[go_sem]ayA al1 aoi Gb aGW Gm aB9 Eo Option.getD_none
attribute[go_sem↓]as9
theorem aNp{l:List aB}{d:Tmp}:GR fk [] l d=JY fk l d:=rfl
theorem aNo{l:List aB}{d a:Tmp}{t:aE}:GR fk (a::t) l d=if d=a then .copy else GR fk t l d:=by
 show(bif(aw d a||t.any _)then _ else _)=_;by_cases h:d=a;.simp_all
 .rw[if_neg h,kT h];rfl
theorem aNn{d:Tmp}:JY fk [] d=.none:=rfl
theorem aNm{d:Tmp}{o:aB}{l:List aB}:JY fk (o::l) d=iM.join (fm fk d o.op) (JY fk l d):=rfl
theorem ay6{d t:Nat}:qA d (.tmp t)=if t=d then V else C:=by show aw t d=_;grind[pJ,kT]
theorem ay3{d:Nat}{v:aD}:qA d (.const v)=C:=rfl
theorem ay5{d:Nat}{v:Nat}:qA d (.global v)=C:=rfl
theorem ay4{d:Nat}{v:Nat}:qA d (.func v)=C:=rfl
section
variable{P:aH}{O:St}{u:iM}{t:an}{d:ah Tmp}{s I n:Nat}{D:ao}{own:List (Nat×aN)}
theorem aBx:Mv P t u O d (.lp s I)=(look O.lb s).bind λb=>(fI P u t b I).bind λr=>aG {O with lb:=put O.lb s r.2} d r.1:=(rfl)
theorem aBq(h:bN P t=J V):fI P u t ⟨D,[]⟩ I=(aW P t).bind λn=>bif bz (I+n) D.length then J (.dv (.agg ((D.drop I).take n)) .no,⟨D,[]⟩)else Z:=by grind[fI]
theorem aBt(h:bN P t=J C)(a:u≠.take):fI P u t ⟨D,[]⟩ I=(D[I]?).bind λd=>J (.dv d .no,⟨D,[]⟩):=by grind[fI,pB,eB,look]
end
attribute[go_sem↓]aNp aNo aNn aNm fm Dk
attribute[go_sem]ay6 ay3 ay5 ay4 aBx aBq aBt eO zo List.any_nil Bool.true_or xB Bool.or_false Bool.or_true ne_eq reduceCtorEq not_false_eq_true ctt ctf lU jO dD gL Nat.reduceAdd Nat.reduceLeDiff xH List.drop_succ_cons List.take_succ_cons List.take_zero List.getElem?_cons_zero Ke kG Nat.reduceBEq nB
theorem S4{b:Nat}:cw a b=decide (a<b):=by grind[vy,cw,Of]
theorem am3{b:Nat}:bz a b=decide (a<=b):=by grind[nB,Of]
theorem S0{b:Nat}:aw a b=decide (a=b):=by grind[pJ,kT]
theorem EN{a:Type}{f:a->α->ah a}{b:a}:lE f [] b=J b:=rfl
theorem EM{c:Type}{f:c->α->ah c}{b:c}{a:α}{l:List α}:lE f (a::l) b=(f b a).bind (lE f l):=rfl
theorem aJM:(DV.agg l).aV=C:=rfl
mutual
theorem Expr.pure : ∀ e : Expr, cj e.cells = V
  | .mk o l args v Q n k num str => by
    have h := Expr.u7 args
    simp only [Expr.cells, cj, DV.pure, xA, zf]
    unfold bK
    split
    · cases l <;> rfl
    · exact h
theorem Expr.u7 : ∀ l : List Expr, cj (Expr.bn l) = V
  | [] => rfl
  | e :: l => by simp only [Expr.bn, cj, DV.pure, Expr.pure e, Expr.u7 l, xA]
end
mutual
theorem ae.pure : ∀ e : ae, cj e.cells = V
  | .mk k a args t v s p ⟨i, g, T, c, o, M, f, Q, d⟩ => by
    have h := ae.u7 args
    have j := Expr.u7 T
    have b : ∀ a l e n, cj l = V -> (bK a l e n).pure = V := by
      intro a l e n h; unfold bK; split
      · cases a <;> rfl
      · exact h
    simp only [ae.cells, Expr.cells, lU, jO, cj, DV.pure, xA, b _ _ _ _ h, b _ _ _ _ j]
theorem ae.u7 : ∀ l : bt, cj (ae.bn l) = V
  | [] => rfl
  | e :: l => by simp only [ae.bn, cj, DV.pure, ae.pure e, ae.u7 l, xA]
end
theorem oI{a:Bool}{n:Nat}(h:cj l=V):(bK a l e n).pure=V:=by
 unfold bK;split;.cases a<;>rfl
 .exact h
theorem qi{n:Int}:(DV.int k n).aV=V:=rfl
theorem pV{s:aE}:(DV.str s).aV=V:=rfl
attribute[go_sem]qi pV
attribute[go_sem]Gz MT gb eM S7 EN EM S4 am3 S0 dX lC List.replicate_succ List.replicate_zero iJ aJM xA zf xC ze Nat.reduceMul gM oI ae.u7 Expr.u7 DV.pure cj SV.pure QH Mt aBn aBo aBp aIY aI2 aIZ aI0 Ow Bool.false_and Bool.and_false Db goN opsV HB anH anK ace rz zF aeb
def nj(P:aH)(c:bV)(b:Hd bM)(r:ah Nat):eH->ah bh|.fJ st=>lg (ev P c) b (mask (c.live st.fn (Dk b.get)) st) r|o=>J (.out o)
theorem asw{c:bV}{b:bM}{t:Tg b}{s:St}{d:ah Nat}(h:exec P c (ev P c) d b s (nj P c (.mk b t) d)=J r):lg (ev P c) (.mk b t) s d=J r:=by apply K4;refine Eq.trans ?_ h;rfl
theorem aBP{c:bV}{b:bM}{t:Tg b}{r:ah Nat}{s:St}:nj P c (.mk b t) r (.fJ s)=lg (ev P c) (.mk b t) (mask (c.live s.fn (Dk b)) s) r:=(rfl)
theorem aBO{c:bV}{b:Hd bM}{r:ah Nat}{i:Nat}{s:St}:nj P c b r (.ext i s)=J (.out (.ext i s)):=(rfl)
theorem aBQ{c:bV}{b:Hd bM}{r:ah Nat}{s:St}:nj P c b r (.rt s)=J (.out (.rt s)):=(rfl)
theorem aF8{k:eH->ah bh}{o:eH}:fL k (.out o)=k o:=(rfl)
theorem aBX{b:Nat}:aA (.ofNat a) (.ofNat b)=decide (a<b):=S4
theorem vn{i:Nat}(h:i+1<9223372036854775808):dQ .i64 (jX (du i) 1)=du (i+1):=by show(bif cw _ _ then du _ else _)=_;grind[vy]
attribute[go_sem↓]aBP aBO aBQ aF8
section
variable{P:aH}{t:an}{s u:aE}{O:St}{aq:Nat->ah ao}
theorem amJ{a b:Int}:gu P .add t (.int k a) (.int k b)=J (.int k (dQ k (jX a b))):=by show(if k=k then _ else Z)=_;rw[if_pos rfl];rfl
theorem am0{a b:Int}:gu P .sub t (.int k a) (.int k b)=J (.int k (dQ k (Int.sub a b))):=by show(if k=k then _ else Z)=_;rw[if_pos rfl];rfl
theorem amL{a b:Int}:gu P .eql t (.int k a) (.int k b)=J (.bool (aj a b)):=by show(if k=k then _ else Z)=_;rw[if_pos rfl];rfl
theorem amV{a b:Int}:gu P .neq t (.int k a) (.int k b)=J (.bool (!aj a b)):=by show(if k=k then _ else Z)=_;rw[if_pos rfl];rfl
theorem amS{a b:Int}:gu P .lss t (.int k a) (.int k b)=J (.bool (aA a b)):=by show(if k=k then _ else Z)=_;rw[if_pos rfl];rfl
theorem amR{a b:Int}:gu P .leq t (.int k a) (.int k b)=J (.bool (!aA b a)):=by show(if k=k then _ else Z)=_;rw[if_pos rfl];rfl
theorem amN{a b:Int}:gu P .gtr t (.int k a) (.int k b)=J (.bool (aA b a)):=by show(if k=k then _ else Z)=_;rw[if_pos rfl];rfl
theorem amM{a b:Int}:gu P .geq t (.int k a) (.int k b)=J (.bool (!aA a b)):=by show(if k=k then _ else Z)=_;rw[if_pos rfl];rfl
theorem ank:gu P .eql t (.str s) (.str u)=J (.bool (decide (s=u))):=by rw[<-ya];rfl
theorem ann:gu P .neq t (.str s) (.str u)=J (.bool (!decide (s=u))):=by rw[<-ya];rfl
theorem TS(h:s.length+u.length<=1000000000):gu P .add t (.str s) (.str u)=J (.str (s++u)):=by show(bif bz _ _ then J _ else Z).bind _=_;rw[dZ,dZ,lz,nB ab];rfl
theorem aFQ{l:List UInt8}:cZ aq O (.const (.string ⟨⟨l⟩⟩))=J (.dv (.str (l.map ko)) .no):=rfl
theorem aFO:cZ aq O (.const .nilFunc)=J (.dv .nilFunc .no):=rfl
end
attribute[go_sem]aFQ aFO UInt8.reduceToNat amJ am0 amL amV amS amR amN amM ank ann
attribute[go_sem]aBX Option.or
section
variable{O:St}{x:aK}{d e t:Nat}{dd:DV}{u:iM}
theorem aCt:vW O x d .take (.dv dd (.ex e))=(aG O (J d) (.dv dd (.ex e))).bind λO=>J (aQ (λ_=>.sr d) O x):=by show Option.map _ _=_;grind[aG]
theorem aCs:vW O x d .take (.dv dd .any)=aG (aQ leave O x) (J d) (.dv dd .any):=(rfl)
theorem aCo:vW O x d .len (.dv dd (.ex e))=(ni dd).bind λn=>aG O (J d) (.hd n):=(rfl)
theorem aCq:vW O (.tmp t) d .ref (.dv dd (.ex e))=aG O (J d) (.sr t):=(rfl)
theorem aCm:vW O x d .copy (.dv dd (.ex e))=aG (aQ share O x) (J d) (.dv dd .no):=(rfl)
theorem aCl(h:u≠.take):vW O x d u (.dv dd .any)=aG O (J d) (.dv dd .any):=by cases u<;>first|rfl|grind
theorem aCv(h:u≠.take):vW O x d u (.dv dd (.ty e))=aG (aQ share O x) (J d) (.dv dd .no):=by cases u<;>first|rfl|grind
end
attribute[go_sem]aCt aCs aCo aCq aCm aCl aCv Bool.and_false Bool.false_and iM.join
section
variable{P:aH}{O:St}{x:aK}{d:ah Tmp}{e n i:Nat}{t:an}{u:iM}{nl:Bool}{xs l new:ao}{dd:DV}
theorem aym(h:aW P e=J n):Ak P O d x i (J (.slice e)) (.dv (bK nl xs e n) .no)=(xs[i]?).bind λv=>aG O d (.ev v):=by
 have e1:=pJ n;have e2:=pJ e;rcases xs with _|⟨a,xs⟩;.cases nl with|true=>rfl|false=>show(aW P e).bind _=_;grind
 show(aW P e).bind _=_;grind
theorem ayq(h:aW P e=J n):Ak P O d x i (J (.slice e)) (.dv (.ay xs e n) .no)=(xs[i]?).bind λv=>aG O d (.ev v):=by have e1:=pJ n;have e2:=pJ e;show(aW P e).bind _=_;grind
theorem aBw:Mv P t u O d (.ev dd)=(bN P t).bind λa=>bif a then(aW P t).bind λn=>bif !dd.aV&&aw dd.flat.length n then aG O d (.dv dd .no)else Z else bif dd.aV then aG O d (.dv dd .no)else Z:=by show(match bN P t with|some V=>_|some C=>_|none=>Z)=_;grind
theorem qO{b:Nat}(c:n≠0)(h:(l.length+new.length)*b<=bm)(a:l.length+new.length<=bm):fE e n b (.ay l e n) (.ex e) new=J (.ay (l++new) e n,.ex e):=by grind[fE,kT,pJ,nB]
theorem aBl:QI (.ay l e n)=J l:=rfl
end
theorem ae.KQ:∀l:bt,((ae.bn l).all λy=>decide (y.flat.length=14))=V|[]=>rfl|q::l=>by show(decide (q.cells.length=14)&&(ae.bn l).all _)=V;rw[ae.dI,ae.KQ l];rfl
theorem Expr.KQ:∀l:List Expr,((Expr.bn l).all λy=>decide (y.flat.length=8))=V|[]=>rfl|q::l=>by show(decide (q.cells.length=8)&&(Expr.bn l).all _)=V;rw[Expr.dI,Expr.KQ l];rfl
theorem ae.Bt:∀l m:bt,ae.bn (l++m)=ae.bn l++ae.bn m|[],m=>rfl|q::l,m=>by simp[ae.bn,ae.Bt l m]
theorem Expr.Bt:∀l m:List Expr,Expr.bn (l++m)=Expr.bn l++Expr.bn m|[],m=>rfl|q::l,m=>by simp[Expr.bn,Expr.Bt l m]
attribute[go_sem]aym ayq aBw aBl ae.KQ Expr.KQ ae.KR Expr.KR ae.qS Expr.qS ae.dI Expr.dI ae.pure Expr.pure abq SE
theorem av1{a:List aK}{t:Array an}:handsOn (.call ⟨.value x,⟨a⟩,t⟩)=x::a:=by simp[handsOn,eO,Call.operands]
attribute[go_sem]av1
theorem flat_agg:(DV.agg l).flat=l:=rfl
theorem at0{n:Int}:(DV.int k n).flat=[.int k n]:=rfl
theorem atW{b:Bool}:(DV.bool b).flat=[.bool b]:=rfl
theorem at7{b:aE}:(DV.str b).flat=[.str b]:=rfl
theorem at4:DV.nl.flat=[.nl]:=rfl
theorem at1{n:Nat}:(DV.ay l e n).flat=[.ay l e n]:=rfl
theorem atY:(DV.func f l m).flat=[.func f l m]:=rfl
theorem at3:DV.nilFunc.flat=[.nilFunc]:=rfl
theorem at6{b:Nat}:(DV.ptr a b).flat=[.ptr a b]:=rfl
theorem atX{a:Bool}{n:Nat}:(bK a l e n).flat=[bK a l e n]:=by
 unfold bK;split;.cases a<;>rfl
 rfl
attribute[go_sem]flat_agg at0 atW at7 at4 at1 atY at3 at6 atX
theorem aFc:du 0=0:=rfl
theorem aCK:FQ (.int k 0)=J 0:=rfl
theorem aCL:FQ (.int k 1)=J 1:=rfl
theorem aCM:FQ (.int k 2)=J 2:=rfl
theorem aCN{n:Nat}:FQ (.int k (.ofNat n))=J n:=rfl
attribute[go_sem]aFc aCK aCL aCM aCN
section
variable{P:aH}{cf:bV}{rec:dW}{O:St}{gs cr:aE}{l:List aB}{d:ah Tmp}{ty:an}{pos:String}{af:Array Edge}{wh:ah (Nat×Bool)}{x y:aK}{t u:an}{ts:Array an}
def ahj(s:St)(d:ah Tmp):DV->DV->ah St|.int k a,.int _ b=>aG s d (.dv (.int k (bif aA a b then b else a)) .no)|_,_=>Z
theorem alc:dK P cf rec gs cr l O ⟨d,.call ⟨.builtin .max,⟨[x,y]⟩,ts⟩,ty,pos,af,wh⟩=(bj cf.aq O x).bind λa=>(bj cf.aq O y).bind (ahj O d a):=by
 show((bj _ O x).bind λb=>((bj _ O y).bind _).bind _).bind _=_;rcases bj _ O x with _|a;.rfl
 rcases bj _ O y with _|b;.rfl
 cases a<;>cases b<;>rfl
theorem aCb{b:Nat}:(bif decide (a<b)then du b else du a)=du (max a b):=ai
def agn(P:aH)(t:St)(d:ah Tmp)(i:Nat):ah TypeDesc->DV->ah St|some .string,.str s=>(s[i]?).bind λb=>aG t d (.dv (.int .u8 (.ofNat b)) .no)|_,_=>Z
theorem ak6{i:aK}:dK P cf rec gs cr l O ⟨d,.index t x i,ty,pos,af,wh⟩=(bj cf.aq O i).bind λv=>(FQ v).bind λa=>(bj cf.aq O x).bind (agn P O d a (P.underlying t)):=by show(match bj _ O i with|some (.int _ (.ofNat a))=>(match P.underlying t,bj _ O x with|some .string,J (.str s)=>(s[a]?).bind _|_,_=>Z)|_=>Z)=_;cases bj _ O i with|none=>rfl|some v=>cases v with
 |int k z=>
 rcases z with a|i;.show _=(bj _ O x).bind _;cases h:P.underlying t with|none=>cases bj _ O x<;>rfl|some w=>cases bj _ O x with|none=>grind|some q=>cases w with|string=>cases q<;>rfl|_=>rfl
 rfl|_=>rfl
def MB:ah TypeDesc->ah (an×an)|some (.map k e)=>J (k,e)|_=>Z
def FJ:DV->ah Nat|.map r=>J r|_=>Z
def FG(g:GH)(r:Nat):ah (List lr×Nat):=match g.get r with|some (.map e c)=>J (e,c)|_=>Z
def Ha(P:aH)(s:St)(d:ah Tmp)(t:an):ah (Nat×lr)->ah St|some (_,e)=>aG s d (.dv e.2.1 .no)|none=>(cE P t).bind λz=>aG s d (.dv z .no)
theorem ak9{k:aK}:dK P cf rec gs cr l O ⟨d,.lookup t x k C,ty,pos,af,wh⟩=(MB (P.underlying t)).bind λq=>(bj cf.aq (dh O (Op.lookup t x k C).operands.toList) x).bind λv=>(FJ v).bind λr=>(FG (dh O (Op.lookup t x k C).operands.toList).g r).bind λm=>(bj cf.aq (dh O (Op.lookup t x k C).operands.toList) k).bind λa=>bif ta P q.1 a then(findD P q.1 a m.1 0).bind (Ha P (dh O (Op.lookup t x k C).operands.toList) d q.2)else Z:=by show(match P.underlying t,bj _ (dh O (Op.lookup t x k _).operands.toList) x with|some (.map b e),J (.map r)=>(match(dh O (Op.lookup t x k _).operands.toList).g.get r with|some (.map s _)=>(bj _ _ k).bind _|_=>Z)|_,_=>Z)=_;cases P.underlying t with|none=>rfl|some w=>cases w with
 |map b e=>cases bj _ _ x with|none=>rfl|some v=>cases v with
  |map r=>
  simp only[FJ,FG,cU];rcases(dh O _).g.get r with _|o;.rfl
  cases o<;>rfl|_=>rfl
 |_=>rfl
def V1(s:St)(d:ah Tmp)(r:Nat)(a:List lr)(c:Nat)(k x:DV):ah (Nat×lr)->ah St|some (i,e)=>bif k.aV then aG {s with sl:=cP s.sl,g:=s.g.set r (.map (a.take i++(e.1,x,e.2.2)::a.drop (i+1)) c)} d (.tp [])else Z|none=>aG {s with sl:=cP s.sl,g:=s.g.set r (.map (a++[(k,x,c)]) (c+1))} d (.tp [])
theorem alb{m k:aK}:dK P cf rec gs cr l O ⟨d,.mapUpdate t m k x,ty,pos,af,wh⟩=(MB (P.underlying t)).bind λq=>(bj cf.aq (dh O (rI t m k x).operands.toList) m).bind λv=>(FJ v).bind λr=>(FG (dh O (rI t m k x).operands.toList).g r).bind λs=>(bj cf.aq (dh O (rI t m k x).operands.toList) k).bind λa=>(bj cf.aq (dh O (rI t m k x).operands.toList) x).bind λb=>bif ta P q.1 a then(findD P q.1 a s.1 0).bind (V1 (dh O (rI t m k x).operands.toList) d r s.1 s.2 a b)else Z:=by show(match P.underlying t,bj cf.aq (dh O (rI t m k x).operands.toList) m with|some (.map f _),J (.map r)=>(match(dh O (rI t m k x).operands.toList).g.get r with|some (.map s c)=>(bj cf.aq (dh O (rI t m k x).operands.toList) k).bind λa=>(bj cf.aq (dh O (rI t m k x).operands.toList) x).bind λb=>bif ta P f a then(findD P f a s 0).bind λ|some (i,e)=>bif a.aV then aG {(dh O (rI t m k x).operands.toList)with sl:=cP (dh O (rI t m k x).operands.toList).sl,g:=(dh O (rI t m k x).operands.toList).g.set r (.map (s.take i++(e.1,b,e.2.2)::s.drop (i+1)) c)} d (.tp [])else Z|none=>aG {(dh O (rI t m k x).operands.toList)with sl:=cP (dh O (rI t m k x).operands.toList).sl,g:=(dh O (rI t m k x).operands.toList).g.set r (.map (s++[(a,b,c)]) (c+1))} d (.tp [])else Z|_=>Z)|_,_=>Z)=_;cases P.underlying t with|none=>rfl|some w=>cases w with
 |map f h=>show _=(bj cf.aq (dh O (rI t m k x).operands.toList) m).bind _;cases bj cf.aq (dh O (rI t m k x).operands.toList) m with|none=>rfl|some v=>cases v with
  |map r=>simp only[FJ,FG,cU];cases(dh O (rI t m k x).operands.toList).g.get r with|none=>rfl|some o=>cases o<;>rfl
  |_=>rfl
 |_=>rfl
theorem alf:dK P cf rec gs cr l O ⟨d,.makeMap t Z,ty,pos,af,wh⟩=aG {O with g:=O.g.alloc (.map [] 0)} d (.dv (.map O.g.next) .no):=(rfl)
theorem ale{f:bY}{a b:List aK}:dK P cf rec gs cr l O ⟨d,.makeFunc (.func f) ⟨a⟩ ⟨b⟩,ty,pos,af,wh⟩=(opsV cf.aq (dh O (Op.makeFunc (.func f) ⟨a⟩ ⟨b⟩).operands.toList) a).bind λc=>(opsV cf.aq (dh O (Op.makeFunc (.func f) ⟨a⟩ ⟨b⟩).operands.toList) b).bind λe=>aG (dh O (Op.makeFunc (.func f) ⟨a⟩ ⟨b⟩).operands.toList) d (.dv (.func f c e) .no):=by show(cB _ a).bind _=_;rw[DI,DI];rfl
def MO(a:Nat->ah ao)(s:St):ah aK->ah (ah DV)|none=>J Z|some x=>(bj a s x).bind λv=>J (J v)
theorem alk{o h m:ah aK}:dK P cf rec gs cr l O ⟨d,.slice t x o h m,ty,pos,af,wh⟩=(bj cf.aq (dh O (Op.slice t x o h m).operands.toList) x).bind λv=>(MO cf.aq (dh O (Op.slice t x o h m).operands.toList) o).bind λI=>(MO cf.aq (dh O (Op.slice t x o h m).operands.toList) h).bind λc=>(MO cf.aq (dh O (Op.slice t x o h m).operands.toList) m).bind λF=>(oM P t v I c F).bind λr=>aG (dh O (Op.slice t x o h m).operands.toList) d (.dv r.1 r.2):=by
 have e:∀(O:St)(x:aK),(bj cf.aq O x).map J=(bj cf.aq O x).bind λv=>J (J v):=by intro O x;cases bj _ O x<;>rfl
 unfold dK dF;cases o<;>cases h<;>cases m<;>simp only[MO,cU,e]<;>rfl
def MK(t:St)(d:ah Tmp)(P:aH):ah TypeDesc->ah TypeDesc->DV->ah St|some _,J (.int k),.int _ n=>aG t d (.dv (.int k (dQ k n)) .no)|some .string,J (.slice e),.str s=>(match P.underlying e with|some (.int .u8)=>aG t d (.dv (.ay (s.map λb=>.int .u8 (.ofNat b)) e 1) .no)|_=>Z)|_,_,_=>Z
theorem ak2:dK P cf rec gs cr l O ⟨d,.convert t u x,ty,pos,af,wh⟩=(bj cf.aq (dh O [x]) x).bind (MK (dh O [x]) d P (P.underlying t) (P.underlying u)):=(rfl)
def OC(c:bV)(r:dW)(s:St)(o:Op)(x:aK)(a:List aK):DV->ah (St×SV)
 |.func h f b=>bif aw (c.fk h) 0 then(opsV c.aq (dh s (handsOn o)) a).bind λar=>jA c r h (f++ar++b) .no (dh s (handsOn o)).g λv g=>J ({dh s (handsOn o)with g:=g},v)else bif aw (c.fk h) 3&&c.iz h then(HB c.aq s a).bind λar=>jA c r h (f++ar++b) .no s.g λv _=>bif v.plain then J (s,v)else Z else qP c r s o x a|.eu i=>(opsV c.aq (dh s (handsOn o)) a).bind λar=>(r (.eu i ar (dh s (handsOn o)).g)).bind λ|.val v g=>J ({dh s (handsOn o)with g:=g},v)|_=>Z
 |_=>Z
theorem anM{o:Op}{s:Nat}{a:List aK}:qP cf rec O o (.tmp s) a=(bj cf.aq O (.tmp s)).bind (OC cf rec O o (.tmp s) a):=by cases h:bj _ O _ with|none=>grind[qP]|some v=>cases v with|func f b c=>show _=(bif aw _ 0 then _ else bif aw _ 3&&cf.iz f then _ else _);grind[qP,dh,DI,kT,SU]|eu i=>unfold qP;rw[h];rw[DI];rfl|_=>unfold qP;rw[h];rfl
theorem anE{o:Op}{a:List aK}{h:bY}{f c:ao}(e:cf.fk h=0):OC cf rec O o x a (.func h f c)=(opsV cf.aq (dh O (handsOn o)) a).bind λar=>jA cf rec h (f++ar++c) .no (dh O (handsOn o)).g λv g=>J ({dh O (handsOn o)with g:=g},v):=by show(bif aw _ 0 then _ else _)=_;simp_all
theorem anF{o:Op}{a:List aK}{h:bY}{f c:ao}(e:cf.fk h=3)(b:cf.iz h=V):OC cf rec O o x a (.func h f c)=(HB cf.aq O a).bind λar=>jA cf rec h (f++ar++c) .no O.g λv _=>bif v.plain then J (O,v)else Z:=by show(bif aw _ 0 then _ else bif aw _ 3&&cf.iz h then _ else _)=_;rw[e,b];rfl
theorem anN{f:bY}{a:ao}{k:SV->GH->ah α}(h:(cf.iz f||cf.oo f)=C):jA cf rec f a ow g k=(rec (.call f a ow g)).bind λ|.val v g=>k v g|_=>Z:=by rw[J8]at h;unfold jA;rw[h.1,h.2];rfl
theorem anO{f:bY}{a:ao}{k:SV->GH->ah α}(h:cf.iz f=C)(c:cf.oo f=V)(d:cj a=V):jA cf rec f a ow g k=(rec (.call f a ow ⟨g.next,[]⟩)).bind λ|.val v b=>bif FT g b then k v ⟨b.next,b.kj++g.kj⟩else Z|_=>Z:=by unfold jA;rw[h,c,d];rfl
theorem aCn{v:aD}{d:Nat}{u:iM}{a:DV}:vW O (.const v) d u (.dv a .no)=aG O (J d) (.dv a .no):=by cases u<;>rfl
theorem anS{b:Builtin}{a:List aK}:(Call.mk (.builtin b) ⟨a⟩ ts).operands.toList=a:=by simp[Call.operands]
theorem anT{a:List aK}:(Call.mk (.value x) ⟨a⟩ ts).operands.toList=x::a:=by simp[Call.operands]
end
attribute[go_sem↓]alc ak6 ak9 alb alf ale alk ak2
attribute[go_sem]ahj aCb agn MB FJ FG Ha V1 MO MK anM anE anF anN aCn anS anT jY SV.plain DV.plain MX
def st0:St:=⟨0,0,[],[],.empty⟩
def SZ(o:List aB)(l:List (Nat×Kd))(j:Nat)(k:Kd):List (Nat×Nat):=l.filterMap λe=>bif Kd.apart e.2 k||rA o e.1 j then Z else J (e.1,j)
def Kv(c:bV)(p:List aB):List aB->Nat->List (Nat×Kd)->List (Nat×Nat)|[],_,_=>[]|o::l,j,g=>SZ p g j (kindOf c st0 o.op)++Kv c p l (j+1) ((j,kindOf c st0 o.op)::g)
def AO(c:bV)(o:List aB):List (Nat×Nat):=Kv c o o 0 []
def dj(c:bV)(o:List aB):Bool:=nI c st0 o&&(AO c o).isEmpty
def vO(b:List (Nat×Nat))(i j:Nat):Bool:=b.any λp=>aw p.1 i&&aw p.2 j
def EP(b:List (Nat×Nat))(i:Nat):Bool:=b.any λp=>aw p.1 i
section
variable{P:aH}{cf:bV}{rec:dW}{gs cr:aE}
theorem VJ{s:St}{o:Op}:(jI cf s o).kd=kindOf cf st0 o:=by unfold jI;cases o<;>first|rfl|(simp only;split<;>rfl)
def Kx.fr(a b:Kx):Bool:=Kx.yc a b||Kx.yc b a
def uk(P:aH)(c:bV)(r:dW)(s a:aE)(p:List aB)(b:List (Nat×Nat)):List aB->Nat->List (Nat×Kx)->(eH->ah bh)->St->ah bh|[],_,_,k,st=>k (.fJ st)|o::l,j,g,k,st=>(y8 ⟨p⟩ st o).bind λw=>bif w then bif g.all λe=>!(vO b e.1 j)||Kx.fr e.2 (jI c st o.op)then(dK P c r s a l st o).bind (uk P c r s a p b l (j+1) (bif EP b j then(j,jI c st o.op)::g else g) k)else Z else(aG st o.dst (.tp [])).bind (uk P c r s a p b l (j+1) g k)
theorem aJd{b:List (Nat×Nat)}{k:eH->ah bh}:∀(l:List aB)(j:Nat)(full:List (Nat×Kd))(g y:List (Nat×Kx))(st:St),(∀p,p∈Kv cf ops l j full->p∈b)->(∀e,e∈g->(e.1,e.2.kd)∈full/\(EP b e.1=V->e∈y))->uk P cf rec gs cr ops b l j y k st=J r->(km P cf rec gs cr V ⟨ops⟩ l j g st).bind (λst=>k (.fJ st))=J r:=by intro l;induction l with|nil=>intro j full g y st _ _ h;exact h|cons o l i=>intro j full g y st f d h;unfold uk at h;obtain⟨w,q,h⟩:=aF h;unfold km;rw[q];simp only[cU];have u:∀p,p∈Kv cf ops l (j+1) ((j,kindOf cf st0 o.op)::full)->p∈b:=λp n=>f p (Sz _ n);cases w with
 |true=>
 simp only[aR]at h|-;rcases m:(y.all λe=>!(vO b e.1 j)||Kx.fr e.2 (jI cf st o.op))with _|_;.grind
 rw[m]at h;simp only[aR]at h;have A:I' ops g j (jI cf st o.op)=V:=by unfold I';rw[A0];intro e a;obtain⟨c,t⟩:=d e a;cases v:Kd.apart e.2.kd (jI cf st o.op).kd||rA ops e.1 j with|true=>grind[Kx.apart,Kx.fr]|false=>
  have B:(e.1,j)∈b:=by refine f _ (Kg _ ?_);grind[SZ,VJ]
  have x:EP b e.1=V:=by grind[EP,pJ]
  have z:vO b e.1 j=V:=by simp_all[vO]
  grind[Kx.apart,Kx.fr]
 obtain⟨s,c,h⟩:=aF h;have:=i (j+1) ((j,kindOf cf st0 o.op)::full) ((j,jI cf st o.op)::g) _ s u (λe a=>by grind[VJ]) h;grind|false=>simp only[ch]at h|-;obtain⟨s,c,h⟩:=aF h;rw[c];simp only[cU];exact i (j+1) ((j,kindOf cf st0 o.op)::full) g y s u (λe a=>⟨jy _ (d e a).1,(d e a).2⟩) h
theorem apk{f:ah Nat}{s:St}{k:eH->ah bh}{i:Nat}{b:List (Nat×Nat)}(h:nI cf st0 ops=V)(c:AO cf ops=b)(a:uk P cf rec (cf.tL s.fn) (cf.zI s.fn) ops b ops 0 [] (FM (cf.keep s.fn i) k) s=J r):exec P cf rec f (.region i ⟨ops⟩ V) s k=J r:=by show(bif !V||nI cf s _ then _ else Z)=_;have e:nI cf s _=nI cf st0 ops:=rfl;rw[e,h];subst c;exact aJd _ 0 [] [] [] s (λp d=>d) aU a
theorem aJe:∀(l:List aB)(j:Nat)(full:List (Nat×Kd))(g:List (Nat×Kx))(st:St),(∀e,e∈g->(e.1,e.2.kd)∈full)->Kv cf ops l j full=[]->km P cf rec gs cr V ⟨ops⟩ l j g st=km P cf rec gs cr C ⟨ops⟩ l j [] st:=by intro l;induction l with|nil=>intro j full g st _ _;rfl|cons o l i=>intro j full g st s h;obtain⟨p,a⟩:=List.append_eq_nil_iff.1 h;unfold km;congr 1;funext w;grind[I',Kx.apart,SZ,VJ]
theorem as7{r:ah Nat}{s:St}{k:eH->ah bh}{i:Nat}(h:dj cf ops=V):exec P cf rec r (.region i ⟨ops⟩ V) s k=ry P cf rec (cf.tL s.fn) (cf.zI s.fn) (.mk ops (.mk ops)) (.mk ops (.mk ops)) (FM (cf.keep s.fn i) k) s:=by unfold dj at h;rw[gD]at h;show(bif !V||nI cf s _ then _ else Z)=_;have e:nI cf s _=nI cf st0 ops:=rfl;rw[e,h.1];rw[aJe _ 0 [] [] s aU (List.isEmpty_iff.1 h.2)];rfl
end
def opsOf(d:Nat):bM->ah (List aB)|.region i ops _=>bif aw i d then J ops.toList else Z|.seq a b|.cond _ a b|.rangeFunc _ _ a b=>(opsOf d a).or (opsOf d b)|.block _ b|.loop b|.scope b=>opsOf d b|_=>Z
def bp(f:Func)(i:Nat):List aB:=((f.body).bind (opsOf i)).getD []
attribute[go_sem↓]as7
open Proofs.Tryz
theorem aLt:dj cf (bp f341 17)=V:=by rfl
theorem aLu:dj cf (bp f62 14)=V:=by rfl
theorem aLb:dj cf (bp f159 6)=V:=by rfl
theorem aLc:dj cf (bp f167 6)=V:=by rfl
theorem aLd:dj cf (bp f272 6)=V:=by rfl
theorem aLe:dj cf (bp f171 11)=V:=by rfl
theorem aLf:dj cf (bp f211 3)=V:=by rfl
theorem aLg:dj cf (bp f213 4)=V:=by rfl
theorem aLh:dj cf (bp f213 6)=V:=by rfl
theorem aLi:dj cf (bp f213 7)=V:=by rfl
theorem aLj:dj cf (bp f172 10)=V:=by rfl
theorem aLk:dj cf (bp f257 10)=V:=by rfl
theorem aLn:dj cf (bp f219 9)=V:=aL
theorem aLm:dj cf (bp f219 11)=V:=aL
theorem aLr:dj cf (bp f322 10)=V:=aL
theorem aLs:dj cf (bp f325 5)=V:=by rfl
theorem aJL:AO cf (bp f62 17)=[(1,2)]:=by rfl
theorem aJ0:nI cf st0 (bp f62 17)=V:=by rfl
theorem aJH:AO cf (bp f169 13)=[(7,8)]:=by rfl
theorem aJW:nI cf st0 (bp f169 13)=V:=by rfl
theorem aJI:AO cf (bp f169 18)=[(1,2)]:=by rfl
theorem aJX:nI cf st0 (bp f169 18)=V:=by rfl
theorem aJK:AO cf (bp f329 1)=[(1,4)]:=by rfl
theorem aJZ:nI cf st0 (bp f329 1)=V:=by rfl
theorem Expr.JP(e:Expr):List.take 8 e.cells=e.cells:=by grind[Expr.dI]
theorem ae.JP(e:ae):List.take 14 e.cells=e.cells:=by grind[ae.dI]
attribute[go_sem]Expr.JP ae.JP
structure Sl(α:Type)where
 nl:Bool
 l:List α
abbrev iD(n:Int):DV:=.int .i64 n
def bW(s:Sl Int):DV:=bK s.nl (s.l.map iD) 3 1
structure Guard where
 scope:Int
 ty:Int
 var:Int
 cond:Expr
structure kF where
 scope:Int
 span:Int
structure Edge where
 src:Int
 dst:Int
 var:Int
 ty:Int
 cond:Expr
 opens:Sl Int
 ma:Sl Int
 jS:Sl Expr
 ki:Sl kF
 inside:Sl Int
abbrev gk:=List Edge
structure Stat where guards:Sl Guard
structure dN where
 vars:Int
 scopes:Int
 mP:Sl Stat
 oV:Sl Edge
structure lu where
 name:aE
 kind:Int
structure b9 where
 name:aE
 fields:Sl lu
structure eE where
 name:aE
 ty:Int
structure cD where
 name:aE
 vars:Sl eE
 key:Sl Int
 pat:ae
 jL:Sl Expr
structure eJ where
 types:Sl b9
 query:cD
 xQ:dN
def uI(s:Sl Expr):DV:=bK s.nl (Expr.bn s.l) 59 8
def Guard.cells(g:Guard):ao:=[iD g.scope,iD g.ty,iD g.var]++g.cond.cells
def Guard.d(g:Guard):DV:=.agg g.cells
def kF.d(g:kF):DV:=.agg [iD g.scope,iD g.span]
def DA(s:Sl kF):DV:=bK s.nl (s.l.map kF.d) 385 2
def Dc(s:Sl Guard):DV:=bK s.nl (s.l.map Guard.d) 344 11
def Edge.cells(e:Edge):ao:=[iD e.src,iD e.dst,iD e.var,iD e.ty]++e.cond.cells++[bW e.opens,bW e.ma,uI e.jS,DA e.ki,bW e.inside]
def Edge.d(e:Edge):DV:=.agg e.cells
def Stat.d(s:Stat):DV:=.agg [Dc s.guards]
def AP(s:Sl Stat):DV:=bK s.nl (s.l.map Stat.d) 225 1
def zL(s:Sl Edge):DV:=bK s.nl (s.l.map Edge.d) 281 17
def dN.cells(a:dN):ao:=[iD a.vars,iD a.scopes,AP a.mP,zL a.oV]
def lu.d(f:lu):DV:=.agg [.str f.name,iD f.kind]
def C7(s:Sl lu):DV:=bK s.nl (s.l.map lu.d) 65 2
def b9.d(s:b9):DV:=.agg [.str s.name,C7 s.fields]
def cm(s:Sl b9):DV:=bK s.nl (s.l.map b9.d) 68 2
def eE.d(v:eE):DV:=.agg [.str v.name,iD v.ty]
def kE(s:Sl eE):DV:=bK s.nl (s.l.map eE.d) 70 2
def cD.cells(q:cD):ao:=[.str q.name,kE q.vars,bW q.key]++q.pat.cells++[uI q.jL]
def eJ.cells(p:eJ):ao:=[cm p.types]++p.query.cells++p.xQ.cells
theorem Guard.dI(g:Guard):g.cells.length=11:=by simp[Guard.cells,Expr.dI]
theorem Edge.dI(e:Edge):e.cells.length=17:=by simp[Edge.cells,Expr.dI]
theorem cD.dI(q:cD):q.cells.length=18:=by simp[cD.cells,ae.dI]
theorem eJ.dI(p:eJ):p.cells.length=23:=by simp[eJ.cells,cD.dI,dN.cells]
theorem Cg:∀a b:ao,cj (a++b)=(cj a&&cj b)|[],b=>by simp[cj]|x::a,b=>by simp[cj,Cg a b,Bool.and_assoc]
theorem ig{b:Type}{f:b->DV}(h:∀a,(f a).pure=V):∀l:List b,cj (l.map f)=V|[]=>rfl|a::l=>by simp[cj,h a,ig h l]
def Me(s:Sl Int):(bW s).pure=V:=oI (ig (λ_=>rfl) _)
def Mj(s:Sl Expr):(uI s).pure=V:=oI (Expr.u7 _)
theorem Guard.pure(g:Guard):g.d.pure=V:=by show cj _=V;simp[Guard.cells,cj,DV.pure,Expr.pure]
def avs(s:Sl Guard):(Dc s).pure=V:=oI (ig Guard.pure _)
def aBj(s:Sl kF):(DA s).pure=V:=oI (ig (λ_=>rfl) _)
theorem Edge.pure(e:Edge):e.d.pure=V:=by show cj _=V;simp[Edge.cells,Cg,cj,DV.pure,Expr.pure,Me,Mj,aBj]
def a42:=@Edge.pure
def aqz(s:Sl Edge):(zL s).pure=V:=oI (ig a42 _)
theorem Stat.pure(s:Stat):s.d.pure=V:=by show cj _=V;simp[cj,avs]
def aLK(s:Sl Stat):(AP s).pure=V:=oI (ig Stat.pure _)
theorem dN.pure(a:dN):cj a.cells=V:=by simp[dN.cells,cj,DV.pure,aLK,aqz]
def aty(s:Sl lu):(C7 s).pure=V:=oI (ig (λ_=>rfl) _)
theorem b9.pure(s:b9):s.d.pure=V:=by show cj _=V;simp[cj,DV.pure,aty]
def Z3(s:Sl b9):(cm s).pure=V:=oI (ig b9.pure _)
def aNu(s:Sl eE):(kE s).pure=V:=oI (ig (λ_=>rfl) _)
theorem cD.pure(q:cD):cj q.cells=V:=by simp[cD.cells,Cg,cj,DV.pure,ae.pure,aNu,Me,Mj]
theorem eJ.pure(p:eJ):cj p.cells=V:=by simp[eJ.cells,Cg,cj,Z3,cD.pure,dN.pure]
def a30:=@eJ.pure
theorem im{c:bV}{b:bM}{t:Tg b}{s:St}{d:ah Nat}{f:bh->ah bh}(h:(exec P c (ev P c) d b s (nj P c (.mk b t) d)).bind f=J R):(lg (ev P c) (.mk b t) s d).bind f=J R:=by obtain⟨r,hr,k⟩:=aF h;grind[asw]
theorem AS{i:Nat}(h:i<9223372036854775808):dQ .i64 (du i)=du i:=by show(bif cw i _ then du i else _)=_;grind[vy]
def Ou{b:Nat}:jX (du a) (du b)=du (a+b):=rfl
def Jr:db->Nat->SV->db|[],n,x=>[(n,x)]|(m,y)::t,n,x=>bif aw m n then(n,x)::t else(m,y)::Jr t n x
theorem aHG{n:Nat}{x:SV}:Jr [] n x=[(n,x)]:=rfl
theorem aHF{m n:Nat}{x y:SV}{t:db}:Jr ((m,y)::t) n x=if m=n then(n,x)::t else(m,y)::Jr t n x:=by show cond _ _ _=_;simp_all
def fu:db->db->db|sl,[]=>sl|sl,(k,v)::t=>fu (Jr sl k v) t
theorem aNk{s:db}:fu s []=s:=rfl
theorem aNj{s:db}{x:Nat×SV}{t:db}:fu s (x::t)=fu (Jr s x.1 x.2) t:=rfl
abbrev iS(i:Nat):SV:=.dv (.int .i64 (.ofNat i)) .no
abbrev zS(i:Int):SV:=.dv (.int .i64 i) .no
abbrev vI(i:Int):bh:=.val (.dv (.int .i64 i) .no) .empty
abbrev vB(b:Bool):bh:=.val (.dv (.bool b) .no) .empty
theorem QK{c:Type}{b:bM}{t:Tg b}{r:ah Nat}{k:eH->ah bh}{g:St}(a:List α)(f:c)(S:Nat->c->St)(G:Nat->List α->c->bh)(I:Nat->List α->c->Prop)(o:a.length<9223372036854775807)(e:S 0 f=g)(n:I 0 a f)(h:G 0 a f=R)(j:∀s,I a.length [] s->(exec PP cf (ev PP cf) r b (S a.length s) (nj PP cf (.mk b t) r)).bind (fL k)=J (G a.length [] s))(m:∀i x l s,(i<a.length)=True->a[i]?=J x->dQ .i64 (jX (du i) 1)=du (i+1)->I i (x::l) s->(∀d,I (i+1) l d->(lg (ev PP cf) (.mk b t) (S (i+1) d) r).bind (fL k)=J (G (i+1) l d))->(exec PP cf (ev PP cf) r b (S i s) (nj PP cf (.mk b t) r)).bind (fL k)=J (G i (x::l) s)):(lg (ev PP cf) (.mk b t) g r).bind (fL k)=J R:=by
 have y:∀(l:List α)(i:Nat)(s:c),i+l.length=a.length->a.drop i=l->I i l s->(lg (ev PP cf) (.mk b t) (S i s) r).bind (fL k)=J (G i l s):=by intro l;induction l<;>grind[im,Hk,vn,El]
 grind
theorem tb{f:Type}{b:bM}{t:Tg b}{r:ah Nat}{k:eH->ah bh}{a:St}(c:List α)(d:f)(u:Nat->f->db)(G:Nat->List α->f->bh)(I:Nat->List α->f->Prop)(o:c.length<9223372036854775807)(e:fu a.sl (u 0 d)=a.sl)(n:I 0 c d)(h:G 0 c d=R)(j:∀s,I c.length [] s->(exec PP cf (ev PP cf) r b ⟨a.fn,a.n,fu a.sl (u c.length s),a.lb,a.g⟩ (nj PP cf (.mk b t) r)).bind (fL k)=J (G c.length [] s))(m:∀i x l s,(i<c.length)=True->c[i]?=J x->dQ .i64 (jX (du i) 1)=du (i+1)->I i (x::l) s->(∀g,I (i+1) l g->(lg (ev PP cf) (.mk b t) ⟨a.fn,a.n,fu a.sl (u (i+1) g),a.lb,a.g⟩ r).bind (fL k)=J (G (i+1) l g))->(exec PP cf (ev PP cf) r b ⟨a.fn,a.n,fu a.sl (u i s),a.lb,a.g⟩ (nj PP cf (.mk b t) r)).bind (fL k)=J (G i (x::l) s)):(lg (ev PP cf) (.mk b t) a r).bind (fL k)=J R:=QK c d (λi s=>⟨a.fn,a.n,fu a.sl (u i s),a.lb,a.g⟩) G I o aU n h j m
def gC{b:bM}{t:Tg b}{r:ah Nat}{k:eH->ah bh}{s:St}(a:List α)(u:Nat->db)(G:Nat->List α->bh)(g:a.length<9223372036854775807)(e:fu s.sl (u 0)=s.sl)(c:G 0 a=R)(h:(exec PP cf (ev PP cf) r b ⟨s.fn,s.n,fu s.sl (u a.length),s.lb,s.g⟩ (nj PP cf (.mk b t) r)).bind (fL k)=J (G a.length []))(d:∀i x l,(i<a.length)=True->a[i]?=J x->dQ .i64 (jX (du i) 1)=du (i+1)->(lg (ev PP cf) (.mk b t) ⟨s.fn,s.n,fu s.sl (u (i+1)),s.lb,s.g⟩ r).bind (fL k)=J (G (i+1) l)->(exec PP cf (ev PP cf) r b ⟨s.fn,s.n,fu s.sl (u i),s.lb,s.g⟩ (nj PP cf (.mk b t) r)).bind (fL k)=J (G i (x::l))):(lg (ev PP cf) (.mk b t) s r).bind (fL k)=J R:=tb a () (λi _=>u i) (λi l _=>G i l) (λ_ _ _=>True) g e trivial c (λ_ _=>h) λi x l _ f j w _ m=>d i x l f j w (m () trivial)
def sK(x:ah bh)(v:SV):Prop:=∃g,x=J (.val v g)
theorem Oa{w:SV}:sK (J (.val v g)) w=(v=w):=propext ⟨λ⟨_,h⟩=>ai,λh=>by subst h;exact⟨g,rfl⟩⟩
theorem wm{c:bV}{r:dW}{z:Bool}{A B:sP}(h:z=V->sK (kn P c r A) v)(a:z=C->sK (kn P c r B) v):sK (bif z then W P c r A else W P c r B) v:=by
 cases z;.exact a rfl
 .exact h rfl
theorem Hz{c:bV}{n:Nat}{b:Func}{d:bM}{r:List oS}{a:ao}(i:P.funcs[f]?=J b)(h:sK (exec P c (ev P c) Z d ⟨f,n,uB 0 ow a,[],g⟩ (Cm P r)) v)(e:b.body=J d:=by rfl)(k:b.results=⟨r⟩:=by rfl)(t:b.ntmps=n:=by rfl)(p:c.iW f a=Z:=by rfl)(j:(yF (r.map we)&&bz a.length n&&!c.AQ f)=V:=by rfl):sK (ev P c (.call f a ow g)) v:=h.imp λ_ h=>aO i h e k t p j
theorem My{d:Type}{b:bM}{t:Tg b}{r:ah Nat}{k:eH->ah bh}{g:St}{R:SV}(a:List α)(f:d)(S:Nat->d->St)(G:Nat->List α->d->SV)(I:Nat->List α->d->Prop)(w:a.length<9223372036854775807)(e:S 0 f=g)(v:I 0 a f)(u:G 0 a f=R)(m:∀s,I a.length [] s->sK ((exec PP cf (ev PP cf) r b (S a.length s) (nj PP cf (.mk b t) r)).bind (fL k)) (G a.length [] s))(n:∀i x l s,(i<a.length)=True->a[i]?=J x->dQ .i64 (jX (du i) 1)=du (i+1)->I i (x::l) s->(∀c,I (i+1) l c->sK ((lg (ev PP cf) (.mk b t) (S (i+1) c) r).bind (fL k)) (G (i+1) l c))->sK ((exec PP cf (ev PP cf) r b (S i s) (nj PP cf (.mk b t) r)).bind (fL k)) (G i (x::l) s)):sK ((lg (ev PP cf) (.mk b t) g r).bind (fL k)) R:=by
 have y:∀(l:List α)(i:Nat)(s:d),i+l.length=a.length->a.drop i=l->I i l s->sK ((lg (ev PP cf) (.mk b t) (S i s) r).bind (fL k)) (G i l s):=by intro l;induction l with|nil=>intro i s o _ h;obtain rfl:i=a.length:=ab;exact(m s h).imp λ_ h=>im h|cons x l q=>
  intro i s o hd h;have E:i<a.length:=ai;have p:a[i]?=J x:=by grind[Hk]
  refine(n i x l s (il E) p (vn ab) h λc j=>q _ c ai ?_ j).imp λ_ h=>im h;grind[El]
 grind
theorem alT{o:GO}:GH.empty.alloc o=⟨1,[(0,o)]⟩:=rfl
theorem aCZ:GH.empty.next=0:=rfl
theorem alU{n:Nat}{l:List (Nat×GO)}{o:GO}:(GH.mk n l).alloc o=⟨n+1,put l n o⟩:=rfl
theorem au3{n i:Nat}{l:List (Nat×GO)}:(GH.mk n l).get i=look l i:=rfl
theorem aKl{n i:Nat}{l:List (Nat×GO)}{o:GO}:(GH.mk n l).set i o=⟨n,put l i o⟩:=rfl
theorem wD{n j:Nat}(h:l.length=n):(l++m)[n+j]?=m[j]?:=ai
theorem TG{n:Nat}(h:l.length=n):(l++m).take n=l:=aU
section
variable{e:Expr}{p:ae}{q:cD}{m:ao}
theorem eg8:(e.cells++m)[8]?=m[0]?:=wD (j:=0) e.dI
theorem eg9:(e.cells++m)[9]?=m[1]?:=wD (j:=1) e.dI
theorem aqA:(e.cells++m)[10]?=m[2]?:=wD (j:=2) e.dI
theorem aqB:(e.cells++m)[11]?=m[3]?:=wD (j:=3) e.dI
theorem aqC:(e.cells++m)[12]?=m[4]?:=wD (j:=4) e.dI
theorem et8:(e.cells++m).take 8=e.cells:=TG e.dI
theorem aGT:(p.cells++m)[14]?=m[0]?:=wD (j:=0) p.dI
theorem aHu:(p.cells++m).take 14=p.cells:=TG p.dI
end
theorem aJN{b:Bool}:(DV.bool b).aV=V:=rfl
theorem aJO{a b:ao}:(DV.func f a b).aV=V:=rfl
theorem aJQ{n:Nat}:(DV.ay l e n).aV=V:=rfl
theorem aJS:DV.nl.aV=V:=rfl
theorem aJU{b:Nat}:(DV.ptr a b).aV=V:=rfl
theorem aNc{b:Bool}:JW .not (.bool b)=J (.bool (!b)):=rfl
theorem aNb{n:Int}:JW .neg (.int k n)=J (.int k (dQ k (Int.sub 0 n))):=rfl
theorem aLO{a:St}{d:ah Tmp}{v:DV}{s:Nat}:RW P t a d x v ow (.lp s I)=(look a.lb s).bind λb=>(yU P t b I v ow).bind λb=>aG {aQ leave a x with sl:=cP (aQ leave a x).sl,lb:=put a.lb s b} d (.tp []):=(rfl)
theorem aLM{b:LB}{v:DV}{o:aN}:yU P t b I v o=(aW P t).bind λn=>bif aw v.flat.length n&&bz (I+n) b.cells.length then J ⟨lj b.cells I v.flat,mM I v o++dg b.own I n⟩else Z:=(rfl)
theorem aGn{v:DV}:mM I v .no=[]:=by simp[mM]
theorem aGk{v:DV}:mM I v .any=[]:=by simp[mM]
theorem aGl{n:Nat}:mM I (.ay l e n) (.ex e)=[(I,.ex e)]:=rfl
theorem apn{n:Nat}:dg [] I n=[]:=rfl
theorem aGV{l:aE}:MV lb (a::l)=(match look lb a with|some b=>[(a,b)]|none=>[])++MV lb (l.filter λb=>!(b==a)):=by grind[MV]
theorem aCu{s:St}{d:Nat}{u:iM}{l:List (DV×aN)}:vW s x d u (.tp l)=aG (aQ leave s x) (J d) (.tp l):=(rfl)
theorem alW{x:DV×aN}{l:List (DV×aN)}:((x::l).all λx=>x.1.pure)=(x.1.pure&&l.all λx=>x.1.pure):=rfl
theorem alY{x:DV×aN}{l:List (DV×aN)}:((x::l).all λx=>x.1.plain)=(x.1.plain&&l.all λx=>x.1.plain):=rfl
theorem alX:(([]:List (DV×aN)).all λx=>x.1.pure)=V:=rfl
theorem alZ:(([]:List (DV×aN)).all λx=>x.1.plain)=V:=rfl
def ij(P:aH)(t:an):ah (List (Nat×Nat)):=match P.underlying t with|some (.struct i)=>cB (λ(f:Field)=>(aW P f.type).map λn=>(f.offset,n)) i.toList|_=>Z
theorem anp{s:St}{d:ah Tmp}{p:List (Nat×DV)}{z:DV}(h:(ij P t).isSome=V):S8 P t s d p z=(ij P t).bind λa=>(yd (λi=>pj a i) p z.flat).bind λl=>aG s d (.dv (.agg l) .no):=by grind[ij,S8]
theorem atA{p:Nat->ah (Nat×Nat)}:yd p [] l=J l:=rfl
theorem atz{l:Nat->ah (Nat×Nat)}{p:Nat×DV}{t:List (Nat×DV)}{c:ao}:yd l (p::t) c=(l p.1).bind λo=>bif aw p.2.flat.length o.2&&bz (o.1+o.2) c.length then yd l t (lj c o.1 p.2.flat)else Z:=rfl
theorem aDR{a:α}{l:List α}:pj (a::l) 0=J a:=rfl
theorem aDS{a:α}{l:List α}{i:Nat}:pj (a::l) (i+1)=pj l i:=rfl
theorem C4{f:bY}{a:ao}(h:cf.iW f a=J (J v))(b:(aw (cf.fk f) 2&&!vZ ow)=C):ev PP cf (.call f a ow g)=J (.val v g):=by apply K4;show(match cf.iW f _ with|some r=>bif aw _ 2&&!vZ ow then Z else r.map _|none=>_)=_;grind
theorem aqW{b:Nat}:aj (.ofNat a) (.ofNat b)=decide (a=b):=S0
theorem fX{a b:Int}:aA a b=decide (a<b):=by cases a<;>cases b<;>simp only[aA,S4,Kb,Int.negSucc_eq]<;>first|exact decide_eq_decide.2 ab|exact(Bq ab).symm|grind
theorem jl{a b:Int}:aj a b=decide (a=b):=by cases a<;>cases b<;>simp only[aj,S0,Kb,Int.negSucc_eq]<;>first|exact decide_eq_decide.2 ab|rfl
theorem aqY{n:Nat}:aj (.ofNat (n+1)) 0=C:=rfl
section
variable{l:ao}
theorem aGB{l:List lu}:cj (l.map lu.d)=V:=ig (λ_=>rfl) _
theorem aGG{l:List b9}:cj (l.map b9.d)=V:=ig b9.pure _
theorem aGJ{l:List eE}:cj (l.map eE.d)=V:=ig (λ_=>rfl) _
theorem y0{l:cG}:cj (l.map iD)=V:=ig (λ_=>rfl) _
theorem aGD{l:List kF}:cj (l.map kF.d)=V:=ig (λ_=>rfl) _
theorem aGC{l:List Guard}:cj (l.map Guard.d)=V:=ig Guard.pure _
theorem aGz{l:gk}:cj (l.map Edge.d)=V:=ig a42 _
theorem aGI{l:List Stat}:cj (l.map Stat.d)=V:=ig Stat.pure _
end
theorem aGR{c:ao}:jt P t c I=(bN P t).bind λa=>bif a then(aW P t).bind λn=>bif bz (I+n) c.length then J (.agg ((c.drop I).take n))else Z else c[I]?:=by grind[jt]
theorem aB0{n:Nat}:decide (n<n)=C:=aU
attribute[go_sem]aHF aHG aCu alW alY alX alZ anp atA atz aDR aDS aGB aGG aGJ y0 aGD aGC aGz aGI Oa alT aCZ alU au3 aKl aqW aGV Ek List.filter_nil Nat.reduceBNe aLO aLM aGn aGk aGl apn lj jO aqY aNc aNb qi pV aJN aJO aJQ aJS aJU eg8 eg9 aqA aqB aqC et8 aGT aHu uu gR iS zS vI vB iD bW uI DA Dc Guard.cells Guard.d Guard.dI kF.d Edge.d Edge.cells Edge.dI Stat.d AP zL dN.cells lu.d C7 b9.d cm eE.d kE cD.dI Nu aGR aB0 fO jZ gM aNk aNj
theorem aLx:ij PP 208=J [(0,1)]:=aL
theorem aLz:ij PP 267=J [(0,1),(1,1),(2,1)]:=aL
theorem aLA:ij PP 313=J [(0,1),(1,1),(2,1)]:=aL
theorem aLB:ij PP 322=J [(0,1),(1,1)]:=aL
theorem aLF:ij PP 329=J [(0,1),(1,14)]:=aL
theorem aLC:ij PP 55=J [(0,1),(1,1),(2,1)]:=aL
theorem aLD:ij PP 59=J [(0,1),(1,1),(2,1),(3,1),(4,1),(5,3)]:=aL
theorem aLE:ij PP 62=J [(0,1),(1,1),(2,1),(3,1),(4,1),(5,1),(6,8)]:=aL
theorem aLG:ij PP 120=J [(0,1),(1,1),(2,1),(3,1)]:=aL
theorem aLH:ij PP 225=J [(0,1)]:=aL
theorem aLI:ij PP 281=J [(0,1),(1,1),(2,1),(3,1),(4,8),(12,1),(13,1),(14,1),(15,1),(16,1)]:=aL
theorem aLJ:ij PP 344=J [(0,1),(1,1),(2,1),(3,8)]:=aL
theorem aLy:ij PP 385=J [(0,1),(1,1)]:=aL
attribute[go_sem]aLx aLz aLA aLB aLF aLC aLD aLE aLG aLH aLI aLJ aLy
attribute[local congr]bB bC
mutual
def Expr.nn : Expr -> Nat
  | .mk _ _ args _ _ _ _ _ _ => Expr.bP args + 1
def Expr.bP : List Expr -> Nat
  | [] => 0
  | e :: l => e.nn + Expr.bP l
end
mutual
def Expr.mU (l : Nat) : Expr -> Nat
  | .mk _ _ args _ _ _ _ _ _ => Expr.qo l args 1
def Expr.qo (i : Nat) : List Expr -> Nat -> Nat
  | [], n => n
  | e :: l, n => if i < n then n else Expr.qo i l (n + e.mU i)
end
mutual
theorem Expr.KI (l : Nat) : ∀ e : Expr, e.mU l <= e.nn
  | .mk _ _ args _ _ _ _ _ _ => by
    have := Expr.KJ l args 1
    simp only [Expr.mU, Expr.nn]; omega
theorem Expr.KJ (i : Nat) : ∀ (l : List Expr) (n : Nat), Expr.qo i l n <= n + Expr.bP l
  | [], n => by simp [Expr.qo, Expr.bP]
  | e :: l, n => by
    have h := Expr.KI i e
    have a := Expr.KJ i l (n + e.mU i)
    simp only [Expr.qo, Expr.bP]
    split <;> omega
end
theorem Expr.mK:∀l:List Expr,l.length<=Expr.bP l|[]=>bT _|.mk _ _ _ _ _ _ _ _ _::l=>by have:=Expr.mK l;simp only[Expr.bP,Expr.nn,dD];omega
def a50:=@Expr.mK
theorem Expr.sC:∀(l:List Expr)p,p∈l->p.nn<=Expr.bP l
 |[],p,h=>by simp at h|e::l,p,h=>by
  simp only[Expr.bP];rcases CI.1 h with rfl|h;.omega
  .have:=Expr.sC l p h;omega
theorem T6(m:Nat):∀e:Expr,e.nn<100000000->CC 254 [.agg e.cells,.int .i64 (.ofNat m)] (vI (.ofNat (e.mU m)))
 |.mk o f args v Q g k num str,n=>by
  simp only[Expr.nn]at n;refine aO func254 ?_;simp only[go_sem,f254,Expr.cells,Expr.mU];refine tb args (1:Nat) (λi s=>[(6,iS i),(5,iS s)]) (λ_ l s=>vI (.ofNat (Expr.qo m l s))) (λ_ l s=>s+Expr.bP l<100000000) (by have:=a50 args;omega) rfl ab rfl (λs _=>?_) (λi x l s a b w I c=>?_);.simp only[go_sem,Expr.qo]
  . simp only[Expr.bP]at I;have hr:=T6 m x ab;have d:=Expr.KI m x;by_cases h:m<s;.simp only[go_sem,a,Expr.qo,h]
    .simp only[go_sem,a,b,w,hr,Expr.qo,h,Ou,AS (show s+x.mU m<9223372036854775808 by omega)];exact c _ ab termination_by e=>pM e decreasing_by simp_wf;have:=pI (dw b);omega
mutual
def ae.nn : ae -> Nat
  | .mk _ _ args _ _ _ _ _ => ae.bP args + 1
def ae.bP : bt -> Nat
  | [] => 0
  | e :: l => e.nn + ae.bP l
end
mutual
def ae.mU (l : Nat) : ae -> Nat
  | .mk _ _ args _ _ _ _ _ => ae.qo l args 1
def ae.qo (i : Nat) : bt -> Nat -> Nat
  | [], n => n
  | e :: l, n => if i < n then n else ae.qo i l (n + e.mU i)
end
mutual
theorem ae.KI (l : Nat) : ∀ e : ae, e.mU l <= e.nn
  | .mk _ _ args _ _ _ _ _ => by
    have := ae.KJ l args 1
    simp only [ae.mU, ae.nn]; omega
theorem ae.KJ (i : Nat) : ∀ (l : bt) (n : Nat), ae.qo i l n <= n + ae.bP l
  | [], n => by simp [ae.qo, ae.bP]
  | e :: l, n => by
    have h := ae.KI i e
    have a := ae.KJ i l (n + e.mU i)
    simp only [ae.qo, ae.bP]
    split <;> omega
end
theorem ae.mK:∀l:bt,l.length<=ae.bP l|[]=>bT _|.mk _ _ _ _ _ _ _ _::l=>by have:=ae.mK l;simp only[ae.bP,ae.nn,dD];omega
def a38:=@ae.mK
theorem ae.sC:∀(l:bt)p,p∈l->p.nn<=ae.bP l
 |[],p,h=>by simp at h|e::l,p,h=>by
  simp only[ae.bP];rcases CI.1 h with rfl|h;.omega
  .have:=ae.sC l p h;omega
theorem T4(m:Nat):∀e:ae,e.nn<100000000->CC 252 [.agg e.cells,.int .i64 (.ofNat m)] (vI (.ofNat (e.mU m)))
 |.mk j g args t v c p o,n=>by
  simp only[ae.nn]at n;refine aO func252 ?_;simp only[go_sem,f252,ae.cells,ae.mU];refine tb args (1:Nat) (λi s=>[(6,iS i),(5,iS s)]) (λ_ l s=>vI (.ofNat (ae.qo m l s))) (λ_ l s=>s+ae.bP l<100000000) (by have:=a38 args;omega) rfl ab rfl (λs _=>?_) (λi x l s a b w I d=>?_);.simp only[go_sem,ae.qo]
  . simp only[ae.bP]at I;have hr:=T4 m x ab;have f:=ae.KI m x;by_cases h:m<s;.simp only[go_sem,a,ae.qo,h]
    .simp only[go_sem,a,b,w,hr,ae.qo,h,Ou,AS (show s+x.mU m<9223372036854775808 by omega)];exact d _ ab termination_by e=>pM e decreasing_by simp_wf;have:=pI (dw b);omega
mutual
def Expr.dep : Expr -> Nat
  | .mk _ _ args _ _ _ _ _ _ => Expr.nH args 0 + 1
def Expr.nH : List Expr -> Nat -> Nat
  | [], d => d
  | e :: l, d => Expr.nH l (max d e.dep)
end
mutual
theorem Expr.EB : ∀ e : Expr, e.dep <= e.nn
  | .mk _ _ args _ _ _ _ _ _ => by
    have := Expr.Br args 0
    simp only [Expr.dep, Expr.nn]; omega
theorem Expr.Br : ∀ (l : List Expr) (d : Nat), Expr.nH l d <= d + Expr.bP l
  | [], d => by simp [Expr.nH, Expr.bP]
  | e :: l, d => by
    have h := Expr.EB e
    have a := Expr.Br l (max d e.dep)
    simp only [Expr.nH, Expr.bP]; omega
end
theorem Lq:∀e:Expr,e.nn<100000000->CC 312 [.agg e.cells] (vI (.ofNat e.dep))
 |.mk o f args v Q g k num str,n=>by
  simp only[Expr.nn]at n;refine aO func312 ?_;have hd:=Expr.Br args 0;simp only[go_sem,f312,Expr.cells,Expr.dep];refine tb args (0:Nat) (λi s=>[(4,iS i),(3,iS s)]) (λ_ l s=>vI (.ofNat (Expr.nH l s+1))) (λ_ l s=>s+Expr.bP l<100000000) (by have:=a50 args;omega) rfl ab rfl (λs h=>?_) (λi x l s b a w h c=>?_);.simp only[Expr.bP]at h;simp only[go_sem,Expr.nH,vn (show s+1<9223372036854775808 by omega)]
  .simp only[Expr.bP]at h;have hr:=Lq x ab;have d:=Expr.EB x;simp only[go_sem,b,a,w,hr,Expr.nH];exact c _ ab termination_by e=>pM e decreasing_by simp_wf;have:=pI (dw a);omega
mutual
def ae.dep : ae -> Nat
  | .mk _ _ args _ _ _ _ _ => ae.nH args 0 + 1
def ae.nH : bt -> Nat -> Nat
  | [], d => d
  | e :: l, d => ae.nH l (max d e.dep)
end
mutual
theorem ae.EB : ∀ e : ae, e.dep <= e.nn
  | .mk _ _ args _ _ _ _ _ => by
    have := ae.Br args 0
    simp only [ae.dep, ae.nn]; omega
theorem ae.Br : ∀ (l : bt) (d : Nat), ae.nH l d <= d + ae.bP l
  | [], d => by simp [ae.nH, ae.bP]
  | e :: l, d => by
    have h := ae.EB e
    have a := ae.Br l (max d e.dep)
    simp only [ae.nH, ae.bP]; omega
end
theorem K0:∀e:ae,e.nn<100000000->CC 311 [.agg e.cells] (vI (.ofNat e.dep))
 |.mk j g args t v c p o,n=>by
  simp only[ae.nn]at n;refine aO func311 ?_;have hd:=ae.Br args 0;simp only[go_sem,f311,ae.cells,ae.dep];refine tb args (0:Nat) (λi s=>[(4,iS i),(3,iS s)]) (λ_ l s=>vI (.ofNat (ae.nH l s+1))) (λ_ l s=>s+ae.bP l<100000000) (by have:=a38 args;omega) rfl ab rfl (λs h=>?_) (λi x l s b a w h d=>?_);.simp only[ae.bP]at h;simp only[go_sem,ae.nH,vn (show s+1<9223372036854775808 by omega)]
  .simp only[ae.bP]at h;have hr:=K0 x ab;have f:=ae.EB x;simp only[go_sem,b,a,w,hr,ae.nH];exact d _ ab termination_by e=>pM e decreasing_by simp_wf;have:=pI (dw a);omega
mutual
def nodes : ae -> bt
  | .mk o n args t v s p c => .mk o n args t v s p c :: eU args
def eU : bt -> bt
  | [] => []
  | q :: l => nodes q ++ eU l
end
theorem FW:∀l:bt,(eU l).length=ae.bP l|[]=>rfl|.mk o n args t v s p c::l=>by simp only[eU,nodes,ae.bP,ae.nn,gR,dD,FW args,FW l]
theorem T5:∀p:ae,p.nn<1200000->CC 253 [.agg p.cells] (.val (.dv (.ay (ae.bn (nodes p)) 62 14) (.ex 62)) .empty)
 |.mk q m args t r c a ⟨e,n,T,v,o,M,d,Q,b⟩,j=>by
  simp only[ae.nn]at j;refine aO func253 ?_;simp only[go_sem,f253,ae.cells,Expr.cells];refine tb args [ae.mk q m args t r c a ⟨e,n,T,v,o,M,d,Q,b⟩] (λi s=>[(4,iS i),(3,.dv (.ay (ae.bn s) 62 14) (.ex 62))]) (λ_ l s=>.val (.dv (.ay (ae.bn (s++eU l)) 62 14) (.ex 62)) .empty) (λ_ l s=>s.length+(eU l).length<1200000) (by have:=a38 args;omega) rfl (by have:=FW args;simp only[dD,gL];omega) rfl (λs h=>?_) (λi x l s g f w h k=>?_);.simp only[go_sem,eU,jY]
  . simp only[eU,gR]at h;have u:(nodes x).length=x.nn:=by have:=FW [x];simpa[eU,ae.bP]using this
    have hr:=T5 x ab;have O:fE 62 14 152 (.ay (ae.bn s) 62 14) (.ex 62) (ae.bn (nodes x))=J (.ay (ae.bn (s++nodes x)) 62 14,.ex 62):=by rw[qO ft (by simp only[ae.qS];show _<=bm;unfold bm;omega) (by simp only[ae.qS];unfold bm;omega),ae.Bt]
    simp only[go_sem,g,f,w,hr,O,eU];rw[<-uu];exact k _ (by simp only[gR];omega)termination_by p=>pM p decreasing_by simp_wf;have:=pI (dw f);omega
def Expr.Ia(e:Expr):Bool:=bif !(aA 200 (.ofNat (e.mU 200)))then !(aA 100 (.ofNat e.dep))else C
theorem KW(e:Expr)(n:e.nn<100000000):CC 251 [.agg e.cells] (vB e.Ia):=by have a:ev PP cf (.call 254 [.agg _,.int _ 200] _ _)=_:=T6 _ e n;have b:=Lq e n;refine aO func251 ?_;simp only[go_sem,f251,a,Expr.Ia];apply sp<;>intro h<;>simp only[h,go_sem,b]
def within(i n:Int):Bool:=bif !(aA i 0)then aA i n else C
theorem EH(i n:Int):CC 397 [.int .i64 i,.int .i64 n] (.val (.dv (.bool (within i n)) .no) .empty):=by refine aO func397 ?_;simp only[go_sem,f397,within];apply sp<;>intro h<;>simp only[h,go_sem]
def digit(b:Int):Bool:=bif !(aA b 48)then !(aA 57 b)else C
theorem Kn(b:Int):CC 149 [.int .u8 b] (.val (.dv (.bool (digit b)) .no) .empty):=by refine aO func149 ?_;simp only[go_sem,f149,digit];apply sp<;>intro h<;>simp only[h,go_sem]
def letter(b:Int):Bool:=bif aj b 95 then V else bif(bif aA b 97 then C else !(aA 122 b))then V else bif aA b 65 then C else !(aA 90 b)
theorem ard(b:Int):CC 153 [.int .u8 b] (.val (.dv (.bool (letter b)) .no) .empty):=by refine aO func153 ?_;simp only[go_sem,f153,letter];repeat'(with_reducible apply sp<;>intro h<;>simp only[*,go_sem])
theorem LH(b:Int):CC 202 [.int .u8 b] (vB (digit b)):=by refine aO func202 ?_;simp only[go_sem,f202,digit];repeat'(with_reducible apply sp<;>intro h<;>simp only[*,go_sem])
theorem arH(b:Int):CC 203 [.int .u8 b] (vB (letter b)):=by refine aO func203 ?_;simp only[go_sem,f203,letter];repeat'(with_reducible apply sp<;>intro h<;>simp only[*,go_sem])
def word(b:Nat):Bool:=bif letter (.ofNat b)then V else digit (.ofNat b)
def B8:aE->Bool|[]=>C|c::t=>bif aA 24 (.ofNat (t.length+1))then C else bif digit (.ofNat c)then C else(c::t).all word
theorem LZ(s:aE)(e:s.length<1200000):CC 146 [.str s] (vB (B8 s)):=by refine aO func146 ?_;cases s with|nil=>rfl|cons c t=>
 simp only[go_sem,f146,B8];repeat'(with_reducible apply sp<;>intro h<;>simp only[*,LH,go_sem])
 refine gC (c::t) (λi=>[(19,iS i)]) (λ_ l=>vB (l.all word)) ab rfl rfl ?_ (λi x l a b w d=>?_);.simp only[go_sem,nY]
 .rw[dD]at a;simp only[go_sem,a,b,pH,arH,word]at d|-;repeat'(with_reducible apply sp<;>intro h<;>simp only[*,LH,go_sem])
theorem arc(b:Int):CC 152 [.int .u8 b] (vB (bif letter b then C else !digit b)):=by refine aO func152 ?_;simp only[go_sem,f152,ard];repeat'(with_reducible apply sp<;>intro h<;>simp only[*,Kn,go_sem])
theorem aL6:ij PP 86=J [(0,1),(1,1),(2,1),(3,1),(4,1)]/\ij PP 196=J [(0,1),(1,3)]/\ij PP 199=J [(0,1),(1,1)]/\ij PP 186=J [(0,1),(1,1),(2,1)]/\ij PP 112=J [(0,1),(1,1),(2,1),(3,1)]/\ij PP 114=J [(0,1),(1,3),(4,4)]/\ij PP 76=J [(0,1),(1,1)]/\ij PP 194=J [(0,1),(1,1),(2,1)]/\ij PP 175=J [(0,1)]/\ij PP 25=J [(0,1),(1,1)]/\ij PP 73=J [(0,1),(1,1),(2,1),(3,14),(17,1)]/\ij PP 124=J [(0,1),(1,18),(19,4)]/\ij PP 393=J [(0,1),(1,1)]/\ij PP 398=J [(0,23),(23,1)]/\ij PP 397=J [(0,23),(23,1)]/\ij PP 412=J [(0,4),(4,1)]/\ij PP 411=J [(0,4),(4,1)]/\ij PP 138=J [(0,1),(1,1),(2,2)]/\ij PP 137=J [(0,1),(1,1),(2,2)]/\ij PP 455=J [(0,23),(23,3),(26,1),(27,1),(28,1),(29,3),(32,1)]:=by and_intros<;>kernel_rfl
theorem alK:bN PP 84=J C/\bN PP 86=J V/\bN PP 109=J C/\bN PP 196=J V/\bN PP 173=J C/\bN PP 199=J V/\bN PP 184=J C/\bN PP 186=J V/\bN PP 110=J C/\bN PP 112=J V/\bN PP 114=J V/\bN PP 74=J C/\bN PP 76=J V/\bN PP 27=J C/\bN PP 194=J V/\bN PP 175=J V/\bN PP 170=J C/\bN PP 345=J C/\bN PP 25=J V/\bN PP 23=J C:=by and_intros<;>kernel_rfl
theorem alL:bN PP 48=J C/\bN PP 393=J V/\bN PP 391=J C/\bN PP 398=J V/\bN PP 397=J V/\bN PP 412=J V/\bN PP 411=J V/\bN PP 410=J C/\bN PP 138=J V/\bN PP 137=J V/\bN PP 455=J V/\bN PP 454=J V/\bN PP 453=J C/\bN PP 179=J C/\bN PP 180=J C/\bN PP 181=J C/\bN PP 107=J C/\bN PP 396=J C/\bN PP 426=J C/\bN PP 353=J C:=by and_intros<;>kernel_rfl
theorem alM:bN PP 131=J C/\bN PP 256=J C/\bN PP 182=J C:=by and_intros<;>kernel_rfl
theorem aMm:aW PP 84=J 1/\aW PP 86=J 5/\aW PP 109=J 1/\aW PP 196=J 4/\aW PP 173=J 1/\aW PP 199=J 2/\aW PP 184=J 1/\aW PP 186=J 3/\aW PP 110=J 1/\aW PP 112=J 4/\aW PP 114=J 8/\aW PP 74=J 1/\aW PP 76=J 2/\aW PP 27=J 1/\aW PP 194=J 3/\aW PP 175=J 1/\aW PP 170=J 1/\aW PP 345=J 1/\aW PP 25=J 2/\aW PP 23=J 1:=by and_intros<;>kernel_rfl
theorem aMn:aW PP 48=J 1/\aW PP 22=J 1/\aW PP 393=J 2/\aW PP 391=J 1/\aW PP 398=J 24/\aW PP 397=J 24/\aW PP 412=J 5/\aW PP 411=J 5/\aW PP 410=J 1/\aW PP 138=J 4/\aW PP 137=J 4/\aW PP 455=J 33/\aW PP 454=J 33/\aW PP 453=J 1/\aW PP 179=J 1/\aW PP 180=J 1/\aW PP 181=J 1/\aW PP 107=J 1/\aW PP 396=J 1/\aW PP 426=J 1:=by and_intros<;>kernel_rfl
theorem aMo:aW PP 353=J 1/\aW PP 131=J 1/\aW PP 256=J 1/\aW PP 182=J 1:=by and_intros<;>kernel_rfl
theorem ayt:dT PP 55=J (3,32)/\dT PP 84=J (1,24)/\dT PP 86=J (5,56)/\dT PP 109=J (1,24)/\dT PP 196=J (4,32)/\dT PP 173=J (1,24)/\dT PP 199=J (2,16)/\dT PP 184=J (1,24)/\dT PP 186=J (3,56)/\dT PP 110=J (1,24)/\dT PP 112=J (4,80)/\dT PP 114=J (8,120)/\dT PP 74=J (1,24)/\dT PP 76=J (2,48)/\dT PP 27=J (1,24)/\dT PP 194=J (3,24)/\dT PP 32=J (1,8)/\dT PP 175=J (1,24)/\dT PP 170=J (1,24)/\dT PP 345=J (1,24):=by and_intros<;>kernel_rfl
theorem ayu:dT PP 25=J (2,48)/\dT PP 73=J (18,240)/\dT PP 124=J (23,328)/\dT PP 23=J (1,24)/\dT PP 48=J (1,24)/\dT PP 22=J (1,24)/\dT PP 393=J (2,16)/\dT PP 391=J (1,8)/\dT PP 398=J (24,336)/\dT PP 397=J (24,336)/\dT PP 412=J (5,72)/\dT PP 411=J (5,72)/\dT PP 410=J (1,8)/\dT PP 138=J (4,96)/\dT PP 137=J (4,96)/\dT PP 455=J (33,464)/\dT PP 454=J (33,464)/\dT PP 453=J (1,8)/\dT PP 179=J (1,24)/\dT PP 180=J (1,4):=by and_intros<;>kernel_rfl
theorem ayv:dT PP 181=J (1,24)/\dT PP 5=J (1,1)/\dT PP 107=J (1,8)/\dT PP 396=J (1,8)/\dT PP 426=J (1,8)/\dT PP 353=J (1,8)/\dT PP 131=J (1,8)/\dT PP 256=J (1,24)/\dT PP 182=J (1,8):=by and_intros<;>kernel_rfl
theorem aOb:cE PP 84=J (.nl)/\cE PP 86=J (.agg [.int .i64 0,.int .i64 0,.int .i64 0,.int .i64 0,.nl])/\cE PP 109=J (.nl)/\cE PP 196=J (.agg [.int .i64 0,.int .i64 0,.int .i64 0,.int .i64 0])/\cE PP 173=J (.nl)/\cE PP 199=J (.agg [.int .i64 0,.int .i64 0])/\cE PP 184=J (.nl)/\cE PP 186=J (.agg [.int .i64 0,.nl,.nl])/\cE PP 110=J (.nl)/\cE PP 112=J (.agg [.int .i64 0,.nl,.nl,.nl])/\cE PP 114=J (.agg [.int .i64 0,.int .i64 0,.int .i64 0,.str [],.int .i64 0,.nl,.nl,.nl])/\cE PP 74=J (.nl)/\cE PP 76=J (.agg [.nl,.nl])/\cE PP 27=J (.nl)/\cE PP 194=J (.agg [.int .i64 0,.int .i64 0,.int .i64 0])/\cE PP 175=J (.agg [.nl])/\cE PP 170=J (.nl)/\cE PP 345=J (.nl)/\cE PP 25=J (.agg [.nl,.nl])/\cE PP 73=J (.agg [.str [],.nl,.nl,.int .i64 0,.nl,.int .i64 0,.int .i64 0,.int .i64 0,.int .i64 0,.int .i64 0,.nl,.int .i64 0,.int .i64 0,.int .i64 0,.int .i64 0,.int .i64 0,.str [],.nl]):=by and_intros<;>kernel_rfl
theorem aOc:cE PP 124=J (.agg [.nl,.str [],.nl,.nl,.int .i64 0,.nl,.int .i64 0,.int .i64 0,.int .i64 0,.int .i64 0,.int .i64 0,.nl,.int .i64 0,.int .i64 0,.int .i64 0,.int .i64 0,.int .i64 0,.str [],.nl,.int .i64 0,.int .i64 0,.nl,.nl])/\cE PP 23=J (.nl)/\cE PP 48=J (.nl)/\cE PP 22=J (.nl)/\cE PP 393=J (.agg [.int .i64 0,.int .i64 0])/\cE PP 391=J (.fY)/\cE PP 398=J (.agg [.nl,.str [],.nl,.nl,.int .i64 0,.nl,.int .i64 0,.int .i64 0,.int .i64 0,.int .i64 0,.int .i64 0,.nl,.int .i64 0,.int .i64 0,.int .i64 0,.int .i64 0,.int .i64 0,.str [],.nl,.int .i64 0,.int .i64 0,.nl,.nl,.eS])/\cE PP 397=J (.agg [.nl,.str [],.nl,.nl,.int .i64 0,.nl,.int .i64 0,.int .i64 0,.int .i64 0,.int .i64 0,.int .i64 0,.nl,.int .i64 0,.int .i64 0,.int .i64 0,.int .i64 0,.int .i64 0,.str [],.nl,.int .i64 0,.int .i64 0,.nl,.nl,.eS])/\cE PP 412=J (.agg [.int .i64 0,.int .i64 0,.nl,.nl,.fY])/\cE PP 411=J (.agg [.int .i64 0,.int .i64 0,.nl,.nl,.fY])/\cE PP 410=J (.fY)/\cE PP 138=J (.agg [.nl,.nl,.nl,.nl])/\cE PP 137=J (.agg [.nl,.nl,.nl,.nl])/\cE PP 455=J (.agg [.nl,.str [],.nl,.nl,.int .i64 0,.nl,.int .i64 0,.int .i64 0,.int .i64 0,.int .i64 0,.int .i64 0,.nl,.int .i64 0,.int .i64 0,.int .i64 0,.int .i64 0,.int .i64 0,.str [],.nl,.int .i64 0,.int .i64 0,.nl,.nl,.int .i64 0,.nl,.nl,.int .i64 0,.nl,.fY,.int .i64 0,.int .i64 0,.str [],.bool C])/\cE PP 454=J (.agg [.nl,.str [],.nl,.nl,.int .i64 0,.nl,.int .i64 0,.int .i64 0,.int .i64 0,.int .i64 0,.int .i64 0,.nl,.int .i64 0,.int .i64 0,.int .i64 0,.int .i64 0,.int .i64 0,.str [],.nl,.int .i64 0,.int .i64 0,.nl,.nl,.int .i64 0,.nl,.nl,.int .i64 0,.nl,.fY,.int .i64 0,.int .i64 0,.str [],.bool C])/\cE PP 453=J (.fY)/\cE PP 179=J (.nl)/\cE PP 180=J (.int .u32 0)/\cE PP 181=J (.nl)/\cE PP 5=J (.int .u8 0):=by and_intros<;>kernel_rfl
theorem aOd:cE PP 107=J (.nilFunc)/\cE PP 396=J (.eS)/\cE PP 426=J (.eS)/\cE PP 353=J (.eS)/\cE PP 131=J (.eS)/\cE PP 256=J (.nl)/\cE PP 182=J (.nilFunc):=by and_intros<;>kernel_rfl
theorem auu:bG PP 86 0=J (3,0)/\bG PP 86 1=J (3,1)/\bG PP 86 2=J (3,2)/\bG PP 86 3=J (3,3)/\bG PP 86 4=J (84,4)/\bG PP 196 0=J (3,0)/\bG PP 196 1=J (194,1)/\bG PP 199 0=J (3,0)/\bG PP 199 1=J (3,1)/\bG PP 186 0=J (3,0)/\bG PP 186 1=J (173,1)/\bG PP 186 2=J (184,2)/\bG PP 112 0=J (3,0)/\bG PP 112 1=J (109,1)/\bG PP 112 2=J (110,2)/\bG PP 112 3=J (109,3)/\bG PP 114 0=J (3,0)/\bG PP 114 1=J (55,1)/\bG PP 114 2=J (112,4)/\bG PP 76 0=J (41,0):=by and_intros<;>kernel_rfl
theorem auv:bG PP 76 1=J (74,1)/\bG PP 194 0=J (3,0)/\bG PP 194 1=J (3,1)/\bG PP 194 2=J (3,2)/\bG PP 175 0=J (173,0)/\bG PP 25 0=J (22,0)/\bG PP 25 1=J (23,1)/\bG PP 393 0=J (3,0)/\bG PP 393 1=J (3,1)/\bG PP 398 0=J (124,0)/\bG PP 398 1=J (396,23)/\bG PP 397 0=J (124,0)/\bG PP 397 1=J (396,23)/\bG PP 412 0=J (120,0)/\bG PP 412 1=J (410,4)/\bG PP 411 0=J (120,0)/\bG PP 411 1=J (410,4)/\bG PP 138 0=J (22,0)/\bG PP 138 1=J (48,1)/\bG PP 138 2=J (76,2):=by and_intros<;>kernel_rfl
theorem auw:bG PP 137 0=J (22,0)/\bG PP 137 1=J (48,1)/\bG PP 137 2=J (76,2)/\bG PP 455 0=J (124,0)/\bG PP 455 1=J (186,23)/\bG PP 455 2=J (3,26)/\bG PP 455 3=J (109,27)/\bG PP 455 4=J (453,28)/\bG PP 455 5=J (55,29)/\bG PP 455 6=J (4,32)/\bG PP 454 0=J (124,0)/\bG PP 454 1=J (186,23)/\bG PP 454 2=J (3,26)/\bG PP 454 3=J (109,27)/\bG PP 454 4=J (453,28)/\bG PP 454 5=J (55,29)/\bG PP 454 6=J (4,32):=by and_intros<;>kernel_rfl
attribute[go_sem]aL6 alK alL alM aMm aMn aMo ayt ayu ayv aOb aOc aOd auu auv auw Proofs.Tryz.underlying84 Proofs.Tryz.underlying86 Proofs.Tryz.underlying109 Proofs.Tryz.underlying196 Proofs.Tryz.underlying173 Proofs.Tryz.underlying199 Proofs.Tryz.underlying184 Proofs.Tryz.underlying186 Proofs.Tryz.underlying110 Proofs.Tryz.underlying112 Proofs.Tryz.underlying114 Proofs.Tryz.underlying74 Proofs.Tryz.underlying76 Proofs.Tryz.underlying27 Proofs.Tryz.underlying194 Proofs.Tryz.underlying175 Proofs.Tryz.underlying170 Proofs.Tryz.underlying345 Proofs.Tryz.underlying25 Proofs.Tryz.underlying23 Proofs.Tryz.underlying48 Proofs.Tryz.underlying393 Proofs.Tryz.underlying391 Proofs.Tryz.underlying398 Proofs.Tryz.underlying397 Proofs.Tryz.underlying412 Proofs.Tryz.underlying411 Proofs.Tryz.underlying410 Proofs.Tryz.underlying138 Proofs.Tryz.underlying137 Proofs.Tryz.underlying455 Proofs.Tryz.underlying454 Proofs.Tryz.underlying453 Proofs.Tryz.underlying181 Proofs.Tryz.underlying107 Proofs.Tryz.underlying396 Proofs.Tryz.underlying426 Proofs.Tryz.underlying353 Proofs.Tryz.underlying131 Proofs.Tryz.underlying256 Proofs.Tryz.underlying182
theorem ag9:bN PP 104=J V/\bN PP 44=J V/\bN PP 46=J V/\bN PP 29=J V/\bN PP 42=J C/\bN PP 26=J C:=by and_intros<;>kernel_rfl
theorem Vr:ij PP 104=J [(0,1),(1,1)]/\ij PP 44=J [(0,1),(1,1),(2,1),(3,1)]/\ij PP 46=J [(0,1),(1,1),(2,4)]/\ij PP 29=J [(0,1),(1,1),(2,1)]:=by and_intros<;>kernel_rfl
theorem Vn:aW PP 104=J 2/\aW PP 44=J 4/\aW PP 46=J 6/\aW PP 29=J 3/\aW PP 42=J 1/\aW PP 26=J 1:=by and_intros<;>kernel_rfl
theorem ia9:dT PP 104=J (2,16)/\dT PP 44=J (4,64)/\dT PP 46=J (6,80)/\dT PP 29=J (3,56):=by and_intros<;>kernel_rfl
theorem UY:cE PP 104=J (.agg [.int .i64 0,.int .i64 0])/\cE PP 44=J (.agg [.int .i64 0,.nl,.nl,.int .i64 0])/\cE PP 46=J (.agg [.int .i64 0,.int .i64 0,.int .i64 0,.nl,.nl,.int .i64 0])/\cE PP 29=J (.agg [.int .i64 0,.nl,.nl])/\cE PP 42=J .nl/\cE PP 26=J .nl:=by and_intros<;>kernel_rfl
theorem fp9:bG PP 104 0=J (3,0)/\bG PP 104 1=J (3,1)/\bG PP 44 0=J (3,0)/\bG PP 44 1=J (41,1)/\bG PP 44 2=J (42,2)/\bG PP 44 3=J (3,3)/\bG PP 46 0=J (3,0)/\bG PP 46 1=J (3,1)/\bG PP 46 2=J (44,2)/\bG PP 29 0=J (3,0)/\bG PP 29 1=J (26,1)/\bG PP 29 2=J (27,2):=by and_intros<;>kernel_rfl
attribute[go_sem]ag9 Vr Vn ia9 UY fp9 Proofs.Tryz.underlying104 Proofs.Tryz.underlying44 Proofs.Tryz.underlying46 Proofs.Tryz.underlying29 Proofs.Tryz.underlying42 Proofs.Tryz.underlying26
end Go.VM
namespace Go.VM
open Go Go.AM Proofs.Tryz
variable{t:Nat}
attribute[local congr]bB bC
def Pi(f:Nat)(i c:ao)(g:GH)(a:ao)(b:Bool):Prop:=cf.fk f=0/\(cf.iz f||cf.oo f)=C/\ev PP cf (.call f (i++a++c) .no g)=J (.val (.dv (.bool b) .no) g)\/cf.fk f=3/\cf.iz f=V/\cj (i++a++c)=V/\ev PP cf (.call f (i++a++c) .no .empty)=J (vB b)
def iU{a:Type}(q:a->Bool):List a->Nat->Int|[],_=>-1|x::l,i=>bif q x then .ofNat i else iU q l (i+1)
theorem Al{a:Type}{q:a->Bool}:∀(l:List a)(i:Nat),aA (iU q l i) 0=!(l.any q)|[],_=>rfl|x::l,i=>by simp only[iU,zo];cases q x with|true=>rfl|false=>rw[ch,xB];exact Al l (i+1)
section
variable{α:Type}{d:α->DV}{q:α->Bool}(f:Nat)(fi ca:ao)(g:GH)(nl:Bool)(xs:List α)(hl:xs.length<1000000000)(hq:∀x,x∈xs->Pi f fi ca g [d x] (q x))
include hl hq
theorem Pc{n t m:Nat}(r:(n,t,m)=(404,344,11)\/(n,t,m)=(449,385,2)\/(n,t,m)=(271,281,17)\/(n,t,m)=(223,62,14)\/(n,t,m)=(35,46,6)\/(n,t,m)=(64,114,8)\/(n,t,m)=(183,86,5))(s:∀x:α,(d x).aV=C/\(d x).flat.length=m):ev PP cf (.call n [bK nl (xs.map d) t m,.func f fi ca] .no g)=J (.val (.dv (.int .i64 (iU q xs 0)) .no) g):=by
 rcases r with h|h|h|h|h|h|h<;>cases h<;>first|refine aO func404 ?_|refine aO func449 ?_|refine aO func271 ?_|refine aO func223 ?_|refine aO func35 ?_|refine aO func64 ?_|refine aO func183 ?_
 all_goals
 simp only[go_sem,f404,f449,f271,f223,f35,f64,f183];refine gC xs (λi=>[(8,iS i)]) (λi l=>.val (.dv (.int _ (iU q l i)) _) g) ab rfl rfl ?_ (λi x l k e w o=>?_);.simp only[go_sem,iU]
 . obtain⟨F,H⟩:=s x;rcases hq x (dw e)with⟨c,a,b⟩|⟨c,a,j,b⟩;.obtain⟨a,p⟩:=J8.1 a;simp only[go_sem,k,e,F,H,iU]at b o|-;simp only[go_sem,c,a,p,b];apply sp<;>intro h<;>simp only[*,go_sem]
   .simp only[go_sem,k,e,F,H,iU]at b j o|-;simp only[go_sem,c,a,b,j];apply sp<;>intro h<;>simp only[*,go_sem]
theorem ass{n t:Nat}(p:(n,t)=(179,3)\/(n,t)=(205,5))(s:∀x:α,(d x).aV=V/\cj [d x]=V):ev PP cf (.call n [bK nl (xs.map d) t 1,.func f fi ca] .no g)=J (.val (.dv (.int .i64 (iU q xs 0)) .no) g):=by
 rcases p with h|h<;>cases h<;>first|refine aO func179 ?_|refine aO func205 ?_
 all_goals
 simp only[go_sem,f179,f205];refine gC xs (λi=>[(8,iS i)]) (λi l=>.val (.dv (.int _ (iU q l i)) _) g) ab rfl rfl ?_ (λi x l k e w m=>?_);.simp only[go_sem,iU]
 . obtain⟨F,H⟩:=s x;rcases hq x (dw e)with⟨c,a,b⟩|⟨c,a,j,b⟩;.obtain⟨a,o⟩:=J8.1 a;simp only[go_sem,k,e,F,iU]at b m|-;simp only[go_sem,c,a,o,b];apply sp<;>intro h<;>simp only[*,go_sem]
   .simp only[go_sem,k,e,F,iU]at b j m|-;simp only[go_sem,c,a,b,j];apply sp<;>intro h<;>simp only[*,go_sem]
theorem HV{n m:Nat}(a:(n,t,m)=(347,344,11)\/(n,t,m)=(401,385,2)\/(n,t,m)=(220,281,17)\/(n,t,m)=(10,46,6)\/(n,t,m)=(40,114,8)\/(n,t,m)=(116,86,5))(s:∀x:α,(d x).aV=C/\(d x).flat.length=m):ev PP cf (.call n [bK nl (xs.map d) t m,.func f fi ca] .no g)=J (.val (.dv (.bool (xs.any q)) .no) g):=by
 have k:=@Pc _ _ _ f fi ca g nl xs hl hq;rcases a with h|h|h|h|h|h<;>cases h;.have h:=k (.inl rfl) s;refine aO func347 ?_;simp only[go_sem,f347,h,Al,CD]
 .have h:=k (.inr (.inl rfl)) s;refine aO func401 ?_;simp only[go_sem,f401,h,Al,CD]
 .have h:=k (.inr (.inr (.inl rfl))) s;refine aO func220 ?_;simp only[go_sem,f220,h,Al,CD]
 .have h:=k (.inr (.inr (.inr (.inr (.inl rfl))))) s;refine aO func10 ?_;simp only[go_sem,f10,h,Al,CD]
 .have h:=k (.inr (.inr (.inr (.inr (.inr (.inl rfl)))))) s;refine aO func40 ?_;simp only[go_sem,f40,h,Al,CD]
 .have h:=k (.inr (.inr (.inr (.inr (.inr (.inr rfl)))))) s;refine aO func116 ?_;simp only[go_sem,f116,h,Al,CD]
theorem Jj{n:Nat}(a:(n,t)=(109,3)\/(n,t)=(151,5))(s:∀x:α,(d x).aV=V/\cj [d x]=V):ev PP cf (.call n [bK nl (xs.map d) t 1,.func f fi ca] .no g)=J (.val (.dv (.bool (xs.any q)) .no) g):=by
 have k:=@ass _ _ _ f fi ca g nl xs hl hq;rcases a with h|h<;>cases h;.have h:=k (.inl rfl) s;refine aO func109 ?_;simp only[go_sem,f109,h,Al,CD]
 .have h:=k (.inr rfl) s;refine aO func151 ?_;simp only[go_sem,f151,h,Al,CD]
end
end Go.VM
namespace Go.VM
open Go Go.AM Proofs.Tryz
variable{a:Int}{t:an}
attribute[local congr]bB bC
def adp{n:Nat}{x y:DV}:gw PP (n+1) t x y=zR PP (gw PP n) t x y:=rfl
theorem EE{n:Nat}{s:List Field}{x y:ao}(h:PP.underlying t=J (.struct ⟨s⟩))(d:PP.stoodInHeld t=C):gw PP (n+1) t (.agg x) (.agg y)=lE (λc(f:Field)=>bif c then(bif f.name== "_"then J V else(jt PP f.type x f.offset).bind λa=>(jt PP f.type y f.offset).bind λb=>gw PP n f.type a b)else J C) s V:=by simp_all[adp,zR]
theorem zO{n:Nat}{b:Int}:gw PP (n+1) 3 (.int .i64 a) (.int .i64 b)=J (aj a b):=by rfl
theorem O0{n:Nat}{a b:aE}:gw PP (n+1) 9 (.str a) (.str b)=J (decide (a=b)):=by simp[adp,zR,ya]
def DX(a b:Int)(s:aE)(c d:Int)(e:aE):Bool:=bif aj a c then bif aj b d then decide (s=e)else C else C
theorem yb{b c d:Int}{s e:aE}:gw PP 50 55 (.agg [.int .i64 a,.int .i64 b,.str s]) (.agg [.int .i64 c,.int .i64 d,.str e])=J (DX a b s c d e):=by rw[EE underlying55 aU];simp only[go_sem,DX,zO,O0,String.reduceBEq];grind
def Nt(x y:kF):Bool:=bif aj x.scope y.scope then aj x.span y.span else C
theorem aq1{b c d:Int}:gw PP 50 385 (.agg [.int .i64 a,.int .i64 b]) (.agg [.int .i64 c,.int .i64 d])=J (bif aj a c then aj b d else C):=by rw[EE underlying385 aU];simp only[go_sem,zO,String.reduceBEq];grind
theorem HE{o:BinOp}{x y:ao}{b:Bool}(h:PP.eqGuardType PP.depth t=C)(k:gw PP 50 t (.agg x) (.agg y)=J b)(a:o=.eql\/o=.neq):gu PP o t (.agg x) (.agg y)=J (.bool (match o with|.eql=>b|_=>!b)):=by rcases a with rfl|rfl<;>show(bif !PP.eqGuardType _ t then Option.map _ _ else Z)=_<;>rw[h,k]<;>rfl
section
variable{a b a' b':Int}{s s':aE}
theorem amI:gu PP .neq 55 (.agg [.int .i64 a,.int .i64 b,.str s]) (.agg [.int .i64 a',.int .i64 b',.str s'])=J (.bool (!DX a b s a' b' s')):=by simp[HE,yb]
theorem amF:gu PP .neq 385 (.agg [.int .i64 a,.int .i64 b]) (.agg [.int .i64 a',.int .i64 b'])=J (.bool (!bif aj a a' then aj b b' else C)):=by simp[HE,aq1]
end
attribute[go_sem]amI amF
def ly{a:Type}(q:a->a->Bool):List a->List a->Bool|[],[]=>V|x::s,y::b=>bif q x y then ly q s b else C|_,_=>C
theorem Kq{b:Type}{q:b->b->Bool}:∀s a:List b,s.length=a.length->ly q s a=(s.zip a).all λp=>q p.1 p.2|[],[],_=>rfl|x::s,y::a,h=>by simp only[ly,List.zip_cons_cons,pH];rw[Kq s a (by simpa using h)];cases q x y<;>rfl
theorem Kp{b:Type}{q:b->b->Bool}:∀s a:List b,s.length≠a.length->ly q s a=C|[],[],h=>absurd rfl h|x::s,y::a,h=>by simp only[ly];rw[Kp s a (by simpa using h)];cases q x y<;>rfl|[],_::_,_=>rfl|_::_,[],_=>rfl
theorem Sq{a:Type}{x y:List a}{i:Nat}{p:a×a}(h:(x.zip y)[i]?=J p):x[i]?=J p.1/\y[i]?=J p.2:=ai
theorem Ee{a:Type}{x y:List a}(h:x.length=y.length):(x.zip y).length=x.length:=aU
section
variable{α:Type}{d:α->DV}{c:α->ao}{q:α->α->Bool}(f:Nat)(fi ca:ao)(g:GH)(a b:Bool)(xs ys:List α)(hl:xs.length<1000000000)(hq:∀x y,x∈xs->Pi f fi ca g [d x,d y] (q x y))
include hl hq
theorem KZ{n t m:Nat}(B:(n,t,m)=(330,281,17)\/(n,t,m)=(332,225,1)\/(n,t,m)=(334,344,11)\/(n,t,m)=(273,59,8)\/(n,t,m)=(275,62,14))(s:∀x:α,d x=.agg (c x)/\(c x).length=m):ev PP cf (.call n [bK a (xs.map d) t m,bK b (ys.map d) t m,.func f fi ca] .no g)=J (.val (.dv (.bool (ly q xs ys)) .no) g):=by
 have w:∀x,(c x).take m=c x:=λx=>Hm aU;by_cases e:xs.length=ys.length<;>rcases B with h|h|h|h|h<;>cases h<;>first|refine aO func330 ?_|refine aO func332 ?_|refine aO func334 ?_|refine aO func273 ?_|refine aO func275 ?_
 all_goals first
 |simp only[go_sem,f330,f332,f334,f273,f275,e,Kp _ _ e]
 | simp only[go_sem,f330,f332,f334,f273,f275,e,Kq _ _ e];refine gC (xs.zip ys) (λi=>[(17,iS i)]) (λi l=>.val (.dv (.bool (l.all λp=>q p.1 p.2)) .no) g) ai rfl rfl ?_ (λi x l u o D z=>?_);.simp only[go_sem,Ee e,nY,e]
   . obtain⟨o,y⟩:=Sq o;rw[Ee e,e]at u;rcases hq x.1 x.2 (dw o)with⟨r,j,k⟩|⟨r,j,v,k⟩;.obtain⟨j,A⟩:=J8.1 j;simp only[go_sem,u,o,y,λx=>(s x).1,λx=>(s x).2,w,pH]at k z|-;simp only[go_sem,r,j,A,k];apply sp<;>intro h<;>simp only[*,go_sem]
     .simp only[go_sem,u,o,y,λx=>(s x).1,λx=>(s x).2,w,pH]at k v z|-;simp only[go_sem,r,j,k,v];apply sp<;>intro h<;>simp only[*,go_sem]
end
theorem HT(s t:Sl Int)(d:s.l.length<1000000000):CC 51 [bW s,bW t] (vB (ly aj s.l t.l)):=by
 refine aO func51 ?_;have hd:dj cf (bp f51 6)=V:=by rfl
 simp only[bp,opsOf,f51,go_sem]at hd;by_cases e:s.l.length=t.l.length
 . simp only[go_sem,f51,e,Kq _ _ e];refine gC (s.l.zip t.l) (λi=>[(13,iS i)]) (λi l=>vB (l.all λp=>aj p.1 p.2)) ai rfl rfl ?_ (λi x l b a w c=>?_);.simp only[go_sem,Ee e,nY,e]
   .obtain⟨a,y⟩:=Sq a;rw[Ee e,e]at b;simp only[go_sem,hd,b,a,y,pH]at c|-;apply sp<;>intro h<;>simp only[*,go_sem]
 .simp only[go_sem,f51,e,Kp _ _ e]
theorem ady(s t:Sl kF)(d:s.l.length<1000000000):CC 274 [DA s,DA t] (vB (ly Nt s.l t.l)):=by
 refine aO func274 ?_;have hd:dj cf (bp f274 6)=V:=by rfl
 simp only[bp,opsOf,f274,go_sem]at hd;by_cases e:s.l.length=t.l.length
 . simp only[go_sem,f274,e,Kq _ _ e];refine gC (s.l.zip t.l) (λi=>[(13,iS i)]) (λi l=>vB (l.all λp=>Nt p.1 p.2)) ai rfl rfl ?_ (λi x l b a w c=>?_);.simp only[go_sem,Ee e,nY,e]
   .obtain⟨a,y⟩:=Sq a;rw[Ee e,e]at b;simp only[go_sem,hd,b,a,y,pH,Nt]at c|-;apply sp<;>intro h<;>simp only[*,go_sem]
 .simp only[go_sem,f274,e,Kp _ _ e]
end Go.VM
namespace Go.VM
open Go Go.AM Proofs.Tryz
attribute[local congr]bB bC
def Fv(a b:aE):Int:=match Dw b 0 a with|some i=>.ofNat i|none=>-1
def arT(a b:aE)(h:a.length<1000000000):CC 313 [.str a,.str b] (vI (Fv a b)):=by
 refine(C4 (v:=.dv (match Dw b 0 a with|some i=>goN i|none=>.int .i64 (-1)) .no) ?_ rfl).trans ?_;.show(bif cw _ _ then _ else _)=_;grind[eP]
 unfold Fv;cases Dw b 0 a<;>rfl
def arI(a b:aE)(h:a.length<1000000000):CC 256 [.str a,.str b] (vI (Fv a b)):=by refine aO func256 ?_;simp only[go_sem,f256,arT a b h]
def LY(a b:aE)(h:a.length<1000000000):CC 204 [.str a,.str b] (vB (!aA (Fv a b) 0)):=by refine aO func204 ?_;simp only[go_sem,f204,arI a b h]
def kwT:aE:=[32,97,108,108,32,97,108,116,32,97,110,100,32,98,111,111,108,32,98,121,32,99,111,117,110,116,32,102,97,108,115,101,32,102,105,114,115,116,32,105,102,32,105,110,116,32,108,97,99,107,115,32,108,97,115,116,32,109,97,116,99,104,32,109,97,120,32,109,105,110,32,110,111,116,32,111,114,32,112,108,117,115,32,113,117,101,114,121,32,114,101,116,117,114,110,32,115,101,113,32,115,116,114,105,110,103,32,115,117,109,32,116,105,109,101,32,116,114,117,101,32,116,121,112,101,32,119,104,101,114,101,32,119,105,116,104,105,110,32]
def Mm(s:aE):Bool:=bif decide (s=[])then C else bif aA (Fv s [32]) 0 then !aA (Fv kwT (32::(s++[32]))) 0 else C
def asr(s:aE)(b:s.length<1200000):CC 150 [.str s] (vB (Mm s)):=by
 refine aO func150 ?_;have a:=LY s [32] ab;simp only[go_sem,f150,Mm];repeat'(with_reducible apply sp<;>intro h<;>simp only[h,a,TS (show[32].length+s.length<=1000000000 by grind),TS (show(32::s).length+[32].length<=1000000000 by grind),go_sem])
 rw[LY _ _ ft];simp only[go_sem];rfl
def VO(b:Nat):Bool:=bif letter (.ofNat b)then C else !digit (.ofNat b)
theorem abm:∀l:aE,l.any VO=!l.all word|[]=>rfl|x::l=>by simp only[zo,pH,abm l,VO,word];cases letter (.ofNat x)<;>cases digit (.ofNat x)<;>simp
def Lk(s:aE)(e:s.length<1200000):CC 95 [.str s] (vI (bif B8 s then bif Mm s then 8 else 0 else 8)):=by
 refine aO func95 ?_;rcases s with _|⟨c,t⟩;.rfl
 have a:=Jj (d:=λb:Nat=>.int .u8 (.ofNat b)) (q:=VO) 152 [] [] .empty C (c::t) ab (λx _=>.inr ⟨rfl,rfl,rfl,arc _⟩) (.inr rfl) (λ_=>⟨rfl,rfl⟩);rw[abm]at a;simp only[gb,bK]at a;simp only[go_sem,f95,B8];repeat'(with_reducible apply sp<;>intro h<;>simp only[h,Kn,asr _ e,a,go_sem])
 grind
abbrev cy:aE:=[116,105,109,101]
def art(s:aE)(a:s.length<1200000):CC 147 [.str s] (vB (bif B8 s then !decide (s=cy)else C)):=by refine aO func147 ?_;simp only[go_sem,f147,LZ _ a,cy];apply sp<;>intro h<;>simp only[h,go_sem]
def Pj(n:aE):Bool:=bif B8 n then !decide (n=cy)else C
def Lh:List aE->List lu->Int|_,[]=>0|b,f::l=>bif Pj f.name then bif b.any (λn=>decide (f.name=n))then 7 else bif aA f.kind 0 then 1 else bif aA f.kind 3 then Lh (b++[f.name]) l else 1 else 8
def RI(s:b9):Int:=bif B8 s.name then bif aA 8 (.ofNat s.fields.l.length)then 5 else Lh [] s.fields.l else 8
def OY(b:List aE)(i:Nat):List lr:=(b.zipIdx i).map λx=>(.str x.1,.bool V,x.2)
def qp(b:List aE):List lr:=OY b 0
def OZ{b:List aE}{n:aE}:qp (b++[n])=qp b++[(.str n,.bool V,b.length)]:=by simp[qp,OY,List.zipIdx_append]
theorem K9{n:aE}:∀(b:List aE)(i j:Nat),(b.any λm=>decide (n=m))=C->findD PP 9 (.str n) (OY b i) j=J Z|[],_,_,_=>rfl|m::b,i,j,h=>by rw[zo,J8]at h;show(gw PP 50 9 (.str n) (.str m)).bind _=_;rw[O0,h.1];exact K9 b (i+1) (j+1) h.2
theorem La{n:aE}:∀(b:List aE)(i j:Nat),(b.any λm=>decide (n=m))=V->∃k c m,findD PP 9 (.str n) (OY b i) j=J (J (k,.str m,.bool V,c))|[],_,_,h=>by simp at h|m::b,i,j,h=>by rw[zo]at h;cases a:decide (n=m)with|true=>exact⟨j,i,m,by show(gw PP 50 9 (.str n) (.str m)).bind _=_;rw[O0,a];rfl⟩|false=>rw[a,xB]at h;obtain⟨k,c,d,e⟩:=La b (i+1) (j+1) h;exact⟨k,c,d,by show(gw PP 50 9 (.str n) (.str m)).bind _=_;rw[O0,a];exact e⟩
theorem azD{n:aE}:ta PP 9 (.str n)=V:=by rfl
attribute[go_sem]azD
def asq(s:b9)(j:s.name.length<1200000)(n:∀f,f∈s.fields.l->f.name.length<1200000)(p:s.fields.l.length<1200000):sK (ev PP cf (.call 90 [s.d] .no .empty)) (zS (RI s)):=by
 refine Hz func90 ?_;simp only[go_sem,f90,LZ _ j,RI];apply wm<;>intro h<;>simp only[h,go_sem];apply wm<;>intro h<;>simp only[h,go_sem];refine My s.fields.l ([]:List aE) (λi b=>⟨90,45,[(18,iS i),(3,.dv (.map 0) .no),(16,.dv (C7 s.fields) .no),(17,iS s.fields.l.length)],[],⟨1,[(0,.map (qp b) b.length)]⟩⟩) (λ_ l b=>zS (Lh b l)) (λ_ _ _=>True) ab rfl trivial rfl (λs _=>?_) (λi x l b o g w _ a=>?_);.simp only[go_sem,Lh]
 . have a:=a (b++[x.name]) trivial;simp only[OZ,gR,dD,gL,go_sem]at a;simp only[go_sem,o,g,Lh,art _ (n _ (dw g))];apply wm<;>intro h;.cases d:b.any λm=>decide (x.name=m)with|true=>obtain⟨k,c,m,e⟩:=La b 0 0 d;simp only[Pj,h,go_sem,qp,e]|false=>have e:=K9 b 0 0 d;simp only[Pj,h,go_sem,qp,e];apply wm<;>intro h<;>simp only[h,go_sem];apply wm<;>intro h<;>simp only[h,w,go_sem,e];exact a
   .simp only[Pj,h,go_sem]
def Nv:List aE->List b9->Int|_,[]=>0|b,s::l=>bif aj (RI s) 0 then bif b.any (λn=>decide (s.name=n))then 7 else Nv (b++[s.name]) l else RI s
def wj(l:List b9):Int:=bif aA 16 (.ofNat l.length)then 5 else Nv [] l
structure b9.ok(s:b9):Prop where
 h1:s.name.length<1200000
 h2:∀f,f∈s.fields.l->f.name.length<1200000
 h3:s.fields.l.length<1200000
def KY(t:Sl b9)(j:∀s,s∈t.l->s.ok)(p:t.l.length<1200000):sK (ev PP cf (.call 60 [cm t] .no .empty)) (zS (wj t.l)):=by
 refine Hz func60 ?_;simp only[go_sem,f60,wj];apply wm<;>intro h<;>simp only[h,go_sem];refine My _ _ (λi b=>⟨60,30,[(13,iS i),(3,.dv (.map 0) .no),(11,.dv (cm t) .no),(12,iS t.l.length)],[],⟨1,[(0,.map (qp b) b.length)]⟩⟩) (λ_ l b=>zS (Nv b l)) (λ_ _ _=>True) ab rfl trivial rfl (λs _=>?_) (λi x l b n g w _ a=>?_);.simp only[go_sem,Nv]
 .have a:=a (b++[x.name]) trivial;have d:=j x (dw g);obtain⟨o,hr⟩:=asq x d.h1 d.h2 d.h3;simp only[OZ,gR,dD,gL,go_sem]at a hr;simp only[go_sem,n,g,hr,Nv];apply wm<;>intro h<;>simp only[h,go_sem];cases f:b.any λm=>decide (x.name=m)with|true=>obtain⟨k,c,m,e⟩:=La b 0 0 f;simp only[go_sem,qp,e]|false=>have e:=K9 b 0 0 f;simp only[go_sem,qp,e,w];exact a
def aai{a:Type}{s:List a}{i:Nat}{x:a}(h:s[i]?=J x):s.take (i+1)=s.take i++[x]:=by grind[Kh]
