/- Proved: the value machine is sound; the tables of this program and the laws by which its code is stepped through. -/
import Derived.Test.YtlpehfnaibndgaaGreatDoorAd
open Option renaming some->J,none->Z
open Bool renaming true->V,false->C
open Go renaming TypeId->an,Oper->aB,Value->aD,Program->aH,Operand->aK,World->aV,Code->bM,FuncId->bW,Frame->di,lone->ff,IntKind->fR,ResultVar->oK
open Go.Lib renaming compact->tv
open Go.Op renaming operands->eL,mapUpdate->ry
open Int renaming ofNat->dk,add->kh
open List renaming rec->iY,replicate->lT
open Nat renaming beq->aw,ble->bt,blt->ct,succ->fg,mul->ft,add->im
open SizeOf renaming sizeOf->pB
open UInt8 renaming toNat->kj
noncomputable section
set_option linter.all false
namespace Go.VM
open Go Go.AM
variable{α:Type}{j:Cl}{x:bh}
section
variable{P:aH}{ak:cj}{rec:dR}{cf:bU}{K K' K1 K2:aY}{Y A φ0 φ1:cm}{B ω' ω0 fJ ω1:aJ}{H H' H1:Heap}{lb:dV}{g g':GH}{O st' st2:St}{tm tm':Tr AV}{fr fE:cG}{rd:ah Nat}
def ZN(p:ah bM):LoopState:=match p with|none=>.ready|some _=>.done
theorem TV{d:aY}{c:Heap}{l i:Nat}{p:ah bM}{v:SV}(u:bg c)(n:Nx d φ0 ω0 c K Y B H)(o:Ok K Y B H O tm)(j:Y l=J i)(h:wK l O p=J (.val v g')):∃R,H.get i=J (.loop R)/\AP P d φ0 ω0 c v g' (.ret (.bool p.isNone) (H.put i i (.loop {R with state:=ZN p,pending:=p}))):=by
 unfold wK at h;split at h;.rename_i r g;obtain⟨rfl,rfl⟩:=bh.val.inj (bE h);obtain⟨k,e,w,R,f,q3,m,q5,q6,q7,q8,q9,B1⟩:=o.hr.jf l _ g;obtain rfl:i=k:=bE (j.symm.trans e);obtain⟨FL,a⟩:=ZD (R':={R with state:=ZN p,pending:=p}) (y:=.loop {r with state:=ZN p,pending:=p}) o e w f ⟨_,xe _ _ _ _,rfl,rfl,q5,q6,q7,q8,q9,B1⟩;refine⟨R,f,_,_,K,Y,_,rfl,n.trans u ⟨a.ext,a.dm,a.nj,a.keep,λp r b h=>?_,a.log⟩,FL.hr.callee C C,.bool _⟩;obtain⟨q,_,h⟩:=aJ.iG h;exact a.lZ q r b h
 grind
theorem aMS(Q:rj P ak cf rec)(X:wy P ak cf rec)(U:wq P ak cf)(W:G5 P ak cf rec):wy P ak cf (yW P cf rec):=by
 intro l args g v g' h K Y B H S i b N O D;simp only[yW]at h;split at h;.rename_i r hg;obtain⟨i',q1,qw,R,q2,q3,q4,q5,q6,q7,q8,q9,B1⟩:=b.jf l _ hg;obtain rfl:i=i':=bE (D.symm.trans q1);cases x:(aw args.length r.params.length&&r.params.all λp=>ct p r.n)with|false=>grind|true=>
  rw[x]at h;simp only[aR]at h;simp only[gu,bR,jV]at x;have kM:∀p,p∈r.params->p<r.n:=λp hp=>by simp_all
  have hinv:uN P ak (.yield i) S H=J (.call {fn:=R.fn,n:=R.n,tmps:=fS (λt(p:Tmp×AV)=>bif ct p.1 R.n then t.ins p.1 p.2 else t) (List.zip R.params S) R.tmps,todo:=[.code R.assign,.beginRound,.code R.body],defers:=[],mode:=.run,roundOf:=J i} H):=by
   unfold uN;simp only[q2];have:aw (fc S) (fc R.params)=V:=by rw[dT,dT,<-O.1,q7,x.1];simp_all
   grind
  have cT:=aI0 (n:=R.n) R.params args S r.sl R.tmps B1 O ai (λp hp=>ai);have dX:Ok K Y B H {fn:=r.fn,n:=r.n,sl:=Cb r.params args r.sl,lb:=[],g:=g} (fS (λt(p:Tmp×AV)=>bif ct p.1 R.n then t.ins p.1 p.2 else t) (List.zip R.params S) R.tmps):=⟨b,aGd ai⟩;have jl:=OX (rd:=J l) (bs:=H.next) Q X U W (AP P K Y B H v g') r.assign _ _ _ K Y B H {fn:=R.fn,n:=R.n,tmps:=fS (λt(p:Tmp×AV)=>bif ct p.1 R.n then t.ins p.1 p.2 else t) (List.zip R.params S) R.tmps,todo:=[.code R.assign,.beginRound,.code R.body],defers:=[],mode:=.run,roundOf:=J i} [.beginRound,.code r.body] h dX N ⟨q5,q6,rfl,bS _,i,q1,rfl,rfl⟩ (λo j=>by cases o with|ext id s=>grind|rt s=>grind|fG s=>
   simp only at j;split at j
   . rename_i r1 kJ;split at j;.rename_i cq;intro K1 φ1 ω1 H1 I KC n1 xa e1 e2 f1;obtain⟨i1,j1,j2,E⟩:=f1.rd;have rN:i=i1:=bE (show J i=J i1 from j2);subst rN;have E:KC=[]:=E;subst E;obtain⟨i2,k1,kw,L,k2,k3,k4,k5,k6,k7,k8,k9,Vo⟩:=xa.hr.jf l _ kJ;obtain rfl:i=i2:=bE (j1.symm.trans k1);obtain⟨FL,n2⟩:=ZD (R':={L with state:=.busy}) (y:=.loop {r1 with state:=.busy}) xa k1 kw k2 ⟨_,xe _ _ _ _,rfl,k4,k5,k6,k7,k8,k9,Vo⟩;have f2:=f1.nx xa.hr.inv n2 (st':={s with sl:=cN s.sl,g:=s.g.set l (.loop {r1 with state:=.busy})}) rfl rfl I [.beginRound,.code r.body];have d:=n1.trans b.inv n2;have qK:=OX (rd:=J l) (bs:=H.next) Q X U W (AP P K Y B H v g') r.body _ _ _ K1 φ1 ω1 _ {fn:=R.fn,n:=R.n,tmps:=I,todo:=[.beginRound,.code r.body],defers:=[],mode:=.run,roundOf:=J i} [] j FL (N.mono d.ext (aX.refl _)) f2 (λo2 u=>by intro K3 φ3 ω3 k c T n3 Ds e3 e4 f3;obtain⟨i3,F,j5,j6⟩:=f3.rd;have z:i=i3:=bE (show J i=J i3 from j5);subst z;have q:=d.trans b.inv n3;cases o2 with|fG G=>have u:wK l G Z=J (.val v g'):=u;obtain⟨M,e,f⟩:=TV (P:=P) b.inv q Ds F u;refine⟨1,_,?_,f⟩;show body P ak (AM.run P ak 0) {fn:=R.fn,n:=R.n,tmps:=c,todo:=[],defers:=T,mode:=.run,roundOf:=J i} k=_;unfold body vm wC xL xM xN A8;simp only[e];rfl|rt G=>have u:wK l G (J .ret)=J (.val v g'):=u;obtain⟨M,e,f⟩:=TV (P:=P) b.inv q Ds F u;refine⟨1,_,?_,f⟩;show body P ak (AM.run P ak 0) {fn:=R.fn,n:=R.n,tmps:=c,todo:=[.code .ret],defers:=T,mode:=.run,roundOf:=J i} k=_;unfold body vm wC xL xM xN A8;simp only[e];rfl|ext id G=>have u:wK l G (J (.exit id))=J (.val v g'):=u;obtain⟨M,e,f⟩:=TV (P:=P) b.inv q Ds F u;refine⟨1,_,?_,f⟩;show body P ak (AM.run P ak 0) {fn:=R.fn,n:=R.n,tmps:=c,todo:=[.code (.exit id)],defers:=T,mode:=.run,roundOf:=J i} k=_;unfold body vm wC xL xM xN A8;simp only[exitTo,e];rfl);refine dQ.step 0 (λm _=>?_) qK;show body P ak _ {fn:=R.fn,n:=R.n,tmps:=I,todo:=[.beginRound,.code r.body],defers:=[],mode:=.run,roundOf:=J i} H1=_;unfold body vm wC xL xM xN A8;have w:L.state=.ready:=aT;simp only[k2,w];rfl
     grind
   grind);obtain⟨n,o,hn,a,H',K',A,ω',rfl,h2,h3,h4⟩:=jl;refine⟨a,H',K',A,ω',⟨_,hinv,n,?_⟩,h2,h3,h4⟩;grind
 grind
theorem aMr(I:wq P ak cf)(e:N5 P ak cf)(N:∀f args S H,cf.iU f args=Z->ak f S H=Z):∀n,rj P ak cf (JN P cf n)/\wy P ak cf (JN P cf n)/\G5 P ak cf (JN P cf n):=by intro n;induction n with
 |zero=>
 refine⟨λf args w g v g' h=>?_,λl args g v g' h=>?_,λb O rd o h=>?_⟩;.have h:(Z:ah _)=J _:=h;grind
 .have h:(Z:ah _)=J _:=h;grind
 .have h:(Z:ah _)=J _:=h;grind|succ n i=>obtain⟨a,c,d⟩:=i;exact⟨anr a c I d e N,aMS a c I d,aA3 a c I d⟩
end
section
variable(P:aH)(cf:bU)
def D1(j:Cl)(x:bh):Prop:=∃n,∀m,n<=m->JN P cf m j=J x
open Classical in def ev:dR:=λj=>if h:∃x,D1 P cf j x then J h.choose else Z
theorem D1.gW{y:bh}(h:D1 P cf j x)(k:D1 P cf j y):x=y:=by obtain⟨n,h⟩:=h;obtain⟨m,k⟩:=k;exact bE ((h (max n m) ab).symm.trans ai)
theorem TN:ev P cf j=J x↔D1 P cf j x:=by
 unfold ev;constructor;.intro h;split at h<;>grind
 .intro h;have e:∃x,D1 P cf j x:=⟨x,h⟩;grind[D1.gW]
def Cn{a:Type}(F:dR->ah a):Prop:=∀o,F (ev P cf)=J o->∃n,∀m,n<=m->F (JN P cf m)=J o
variable{P cf}
def Cn.const(x:ah α):Cn P cf λ_=>x:=λ_ h=>⟨0,λ_ _=>h⟩
def Cn.Fe(j:Cl):Cn P cf λr=>r j:=λ_ h=>(TN P cf).1 h
theorem Cn.bind{d:Type}{F:dR->ah α}{G:dR->α->ah d}(h:Cn P cf F)(k:∀a,Cn P cf λr=>G r a):Cn P cf λr=>(F r).bind (G r):=λo b=>by obtain⟨a,c,b⟩:=aE b;obtain⟨n,g⟩:=h a c;obtain⟨m,f⟩:=k a o b;refine⟨max n m,λi e=>?_⟩;grind
theorem Cn.cond(b:Bool){F G:dR->ah α}(h:Cn P cf F)(k:Cn P cf G):Cn P cf λr=>bif b then F r else G r:=by cases b<;>simp_all
theorem Cn.jv(f:bW)(s:ao)(o:aM)(g:GH){k:dR->SV->GH->ah α}(h:∀v g,Cn P cf λr=>k r v g):Cn P cf λr=>jv cf r f s o g (k r):=by refine Cn.cond _ (Cn.cond _ ((Cn.Fe _).bind λa=>?_) (Cn.const _)) (Cn.cond _ (Cn.cond _ ((Cn.Fe _).bind λa=>?_) (Cn.const _)) ((Cn.Fe _).bind λa=>?_));all_goals cases a<;>simp_all[Cn.cond,Cn.const]
theorem Cn.qC(s:St)(o:Op)(i:aK)(g:List aK):Cn P cf λr=>qC cf r s o i g:=by refine(Cn.const _).bind λv=>?_;cases v with
 |func h first c=>
 refine Cn.cond _ (Cn.const _) (Cn.cond _ ?_ (Cn.cond _ ?_ ?_));.cases first with|cons a b=>simp[Cn.const]|nil=>
  rcases g with _|⟨x,f⟩;.simp[Cn.const]
  show Cn P cf λr=>match cU _ s x with|some (.dv d w)=>(cw _ f).bind _|_=>Z;rcases cU _ s x with _|e;.simp[Cn.const]
  cases e<;>simp[Cn.const,bind,Cn.jv]
 .exact Cn.cond _ ((Cn.const _).bind λS=>Cn.jv _ _ _ _ λ_ _=>Cn.const _) (Cn.const _)
 simp[Cn.const,bind,Cn.jv]|dU l=>simp[Cn.const,bind,Cn.Fe]|_=>exact Cn.const _
theorem Cn.dG(g b:aC)(l:List aB)(s:St)(o:aB):Cn P cf λr=>dG P cf r g b l s o:=by unfold VM.dG;cases o.op with
 |call c=>cases c with|mk callee args a=>cases callee<;>simp[Cn.qC,bind,Cn.const]
 |_=>exact Cn.const _
theorem Cn.kf(s c:aC)(d:Bool)(p:Array aB):∀(l:List aB)(j:Nat)(g:List (Nat×Kx))(st:St),Cn P cf λr=>kf P cf r s c d p l j g st:=by intro l;induction l with|nil=>intro j g st;exact Cn.const _|cons o l i=>intro j g st;refine(Cn.const _).bind λw=>Cn.cond _ (Cn.cond _ ((Cn.dG _ _ _ _ _).bind λa=>i _ _ _) (Cn.const _)) ((Cn.const _).bind λa=>i _ _ _)
theorem Cn.exec(u:ah Nat):∀(c:bM)(st:St)(k:dR->eF->ah bh),(∀o,Cn P cf λr=>k r o)->Cn P cf λr=>exec P cf r u c st (k r):=by intro c;induction c with
 |skip=>intro st k d;exact d _|label _=>intro st k d;exact d _|seq a b i e=>intro st k d;refine i st _ λo=>?_;cases o<;>simp_all|cond c a b i e=>
 intro st k d;show Cn P cf λr=>match bj _ st c with|some (.bool x)=>bif x then VM.exec P cf r u a st _ else VM.exec P cf r u b st _|_=>Z;rcases bj _ st c with _|v;.simp[Cn.const]
 cases v<;>simp_all[Cn.cond,Cn.const]|block id b l=>intro st k d;refine l st _ λo=>?_;cases o<;>simp_all[Cn.cond]|loop b l=>
 intro st k d;refine Cn.bind (Cn.Fe _) λa=>?_;rcases a with⟨v,g⟩|o;.exact Cn.const _
 exact d _|scope b l=>intro st k d;exact l st k d|exit id=>intro st k d;exact d _|ret=>intro st k d;exact d _|region id z w=>intro st k d;exact Cn.cond _ ((Cn.kf _ _ _ _ _ _ _ _).bind λa=>d _) (Cn.const _)|rangeFunc f m K b i e=>intro st k d;unfold VM.exec;cases bj _ st f with|none=>simp[Cn.const]|some v=>cases v with
  |func h first t=>refine Cn.cond _ (Cn.const _) ((Cn.Fe _).bind λa=>?_);cases a with|out o=>simp[Cn.const]|val v g=>show Cn P cf λr=>match g.get _ with|some (.loop q)=>(match q.state with|.busy=>Z|_=>(match q.pending with|none=>k r _|some .ret=>k r _|some (.exit id)=>k r _|_=>Z))|_=>Z;cases g.get _ with|none=>simp[Cn.const]|some y=>cases y with
   |loop q=>cases q with|mk s p fn n sl m j body=>cases s with|busy=>simp[Cn.const]|_=>
   rcases p with _|c;.simp_all
   cases c<;>simp_all[Cn.const]
   |_=>simp[Cn.const]
  |_=>exact Cn.const _
 |goto _=>intro st k d;exact Cn.const _|refuse _=>intro st k d;exact Cn.const _
theorem Cn.yW(j:Cl):Cn P cf λr=>yW P cf r j:=by
 rcases j with⟨f,args,w,g⟩|⟨b,st,rd⟩|⟨l,args,g⟩;.show Cn P cf λr=>match cf.iU f _ with|some r=>bif aw _ 2&&!vU w then Z else r.map _|none=>(P.funcs[f]?).bind _;cases cf.iU f _ with|some v=>simp[Cn.const]|none=>refine(Cn.const _).bind λfn=>(Cn.const _).bind λb=>Cn.cond _ (Cn.exec _ b _ _ λo=>Cn.const _) (Cn.const _)
 .refine Cn.exec rd b st _ λo=>?_;cases o<;>simp[Cn.Fe,Cn.const]
 show Cn P cf λr=>match g.get l with|some (.loop R)=>bif aw _ _&&R.params.all _ then VM.exec P cf r _ _ _ _ else Z|_=>Z;cases g.get l with|none=>simp[Cn.const]|some c=>cases c with
 |loop R=>refine Cn.cond _ (Cn.exec _ _ _ _ λo=>?_) (Cn.const _);cases o with
  |fG st=>show Cn P cf λr=>match st.g.get l with|some (.loop r1)=>(match r1.state with|.ready=>VM.exec P cf r _ _ _ _|_=>Z)|_=>Z;cases st.g.get l with|none=>simp[Cn.const]|some c=>cases c with
   |loop r1=>cases r1 with|mk s p fn n sl m a body=>cases s<;>simp[Cn.exec,Cn.const]
   |_=>simp[Cn.const]
  |_=>simp[Cn.const]
 |_=>simp[Cn.const]
theorem KQ(h:yW P cf (ev P cf) j=J x):ev P cf j=J x:=by
 obtain⟨n,a⟩:=Cn.yW j x h;refine(TN P cf).2 ⟨n+1,λm b=>?_⟩;rcases m with _|m;.omega
 exact a m ab
theorem arG{a:cj}(I:wq P a cf)(c:N5 P a cf)(N:∀f args S H,cf.iU f args=Z->a f S H=Z):rj P a cf (ev P cf):=by intro f args o g v b h;obtain⟨n,d⟩:=(TN P cf).1 h;exact(aMr I c N n).1 f _ o g v b aT
end
end Go.VM
namespace Go.AM
open Go
variable{E E' H:Heap}{j:Nat}{σ:Nat->ah Nat}{P:aH}{w:aV}{Y A:bc}
def Jk(d:Nat->ah Nat)(i:AV->ah AV)(a:AV):ah AV:=match a with|.ptr id o=>(d id).bind λj=>J (.ptr j o)|.sl id o len c e=>(d id).bind λj=>J (.sl j o len c e)|.map _|.yield _=>Z|.func f a b=>(cw i a).bind λa=>(cw i b).bind λb=>J (.func f a b)|.agg l=>(cw i l).bind λl=>J (.agg l)|.cL l=>(cw i l).bind λl=>J (.cL l)|a=>J a
def nO(a:Nat->ah Nat)(n:Nat):AV->ah AV:=Nat.rec (λ_=>Z) (λ_ i=>Jk a i) n
theorem BP{d e:Type}{f:d->ah e}:∀{l:List d}{m:List e},cw f l=J m->l.length=m.length/\∀(i:Nat)(a:d)(b:e),l[i]?=J a->m[i]?=J b->f a=J b:=by intro l;induction l with|nil=>intro m h;obtain rfl:=bE (show J []=J m from h);grind|cons x l k=>intro m h;have c:((f x).bind λb=>(cw f l).bind _)=J m:=h;obtain⟨b,g,c⟩:=aE c;obtain⟨t,j,c⟩:=aE c;grind
theorem M6{n:Nat}{a b:AV}(h:nO σ n a=J b):b.aU=a.aU:=by
 rcases n with _|n;.simp_all[nO]
 replace h:Jk σ _ a=J b:=h;unfold Jk at h;cases a<;>simp only at h<;>(try(cases h;rfl))<;>(try(simp at h;done));all_goals obtain⟨_,_,h⟩:=aE h;first|(cases h;rfl)|(obtain⟨_,_,h⟩:=aE h;cases h;rfl)
def aiS(b:Nat->ah Nat)(n:Nat)(a:AV):nO b (n+1) a=Jk b (nO b n) a:=rfl
theorem aiR{F:bc}(x:∀i j p,σ i=J j->F i=J p->A j=J p):∀(n:Nat)(a b:AV)(v:aD),nO σ n a=J b->VR F a v->VR A b v:=by intro n;induction n with|zero=>simp[nO]|succ n ih=>
 intro a b v h T;rw[aiS]at h;unfold Jk at h;have d:∀{l m:aI}{c:Array aD},cw (nO σ n) l=J m->l.length=c.size->(∀(i:Nat)(a:AV)(v:aD),l[i]?=J a->c[i]?=J v->VR F a v)->m.length=c.size/\∀(i:Nat)(a:AV)(v:aD),m[i]?=J a->c[i]?=J v->VR A a v:=λ{l m c}u hl hg=>by grind[BP]
 cases T with|top n=>cases h;exact .top n|bool c=>cases h;exact .bool c|int k m=>cases h;exact .int k m|str l s G=>cases h;exact .str l s G|eN=>cases h;exact .eN|ptr id o p w=>obtain⟨j,E,h⟩:=aE h;cases h;exact .ptr j o p (x _ _ _ E w)|bu=>cases h;exact .bu|sl id o len c D p U B w y z H I K M N=>obtain⟨j,E,h⟩:=aE h;cases h;exact .sl j o len c D p U B (x _ _ _ E w) y z H I K M N|fU=>cases h;exact .fU|map r p w=>grind|func f l1 l2 O P t R g1 g2=>obtain⟨W,Y,h⟩:=aE h;obtain⟨X,L,h⟩:=aE h;cases h;obtain⟨e,q⟩:=d Y t g1;obtain⟨y,z⟩:=d L R g2;exact .func f W X O P e y q z|yield l p w=>grind|nilFunc=>cases h;exact .nilFunc|agg l c t G g=>obtain⟨m,u,h⟩:=aE h;cases h;obtain⟨e,q⟩:=d u t g;refine .agg m c e (λb S=>?_) q;obtain⟨i,hi⟩:=a8.1 S;obtain⟨k1,k2⟩:=BP u;have Q:i<l.length:=ai;have ha:l[i]?=J l[i]:=dA Q;grind[M6,G0]|cL l c t g=>obtain⟨m,u,h⟩:=aE h;cases h;obtain⟨e,q⟩:=d u t g;exact .cL m c e q
theorem Ri{x:bc}(O:∀i j p,σ i=J j->A j=J p->x i=J p):∀(n:Nat)(a b:AV)(v:aD),nO σ n a=J b->VR A b v->VR x a v:=by intro n;induction n with|zero=>simp[nO]|succ n T=>
 intro a b v h e;rw[aiS]at h;unfold Jk at h;have d:∀{l m:aI}{c:Array _},cw (nO σ n) l=J m->m.length=c.size->(∀(i:Nat)(a:AV)(v:aD),m[i]?=J a->c[i]?=J v->VR A a v)->l.length=c.size/\∀(i:Nat)(a:AV)(v:aD),l[i]?=J a->c[i]?=J v->VR x a v:=λ{l m c}s R Q=>by grind[BP]
 cases a with
 |ptr id w=>obtain⟨j,M,h⟩:=aE h;cases h;cases e with|ptr _ _ p N=>exact .ptr id _ p aT
 |sl id w len c I=>obtain⟨j,M,h⟩:=aE h;cases h;cases e with|sl _ _ _ _ _ p U H N t u y z B D E=>exact .sl id _ _ c _ p _ _ aT t u y z B D E
 |map r=>grind|yield l=>grind|func f l1 l2=>obtain⟨W,Y,h⟩:=aE h;obtain⟨X,L,h⟩:=aE h;cases h;cases e with|func _ _ _ F G q K g1 g2=>obtain⟨k,o⟩:=d Y q g1;obtain⟨t,u⟩:=d L K g2;exact .func f l1 l2 F G k t o u
 |agg l=>obtain⟨m,s,h⟩:=aE h;cases h;cases e with|agg _ c q S g=>obtain⟨k,o⟩:=d s q g;refine .agg l c k (λa P=>?_) o;grind[List.mem_iff_getElem?,BP,M6,G0]
 |cL l=>obtain⟨m,s,h⟩:=aE h;cases h;cases e with|cL _ c q g=>obtain⟨k,o⟩:=d s q g;exact .cL l c k o
 |_=>cases h;cases e<;>constructor<;>assumption
theorem aHN{e:bc}(b:∀i j p,σ i=J j->A j=J p->e i=J p){n:Nat}{l m:aI}{c:List aD}(h:cw (nO σ n) l=J m)(d:ba A m c):ba e l c:=by obtain⟨f,q⟩:=BP h;refine⟨by rw[f];exact d.1,λi a v r k=>?_⟩;have o:i<m.length:=ai;have g:=dA o;exact Ri b n _ _ _ ai (d.2 i _ _ g k)
structure AU(E H:Heap)(σ:Nat->ah Nat):Prop where
 obj:∀id,id<E.next->∃l root e j l' r' fl',E.get id=J (.cells l root .ro e)/\σ id=J j/\H.get j=J (.cells l' r' fl' e)/\(H.bp r').1<=j/\cw (nO σ 50) l=J l'
 low:∀id j,σ id=J j->id<E.next
def tc(a:Nat->ah Nat)(b:bc):bc:=λi=>(a i).bind b
theorem RO{i:Nat}{p:Pl}(h:σ i=J j)(g:Y j=J p):tc σ Y i=J p:=by grind[tc]
theorem yR{i:Nat}{p:Pl}(h:tc σ Y i=J p):∃j,σ i=J j/\Y j=J p:=aE h
theorem AU.ro(h:AU E H σ){i:Nat}(b:σ i=J j):fM E i:=by obtain⟨l,root,e,_,_,_,_,a,_⟩:=h.obj i (h.low i j b);exact⟨l,_,e,a⟩
theorem AU.AB(h:AU E H σ)(t:bQ gI Y H w):bQ gI (tc σ Y) E w:=by
 have N:∀i j p,σ i=J j->Y j=J p->tc σ Y i=J p:=λi j p a b=>RO a b;refine⟨⟨λid p g=>?_,λid p l r B e g n=>?_,λx y p q u v m d=>?_,λx y p q u v m d T=>?_⟩,λid p o g _ M n=>?_⟩;.obtain⟨j,c,f⟩:=yR g;obtain⟨l,root,e,_,_,_,_,g1,_⟩:=h.obj id (h.low id j c);exact⟨(t.stat.cC j p f).1,ai⟩
 .obtain⟨j,c,f⟩:=yR g;obtain⟨l0,root,e0,z,F,L,k,g1,g2,g3,g4,g5⟩:=h.obj id (h.low id j c);rw[c]at g2;cases g2;rw[n]at g1;obtain⟨rfl,_⟩:=ch.cells.inj (bE g1);rw[(BP g5).1];exact t.stat.len j p _ _ _ _ f g3
 .obtain⟨j,c,_⟩:=yR u;exact absurd (h.ro c) d
 . obtain⟨j,c,_⟩:=yR u;obtain⟨z,f,_⟩:=yR v;rcases d with d|d;.exact absurd (h.ro c) d
   .exact absurd (h.ro f) d
 .obtain⟨j,c,f⟩:=yR g;obtain⟨l0,root,e0,z,F,L,k,g1,g2,g3,g4,g5⟩:=h.obj id (h.low id j c);rw[c]at g2;cases g2;rw[n]at g1;cases g1;obtain⟨A,D,e1,G,I,K,P,Q,R,S⟩:=t.obj j p _ f trivial (λl r B e s=>ai) g3;obtain⟨k1,k2⟩:=BP g5;refine⟨A,D,e1,G,I,K,λi a O=>?_,λa U=>?_,λs=>absurd rfl s,λs=>ai⟩<;>grind[Ri,List.mem_iff_getElem?,M6,G0]
theorem AU.post{d:aV}(h:AU E H σ)(m:fW (tc σ Y) E w A E' d):(∀b,b<w.heap.size->d.heap[b]?=w.heap[b]?)/\(∀id p,A id=J p->E.next<=id->w.heap.size<=p.aZ\/tc σ Y id=J p):=by
 obtain⟨_,_,fr⟩:=m;refine⟨λb l=>?_,λid p hid M=>?_⟩
 . rcases fr.nB b l with x|⟨id,p,e,_,f,_⟩;.omega
   .obtain⟨j,a,_⟩:=yR e;exact absurd (h.ro a) f
 .cases c:tc σ Y id with|some q=>have:=fr.ext _ _ c;grind|none=>
   obtain⟨_,a⟩:=fr.new id p hid c;rcases a with a|⟨j,q,g,_,i,_⟩;.omega
   .obtain⟨n,k,_⟩:=yR g;exact absurd (h.ro k) i
structure aaD(H H2:Heap)(n:Nat):Prop where
 next:H2.next=H.next+n
 old:∀id,id<H.next->H2.get id=H.get id
 dp:∀r,H2.bp r=H.bp r
 bA:H2.bA=H.bA
 bV:H2.bV=H.bV
 cI:H2.cI=H.cI
 inv:bg H2
def news(H:Heap)(n:Nat)(f:Nat->Nat)(a b:bc):bc:=λi=>if i<H.next then a i else if i<H.next+n then b (f (i-H.next))else Z
theorem asz{G:Heap}{w':aV}{n:Nat}{T:Nat->Nat}(h:AU E H σ)(hi:bg H)(D:bQ gI Y H w)(U:fW (tc σ Y) E w A E' w')(f:aaD H G n)(N:∀k,k<n->∃l root u e m,E'.get (T k)=J (.cells l root u e)/\(E'.bp root).1<=T k/\E.next<=T k/\G.get (H.next+k)=J (.cells m (H.next+k) .ro e)/\l.length=m.length/\T k<E'.next/\∀(i:Nat)(b:AV),m[i]?=J b->∃a,l[i]?=J a/\a.aU=b.aU/\∀v,VR A a v->VR (news H n T Y A) b v):fW Y H w (news H n T Y A) G w':=by
 obtain⟨pM,mZ⟩:=h.post U;obtain⟨cK,X,fr⟩:=U;have bY:∀id p,Y id=J p->id<H.next:=λid p g=>D.stat.lt hi g;have E1:Ext Y (news H n T Y A):=λid p g=>by grind[news]
 have s:∀id p,news H n T Y A id=J p->(id<H.next/\Y id=J p)\/∃k,k<n/\id=H.next+k/\A (T k)=J p:=λid p g=>by grind[news]
 have L:∀k p,k<n->A (T k)=J p->w.heap.size<=p.aZ:=λk p R g=>by
   obtain⟨_,_,_,_,_,_,_,z,_⟩:=N k R;rcases mZ (T k) p g z with K|K;.omega
   .obtain⟨j,d,_⟩:=yR K;have:=h.low _ _ d;omega
 have P:∀id,id<H.next->rootOf G id=rootOf H id:=λid g=>by unfold rootOf;rw[f.old id g]
 have O:∀id,id<H.next->(fM G id↔fM H id):=λid g=>by unfold fM;rw[f.old id g]
 have S:∀id,id<H.next->(je G id↔je H id):=λid g=>by unfold je;rw[f.old id g];exact⟨λx l r u e y=>by rw[<-f.dp];grind,λx l r u e y=>by rw[f.dp];grind⟩
 have aOM:∀k,k<n->fM G (H.next+k):=λk R=>by obtain⟨l,root,u,e,m,_,_,_,d,_⟩:=N k R;exact⟨m,_,e,d⟩
 refine⟨f.inv,⟨⟨λid p g=>?_,λid p l r u e g F=>?_,λx y p q K W I Q=>?_,λx y p q K W I Q tQ=>?_⟩,λid p o g _ ha F=>?_⟩,?_⟩
 . rcases s id p g with⟨c,t⟩|⟨k,c,rfl,z⟩;.exact⟨gx (D.stat.cC id p t).1 fr.size,by rw[f.old id c];exact(D.stat.cC id p t).2⟩
   .obtain⟨l,root,u,e,m,_,_,_,d,_⟩:=N k c;exact⟨(X.stat.cC _ p z).1,ai⟩
 . rcases s id p g with⟨c,t⟩|⟨k,c,rfl,z⟩;.rw[f.old id c]at F;exact D.stat.len id p l r u e t F
   .obtain⟨l0,root,rI,e0,m,g1,_,_,d,B,_⟩:=N k c;rw[F]at d;obtain⟨rfl,_⟩:=ch.cells.inj (bE d);rw[<-B];exact X.stat.len _ p _ _ _ _ z g1
 . rcases s x p K with⟨c,t⟩|⟨k,c,rfl,z⟩
   . rcases s y q W with⟨d,B⟩|⟨k,d,rfl,B⟩;.rw[P x c,P y d];exact D.stat.inj x y p q t B I (λM=>Q ((O x c).2 M))
     .have:=L k q d B;have:=(D.stat.cC x p t).1;omega
   grind
 . rcases s x p K with⟨c,t⟩|⟨k,c,rfl,z⟩
   . rcases s y q W with⟨d,B⟩|⟨k,d,rfl,B⟩;.exact D.stat.mono x y p q t B I (Q.imp (λa b=>a ((O x c).2 b)) (λa b=>a ((O y d).2 b))) tQ
     .have:=L k q d B;have:=(D.stat.cC x p t).1;omega
   grind
 . rcases s id p g with⟨c,t⟩|⟨k,c,rfl,z⟩;.rw[f.old id c]at F;exact(D.obj id p o t trivial ((S id c).1 ha) F).mono E1 (pM _ (D.stat.cC id p t).1)
   .obtain⟨l,root,u,e,m,g1,g2,_,d,B,_,h6⟩:=N k c;rw[F]at d;cases d;obtain⟨cs,fz,e1,o1,o2,o3,o4,o5,_,_⟩:=X.obj _ p _ z trivial (λl' r' fl' e' M=>aT) g1;refine⟨cs,fz,e1,o1,o2,o3,λi b I=>?_,λb I=>?_,λM=>absurd rfl M,λM=>aT⟩;all_goals grind[List.mem_iff_getElem?]
 .exact{
     ext:=E1
     size:=fr.size
     os:=fr.os
     tape:=fr.tape
     output:=fr.output
     next:=by rw[f.next];omega
     bA:=f.bA
     bV:=λr g=>by rw[f.bV];omega
     cI:=λr g=>by rw[f.cI];omega
     root:=λid g=>P id g
     view:=λid o g _ _ F=>⟨by rw[f.old id g];omega,(S id g).2,(S id g).1⟩
     nB:=λb I=>.inl (pM b I)
     new:=λid p g hn=>by grind
     ro:=λid g hr=>(O id g).2 hr
     keep:=λid o g F=>⟨o,by rw[f.old id g];omega,rk.refl o⟩
     cover:=λid c t=>by rw[f.next]at t;obtain⟨l,root,u,e,m,_,_,g3,_,_,g6,_⟩:=N (id-H.next) ab;obtain⟨p,U⟩:=fr.cover _ g3 g6;grind[news]
     mG:=λid p g hn UR=>by
      rcases s id p g with⟨_,t⟩|⟨k,c,rfl,z⟩;.simp_all
      .obtain⟨l,root,u,e,m,_,_,_,d,_⟩:=N k c;rw[qo d]at UR;have:=hi.bA;omega
     vg:=λr g=>by rw[f.bV]at g;simp_all
     vw:=λr g=>by rw[f.cI]at g;simp_all}
def KI(a b:Bool):Bool:=bif a then b else !b
def TC(a b:ah Nat):Bool:=match a with|none=>(match b with|none=>V|some _=>C)|some x=>(match b with|none=>C|some y=>aw x y)
def wH(f:AV->AV->Bool)(l:aI):aI->Bool:=iY (λm=>iY V (λ_ _ _=>C) m) (λa _ i m=>iY C (λb t _=>bif f a b then i t else C) m) l
def KK(h:AV->AV->Bool)(a b:AV):Bool:=match a with|.top=>(match b with|.top=>V|_=>C)|.bool x=>(match b with|.bool y=>KI x y|_=>C)|.int j x=>(match b with|.int k y=>j==k&&aj x y|_=>C)|.str x=>(match b with|.str y=>xT x y|_=>C)|.ptr i o=>(match b with|.ptr j p=>aw i j&&aw o p|_=>C)|.eN=>(match b with|.eN=>V|_=>C)|.sl i o l c e=>(match b with|.sl j p m d f=>aw i j&&(aw o p&&(aw l m&&(TC c d&&aw e f)))|_=>C)|.bu=>(match b with|.bu=>V|_=>C)|.fU=>(match b with|.fU=>V|_=>C)|.func f l1 l2=>(match b with|.func g n q=>aw f g&&(wH h l1 n&&wH h l2 q)|_=>C)|.nilFunc=>(match b with|.nilFunc=>V|_=>C)|.agg l=>(match b with|.agg m=>wH h l m|_=>C)|.cL l=>(match b with|.cL m=>wH h l m|_=>C)|_=>C
def wJ(n:Nat):AV->AV->Bool:=Nat.rec (λ_ _=>C) (λ_ i=>KK i) n
theorem OK{f:AV->AV->Bool}(d:∀a b,f a b=V->a=b):∀(l m:aI),wH f l m=V->l=m:=by intro l;induction l with|nil=>intro m h;cases m<;>grind[wH]|cons a l i=>
 intro m h;rcases m with _|⟨b,t⟩;.grind[wH]
 have c:(bif f a b then wH f l t else C)=V:=h;grind
theorem aqf{a b:Bool}(h:KI a b=V):a=b:=by grind[KI]
theorem aqo{a b:ah Nat}(h:TC a b=V):a=b:=by cases a<;>cases b<;>simp[TC,bR]at h|-;omega
def aqr(n:Nat)(a b:AV):wJ (n+1) a b=KK (wJ n) a b:=rfl
theorem OL:∀(n:Nat)(a b:AV),wJ n a b=V->a=b:=by intro n;induction n with|zero=>simp[wJ]|succ n i=>intro a b h;rw[aqr]at h;unfold KK at h;grind[bR,aqf,zL,zM,aqo,OK]
structure dO where
 args:aI
 H:Heap
 v:AV
 news:List (aI×an)
def sg(n:Nat)(k:Tr Nat)(i:Nat):ah Nat:=bif ct i n then k.get i else Z
theorem aJc{n:Nat}{k:Tr Nat}{i:Nat}(h:sg n k i=J j):i<n:=by grind[sg,eQ]
def ux(E H:Heap)(a:Nat->ah Nat)(i:Nat):Bool:=match E.get i with|some (.cells l _ .ro e)=>(match a i with|some j=>(match H.get j with|some (.cells c r _ b)=>aw e b&&(bt (H.bp r).1 j&&(match cw (nO a 50) l with|some m=>wH (wJ 50) m c|none=>C))|_=>C)|none=>C)|_=>C
def Cw(f:Nat->Bool)(n:Nat):Bool:=Nat.rec V (λk i=>bif f k then i else C) n
theorem SC{f:Nat->Bool}:∀(n:Nat),Cw f n=V->∀k,k<n->f k=V:=by intro n;induction n<;>grind[Cw]
theorem aAt{k:Tr Nat}(h:Cw (ux E H (sg E.next k)) E.next=V):AU E H (sg E.next k):=by
 refine⟨λid hid=>?_,λid j a=>aJc a⟩;have c:=SC _ h id hid;unfold ux at c;split at c;.split at c<;>grind[bR,dj,OK,OL]
 grind
def aaP(a:Nat->ah Nat)(l:List (aI×an)):Heap->ah Heap:=iY (λH=>J H) (λx _ i H=>(cw (nO a 50) x.1).bind λm=>i (H.cQ m .ro x.2)) l
theorem alb{d:Nat->ah Nat}:∀(l:List (aI×an))(H a:Heap),bg H->aaP d l H=J a->aaD H a l.length/\∀(k:Nat)(x:aI×an),l[k]?=J x->∃m,cw (nO d 50) x.1=J m/\a.get (H.next+k)=J (.cells m (H.next+k) .ro x.2):=by intro l;induction l with|nil=>intro H a i h;obtain rfl:=bE (show J H=J a from h);exact⟨⟨rfl,λ_ _=>rfl,λ_=>rfl,rfl,rfl,rfl,i⟩,λk x h=>ai⟩|cons x l j=>
 intro H a i h;have b:=h;obtain⟨m,f,b⟩:=aE b;have N:bg (H.cQ m .ro x.2):=wA i _ (λl r n e g=>ai);obtain⟨A,hN⟩:=j _ a N b;have t:(H.cQ m .ro x.2).next=H.next+1:=rfl;refine⟨⟨by rw[A.next,t];grind,λid hid=>?_,λr=>by rw[A.dp];rfl,A.bA,A.bV,A.cI,A.inv⟩,λk y c=>?_⟩;.rw[A.old id ab];exact nG H _ ab
 . rcases k with _|k;.simp at c;subst c;refine⟨m,f,?_⟩;rw[vk,A.old _ ab];exact mA H _
   grind
def I'(f:AV->AV->List (Nat×Nat))(l:aI):aI->List (Nat×Nat):=iY (λ_=>[]) (λa _ i m=>iY [] (λb t _=>dy (f a b) (i t)) m) l
def aid(n:Nat):AV->AV->List (Nat×Nat):=Nat.rec (λ_ _=>[]) (λ_ h a b=>match a with|.ptr i _=>(match b with|.ptr j _=>[(i,j)]|_=>[])|.sl i _ _ _ _=>(match b with|.sl j _ _ _ _=>[(i,j)]|_=>[])|.func _ l1 l2=>(match b with|.func _ c d=>dy (I' h l1 c) (I' h l2 d)|_=>[])|.agg l=>(match b with|.agg m=>I' h l m|_=>[])|.cL l=>(match b with|.cL m=>I' h l m|_=>[])|_=>[]) n
def auK(E H:Heap)(f:Nat):List (Nat×Nat)->Tr Nat->Tr Nat:=Nat.rec (λ_ k=>k) (λ_ i w k=>iY k (λx s _=>match k.get x.1 with|some _=>i s k|none=>(match E.get x.1 with|some (.cells l _ _ _)=>(match H.get x.2 with|some (.cells a _ _ _)=>i (dy (I' (aid 50) l a) s) (k.ins x.1 x.2)|_=>k)|_=>k)) w) f
def Qj(n:Nat)(a:Nat->ah Nat)(m i:Nat):ah Nat:=bif ct i n then a i else J (im m (Nat.sub i n))
def DM(n:Nat)(f:aC)(i:Nat):ah Nat:=bif ct i n then J i else oZ f (Nat.sub i n)
def Oe(b:Nat->ah Nat)(l a:aI):Bool:=match cw (nO b 50) l with|some m=>wH (wJ 50) m a|none=>C
def Ug(a:Nat->ah Nat)(n:Nat):Bool:=Cw (λg=>match a g with|some j=>aw j g|none=>C) n
def Cd(n:Nat)(E:dO)(a:aI)(H:Heap)(k:Tr Nat):ah (AV×Heap):=bif Oe (sg E.H.next k) E.args a&&(Cw (ux E.H H (sg E.H.next k)) E.H.next&&Ug (sg E.H.next k) n)then(nO (Qj E.H.next (sg E.H.next k) H.next) 50 E.v).bind λv=>(aaP (Qj E.H.next (sg E.H.next k) H.next) E.news H).bind λb=>J (v,b)else Z
structure Sq(E:dO)(v0:AV)(E':Heap)(fT:aC):Prop where
 len:fT.length=E.news.length
 val:nO (DM E.H.next fT) 50 E.v=J v0
 obj:∀(k:Nat)(x:aI×an),E.news[k]?=J x->∃j l root fl,fT[k]?=J j/\E'.get j=J (.cells l root fl x.2)/\(E'.bp root).1<=j/\E.H.next<=j/\cw (nO (DM E.H.next fT) 50) x.1=J l
set_option maxHeartbeats 1600000 in theorem aj2{x:Rec}(hn:ru P)(eW:nz P x){f:bW}{E:dO}{G:cG}{v0 v:AV}{W:Heap}{T:aC}{kP:Tr Nat}{r:aI}(Bs:wG P f E.args=J G)(hr:x G E.H=J (.ret v0 E'))(O:bg E.H)(R:Sq E v0 E' T)(h:Cd P.globals.size E r H kP=J (v,W))(d:bc)(w:aV)(n:Array aD)(c:di)(F:List di)(N:bg H)(S:bQ gI d H w)(hg:iX P d)(hv:ba d r n.toList):∃A B u,fW d H w A W B/\VR A v u/\((callFunc f n).run P w=.ok (.enter f n) w/\Steps P (ff (Frame.enter P f n .normal) (c::F) w) (ff (c.finish u) F B)):=by
 unfold Cd at h;generalize hσ:sg E.H.next kP=σ at h;rcases M:(Oe σ E.args r&&(Cw (ux E.H H σ) E.H.next&&Ug σ P.globals.size))with _|_;.grind
 rw[M]at h;simp only[aR]at h;obtain⟨v',BD,h⟩:=aE h;obtain⟨H2',I,h⟩:=aE h;obtain⟨rfl,rfl⟩:=jd (bE h);simp only[gu]at M;obtain⟨iE,jW,zV⟩:=M;have L:AU E.H H σ:=by grind[aAt]
 have kp:cw (nO σ 50) E.args=J r:=by grind[Oe,OK,OL]
 have Q:iX P (tc σ d):=λg zW=>by
  have:=SC _ zV g zW;split at this;.rename_i j y;rw[bR,jV]at this;subst this;obtain⟨p,o,h2⟩:=hg j zW;grind[RO]
  grind
 have Db:ba (tc σ d) E.args n.toList:=aHN (λi j p a b=>RO a b) kp hv;obtain⟨e1,e2,e4,fn,b,e5,e6⟩:=KG (Y:=tc σ d) Bs Db;have dX:=eW G E.H _ hr (tc σ d) w _ (c::F) O (L.AB S) Q e1;obtain⟨A,B,u,z,q2,q3⟩:=kF.back dX;obtain⟨aa,hN⟩:=alb _ _ _ N I;have s:∀i j p,Qj E.H.next σ H.next i=J j->tc (DM E.H.next _) A i=J p->news H E.news.length (λk=>(T[k]?).getD 0) d A j=J p:=λi j p o h2=>by
  unfold Qj at o;obtain⟨j',e,h4⟩:=yR h2;unfold DM at e;rw[eQ]at o e;by_cases bY:i<E.H.next
  . simp only[bY,eB,aR]at o e;cases e;have y:∃q,d j=J q/\q=p:=by
     rcases hq:tc σ d i with _|q;.have:=(z.2.2.new i p h4 hq).1;omega
     have:=z.2.2.ext _ _ hq;grind[yR]
    obtain⟨q,h5,rfl⟩:=y;unfold news;rw[if_pos (S.stat.lt N h5)];omega
  .simp only[bY,lA,bX]at o e;rw[w8]at e;have Bq:T[i-E.H.next]?=J j':=e;have K:=(am.1 Bq).1;rw[R.len]at K;grind[news]
 have t:∀i j p,DM _ _ i=J j->A j=J p->tc (DM E.H.next T) A i=J p:=λi j p a b=>RO a b;refine⟨_,B,u,asz L N S z aa (λk hk=>?_),aiR s 50 _ _ _ BD (Ri t 50 _ _ _ R.val q2),Kn hn e5 e6 _ w,q3⟩;have hx:=dA hk;obtain⟨j,l,root,fl,o1,o2,o3,o4,o5⟩:=R.obj k _ hx;obtain⟨m,m1,m2⟩:=hN k _ hx;obtain⟨k1,k2⟩:=BP o5;obtain⟨k3,k4⟩:=BP m1;have y:(T[k]?).getD 0=j:=ai;refine⟨l,root,fl,_,m,ai,ab,ab,m2,ab,by rw[y];exact z.1.get j _ o2,λi b K=>?_⟩;have gd:i<(E.news[k]).1.length:=ai;have X:=dA gd;have D:i<l.length:=ab;have ha:=dA D;have f1:=k2 i _ _ X ha;have f2:=k4 i _ _ X K;exact⟨_,ha,by rw[M6 f1,M6 f2],λvv U=>aiR s 50 _ _ _ f2 (Ri t 50 _ _ _ f1 U)⟩
def KX(n:Nat)(a:aI)(H:Heap)(f:Nat)(l:List dO):ah (AV×Heap):=iY Z (λE _ i=>Option.rec i (λr=>J r) (K7 (auK E.H H f (dy (Nat.rec [] (λk t=>(k,k)::t) n) (I' (aid 50) E.args a)) .nil) λP=>Cd n E a H P)) l
def GU(P:aH)(f:bW)(E:dO):Prop:=∃r fr v E' T,nz P r/\wG P f E.args=J fr/\r fr E.H=J (.ret v E')/\bg E.H/\Sq E v E' T
theorem as8{n:Nat}{a:aI}{f:Nat}{r:AV×Heap}:∀(l:List dO),KX n a H f l=J r->∃E k,E∈l/\Cd n E a H k=J r:=by intro l;induction l with|nil=>simp[KX]|cons E l i=>intro h;unfold KX at h;simp only[O8]at h;generalize u:Cd n E _ H _=x at h;cases x<;>grind[KX,O8]
def lj(n u:Nat)(t:Tr (List dO))(a:cj):cj:=λf args H=>match t.get f with|none=>a f args H|some l=>(match KX n args H u l with|some r=>J (J r)|none=>a f args H)
theorem aMM(y:ru P){n:cj}(p:jL P n){fuel:Nat}{t:Tr (List dO)}(z:∀f l E,t.get f=J l->E∈l->GU P f E):jL P (lj P.globals.size fuel t n):=by
 intro f args H v m h Y w e c s i j g k;unfold lj at h;split at h;.exact p f args H v m h Y w e c s i j g k
 . rename_i l x;split at h;.rename_i r hr;obtain rfl:=bE (bE h);obtain⟨E,F,o,q⟩:=as8 l hr;obtain⟨B,fr,G,E',T,k1,k2,k3,k4,k5⟩:=z f l E x o;obtain⟨A,D,u,a,b,d⟩:=aj2 y k1 k2 k3 k4 k5 q Y w e c s i j g k;exact⟨A,D,u,a,b,.inr d⟩
   .exact p f args H v m h Y w e c s i j g k
def oO:Heap:={tr:=.nil,dp:=.nil,next:=0,bA:=0,bV:=[],cI:=[]}
def jo(l:List (aI×an)):Heap:=fS (λH x=>H.cQ x.1 .ro x.2) l oO
theorem ap2:bg oO where
 get:=λid o h=>by
  have:oO.get id=Z:=by unfold Heap.get oO;rfl
  rw[this]at h;simp at h
 root:=λid l r a e h=>by
  have:oO.get id=Z:=by unfold Heap.get oO;rfl
  rw[this]at h;simp at h
 oB:=λid l r a e h=>by
  have:oO.get id=Z:=by unfold Heap.get oO;rfl
  rw[this]at h;simp at h
 dp:=λr f h=>by
  have:oO.dp.get r=Z:=by unfold oO;rfl
  rw[this]at h;simp at h
 bA:=bS _
theorem atp:∀(l:List (aI×an))(H:Heap),bg H->bg (fS (λH x=>H.cQ x.1 .ro x.2) l H):=by intro l;induction l with|nil=>intro H h;exact h|cons x l i=>intro H h;exact i _ (wA h _ aT)
def mE(l:List (aI×an)):bg (jo l):=atp l oO ap2
def ab0(E:dO)(a:Heap)(f:aC)(k:Nat):Bool:=match oZ E.news k with|some x=>(match oZ f k with|some j=>(match a.get j with|some (.cells l root _ e)=>aw x.2 e&&(bt (a.bp root).1 j&&(bt E.H.next j&&(match cw (nO (DM E.H.next f) 50) x.1 with|some m=>wH (wJ 50) m l|none=>C)))|_=>C)|none=>C)|none=>C
def Wj(E:dO)(v:AV)(a:Heap)(f:aC):Bool:=aw (fc f) (fc E.news)&&((match nO (DM E.H.next f) 50 E.v with|some m=>wJ 50 m v|none=>C)&&Cw (ab0 E a f) (fc E.news))
def entry(P:aH)(r:Rec)(f:bW)(E:dO)(T:aC):Bool:=match wG P f E.args with|some fr=>(match r fr E.H with|some (.ret v E')=>Wj E v E' T|none=>C)|none=>C
theorem aFc{E:dO}{v:AV}{f:aC}(h:Wj E v E' f=V):Sq E v E' f:=by
 unfold Wj at h;simp only[gu,bR,jV,dT]at h;obtain⟨c,e,d⟩:=h;refine⟨c,?_,λk x b=>?_⟩;.grind[OL]
 .have a:=SC _ d k (am.1 b).1;unfold ab0 at a;rw[w8,w8,b]at a;simp only at a;split at a<;>grind[bR,dj,OK,OL]
theorem aqc{r:Rec}{f:bW}{E:dO}{T:aC}(e:nz P r)(i:bg E.H)(h:entry P r f E T=V):GU P f E:=by
 unfold entry at h;split at h
 . rename_i fr d;split at h;.rename_i v E' hr;exact⟨r,fr,v,E',T,e,d,hr,i,aFc h⟩
   .simp at h
 .simp at h
def qO(b:aC):aC->Bool:=iY (λ_=>V) (λx _ i a=>iY C (λy t _=>bif aw x y then i t else C) a) b
def BH(b a:aC):Nat->ah Nat:=iY (λi=>bif qO b []then J i else Z) (λx s h i=>bif qO b (x::s)then J i else h (fg i)) a
def P9:ah Nat->AV|some i=>gZ i|none=>.int .i64 (-1)
def EG(H:Heap)(g:Nat):Bool:=match H.get g with|some (.cells [.top] root _ _)=>bt (H.bp root).1 g|_=>C
def MO(c g:Nat)(k:cj):cj:=λf args H=>bif aw f c then match args with|[.str a,.str b]=>bif EG H g&&ct (fc a) 4294967281 then J (J (P9 (BH b a 0),H))else J Z|_=>J Z else k f args H
theorem aLN(a b:UInt8):aw a.toNat b.toNat=(a==b):=by grind[bR,UInt8.toNat_inj]
theorem agb:∀(b a:List UInt8),qO (b.map kj) (a.map kj)=b.isPrefixOf a:=by intro b;induction b with|nil=>intro a;rfl|cons x b i=>
 intro a;rcases a with _|⟨y,a⟩;.rfl
 show(bif aw _ _ then qO _ _ else C)=_;grind[aLN]
theorem axL(b:List UInt8):∀(a:List UInt8)(i:Nat),BH (b.map kj) (a.map kj) i=if Lib.index a b=-1 then Z else J (i+(Lib.index a b).toNat):=by intro a;induction a with|nil=>intro i;show(bif qO _ (([]:List _).map kj)then J i else Z)=_;grind[agb,Lib.index]|cons x a h=>intro i;show(bif qO _ ((x::a).map _)then J i else BH _ _ _)=_;rw[agb,h];have g:=Lib.index_ge a b;grind[Lib.index]
theorem axM(a b:List UInt8):P9 (BH (b.map kj) (a.map kj) 0)=.int .i64 (Lib.index a b):=by
 rw[axL];have g:=Lib.index_ge a b;by_cases h:Lib.index a b=-1;.rw[if_pos h,h];rfl
 .rw[if_neg h];show AV.int _ _=_;grind
theorem avl{g:Nat}(s:bQ gI Y H w)(b:iX P Y)(z:g<P.globals.size)(h:EG H g=V):∃m,w.cell? ⟨g,0,Z⟩=J (.int .i64 m):=by
 unfold EG at h;split at h
 . rename_i root k e d;obtain⟨p,a,q,t⟩:=b g z;have M:je H g:=λl r f j x=>by simp_all
   have o:=s.obj g p _ a trivial M d;obtain⟨i,n,_,k1,k2,k3,k4,k5⟩:=o;obtain⟨c,u,v⟩:=k4 0 _ rfl;cases v<;>grind[World.cell?]
 grind
theorem aGn{k:cj}(G:jL P k){d g:Nat}(W:g<P.globals.size)(B:∀args w,(callFunc d args).run P w=.ok (.enter d args) w)(D:∀(s sub:ByteArray)(m:Int)(w:aV),s.size<4294967281->w.cell? ⟨g,0,Z⟩=J (.int .i64 m)->Calls P d #[.string s,.string sub] w λe i=>e=.returned (.int .i64 (Lib.index s.data.toList sub.data.toList))/\i=w):jL P (MO d g k):=by
 intro f args H v z h Y w n c A r j p u;unfold MO at h;rw[bR]at h;by_cases o:f=d
 . subst o;simp only[eB,aR]at h;split at h
   . rename_i a b;rcases q:(EG H g&&ct (fc a) 4294967281)with _|_;.grind
     rw[q]at h;obtain⟨rfl,rfl⟩:=jd (bE (bE h));simp only[gu,eQ,jV,dT]at q;obtain⟨m,F⟩:=avl j p W q.1;obtain⟨x,t,e1,M,I⟩:=u.cons_inv;obtain⟨y,t2,e2,N,S⟩:=I.cons_inv;obtain rfl:=S.rU;cases M with|str _ s O=>cases N with|str _ sub Q=>
     have R:n=#[.string s,.string sub]:=by grind
     subst R;subst O;subst Q;have l:s.size<4294967281:=by simp_all
     obtain⟨e,i,fr,⟨E,K⟩,L,T,X⟩:=D s _ m w l F _;subst E;subst K;refine⟨Y,i,.int .i64 (Lib.index s.data.toList sub.data.toList),⟨r,j,Fr.refl Y H i⟩,?_,.inr ⟨B _ _,?_⟩⟩;.rw[axM];exact .int _ _
     .exact Steps.trans L (Steps.head (step_leave_returned X) (Steps.refl _ _))
   grind
 .simp only[o,lA,bX]at h;exact G f _ H v z h Y w n c A r j p u
def cmpL(a:aC):aC->Int:=iY (λb=>iY 0 (λ_ _ _=>-1) b) (λx _ i b=>iY 1 (λy t _=>bif ct x y then-1 else bif ct y x then 1 else i t) b) a
def Q0(c:Nat)(k:cj):cj:=λf args H=>bif aw f c then match args with|[.str a,.str b]=>J (J (.int .i64 (cmpL a b),H))|_=>J Z else k f args H
theorem cmpL_eq:∀a b:List UInt8,cmpL (a.map kj) (b.map kj)=Lib.compareBytes a b:=by intro a;induction a with|nil=>intro b;cases b<;>rfl|cons x a i=>
 intro b;rcases b with _|⟨y,b⟩;.rfl
 show(bif ct x.toNat y.toNat then-1 else bif ct y.toNat x.toNat then 1 else cmpL (a.map kj) (b.map kj))=_;rw[i b,eQ,eQ];show _=if x<y then(-1:Int)else if y<x then 1 else Lib.compareBytes a b;by_cases c:x<y;.have h:x.toNat<y.toNat:=c;simp[c,h]
 . have h:¬x.toNat<y.toNat:=c;by_cases d:y<x;.have e:y.toNat<x.toNat:=d;simp[c,h,d,e]
   .have e:¬y.toNat<x.toNat:=d;simp[c,h,d,e]
theorem aGm{k:cj}(A:jL P k){d:Nat}(q:∀args w,(callFunc d args).run P w=.ok (.enter d args) w)(r:∀(a b:ByteArray)(w:aV),Calls P d #[.string a,.string b] w λe g=>e=.returned (.int .i64 (Lib.compareBytes a.data.toList b.data.toList))/\g=w):jL P (Q0 d k):=by
 intro f args H v o h Y w i c p l m z n;unfold Q0 at h;rw[bR]at h;by_cases j:f=d
 . subst j;simp only[eB,aR]at h;split at h;.rename_i a b;obtain⟨rfl,rfl⟩:=jd (bE (bE h));obtain⟨x,t,e1,E,B⟩:=n.cons_inv;obtain⟨y,t2,e2,F,S⟩:=B.cons_inv;obtain rfl:=S.rU;cases E with|str _ s G=>cases F with|str _ sub I=>
    have K:i=#[.string s,.string sub]:=by grind
    subst K;subst G;subst I;obtain⟨e,g,fr,⟨u,D⟩,L,M,X⟩:=r s _ w _;subst u;subst D;refine⟨Y,g,.int .i64 (Lib.compareBytes s.data.toList sub.data.toList),⟨l,m,Fr.refl Y H g⟩,?_,.inr ⟨q _ _,?_⟩⟩;.rw[cmpL_eq];exact .int _ _
    .exact Steps.trans L (Steps.head (step_leave_returned X) (Steps.refl _ _))
   grind
 .simp only[j,lA,bX]at h;exact A f _ H v o h Y w i c p l m z n
end Go.AM
namespace Go.VM
open Go Go.AM
noncomputable abbrev PP:aH:=Proofs.Tryz.prog
structure FR where
 g:aC
 c:aC
 k:Nat
 p:Bool
 r:List aC
def nt{b:Type}(d:b):List b->Nat->b|[],_=>d|a::_,0=>a|_::l,n+1=>nt d l n
def eE(r:List aC):FR:=⟨[],[],3,V,r⟩
def tq(r:List aC):FR:=⟨[],[],0,V,r⟩
def jI(r:List aC):FR:=⟨[],[],0,C,r⟩
def q3:FR:=⟨[3,15],[72,74,80,82],3,V,[[4,3,2],[4,3,2,20],[6],[4,7,3],[4,7,3,40],[6],[9,8,4,7],[9,10,8,4,7,11],[9,10,8,4,68],[6],[10,8,74,72,73],[10,8,72,73,74,75],[12,10,8,72,73,74,13],[82,12,10,8,80,72,73,74,81],[12,10,8,80,72,73,74,81,82,83],[12,10,8,80,72,73,74,81,82,15],[12,10,8,80,72,73,74,81,82,16,17,15],[12,10,8,80,72,73,74,81,82,18,16,17],[12,10,8,80,72,73,74,81,82,113],[6],[82,12,10,8,80,72,73,74,81],[10,8,74,72,73],[6]]⟩
def q5:=jI [[1,0],[4]]
def q6:=jI [[2,1],[3]]
def q7:=eE [[2,3],[2,3,28],[4],[5,2,3],[2,3,5,33],[5,2,3],[2,3,5,46],[4],[6,3,2],[3,2,6,51],[6,3,2],[3,2,6,75],[4],[4]]
def q8:FR:=⟨[],[39],3,V,[[3,2],[6,3,2],[6,3,2,16],[4],[3,2,25],[4],[7,3,2],[7,3,2,30],[4],[3,2,35],[4],[39,3,2,38],[3,2,38,39,40],[3,2,38,39,8],[9,3,2,38,39],[9,3,2,38,39,47],[4],[39,3,2,38],[4]]⟩
def q9:FR:=⟨[12],[50],0,V,[[6,2,4,3],[6,8,2,4],[6,8,2,4,19],[6,7],[6,9,2,4],[6,9,2,4,25],[6,7],[6,11,2,10,4],[6,11,2,10,4,35],[6,7],[12,6],[50,12,6,49],[12,6,49,50,51],[12,6,49,50,13],[12,6,49,50,14],[12,6,49,50],[50,12,6,49],[6,7]]⟩
def B1:FR:=⟨[],[20],0,V,[[1,0],[6,1,0],[6,1,0,18],[4,5],[7,1,0],[20,7,1,0],[1,0,20,7,21],[1,0,20,8,7],[1,0,20,10,9,8,7],[1,0,20,10,9,8,7,31],[7,1,0,20],[20,7,1,0],[4,5]]⟩
def Wx:=eE [[1],[5,4],[5,4,12],[2,3],[2,3]]
def qm:FR:=⟨[],[8],0,C,[[0,1],[8,0,1,7],[0,1,7,8,9],[5,0,1,7,8],[5,0,1,7,8,16],[4],[8,0,1,7],[4]]⟩
def yC:=jI [[1,2],[3]]
def WW:=eE [[3,0],[4]]
def F4:FR:=⟨[],[3],0,V,[[2,0],[2,3],[2],[2]]⟩
def W5:=tq [[2,0],[2]]
def W8:FR:=⟨[10],[40,45,47],0,V,[[4,7,6,1],[10,4,7,6,11],[10,4,7,6,29],[8,9],[10,12,4,7,6,11],[10,12,4,7,6,39],[8,9],[13,10,12,4,7,6],[13,10,12,4,40,7,6],[13,10,12,4,7,6,40,41],[13,10,12,4,7,6,40,14],[47,13,10,12,4,45,7,6,40,14,46],[10,12,4,45,7,6,40,14,46,47,13,48],[10,12,4,45,7,6,40,14,46,47,13,16],[10,12,4,45,7,6,40,14,46,47,17,13,18],[10,12,4,45,7,6,40,14,46,47,17,13,59],[8,9],[13,10,12,4,45,7,6,40,14,46,47],[47,13,10,12,4,45,7,6,40,14,46],[13,10,4,7,6,40,12,65],[13,10,4,7,6,40,19,20],[13,10,4,7,6,40,21,19,22,20],[13,10,4,7,6,40,21,91],[8,9],[13,10,12,4,7,6,40],[13,10,12,4,40,7,6],[8,9]]⟩
def W9:=eE [[2,3],[4]]
def Xk:FR:=⟨[],[20,22],0,V,[[1],[5,1],[5,1,17],[2,3],[1,6],[22,1,6,20,21],[1,20,21,22,6,23],[1,20,21,22,8,6],[10,1,20,21,22,9,8,6],[10,1,20,21,22,9,8,6,33],[2,3],[1,6,20,21,22],[22,1,6,20,21],[2,3]]⟩
def Xo:FR:=⟨[],[14,16],3,V,[[0],[0,13],[2],[16,14,15],[14,15,16,17],[14,15,16,3,4],[5,14,15,16,3,4],[5,14,15,16,3,4,24],[2],[14,15,16,29],[2],[16,14,15],[2]]⟩
def lM:=eE [[0],[2]]
def Xu:FR:=⟨[4,5],[30,32],3,V,[[4,5,3],[4,5,7,3],[8,4,5,7],[8,4,5,7,20],[6],[4,5,7,28],[6],[32,4,30,5,7,31],[4,30,5,7,31,32,33],[4,30,5,7,31,32,9,10],[4,30,5,7,31,32,45],[6],[32,4,30,5,7,31],[50],[6],[6]]⟩
def XC:=eE [[0],[8],[2],[2]]
def XE:FR:=⟨[],[17,19,24,26],0,V,[[2,0],[4,2,0],[19,4,17,2,18],[4,17,2,18,19,20],[4,17,2,18,19,6],[7,4,17,2,18,19,6],[26,7,24,4,17,2,18,19,25],[24,4,17,2,18,19,25,26,7,27],[24,4,17,2,18,19,25,26,9,7],[7,24,4,17,2,18,19,25,26],[26,7,24,4,17,2,18,19,25],[4,17,2,18,19],[19,4,17,2,18],[2,10,4],[2,4,10,46],[2,10,4],[2,4,10,61],[2,3],[2,4,66],[2,3],[2,3]]⟩
def MW:FR:=⟨[5,7],[],0,C,[[0],[0,4],[2],[2]]⟩
def XO:FR:=⟨[11],[14,26,28],0,V,[[2,1],[2,5,1],[14,2,5,1,13],[2,5,1,13,14,15],[2,5,1,13,14,6],[2,5,1,13,14],[14,2,5,1,13],[28,5,1,26,27],[5,1,26,27,28,29],[5,1,26,27,28,8],[5,1,26,27,28,8,9],[5,1,26,27,28],[28,5,1,26,27],[4]]⟩
def uc:=tq [[0],[0,4],[2],[2]]
def X6:FR:=⟨[],[5,7],3,V,[[0],[7,5,6],[5,6,7,8],[5,6,7,4],[5,6,7,12],[2],[7,5,6],[2]]⟩
def rY:=eE [[1,0],[4]]
def Yi:FR:=⟨[],[38,40],3,V,[[1],[4,1],[4,1,13],[2,3],[1,5],[1,5,21],[5],[6,1,5],[1,6,5,27],[6,1,5],[1,5,6],[7,5],[40,7,38,39],[38,39,40,7,41],[38,39,40,9,7],[7,38,39,40],[40,7,38,39],[2,3]]⟩
def Yr:FR:=⟨[],[8],3,V,[[0,3],[8,0,3,7],[0,3,7,8,9],[5,0,3,7,8],[5,0,3,7,8,16],[4],[8,0,3,7],[4]]⟩
def YH:=eE [[2,1,3],[6]]
def YJ:=eE [[0],[3,0],[0,3,11],[3,0],[0,3,19],[2],[2]]
def YS:=eE [[0],[3,0],[0,3,7],[3,0],[0,3,25],[2],[2]]
def YT:FR:=⟨[],[21,23],3,V,[[1],[4,1],[4,1,13],[2,3],[1,18],[2,3],[5,1],[23,5,1,21,22],[5,1,21,22,23,24],[6,5,1,21,22,23,7],[8,6,5,1,21,22,23,7],[8,6,5,1,21,22,23,7,33],[2,3],[6,5,1,21,22,23,7,39],[2,3],[5,1,21,22,23],[23,5,1,21,22],[2,3]]⟩
def YU:=tq [[2,1],[2,6,4],[2,3]]
def YV:=eE [[1],[1,10],[2],[1,18],[2],[2]]
def YW:=eE [[3,2],[6],[4]]
def YX:=jI [[2,1,3],[4]]
def YY:=eE [[1,2],[1,5],[7],[4]]
def YZ:FR:=⟨[1],[36],0,V,[[2,1],[3,2,1],[3,2,1],[36,3,2,1,35],[3,2,1,35,36,37],[3,2,1,35,36,4],[3,2,1,35,36,5],[3,2,1,35,36],[36,3,2,1,35],[2]]⟩
def Y0:=jI [[0,1,2],[0,7,1,2],[1,2,0,7,15],[1,2,0,7,24],[0,7,1,2],[0,7,1,2],[6]]
def jF:=eE [[3,2],[4]]
def Y1:FR:=⟨[],[4],3,V,[[1],[1,4],[2],[1,4,5],[1,4,5],[1,10],[2],[1,11],[1,15],[2],[2]]⟩
def B5:FR:=⟨[],[13],3,V,[[1,0],[1,0,10],[4],[13,1,0,12],[1,0,12,13,14],[1,0,12,13,5],[1,0,12,13,24],[4],[13,1,0,12],[4]]⟩
def rZ:=eE [[1],[2]]
def Y2:=eE [[0],[3,0],[0,3,11],[3,0],[0,3,29],[2],[2]]
def Y3:FR:=⟨[],[11,13],3,V,[[0],[0,9],[2],[3,0],[13,3,11,12],[3,11,12,13,14],[3,11,12,13,5],[6,3,11,12,13,5],[6,3,11,12,13,5,20],[2],[3,11,12,13,5,25],[2],[3,11,12,13],[13,3,11,12],[2]]⟩
def MY:FR:=⟨[2,3],[],3,V,[[2,3],[6],[4]]⟩
def Y4:FR:=⟨[1,2,3,4,5,7],[],0,V,[[2,3,4,1],[2,3,4,6,5,1],[2,3,4,6,5,1,18],[2,3,4],[2,3,4,5,7,1],[2,3,4,6,5,7],[2,3,4,6,5,7,30],[2,3,4],[2,3,4,5,7,34],[2,3,4,5,7,8,36],[2,3,4,5,7,9,8],[2,3,4,11,5,7,9,10],[2,3,4,11,5,7,9,10,46],[2,3,4],[2,3,4,5,7],[2,3,4,5,7,64],[2,3,4],[2,3,4]]⟩
def Y5:FR:=⟨[23],[],0,C,[[3,2],[7,3,6,2],[7,3,6,2,16],[4,5],[8],[9,8],[9,8,27],[4,5],[4,5]]⟩
def Y6:=eE [[1,0],[6,1,0],[6,1,0,16],[4,5],[4,5]]
def Y7:FR:=⟨[],[9],0,V,[[0],[3],[9,3,8],[3,8,9,10],[3,8,9,4],[3,8,9],[9,3,8],[2]]⟩
def Y8:FR:=⟨[],[6,8],3,V,[[0],[3,0],[8,3,6,7],[3,6,7,8,9],[5,3,6,7,8],[5,3,6,7,8,14],[2],[8,3,6,7],[2]]⟩
def Y9:FR:=⟨[],[11,12,13],3,V,[[1,0],[1,0,5],[6,1,0,5],[6,1,0,11],[12],[4],[4],[1,0,13],[4],[1,0,16],[4],[19],[4],[4]]⟩
def Y':FR:=⟨[],[10],3,V,[[3,2],[10,3,2,8,9],[3,2,8,9,10,11],[3,2,8,9,10,6],[7,3,2,8,9,10],[7,3,2,8,9,10,19],[4],[10,3,2,8,9],[4]]⟩
def Za:=eE [[1],[1,3],[2],[1,17],[2],[31],[2],[2]]
def Zb:=eE [[1],[1,31],[2],[3,1],[1,3,36],[3,1],[1,3,45],[2],[2]]
def Zc:=eE [[1],[1,7],[2],[3],[4,3],[3,4,13],[4,3],[3,4,22],[2],[2]]
def Zd:=eE [[1],[1,3],[1,3,7],[1,3],[4,1,3],[1,4,3,12],[4,1,3],[1,3,4],[2]]
def Ze:=eE [[1],[3,1],[1,3,15],[3,1],[1,3,55],[2],[4,1],[1,4,64],[4,1],[5,1,4],[5,1,4,105],[2],[6,5,1,4],[5,1,4,6,110],[6,5,1,4],[5,1,4,6,119],[2],[2]]
def Zf:=eE [[0],[3,0],[0,3,11],[3,0],[0,3,20],[2],[2]]
def Zg:FR:=⟨[],[16,18],3,V,[[1],[1,9],[2],[1,13],[2],[3,1],[18,3,16,17],[3,16,17,18,19],[3,16,17,18,5],[3,16,17,18,5,22],[2],[3,16,17,18,5,27],[2],[3,16,17,18,5,32],[2],[3,16,17,18],[18,3,16,17],[2]]⟩
def Zh:FR:=⟨[],[8,10],0,C,[[0],[10,8,9],[8,9,10,11],[8,9,10,5],[7,6,8,9,10],[7,6,8,9,10,21],[2,3],[10,8,9],[2,3]]⟩
def Zi:FR:=⟨[1],[],0,C,[[2,1],[2]]⟩
def F6:=jI [[0],[1]]
def Zj:=eE [[0],[0,18],[2],[21],[2],[2]]
def MZ:=jI [[1,0],[2,3]]
def Zk:FR:=⟨[3,4,5],[],3,V,[[5,3,4],[6,7]]⟩
def F7:=jI [[1,0],[2]]
def Zl:=jI [[1,0],[4],[2]]
def Zm:FR:=⟨[2,3,6],[],0,V,[[3,2],[6,3,2],[8,6],[8,6,23],[4,5],[4,5]]⟩
def Ws:FR:=⟨[],[37,39],0,V,[[1],[4,1],[4,1,15],[2,3],[5],[5,6],[5,6,22],[5,6],[9,5,6,8],[9,5,6,8,35],[2,3],[39,5,37,6,38],[37,6,38,39,5,40],[37,6,38,39,11,5],[37,6,38,39,11,5,46],[5,37,6,38,39],[39,5,37,6,38],[5,6,54],[2,3],[2,3]]⟩
def Wt:=eE [[1],[5,1],[5,1,12],[2,3,4],[7,6],[2,3,4]]
def B2:FR:=⟨[1],[],0,C,[[1],[2]]⟩
def Wu:=tq [[1],[4,1],[4,1,8],[2,3],[2,3]]
def Wv:FR:=⟨[],[28,30],3,V,[[3,2],[5,3,2],[5,3,2,11],[4],[3,2,13],[4],[3,2,22],[4],[30,3,28,29],[3,28,29,30,31],[3,28,29,30,7],[3,28,29,30,7,34],[4],[3,28,29,30,7,38],[4],[3,28,29,30],[30,3,28,29],[4]]⟩
def Ww:FR:=⟨[],[42,44],0,C,[[0],[0,6],[2],[0,23],[2],[0,30],[2],[44,0,42,43],[0,42,43,44,45],[0,42,43,44,4,3],[5,0,42,43,44,4,3],[5,0,42,43,44,4,3,53],[2],[0,42,43,44,70],[2],[44,0,42,43],[2]]⟩
def rX:=eE []
def Wy:=eE [[3,0],[5,3,0],[5,3,0,9],[4],[4]]
def Wz:FR:=⟨[],[30,32],0,V,[[6,0,5,1],[6,9,0,5,1],[6,9,0,5,1,17],[6,7,8],[6,0,5,1,22],[6,7,8],[6,0,5,1,28],[6,7,8],[6,32,0,30,5,1,31],[6,0,30,5,1,31,32,33],[6,0,30,5,1,31,32,10,11],[6,0,30,5,1,31,32,48],[6,7,8],[6,32,0,30,5,1,31],[6,12,5],[6,12,5,57],[6,7,8],[6,7,8]]⟩
def WA:=eE [[1],[1,6],[2],[2]]
def WB:=eE [[1],[1,12],[2],[3],[4,3],[3,4,18],[4,3],[3,4,27],[2],[2]]
def MQ:=eE [[1,2],[1,2,5],[6,1,2,5],[1,2,6,5,16],[6,1,2,5],[1,2,5,6],[4]]
def WC:=tq [[1],[1,3],[4,1,3],[1,4,3,11],[4,1,3],[1,3,4],[2]]
def WD:=eE [[0],[3,0],[0,3,7],[3,0],[0,3,16],[2],[2]]
def WE:FR:=⟨[],[19],3,V,[[0],[0,16],[2],[19,0,18],[0,18,19,20],[0,18,19,3],[0,18,19,33],[2],[19,0,18],[2]]⟩
def F3:=jI [[0],[1,2]]
def MR:FR:=⟨[2,3],[],0,C,[[2,3],[4]]⟩
def WG:=jI [[1,0],[5,1,3],[5,19],[2],[2]]
def WH:FR:=⟨[8],[],0,C,[[2,1,0],[3,4]]⟩
def WI:FR:=⟨[],[24,59,61],0,C,[[0,3],[6,0,3],[6,0,3],[6,0,3,24],[6,0,3,24,25],[6,0,3,24,25],[6,0,3,28],[6,0,3,41],[4,5],[7,6,0,3],[7,6,0,3,55],[4,5],[61,0,59,60],[0,59,60,61,62],[0,59,60,61,9],[11,10,0,59,60,61],[11,10,0,59,60,61,72],[4,5],[61,0,59,60],[4,5]]⟩
def WJ:FR:=⟨[5,6],[],3,V,[[1],[4,1],[4,1,10],[2,3],[6,5,1],[6,5],[2,3]]⟩
def WK:FR:=⟨[],[24,26,35,37],3,V,[[0,3],[0,3,15],[4],[0,3,21],[4],[5,0,3],[26,5,24,0,3,25],[5,24,0,3,25,26,27],[5,24,0,3,25,26,7],[5,24,0,3,25,26],[26,5,24,0,3,25],[8,0,5,3],[37,8,0,5,35,36],[8,0,5,35,36,37,38],[8,0,5,35,36,37,10,9],[8,0,5,35,36,37,10,9,45],[8,0,5,35,36,37,47],[4],[0,5,35,36,37,10,11,8],[0,5,35,36,37,10,11,8,60],[4],[0,5,35,36,37,10,11,71],[4],[8,0,5,35,36,37],[37,8,0,5,35,36],[4]]⟩
def WL:=jI [[0],[2],[2,6],[1],[9],[1],[1]]
def WM:FR:=⟨[],[9,11],0,C,[[2,0,1],[11,2,0,1,9,10],[2,0,1,9,10,11,12],[2,0,1,9,10,11,5],[7,2,0,1,9,10,11,6],[7,2,0,1,9,10,11,6,24],[3],[2,0,1,9,10,11],[11,2,0,1,9,10],[3]]⟩
def WN:FR:=⟨[],[20,22],3,V,[[0,5,1],[8,0,5,1],[8,0,5,1,15],[6,7],[0,5,1,19],[6,7],[22,0,20,5,1,21],[0,20,5,1,21,22,23],[0,20,5,1,21,22,10],[0,20,5,1,21,22,35],[6,7],[22,0,20,5,1,21],[11,5,1,0],[11,5,1,0,40],[6,7],[6,7]]⟩
def WO:FR:=⟨[],[24,26],3,V,[[1,2],[6,1,2],[6,1,2,14],[4,5],[1,2,18],[4,5],[7,1],[26,7,24,25],[7,24,25,26,27],[8,7,24,25,26,9],[8,7,24,25,26,9,10],[8,7,24,25,26,9,10,34],[10,8,7,24,25,26],[10,8,7,24,25,26,39],[4,5],[26,7,24,25],[4,5]]⟩
def WQ:=eE [[1],[3,1],[3,1,10],[2],[6],[19],[2],[2]]
def WR:FR:=⟨[1,2,3,4,5,6,7,8],[],0,V,[[2,3,4,1],[2,3,4,5,1],[2,3,4,6,5,1],[2,3,4,6,5,10],[2,3,4,6,5,7,12],[2,3,4,6,5,7,8],[2,3,4,6,5,7,8],[2,3,4,6,5,7,8,16],[2,3,4,6,5,7,8],[2,3,4,6,5,7,8,24],[2,3,4,6,5,7,8,28],[2,3,4],[2,3,4,6,5,7,8],[2,3,4,6,5,7],[2,3,4,6,5,7,41],[2,3,4,6,5],[2,3,4,6,5,48],[2,3,4],[2,3,4]]⟩
def MS:FR:=⟨[3],[],3,V,[[3,0],[4]]⟩
def WS:FR:=⟨[1,5,6,7,8,9],[18,29],3,V,[[1],[7,6,5,1],[7,6,5,11],[7,6,5,8],[7,6,5,8,9],[7,6,5,8,9,18],[7,6,5,8,9],[7,6,5,8,9],[7,6,5,8,29],[7,6,5],[7,6,5],[2,3,4]]⟩
def WT:FR:=⟨[],[10,12,25],0,C,[[1,12,0,10,11],[1,0,10,11,12,13],[1,3,0,10,11,12,4],[6,1,3,5,0,10,11,12],[25,6,1,3,5,0,10,11,12,24],[6,1,3,5,0,10,11,12,24,25,26],[6,1,3,5,0,10,11,12,24,25,8],[6,1,3,5,0,10,11,12,24,25,9],[6,1,3,5,0,10,11,12,24,25,9],[6,1,3,5,0,10,11,12,24,25,9,39],[6,1,3,5,0,10,11,12,24,25],[25,6,1,3,5,0,10,11,12,24],[1,0,10,11,12,57],[1,12,0,10,11]]⟩
def WU:=tq [[1],[5,1],[5,1,9],[2,3,4],[2,3,4]]
def WV:FR:=⟨[1,2,5],[],3,V,[[2,1],[2,1,4,3],[2,1,4,13],[2],[2,1,15],[2],[2,17],[2,5],[2,6],[2,6,22],[2],[2]]⟩
def WX:FR:=⟨[],[7,19,21],0,V,[[1],[1,3],[1,3,7],[1,3,7,8],[1,3,7,8],[2],[3,1,7,16],[21,3,19,20],[19,20,21,3,22],[19,20,21,5,3],[3,19,20,21],[21,3,19,20],[1,3,7,30],[1,3],[2],[1,3,51,7],[1,3,51],[2],[2]]⟩
def WY:FR:=⟨[],[23,25],3,V,[[1],[1,6],[2],[1,15],[2],[3,1],[25,3,23,24],[23,24,25,3,26],[23,24,25,5,3],[23,24,25,5,3,29],[2],[23,24,25,5,36],[2],[3,23,24,25],[25,3,23,24],[2]]⟩
def WZ:=jI [[3,0],[3,0,24],[4],[5,3,0],[5,3,0,29],[4],[3,6,0],[7,3,6,0],[7,3,6,0,44],[4],[3,6,46],[4],[3,6,56],[4],[3,8,6],[3,9,10,11],[92],[4],[4]]
def W0:=eE [[3,2],[5,3,2],[5,3,2,12],[4],[4]]
def W3:FR:=⟨[],[38,40],3,V,[[3,0],[5,3,0],[5,3,0,13],[4],[3,0,24],[4],[6,3],[6,3,36],[4],[40,6,38,39],[6,38,39,40,41],[6,38,39,40,7,8],[9,6,38,39,40,7,8],[9,6,38,39,40,7,8,48],[4],[6,38,39,40,57],[4],[40,6,38,39],[4]]⟩
def B3:=tq [[2,1],[2]]
def W4:=eE [[3,2],[3,2,9],[4],[4]]
def W6:=eE [[0],[0,7],[0],[0,3],[4,0,3],[0,4,3,15],[4,0,3],[0,3,4],[2]]
def W7:=tq [[4,3,2],[4,6,3,2],[4,6,3,2,11],[4,5],[4,5]]
def MT:=eE [[1],[1,3],[4,1,3],[1,4,3,9],[4,1,3],[1,3,4],[2]]
def Xa:FR:=⟨[],[13,15],3,V,[[0,1],[0,1,11],[4],[0,5,1],[15,0,5,13,14],[0,5,13,14,15,16],[0,5,13,14,15,7],[8,0,5,13,14,15,7],[8,0,5,13,14,15,7,23],[4],[0,5,13,14,15,7,28],[4],[0,5,13,14,15,7],[0,5,13,14,15,41],[4],[15,0,5,13,14],[4]]⟩
def Xb:=eE [[5,1,0],[8,7],[8,7,17],[6],[20],[6],[6]]
def Xc:FR:=⟨[3,4,5],[],0,C,[[2,3],[2,4,3],[2,5,4,3],[2,5]]⟩
def Xd:=jI [[3,4,0,7,6],[3,4,0,7,6,14],[8],[3,4,0],[3,4,0,22],[3],[8]]
def Xe:FR:=⟨[],[52,54],3,V,[[3,2],[3,2,16],[3,2,5],[3,2,5,25],[4],[3,2,32,5],[3,2,32],[4],[54,3,52,53],[3,52,53,54,55],[3,52,53,54,7],[8,3,52,53,54],[8,3,52,53,54,62],[4],[54,3,52,53],[4]]⟩
def Xf:FR:=⟨[],[10],0,V,[[4,3,2],[4,5,3,2],[4,5,3,2,10],[4,5,3,2,10,11],[4],[4,2,5,3,22],[4],[4]]⟩
def Xg:=eE [[1],[1,4,3],[1,4,10],[2],[1,13],[2],[2]]
def Xh:FR:=⟨[],[22,24],3,V,[[3,2],[3,2,15],[4,5],[6,2,3],[24,6,2,22,3,23],[2,22,3,23,24,6,25],[2,22,3,23,24,6,8],[10,2,22,3,23,24,9,6],[10,2,22,3,23,24,9,6,35],[4,5],[6,2,22,3,23,24],[24,6,2,22,3,23],[11,3],[11,3,47],[4,5],[56],[4,5],[4,5]]⟩
def Xi:FR:=⟨[1,3,4],[],0,V,[[1],[3,1],[3,6],[3,4],[3,4,10],[3],[3],[2]]⟩
def Xj:FR:=⟨[],[19,21],0,V,[[1],[1,11],[2],[1,14],[2],[3,1],[21,3,19,20],[19,20,21,3,22],[19,20,21,5,3],[3,19,20,21],[21,3,19,20],[2]]⟩
def Xl:FR:=⟨[1,2,4],[],3,V,[[2,1],[2,3,1],[2,3,1,8],[2],[2,11],[2,4],[2,15],[2],[2]]⟩
def Xm:FR:=⟨[1],[4],0,C,[[1],[1,4],[1,4,5],[2],[1,4,8],[1,4,8],[1,4,8],[2],[1,4,14],[2],[1,22],[2],[2]]⟩
def Xn:=eE [[3,2],[3,2,45],[4],[4]]
def MU:FR:=⟨[],[11,13],3,V,[[1],[5,4,1],[13,5,4,11,12],[11,12,13,5,4,14],[11,12,13,5,4,7],[11,12,13,9,5,8,4],[5,4,11,12,13],[13,5,4,11,12],[2,3]]⟩
def Xp:FR:=⟨[],[64],3,V,[[1],[1,12],[2],[1,3],[1,3,17],[2],[1,3,32],[2],[1,3,64],[4,1,3],[4,1,3,69],[2],[112],[2],[2]]⟩
def B4:FR:=⟨[],[9,11,25,27],0,V,[[0],[3,0],[11,3,9,0,10],[9,0,10,11,3,12],[9,0,10,11,5,3],[3,9,0,10,11],[3,9,0,10,11,20],[3,9,0,10,11],[11,3,9,0,10],[6,0],[27,6,25,26],[25,26,27,6,28],[25,26,27,8,6],[6,25,26,27],[27,6,25,26],[2]]⟩
def Xq:=eE [[1],[1,3],[2],[12],[2],[2]]
def Xr:FR:=⟨[],[32,53,55],3,V,[[3,2],[5,3,2],[5,3,2,16],[4],[3,2,25],[4],[32,30,3,2,31],[30,3,2,31,32,33],[30,3,2,31,32,7],[8,30,3,2,31,32],[8,30,3,2,31,32,39],[4],[32,30,3,2,31],[9,3,2],[9,3,2,46],[4],[3,2,51],[4],[55,3,2,53,54],[3,2,53,54,55,56],[3,2,53,54,55,11,10],[12,3,2,53,54,55,11,10],[12,3,2,53,54,55,11,10,65],[4],[3,2,53,54,55,79],[4],[55,3,2,53,54],[4]]⟩
def Xs:FR:=⟨[],[31,33],0,V,[[7,2,1,4],[12,11,7,2],[12,11,7,2,26],[8,9,10],[11,7,2,30],[8,9,10],[33,11,31,7,2,32],[11,31,7,2,32,33,34],[11,31,7,2,32,33,14],[15,11,31,7,2,32,33],[15,11,31,7,2,32,33,41],[8,9,10],[33,11,31,7,2,32],[16,7,2,11],[16,7,2,11,48],[8,9,10],[18,17],[18,17,64],[8,9,10],[8,9,10]]⟩
def Xt:FR:=⟨[2,9],[35],0,V,[[4,2,3],[4,7,2,3,6],[4,7,2,3,6,24],[4,5],[4,8,2,3],[9,4,8,2,3],[35,9,33,4,8,2,3,34],[9,33,4,8,2,3,34,35,36],[9,33,4,8,2,3,34,35,11],[9,33,4,8,2,3,34,35],[35,9,33,4,8,2,3,34],[4,8,2,3],[4,8],[4,5]]⟩
def Xv:FR:=⟨[],[19,21],0,C,[[6,5,4,2,3],[6,5,4,2,3],[6,5,4,17],[7],[21,6,5,4,19,20],[6,5,4,19,20,21,22],[6,5,4,19,20,21,9],[6,5,4,19,20,21,9,29],[7],[6,5,4,19,20,21,9,32],[6,5,4,19,20,21],[21,6,5,4,19,20],[7]]⟩
def Xw:=tq [[1,0],[5],[5],[4]]
def Xx:FR:=⟨[],[16,18],0,C,[[1,2],[5,1,2],[5,1,2,13],[4],[18,1,16,17],[1,16,17,18,19],[1,16,17,18,7],[8,1,16,17,18],[8,1,16,17,18,26],[4],[18,1,16,17],[4]]⟩
def Xy:FR:=⟨[],[73],3,V,[[1],[1,3,4],[1,3,17],[2],[1,22],[2],[1,6,5],[1,6,5,52],[2],[1,7,6,5],[1,7,6,5,66],[2],[1,8,7,6,5],[1,8,7,6,5,73],[9,1,8,7,6,5],[9,1,8,7,6,5,77],[2],[113],[2],[2]]⟩
def Xz:=eE [[3,2],[3,2,10],[4,5],[3,2,19],[4,5],[3,2,27],[4,5],[3,6],[3,6,44],[4,5],[7,3],[7,68],[4,5],[4,5]]
def XA:FR:=⟨[],[8,10,14],3,V,[[1,0],[10,1,0,8,9],[1,0,8,9,10,11],[1,0,8,9,10,6],[1,0,8,9,10,6,7],[1,0,8,9,10,6,7,14],[1,0,8,9,10,6,7,14,15],[1,0,8,9,10,6,7,14,15],[1,0,8,9,10,6,7,14,15],[1,0,8,9,10,6,7,14,15],[1,0,8,9,10,7],[1,0,8,9,10,6,7,14,22],[1,0,8,9,10,6,7,14,22],[1,0,8,9,10,6,7,14,22],[1,0,8,9,10,7],[1,0,8,9,10,6,7,28],[1,0,8,9,10,7],[1,0,8,9,10,36],[4],[10,1,0,8,9],[4]]⟩
def XB:FR:=⟨[],[],1,V,[]⟩
def F5:FR:=⟨[],[],2,V,[]⟩
def MV:=jI []
def XD:FR:=⟨[],[51],3,V,[[3,2],[3,2,47],[4],[51,3,2,50],[3,2,50,51,52],[3,2,50,51,5],[3,2,50,51,65],[4],[51,3,2,50],[4]]⟩
def yD:FR:=⟨[],[15,17],0,C,[[2,1,0],[2,1,0,14],[6],[17,2,1,15,16],[2,1,15,16,17,18],[2,1,15,16,17,8,7],[2,1,15,16,17,9,8],[2,1,15,16,17,30],[6],[17,2,1,15,16],[6]]⟩
def XF:FR:=⟨[],[12,14],0,C,[[1,2],[1,2,10],[4],[14,1,12,13],[1,12,13,14,15],[1,12,13,14,6],[1,12,13,14,21],[4],[14,1,12,13],[4]]⟩
def XG:=eE [[2,1,0],[6]]
def XH:=eE [[1],[3,1],[3,1,12],[2],[5,1,4],[5,1,4,22],[2],[28],[2],[2]]
def XI:FR:=⟨[],[10,12],3,V,[[0],[0,8],[2],[3,0],[12,3,0,10,11],[3,0,10,11,12,13],[3,0,10,11,12,5,4],[3,0,10,11,12,5,4,17],[2],[3,0,10,11,12,5,21],[2],[3,0,10,11,12,5,34],[2],[3,0,10,11,12],[12,3,0,10,11],[2]]⟩
def XJ:FR:=⟨[13,8],[20,22],3,V,[[3,2],[5,3,2],[6,5,3,2],[22,6,5,3,2,20,21],[6,5,3,2,20,21,22,23],[6,5,3,2,20,21,22,8,7],[9,6,5,3,2,20,21,22,8,7],[9,6,5,3,2,20,21,22,8,7,32],[4],[6,5,3,2,20,21,22,8,7,44],[4],[10,6,5,3,2,20,21,22,8,7],[10,6,5,3,2,20,21,22,8,7,49],[4],[6,5,3,2,20,21,22,55],[4],[22,6,5,3,2,20,21],[4]]⟩
def XK:=eE [[4,5,3],[7],[7,16],[6],[6]]
def XL:=eE [[2,3],[2,5,6],[4]]
def XM:FR:=⟨[24],[25,27],0,C,[[1,2],[6,1,2],[6,1,2,14],[4,5],[7,1,2],[7,1,2,19],[4,5],[8,1],[27,8,25,26],[8,25,26,27,28],[8,25,26,27,10],[8,25,26,27],[27,8,25,26],[4,5]]⟩
def XN:FR:=⟨[],[32,34,84,86],0,C,[[3,0],[3,0,11],[4],[3,0,26],[4],[34,3,0,32,33],[3,0,32,33,34,35],[3,0,32,33,34,6,5],[3,0,32,33,34,8,6,5],[3,0,32,33,34,8,6,5,49],[4],[3,0,32,33,34,8,63],[4],[3,0,32,33,34,79],[4],[34,3,0,32,33],[86,3,0,84,85],[3,0,84,85,86,87],[3,0,84,85,86,9,10],[3,0,84,85,86,9,10,91],[4],[3,0,84,85,86,115],[4],[86,3,0,84,85],[4]]⟩
def XP:FR:=⟨[],[8],3,V,[[0,1],[8,0,1,7],[0,1,7,8,9],[5,0,1,7,8],[5,0,1,7,8,16],[4],[8,0,1,7],[4]]⟩
def XQ:=eE [[0],[0,4],[2,3],[0,11],[2,3],[14],[2,3],[2,3]]
def XR:FR:=⟨[],[4],3,V,[[0],[4],[4,5],[4,5],[2,3],[8,4],[8],[2,3],[2,3]]⟩
def XS:=eE [[1],[3,1],[3,1,8],[2],[31],[2],[2]]
def XT:=eE [[0,3],[4]]
def XU:=eE [[2,1,0,8,3],[2,1,0,9,8,3],[2,1,0,9,8,10,3],[2,1,0,9,8,10,3,23],[],[2,1,0,9,8,10,3,29],[],[2,0,9,8,1,10,3,35],[2,0,9,8,1,10,3],[2,0,9,8,3,1,10],[2,0,9,8,3,1,10,11,12],[2,0,9,8,3,1,10,11,12,50],[2,0,9,8,3,1,10,11],[2,0,9,8,3,11,1,10],[2,0,9,8,3,11,1,10,12],[2,0,9,8,3,11,1,10,68],[2,0,9,8,3,11,1,10,72],[2,0,9,8,3,11,1,10,87],[2,0,9,8,3,13],[2,1,0,9,8,3],[2,0,3,14,1,10,15],[2,0,9,3,14,1,10],[2,0,9,3,14,1,16,17,10],[2,0,9,3,14,1,18,16,17],[2,0,9,3,14,1,18,16,17,113],[2,0,9,8,3,14,1],[2,0,9,8,3,14],[2,1,0,9,8,3],[1,0,9,8,3,14,2],[1,0,9,8,3,14],[2,1,0,9,8,3]]
def XV:=eE [[0],[2],[2]]
def XW:FR:=⟨[2,3,4,5,6],[8,10,27],0,C,[[2,1],[10,2,1,8,9],[2,1,8,9,10,11],[2,1,8,9,10,3,4],[2,1,8,9,10,3,4,21],[2,1,8,9,10,3,23],[2,1,8,9,10,5,3,25],[2,1,8,9,10,6,5,3],[2,1,8,9,10,6,5,3,27],[2,1,8,9,10,6,5,3,27,28],[2,1,8,9,10,6,5],[2,1,8,9,10,6,5,3,35],[2,1,8,9,10,6,5],[2,1,8,9,10,46],[10,2,1,8,9]]⟩
def XX:=tq [[4,2,1],[4,2,5],[4,2,5,10],[4,5],[4,5,18],[4],[4]]
def XY:FR:=⟨[],[11],0,V,[[6,1,5,0],[6,1,7,5],[6,1,7,5,11],[6,7],[6,7],[6]]⟩
def XZ:FR:=⟨[3,4,5],[],0,C,[[2,3,1],[2,3,7],[2,4,3,9],[2,5,4,3],[2,5,4,3,12],[25],[38]]⟩
def X0:FR:=⟨[2,3,4],[16,28],0,C,[[2,1],[2,1,10],[3,2,1,12],[4,3,2,1],[4,3,2,5,1],[4,3,2,5,1,16],[4,3,2,5,1],[4,3,2,5,1],[4,3,2,5,1,16,25],[4,3,2,5,1,28],[4,3,2,5,1],[4,3,2,1,37,16],[4,3,2,1,37],[4,3,2,5,1],[4,3,2,5,1],[4,3,2,5,1,50],[4,3,2],[61]]⟩
def X1:FR:=⟨[],[9,45],0,V,[[8,5,4,2,3],[8,5,4,2,9],[8,5,4,2],[8,5,4,2,25],[8,5,4,2],[8,5,4,2],[8,5,4,45],[8,5],[8]]⟩
def X2:FR:=⟨[3,5],[],0,V,[[6,3,5,1],[6,3],[6]]⟩
def X3:FR:=⟨[5],[],0,C,[[0,3],[5,0,6,7],[5,0,47],[4],[],[4]]⟩
def X4:FR:=⟨[],[44,46],3,V,[[4,5,7,1,3],[12,4,11,5,7,1],[12,4,11,5,7,1,30],[10],[4,11,5,7,1,34],[10],[13,4,11,5,7],[13,4,11,5,7,40],[10],[14,4,11,5,15],[46,14,4,11,5,44,15,45],[4,11,5,44,45,46,14,15,47],[4,11,5,44,45,46,17,14,16],[4,11,5,44,45,46,19,18,20],[4,11,5,44,45,46,19,18,70],[10],[14,4,11,5,44,15,45,46],[46,14,4,11,5,44,15,45],[77],[10],[10]]⟩
def X5:=tq [[0],[4],[4,10],[2,3],[2,3]]
def X7:FR:=⟨[],[47,49,62,64],3,V,[[1],[1,10],[2],[1,29],[2],[49,1,47,48],[1,47,48,49,50],[1,47,48,49,4],[5,1,47,48,49],[5,1,47,48,49,58],[2],[49,1,47,48],[6,1],[64,6,1,62,63],[1,62,63,64,6,65],[1,62,63,64,8,6],[9,1,62,63,64,8],[9,1,62,63,64,8,73],[2],[6,1,62,63,64],[64,6,1,62,63],[2]]⟩
def X8:FR:=⟨[3],[],0,C,[[3,0],[3,0],[4]]⟩
def X9:FR:=⟨[51],[32,34,53,55],0,C,[[4,1,6,3],[10,4,1,6,3],[10,4,1,6,3,24],[8,9],[4,1,6,3,31],[8,9],[34,4,32,1,6,3,33],[4,32,1,6,3,33,34,35],[4,32,1,6,3,33,34,12],[13,4,32,1,6,3,33,34],[13,4,32,1,6,3,33,34,43],[8,9],[34,4,32,1,6,3,33],[1,14,6],[55,1,14,53,54],[1,14,53,54,55,56],[1,14,53,54,55,16],[17,1,14,53,54,55],[17,1,14,53,54,55,67],[8,9],[55,1,14,53,54],[8,9]]⟩
def X':=jI [[1,4,0]]
def Ya:=eE [[3,2],[3,5,2],[4]]
def Yb:=tq [[0],[0,8],[2],[3,0],[3,0,13],[3,0],[3,0,25],[3,4,0],[5,3,4,0],[4,0,5,3,32],[5,3,4,0],[4,0,5,3,44],[4,0,5,3],[3,4,0,5],[3,0],[2],[2]]
def Yc:=eE [[0,1],[0,1,5,6],[0,7,1,5,6],[0,8,7,1,5,6],[9,0,8,7,1,5,6],[0,7,1,5,6,9,8,20],[9,0,8,7,1,5,6],[0,8,7,1,5,6,9],[7,1,0,5,6,8,39],[4],[7,1,0,5,10,6,8],[7,1,0,5,6,10,8,44],[7,1,0,5,6,10,8],[7,1,0,5,6,10,8],[7,1,0,5,6,8,10],[7,10,1,0,5,6,8],[7,10,1,0,5,6,8,77],[4],[4]]
def Yd:=eE [[0,6,1,2],[0,1,2,6,12],[0,6,1,2],[7,0,1,2,6],[0,1,2,6,7,30],[7,0,1,2,6],[0,1,2,6,7]]
def Ye:=eE [[6,0,1,2],[6,0,7,1,2],[6,8,0,7],[9,6,8,0,7],[6,8,0,7,9,19],[9,6,8,0,7],[6,8,0,7,9],[10,6,7,0],[6,7,0,10,30],[10,6,7,0],[6,7,0,10],[6,7,0,10]]
def Yf:FR:=⟨[7],[],3,V,[[0,1,6],[0,1,6,15],[0,1,6,7],[0,1,6,8,7],[9,0,1,6,8,7],[0,1,6,8,7,9,33],[9,0,1,6,8,7],[0,1,6,8,7,9,10],[0,1,6,8,7,9,10,43],[0,1,6,8,7,9,10],[0,1,6,8,7,9]]⟩
def Yg:FR:=⟨[9],[49],3,V,[[0,1,2],[0,8,1],[9,0,8,1],[9,0,10,8,1],[9,0,11,10,8,1],[9,0,12,11,10,8],[9,0,12,11,10,8,32],[9,0,12,11,10,34],[9,10,0,12,11],[9,11,10,0,12],[9,12,11,10,0],[11,9],[11,49],[6,7],[11,49,51],[6,7],[11,54],[6,7]]⟩
def Yh:=eE [[6,0,2],[7,6,0],[0,7,6,13],[0,7,6],[6,0,7],[7,6,0]]
def Yj:=eE [[0,2,1],[7,0,2,1],[7,8,0,2,1],[7,0,2,1,8,14],[7,8,0,2,1],[0,2,1,8,7,32],[7,0,2,1,8],[7,0,2,1,8,37],[6],[7,0,2,1,8,41],[6],[7,0,2,1,8],[7,0,2,1,8,61],[7,0,2,1,8,9],[7,0,2,1,8,9,65],[7,0,2,1,8,9],[7,0,2,1,8,9,78],[7,0,2,1,8,9],[7,0,2,1,8,98],[7,0,2,1,8,10],[7,0,2,1,8,10,103],[7,0,2,1,8,10],[7,0,2,1,8,10,116],[7,0,2,1,8,10],[6]]
def Yk:=eE [[0,1,2,3],[0,1,2],[9,10,0,1],[10,0,1,9,43],[9,10,0,1],[9,0,1,10,59],[10,9,0,1],[9,0,1,10,64],[0,1,10,9],[9,0,1,10],[9,10,0,1],[8]]
def Yl:=eE [[0,1,2,3],[0,1,2],[10,11,0,1],[11,0,1,10,43],[10,11,0,1],[0,1,10,11,60],[11,0,1,10],[11,0,1,10,65],[11],[8,9],[0,1,11,10],[10,0,1,11],[10,11,0,1],[11,0,1,10,112],[10,11,0,1],[0,1,10,11,129],[11,0,1,10],[11,0,1,10,134],[0,1,11,10],[10,0,1,11],[10,11,0,1],[11],[8,9]]
def Ym:=eE [[0,2],[0,2,4],[0],[2,0],[2,0,8],[0,2],[0,2],[2]]
def Yn:=eE [[0,2],[0,2,4],[0],[2,0],[2,0,8],[0,2],[2,0],[2,0,14],[0,2],[0,2],[2]]
def Yo:=tq [[4,1,0],[4,1,0,7],[4],[4]]
def Yp:=jI [[3,6,1,4],[10,3,6,1,4],[10,3,6,1,4,14],[8,9],[8,9]]
def Yq:FR:=⟨[10],[24,26],0,C,[[0,2,1],[7,8,0,2,1],[26,7,8,0,2,1,24,25],[7,8,0,2,1,24,25,26,27],[7,8,0,2,1,24,25,26,10,9],[11,7,8,0,2,1,24,25,26,10,9],[11,7,8,0,2,1,24,25,26,10,9,39],[6],[7,8,0,2,1,24,25,26,10,12,9],[7,8,0,2,1,24,25,26,10,12,9,42],[6],[7,8,0,2,1,24,25,26,10,12,9,50],[6],[7,8,0,2,1,24,25,26,10,63],[6],[7,8,0,2,1,24,25,26,10,81],[7,0,2,1,24,25,26,13,8,14,15],[7,0,2,1,24,25,26,13,112],[6],[7,8,0,2,1,24,25,26],[26,7,8,0,2,1,24,25],[6]]⟩
def Ys:FR:=⟨[6],[11,13],3,V,[[1,2],[1,2,10],[4],[13,1,2,11,12],[1,2,11,12,13,14],[1,2,11,12,13,6,5],[1,2,11,12,13,6,5,18],[4],[1,2,11,12,13,6,39],[4],[7,1,2,11,12,13],[7,1,2,11,12,13,49],[4],[13,1,2,11,12],[4]]⟩
def Yt:FR:=⟨[],[63,65],3,V,[[4,3,2],[4,3,2,12],[6],[4,3,47],[6],[7,4,3],[7,4,3,56],[6],[4,3,61],[6],[65,63,4,3,64],[63,4,3,64,65,66],[63,4,3,64,65,9],[10,63,4,3,64,65],[10,63,4,3,64,65,72],[6],[65,63,4,3,64],[11,4],[11,4,88],[6],[92],[6],[6]]⟩
def Yu:=jI [[0,1],[0,1,10],[4],[5,0,1],[5,0,1,15],[5,0,1],[5,0,1,28],[5,6,0,1],[7,5,6,0,1],[6,0,1,7,5,35],[7,5,6,0,1],[6,0,1,7,5,49],[6,0,1,7,5],[5,6,0,1,7],[5,0],[4],[4]]
def Yv:=jI [[4,3,2],[5]]
def MX:FR:=⟨[],[11,13],0,C,[[2,1,0],[13,2,1,11,0,12],[2,1,11,0,12,13,14],[2,1,11,0,12,13,8,7],[2,1,11,0,12,13,8,7,21],[6],[2,1,11,0,12,13,9,8],[10,2,1,11,0,12,13],[10,2,1,11,0,12,13,31],[6],[13,2,1,11,0,12],[38],[6],[6]]⟩
def Yw:=eE [[5,1,3],[8,5,7],[8,5,7,16],[6],[6]]
def Yx:=jI [[0,5,4],[0,5,4,10],[6],[0,5,4,25],[6],[0,5,4],[0,5],[0,5,57],[6],[7,0,8,9],[7,0,94],[6],[],[6]]
def Yy:FR:=⟨[3],[],0,V,[[4,0,3],[4,5,0],[4]]⟩
def Yz:=jI [[4,2,1,0,10,3],[4,2,1,0,11,10,3],[4,2,1,0,11,10,12,3],[4,2,1,0,11,10,12,3,25],[],[4,2,1,0,11,10,12,3,32],[],[4,2,0,11,10,1,12,3,39],[4,2,0,11,10,1,12,3],[4,2,0,11,10,3,1,12],[4,2,0,11,10,3,1,12,13,14],[4,2,0,11,10,3,1,12,13,14,56],[4,2,0,11,10,3,1,12,13],[4,2,0,11,10,3,13,1,12],[4,2,0,11,10,3,13,1,12,14],[4,2,0,11,10,3,13,1,12,75],[4,2,0,11,10,3,13,1,12,80],[4,2,0,11,10,3,13,1,12,97],[4,2,0,11,10,3,15],[4,2,1,0,11,10,3],[4,2,0,3,16,1,12,17],[4,2,0,11,3,16,1,12],[4,2,0,11,3,16,1,18,19,12],[4,2,0,11,3,16,1,20,18,19],[4,2,0,11,3,16,1,20,18,19,125],[4,2,0,11,10,3,16,1],[4,2,0,11,10,3,16],[4,2,1,0,11,10,3],[4,1,0,11,10,3,16,2],[4,1,0,11,10,3,16],[4,2,1,0,11,10,3]]
def YA:=eE [[0],[0,4],[5,0,4],[0,5,4,12],[5,0,4],[0,4,5],[7,6,4,0],[8,7,6,4],[4,8,7,6,25],[8,7,6,4],[4,8,7,6,30],[6,4,8,7],[7,6,4,8],[2,3]]
def YB:=eE [[8,3,0,2],[3,0,2,8,9],[3,0,2,8,9,16],[3,0,2,8,9,36],[3,0,2,9,8],[3,0,2,9,8,52],[3,0,2,9],[8,3,0,2]]
def YC:=jI [[0],[0],[0],[0],[2]]
def YD:=jI [[2,1,0],[6]]
def YE:=jI [[4,0,3,2,1],[4,1,0,3,2],[4,2,1,0],[2],[10]]
def YF:FR:=⟨[],[9,11,15,17],3,V,[[2,1],[2,11,9,10],[2,9,10,11,12],[6,2,9,10,11],[17,6,2,15,9,10,11,16],[6,2,15,9,10,11,16,17,18],[6,2,15,9,10,11,16,17,8,7],[6,2,15,9,10,11,16,17,8,7,22],[4],[6,2,15,9,10,11,16,17,28],[4],[17,6,2,15,9,10,11,16],[2,11,9,10],[4]]⟩
def YG:FR:=⟨[],[6,8],0,V,[[0],[3,0],[8,3,6,7],[6,7,8,3,9],[6,7,8,5,3],[3,6,7,8],[8,3,6,7],[2]]⟩
def YI:=jI [[0,8,3,1,2],[0,3,1,2,8,14],[0,8,3,1,2],[9,0,3,1,2,8],[0,3,1,2,8,9,34],[9,0,3,1,2,8],[0,3,1,2,8,9]]
def YK:=jI [[3,8,0,1,2],[3,8,0,9,1,2],[3,8,10,0,9],[11,3,8,10,0,9],[3,8,10,0,9,11,21],[11,3,8,10,0,9],[3,8,10,0,9,11],[12,3,8,9,0],[3,8,9,0,12,33],[12,3,8,9,0],[3,8,9,0,12],[3,8,9,0,12]]
def YL:FR:=⟨[9],[],0,C,[[0,1,8],[0,1,8,17],[0,1,8,9],[0,1,8,10,9],[11,0,1,8,10,9],[0,1,8,10,9,11,35],[11,0,1,8,10,9],[0,1,8,10,9,11,12],[0,1,8,10,9,11,12,45],[0,1,8,10,9,11,12],[0,1,8,10,9,11]]⟩
def YM:FR:=⟨[11],[55],0,C,[[3,0,1,2],[3,0,10,1],[11,3,0,10,1],[11,3,0,12,10,1],[11,3,0,13,12,10,1],[11,3,0,14,13,12,10],[11,3,0,14,13,12,10,34],[11,3,0,14,13,12,36],[11,3,12,0,14,13],[11,3,13,12,0,14],[11,3,14,13,12,0],[13,11],[13,55],[8,9],[13,55,57],[8,9],[13,60],[8,9]]⟩
def YN:=jI [[8,0,2],[9,8,0],[0,9,8,15],[0,9,8],[8,0,9],[9,8,0]]
def YO:=jI [[0,3,2,1],[9,0,3,2,1],[9,10,0,3,2,1],[9,0,3,2,1,10,16],[9,10,0,3,2,1],[0,3,2,1,10,9,36],[9,0,3,2,1,10],[9,0,3,2,1,10,41],[8],[9,0,3,2,1,10,45],[8],[9,0,3,2,1,10],[9,0,3,2,1,10,65],[9,0,3,2,1,10,11],[9,0,3,2,1,10,11,69],[9,0,3,2,1,10,11],[9,0,3,2,1,10,11,84],[9,0,3,2,1,10,11],[9,0,3,2,1,10,104],[9,0,3,2,1,10,12],[9,0,3,2,1,10,12,109],[9,0,3,2,1,10,12],[9,0,3,2,1,10,12,124],[9,0,3,2,1,10,12],[8]]
def YP:=jI [[0,1,4,2,3],[0,1,4,2],[11,12,0,1,4],[12,0,1,4,11,47],[11,12,0,1,4],[11,0,1,4,12,65],[12,11,0,1,4],[11,0,1,4,12,70],[0,1,4,12,11],[11,0,1,4,12],[11,12,0,1,4],[10]]
def YQ:=jI [[0,1,4,2,3],[0,1,4,2],[12,13,0,1,4],[13,0,1,4,12,47],[12,13,0,1,4],[0,1,4,12,13,66],[13,0,1,4,12],[13,0,1,4,12,71],[13],[10,11],[0,1,4,13,12],[12,0,1,4,13],[12,13,0,1,4],[13,0,1,4,12,120],[12,13,0,1,4],[0,1,4,12,13,139],[13,0,1,4,12],[13,0,1,4,12,144],[0,1,4,13,12],[12,0,1,4,13],[12,13,0,1,4],[13],[10,11]]
def YR:=jI [[1,2,3,0],[1,2,3,18],[1,2],[8,9],[8,9]]
def q0:=tq []
def frT:=[q0,q0,q0,q3,q0,q5,q6,q7,q8,q9,B1,Wx,qm,yC,q5,yC,WW,F4,W5,W8,W9,Xk,Xo,lM,Xu,XC,XE,MW,XO,uc,uc,X6,lM,rY,Yi,qm,Yr,q0,q0,q0,q0,q0,YH,YJ,YS,YT,YU,YV,YW,YX,YY,YZ,Y0,jF,Y1,q0,q0,B5,q0,q0,rZ,Y2,rZ,Y3,MY,Y4,rZ,Y5,Y6,Y7,MW,uc,uc,Y8,Y9,Y',Za,q0,q0,q0,q0,q0,q0,Zb,Zc,Zd,Ze,Zf,Zg,Zh,Zi,F6,F6,Zj,MZ,Zk,F7,MY,Zl,Zm,Ws,Wt,B2,Wu,Wv,Ww,uc,uc,lM,jF,jF,rX,q0,q0,Wy,Wz,q0,q0,q0,q0,WA,q0,q0,q0,WB,rZ,MQ,WC,MQ,WD,WE,lM,F3,lM,lM,q5,lM,lM,MR,WG,WH,WI,F3,WJ,F7,WK,MZ,WL,WM,WN,F3,WO,WQ,WR,MS,WS,WT,WU,MS,WV,WX,WY,rZ,q5,lM,WZ,W0,rX,W3,jF,q0,q5,q0,q0,jF,q0,q0,q0,W4,q0,q0,q0,rZ,q0,q0,q0,W6,q0,q0,W7,q0,q0,MT,MT,lM,lM,rY,qm,F6,F7,Xa,Xb,Xc,Xd,Xe,Xf,Xg,Xh,Xi,Xj,Xl,Xm,q5,q6,jF,qm,q6,Xn,B2,yC,MU,Xp,qm,B4,rX,Xq,Xr,qm,q0,q0,B3,q0,q0,q0,q0,q0,q0,Xs,Xt,rY,Xv,Xw,rY,MU,Xx,Xy,Xz,XA,XB,F5,MV,B2,MR,B2,qm,XD,yD,B5,yD,MV,XF,XG,rY,q0,XH,XI,XJ,XK,XL,q0,q0,q0,q0,XM,XN,q0,q0,q0,q0,q0,q0,q0,rX,B4,XP,XQ,XR,XS,XT,XU,XV,XW,XX,XY,XZ,X0,B4,X1,X2,jF,rZ,B3,X3,q6,X4,X5,B5,B5,q0,q0,q0,q0,q0,X7,B3,jF,q0,q0,q0,q0,q0,X8,jF,q0,jF,X9,q0,q0,Ya,Yb,rY,rX,lM,Yc,q0,Yd,Ye,Yf,Yg,Yh,Yj,rY,Yk,Yl,Ym,Yn,uc,F5,Yo,F5,q0,B4,yD,jF,yD,jF,yD,jF,Yp,Yq,q0,q0,Ys,Yt,q0,q0,q0,q0,q0,q5,q0,q0,q0,X',Yu,Yv,MX,jF,q0,q0,q0,MX,jF,jF,Yw,Yx,Yy,q0,q0,q0,B3,rX,YA,YB,lM,YC,YD,YE,rX,rX,q0,q6,q0,q0,q0,q0,q0,rY,yC,YF,YG,q5,rZ,q0,qm,q0,q0,q0,q0,q0,q0,q0,Yz,q0,yC,q0,q0,q0,q0,q0,q0,q0,q0,q0,q0,q0,q0,YR,q0,q0,q0,q0,q0,q0,q0,q0,q0,q0,q0,q0,q0,qm,q0,q0,q0,q0,q0,q0,q0,YI,YK,YL,YM,YN,YO,YP,YQ]
def fr:=nt q0 frT
def O':ao:=[.bool V,.bool V,.bool V,.bool C,.bool C,.bool C,.bool V,.bool C,.bool C,.bool C,.bool V,.bool V,.bool V,.bool C,.bool V,.bool V]
def Pb:ao:=[.int .i64 0,.int .i64 0,.bool V,.bool V,.bool C,.bool C,.int .i64 2,.int .i64 64,.bool C,.bool C,.bool C,.bool C,.int .i64 2,.int .i64 64,.bool C,.bool C,.bool C,.bool C,.int .i64 2,.int .i64 64,.bool C,.bool C,.bool C,.bool C,.int .i64 1,.int .i64 1,.bool C,.bool C,.bool C,.bool C,.int .i64 1,.int .i64 1,.bool V,.bool V,.bool V,.bool C,.int .i64 1,.int .i64 1,.bool C,.bool C,.bool V,.bool V,.int .i64 1,.int .i64 1,.bool C,.bool V,.bool C,.bool C,.int .i64 2,.int .i64 2,.bool C,.bool C,.bool C,.bool C,.int .i64 1,.int .i64 1,.bool V,.bool V,.bool V,.bool C,.int .i64 1,.int .i64 1,.bool C,.bool C,.bool V,.bool V]
def inL(l:aC)(f:Nat):Bool:=l.any (aw f)
def qO:aC->aC->Bool|[],_=>V|a::s,b::t=>aw a b&&qO s t|_::_,[]=>C
def Dg(s:aC):Nat->aC->ah Nat|i,[]=>bif qO s []then J i else Z|i,b::t=>bif qO s (b::t)then J i else Dg s (i+1) t
def acy:DV->ao|.ay l _ _=>l|_=>[]
def rR(l:ao)(e n:Nat):DV:=match l with|[]=>.nl|_=>.ay l e n
def oG:DV->Int|.int _ n=>n|_=>0
def uO:DV->Bool|.int .i64 _=>V|_=>C
def mh(l:ao):ao:=((l.map oG).mergeSort λx y=>decide (x<=y)).map (DV.int .i64)
def xR(l:ao):ao:=(tv (l.map oG)).map (DV.int .i64)
def CU(e s b:Nat):ao->ah SV|[.nl,.int .i64 (.ofNat n)]=>bif bt (n*b) bm&&bt n bm then J (bif aw n 0 then .dv .nl .any else .dv (.ay [] e s) (.ex e))else Z|_=>Z
def sw(n:Nat):Bool:=ct n 1000000000
def cf:bU:={
 aq:=λg=>bif aw g 0 then J O' else bif aw g 1 then J Pb else Z
 iU:=λf args=>bif aw f 282 then(match args with|[.str a,.str b]=>bif ct a.length 4294967281 then J (J (.dv (match Dg b 0 a with|some i=>goN i|none=>.int .i64 (-1)) .no))else J Z|_=>J Z)else bif aw f 4 then(match args with|[]=>J (J (.dv (.bool V) .no))|_=>J Z)else bif aw f 334 then J (CU 3 1 8 args)else bif aw f 350 then J (CU 64 8 88 args)else bif aw f 400 then J (CU 373 2 16 args)else bif aw f 248 then J Z else bif aw f 249 then(match args with|[.nl]=>J (J (.dv .nl .no))|[.ay (x::l) 3 1]=>bif(x::l).all uO&&sw (x::l).length then J (J (.dv (rR (xR (x::l)) 3 1) .no))else J Z|_=>J Z)else bif aw f 347 then(match args with|[.ay l 75 14,.int .i64 (.ofNat 0),.ay [x] 75 14]=>bif sw l.length then J (J (.dv (.ay (x::l) 75 14) .no))else J Z|_=>J Z)else bif aw f 349 then(match args with|[.ay l 75 14,.int .i64 (.ofNat i),.int .i64 (.ofNat j)]=>bif sw l.length&&(ct i j&&bt j l.length)then J (J (.dv (.ay (l.take i++l.drop j) 75 14) .no))else J Z|_=>J Z)else bif aw f 111 then(match args with|[.str a,.str b]=>J (J (.dv (.int .i64 (cmpL a b)) .no))|_=>J Z)else bif aw f 263 then J (CU 80 5 56 args)else Z
 AI:=λf=>aw f 28||aw f 51||aw f 305||aw f 9
 nZ:=λf=>aw f 27
 iw:=λf=>(fr f).p
 tH:=λf=>(fr f).g
 zF:=λf=>(fr f).c
 rf:=λf=>aw f 157
 fk:=λf=>(fr f).k
 qh:=λf d z=>bif aw f 248 then(match d,z with|.nl,[]=>J (.nl,.tp [])|.ay (x::l) 3 1,[]=>bif(x::l).all uO&&sw (x::l).length then J (rR (mh (x::l)) 3 1,.tp [])else Z|_,_=>Z)else Z
 live:=λf=>nt [] ([]::(fr f).r)
 keep:=λf=>nt [] (fr f).r}
abbrev CC(n:Nat)(a:List DV)(v:bh):=ev PP cf (.call n a .no .empty)=J v
end Go.VM
namespace Go.VM
open Go Go.AM
variable{α β:Type}{want z:Bool}{x:DV}{rs:List oK}{a s t:Nat}{f:SV->SV}{gs:aC}{P:aH}{e:an}{l:ao}
theorem vp{n:Nat}(h:s<n):ct s n=V:=aT
theorem kS{b:Nat}(h:a≠b):aw a b=C:=by simp_all[Bool.eq_false_iff]
theorem bB{x y:ah α}{f:α->ah β}(h:x=y):x.bind f=y.bind f:=ai
theorem bC{c d:Bool}{a b:α}(h:c=d):cond c a b=cond d a b:=ai
section
variable{P:aH}{cf:bU}{rec:dR}{rd:ah Nat}{O:St}{k:eF->ah bh}
inductive Tg{α:Type}:α->Type|mk(a:α):Tg a
inductive Hd(α:Type)|mk(a:α)(t:Tg a)
def Hd.get{b:Type}:Hd b->b|.mk a _=>a
def Ru(P:aH)(c:bU)(r:dR)(d:ah Nat)(b:Hd bM)(k:eF->ah bh):eF->ah bh|.fG O=>exec P c r d b.get O k|.ext i O=>k (.ext i O)|.rt O=>k (.rt O)
def Km(d:Nat)(k:eF->ah bh):eF->ah bh|.fG O=>k (.fG O)|.ext i O=>bif aw i d then k (.fG O)else k (.ext i O)|.rt O=>k (.rt O)
def B6(P:aH)(r:List oK):eF->ah bh|.fG O|.rt O=>(tG P r O).bind λy=>J (.val (Dt y.1) y.2.g)|.ext ..=>Z
theorem asx{a b:bM}:exec P cf rec rd (.seq a b) O k=exec P cf rec rd a O (Ru P cf rec rd (.mk b (.mk b)) k):=by rfl
theorem aso{i:Nat}{b:bM}:exec P cf rec rd (.block i b) O k=exec P cf rec rd b O (Km i k):=by rfl
theorem aIT{b:bM}{t:Tg b}:Ru P cf rec rd (.mk b t) k (.fG O)=exec P cf rec rd b O k:=(rfl)
theorem aIS{b:Hd bM}{i:Nat}:Ru P cf rec rd b k (.ext i O)=k (.ext i O):=(rfl)
theorem aIU{b:Hd bM}:Ru P cf rec rd b k (.rt O)=k (.rt O):=(rfl)
theorem amH{i:Nat}:Km i k (.fG O)=k (.fG O):=(rfl)
theorem amI{i:Nat}:Km i k (.rt O)=k (.rt O):=(rfl)
theorem amF{i:Nat}:Km i k (.ext i O)=k (.fG O):=by show cond _ _ _=_;simp_all
theorem amG{i d:Nat}(h:i≠d):Km d k (.ext i O)=k (.ext i O):=by show cond _ _ _=_;grind[kS]
theorem aHH:B6 P rs (.fG O)=(tG P rs O).bind λy=>J (.val (Dt y.1) y.2.g):=(rfl)
theorem aHI:B6 P rs (.rt O)=(tG P rs O).bind λy=>J (.val (Dt y.1) y.2.g):=(rfl)
theorem asW{s:St}:tG P [] s=J ([],s):=(rfl)
theorem asV{s:St}{r:oK}{l:List oK}:tG P (r::l) s=(Jg P s r).bind λx=>(tG P l x.2).bind λy=>J (x.1::y.1,y.2):=(rfl)
theorem aHB{s:St}{t:Tmp}:Jg P s (.tmp t)=u7 s t:=(rfl)
def OB:SV->ah (DV×aM)|.dv d o=>J (d,o)|_=>Z
theorem aHy{s:St}{t:Tmp}:u7 s t=(look s.sl t).bind λv=>(OB v).bind λr=>J (r,{s with sl:=put s.sl t (leave v)}):=by
 unfold u7;rcases look _ t with _|v;.rfl
 cases v<;>rfl
theorem bs{a:α}{f:α->ah β}:(J a).bind f=f a:=(rfl)
theorem ctt{a b:α}:cond V a b=a:=(rfl)
theorem ctf{a b:α}:cond C a b=b:=(rfl)
theorem aok{c:Bool}{x y:ah α}{f:α->ah β}:(bif c then x else y).bind f=bif c then x.bind f else y.bind f:=ai
theorem cond_not{c:Bool}{x y:α}:(bif !c then x else y)=bif c then y else x:=aT
theorem asy:exec P cf rec rd .skip O k=k (.fG O):=(rfl)
theorem asr{i:Nat}:exec P cf rec rd (.exit i) O k=k (.ext i O):=(rfl)
theorem asv:exec P cf rec rd .ret O k=k (.rt O):=(rfl)
def OA(P:aH)(c:bU)(r:dR)(d:ah Nat)(a b:Hd bM)(s:St)(k:eF->ah bh):DV->ah bh|.bool x=>bif x then exec P c r d a.get s k else exec P c r d b.get s k|_=>Z
theorem asp{c:aK}{a b:bM}:exec P cf rec rd (.cond c a b) O k=(bj cf.aq O c).bind (OA P cf rec rd (.mk a (.mk a)) (.mk b (.mk b)) O k):=by
 show(match bj _ O c with|some (.bool x)=>_|_=>Z)=_;rcases bj _ O c with _|v;.rfl
 cases v<;>rfl
theorem aoi{a:bM}{t:Tg a}{b:Hd bM}:OA P cf rec rd (.mk a t) b O k (.bool V)=exec P cf rec rd a O k:=(rfl)
theorem aoh{b:bM}{t:Tg b}{a:Hd bM}:OA P cf rec rd a (.mk b t) O k (.bool C)=exec P cf rec rd b O k:=(rfl)
def ahR(k:eF->ah bh)(s:St):ah bh:=k (.fG s)
def re(P:aH)(c:bU)(r:dR)(g a:aC)(o l:Hd (List aB))(k:eF->ah bh)(s:St):ah bh:=(kf P c r g a C ⟨o.get⟩ l.get 0 [] s).bind (ahR k)
inductive sG|ex(rd:Option Nat)(a:Hd bM)(O:St)(k:eF->Option bh)|so(gs cr:List Nat)(os l:Hd (List aB))(k:eF->Option bh)(O:St)(o:Hd aB)|sk(gs cr:List Nat)(os l:Hd (List aB))(k:eF->Option bh)(O:St)(d:Option Tmp)|bd(a:sG)(f:bh->Option bh)
def kg(P:aH)(c:bU)(r:dR):sG->ah bh|.ex rd a O k=>exec P c r rd a.get O k|.so gs cr s l k O o=>(dG P c r gs cr l.get O o.get).bind (re P c r gs cr s l k)|.sk gs cr s l k O d=>(aG O d (.tp [])).bind (re P c r gs cr s l k)|.bd a f=>(kg P c r a).bind f
def W(P:aH)(c:bU)(r:dR)(a:sG):ah bh:=kg P c r a
theorem ak2{a:sG}{f:bh->ah bh}:(W P cf rec a).bind f=W P cf rec (.bd a f):=(rfl)
theorem sp{A B:sG}{r:ah bh}(h:z=V->kg P cf rec A=r)(a:z=C->kg P cf rec B=r):(bif z then W P cf rec A else W P cf rec B)=r:=by
 cases z;.exact a rfl
 .exact h rfl
theorem aoj{a b:Hd bM}:OA P cf rec rd a b O k (.bool z)=bif z then W P cf rec (.ex rd a O k)else W P cf rec (.ex rd b O k):=(rfl)
theorem Jp{c:aC}{p:Array aB}:∀(l:List aB)(i j:Nat)(log:List (Nat×Kx))(O:St),kf P cf rec gs c C p l i log O=kf P cf rec gs c C p l j log O:=by intro l;induction l with|nil=>intro i j log O;rfl|cons o l h=>intro i j log O;unfold kf;congr 1;funext w;grind
def FA(l:aC)(k:eF->ah bh):eF->ah bh|.fG O=>k (.fG (mask l O))|o=>k o
theorem aBT{l:aC}:FA l k (.fG O)=k (.fG (mask l O)):=(rfl)
theorem asu{i:Nat}{o:List aB}:exec P cf rec rd (.region i ⟨o⟩ C) O k=re P cf rec (cf.tH O.fn) (cf.zF O.fn) (.mk o (.mk o)) (.mk o (.mk o)) (FA (cf.keep O.fn i) k) O:=(rfl)
def ld(r:dR)(b:Hd bM)(s:St)(d:ah Nat):ah bh:=r (.loop b.get s d)
theorem ass{b:bM}:exec P cf rec rd (.loop b) O k=(ld rec (.mk b (.mk b)) (mask (cf.live O.fn (C4 b)) O) rd).bind (fI k):=(rfl)
variable{gs cr:aC}{ops:Array aB}{l:List aB}{j:Nat}{log:List (Nat×Kx)}{d:ah Tmp}{op:Op}{ty:an}{pos:String}{af:Array Edge}{wh:ah (Nat×Bool)}
section
variable{os:Hd (List aB)}{tl:Tg l}{o:aB}{tg:Tg o}
theorem aH4{t:Tg []}:re P cf rec gs cr os (.mk [] t) k O=k (.fG O):=(rfl)
theorem aH2{t:Tg (⟨d,op,ty,pos,af,Z⟩::l)}:re P cf rec gs cr os (.mk (⟨d,op,ty,pos,af,Z⟩::l) t) k O=(dG P cf rec gs cr l O ⟨d,op,ty,pos,af,Z⟩).bind (re P cf rec gs cr os (.mk l (.mk l)) k):=by
 show((dG P cf _ gs cr l O _).bind _).bind _=_;rcases dG P cf _ gs cr l O _ with _|s;.rfl
 show(kf P cf _ gs cr _ _ l 1 [] _).bind _=_;rw[Jp l 1 0];rfl
def NM(o:Hd (List aB))(s:St)(i:Nat)(w:Bool):ah Bool:=yX ⟨o.get⟩ s ⟨Z,.assign (.tmp 0),0, "",#[],J (i,w)⟩
def Pd(P:aH)(c:bU)(r:dR)(g a:aC)(s l:Hd (List aB))(k:eF->ah bh)(t:St)(o:Hd aB)(w:Bool):ah bh:=bif w then(dG P c r g a l.get t o.get).bind (re P c r g a s l k)else(aG t o.get.dst (.tp [])).bind (re P c r g a s l k)
theorem aH3{i:Nat}{t:Tg (⟨d,op,ty,pos,af,J (i,want)⟩::l)}:re P cf rec gs cr os (.mk (⟨d,op,ty,pos,af,J (i,want)⟩::l) t) k O=(NM os O i want).bind (Pd P cf rec gs cr os (.mk l (.mk l)) k O (.mk ⟨d,op,ty,pos,af,J (i,want)⟩ (.mk _))):=by show((NM os O i _).bind _).bind _=_;cases NM os O i _ with|none=>rfl|some w=>cases w with
 |true=>
 show((dG P cf _ gs cr l O _).bind _).bind _=(dG P cf _ gs cr l O ⟨d,op,ty,_,af,_⟩).bind _;rcases dG P cf _ gs cr l O _ with _|s;.rfl
 show(kf P cf _ gs cr _ _ l 1 [] _).bind _=_;rw[Jp l 1 0];rfl|false=>
 show((aG O d _).bind _).bind _=(aG O d _).bind _;rcases aG O d _ with _|s;.rfl
 show(kf P cf _ gs cr _ _ l 1 [] _).bind _=_;rw[Jp l 1 0];rfl
theorem auH:Pd P cf rec gs cr os (.mk l tl) k O (.mk o tg) V=(dG P cf rec gs cr l O o).bind (re P cf rec gs cr os (.mk l tl) k):=(rfl)
theorem auG:Pd P cf rec gs cr os (.mk l tl) k O (.mk o tg) C=(aG O o.dst (.tp [])).bind (re P cf rec gs cr os (.mk l tl) k):=(rfl)
theorem auI:Pd P cf rec gs cr os (.mk l tl) k O (.mk o tg) z=bif z then W P cf rec (.so gs cr os (.mk l tl) k O (.mk o tg))else W P cf rec (.sk gs cr os (.mk l tl) k O o.dst):=(rfl)
theorem aMt{r:ah Nat}{a:bM}{t:Tg a}:kg P cf rec (.ex r (.mk a t) O k)=exec P cf rec r a O k:=(rfl)
theorem aMv:kg P cf rec (.so gs cr os (.mk l tl) k O (.mk o tg))=(dG P cf rec gs cr l O o).bind (re P cf rec gs cr os (.mk l tl) k):=(rfl)
theorem aMu{l:Hd (List aB)}:kg P cf rec (.sk gs cr os l k O d)=(aG O d (.tp [])).bind (re P cf rec gs cr os l k):=(rfl)
theorem aMs{a:sG}{f:bh->ah bh}:kg P cf rec (.bd a f)=(kg P cf rec a).bind f:=(rfl)
end
def DI:List aB->Nat->ah Tmp|[],_=>Z|a::_,0=>a.dst|_::l,i+1=>DI l i
theorem aJF{a:aB}{l:List aB}:DI (a::l) 0=a.dst:=rfl
theorem aJE{a:aB}{l:List aB}{i:Nat}:DI (a::l) (i+1)=DI l i:=rfl
theorem ajl:∀(l:List aB)(i:Nat),(l[i]?).bind (·.dst)=DI l i|[],_=>by simp[DI]|a::_,0=>rfl|a::l,i+1=>by simp only[J1];exact ajl l i
def NN(w:Bool):ah SV->ah Bool|some (.dv (.bool b) _)=>J (b==w)|some (.tp [])=>J C|_=>Z
def aar(s:cX)(w:Bool):ah Tmp->ah Bool|some d=>NN w (look s d)|none=>J C
theorem aMA{o:List aB}{t:Tg o}{i:Nat}:NM (.mk o t) O i want=aar O.sl want (DI o i):=by unfold NM yX;simp only[Hd.get,List.getElem?_toArray,ajl];cases DI o i with|none=>rfl|some d=>simp only[aar];unfold NN;rfl
theorem aMD{s:cX}{d:Tmp}:aar s want (J d)=NN want (look s d):=rfl
theorem aMB{b:Bool}{o:aM}:NN want (J (.dv (.bool b) o))=J (b==want):=rfl
theorem aMC:NN want (J (.tp []))=J C:=rfl
theorem Dm{m n:Nat}{x:α}{t:List (Nat×α)}:look ((m,x)::t) n=if m=n then J x else look t n:=by show cond _ _ _=_;simp_all
theorem aAX{n:Nat}:look ([]:List (Nat×α)) n=Z:=rfl
theorem aiz{m n:Nat}{x y:α}{t:List (Nat×α)}:put ((m,y)::t) n x=if m=n then(n,x)::t else(m,y)::put t n x:=by show cond _ _ _=_;simp_all
theorem azk{d:DV}{o:aM}:pP s (.dv d o)=.dv d o:=rfl
theorem azr{l:List (DV×aM)}:pP s (.tp l)=.tp l:=rfl
theorem azo{b:Nat}:pP s (.lp a b)=.lp a b:=rfl
theorem azl{d:DV}:pP s (.ev d)=.ev d:=rfl
theorem azm{b:Nat}:pP s (.gr a b)=.gr a b:=rfl
theorem azn:pP s (.hd a)=.hd a:=rfl
theorem azj:pP s .dd=.dd:=rfl
theorem azq:pP s (.sr t)=if t=s then .dd else .sr t:=by show cond _ _ _=_;simp_all
theorem azp{i f:Nat}:pP s (.se t i f)=if t=s then .dd else .se t i f:=by show cond _ _ _=_;simp_all
theorem aI6{v:SV}:aG O Z v=J O:=rfl
section
variable{fn n s:Nat}{sl:cX}{lb:dV}{g:GH}{dd:DV}{o:aM}
theorem aI1(h:s<n):aG ⟨fn,n,sl,lb,g⟩ (J s) (.dv dd o)=J ⟨fn,n,put (iu sl s) s (.dv dd o),lb,g⟩:=by show cond (ct s n&&!C) _ _=_;grind[vp]
theorem aI9{l:List (DV×aM)}(h:s<n):aG ⟨fn,n,sl,lb,g⟩ (J s) (.tp l)=J ⟨fn,n,put (iu sl s) s (.tp l),lb,g⟩:=by show cond (ct s n&&!C) _ _=_;grind[vp]
theorem aI5{b:Nat}(h:s<n):aG ⟨fn,n,sl,lb,g⟩ (J s) (.lp a b)=J ⟨fn,n,put (iu sl s) s (.lp a b),lb,g⟩:=by show cond (ct s n&&!C) _ _=_;grind[vp]
theorem aI2(h:s<n):aG ⟨fn,n,sl,lb,g⟩ (J s) (.ev dd)=J ⟨fn,n,put (iu sl s) s (.ev dd),lb,g⟩:=by show cond (ct s n&&!C) _ _=_;grind[vp]
theorem aI4(h:s<n):aG ⟨fn,n,sl,lb,g⟩ (J s) (.hd a)=J ⟨fn,n,put (iu sl s) s (.hd a),lb,g⟩:=by show cond (ct s n&&!C) _ _=_;grind[vp]
theorem aI3{b:Nat}(h:s<n):aG ⟨fn,n,sl,lb,g⟩ (J s) (.gr a b)=J ⟨fn,n,put (iu sl s) s (.gr a b),lb,g⟩:=by show cond (ct s n&&!C) _ _=_;grind[vp]
theorem aI8(h:s<n)(k:a≠s):aG ⟨fn,n,sl,lb,g⟩ (J s) (.sr a)=J ⟨fn,n,put (iu sl s) s (.sr a),lb,g⟩:=by show cond (ct s n&&!(aw a s)) _ _=_;grind[vp,kS]
theorem aI7{i f:Nat}(h:s<n)(k:a≠s):aG ⟨fn,n,sl,lb,g⟩ (J s) (.se a i f)=J ⟨fn,n,put (iu sl s) s (.se a i f),lb,g⟩:=by show cond (ct s n&&!(aw a s)) _ _=_;grind[vp,kS]
theorem ahX:aQ f ⟨fn,n,sl,lb,g⟩ (.tmp t)=match look sl t with|some v=>⟨fn,n,put sl t (f v),lb,g⟩|none=>⟨fn,n,sl,lb,g⟩:=rfl
theorem aEB{v:aD}:aQ f O (.const v)=O:=rfl
theorem aEC{v:bW}:aQ f O (.func v)=O:=rfl
theorem aED{v:Nat}:aQ f O (.global v)=O:=rfl
end
section
variable{aq:Nat->ah ao}{fn n:Nat}{sl:cX}{lb:dV}{g:GH}
def BS:ah SV->ah SV|some .dd=>Z|r=>r
theorem aEY:cU aq O (.tmp t)=BS (look O.sl t):=by rfl
theorem aCk{d:DV}{o:aM}:BS (J (.dv d o))=J (.dv d o):=rfl
theorem aCo{b:Nat}:BS (J (.lp a b))=J (.lp a b):=rfl
theorem aCl{d:DV}:BS (J (.ev d))=J (.ev d):=rfl
theorem aCr{d}:BS (J (.tp d))=J (.tp d):=rfl
theorem aCq:BS (J (.sr a))=J (.sr a):=rfl
theorem aCp{b c:Nat}:BS (J (.se a b c))=J (.se a b c):=rfl
theorem aCm{b:Nat}:BS (J (.gr a b))=J (.gr a b):=rfl
theorem aCn:BS (J (.hd a))=J (.hd a):=rfl
theorem aER{k:fR}{z:Int}:cU aq O (.const (.int k z))=J (.dv (.int k z) .no):=rfl
theorem aEQ{b:Bool}:cU aq O (.const (.bool b))=J (.dv (.bool b) .no):=rfl
theorem aES:cU aq O (.const (.slice Z 0 0))=J (.dv .nl .any):=rfl
theorem aEW{f:bW}:cU aq O (.func f)=J (.dv (.func f [] []) .no):=rfl
theorem aEX{i:Nat}:cU aq O (.global i)=(aq i).map λl=>.ev (.agg l):=rfl
theorem aE1{x:aK}:bj aq O x=(cU aq O x).bind CK:=rfl
theorem apQ{d:DV}{o:aM}:CK (.dv d o)=J d:=rfl
end
section
variable{x y a b c:aK}{fn n:Nat}{sl:cX}{lb:dV}{g:GH}{t:an}
def vP(s:St)(x:aK)(d:Tmp)(u:iK):SV->ah St|.tp l=>aG (aQ leave s x) (J d) (.tp l)|.dv dd o=>(match u,o,x with|.take,.ex _,_=>(aG s (J d) (.dv dd o)).map λs=>aQ (λ_=>.sr d) s x|.take,_,_=>aG (aQ leave s x) (J d) (.dv dd o)|.len,.ex _,_=>(nd dd).bind λn=>aG s (J d) (.hd n)|.ref,.ex _,.tmp t=>aG s (J d) (.sr t)|_,.any,_=>aG s (J d) (.dv dd o)|_,_,_=>aG (aQ share s x) (J d) (.dv dd .no))|v=>aG s (J d) v
theorem akT{d:Tmp}:dG P cf rec gs cr l O ⟨J d,.move x,ty,pos,af,wh⟩=(cU cf.aq O x).bind (vP O x d (Gz cf.fk cr l d)):=by
 show(cU _ O x).bind _=(cU _ O x).bind _;rcases cU _ O x with _|v;.rfl
 cases v<;>rfl
theorem akx:dG P cf rec gs cr l O ⟨d,.assign x,ty,pos,af,wh⟩=(cU cf.aq O x).bind λv=>aG (aQ leave O x) d v:=(rfl)
theorem aiC:∀{sl:cX}{t:Nat}{v:SV},look sl t=J v->put sl t v=sl
 |[],_,_,h=>by simp[look]at h|(m,y)::l,t,v,h=>by
  rw[Dm]at h;rw[aiz];by_cases e:m=t;.subst e;rw[if_pos rfl]at h|-;rw[bE h]
  .rw[if_neg e]at h|-;rw[aiC h]
theorem ahW{t:Nat}{v:SV}(h:look sl t=J v)(k:f v=v):aQ f ⟨fn,n,sl,lb,g⟩ (.tmp t)=⟨fn,n,sl,lb,g⟩:=by grind[ahX,aiC]
theorem aBz{t d:Nat}{u:iK}{a:DV}(h:look sl t=J (.dv a .no)):vP ⟨fn,n,sl,lb,g⟩ (.tmp t) d u (.dv a .no)=aG ⟨fn,n,sl,lb,g⟩ (J d) (.dv a .no):=by have e1:aQ leave _ _=(⟨fn,n,sl,lb,g⟩:St):=ahW h rfl;have e2:aQ share _ _=(⟨fn,n,sl,lb,g⟩:St):=ahW h rfl;grind[vP]
def cZ(s:St)(l:List aK):St:=l.foldl (aQ share) s
theorem aJr:cZ O []=O:=rfl
theorem aJq{l:List aK}:cZ O (x::l)=cZ (aQ share O x) l:=rfl
theorem akV:dG P cf rec gs cr l O ⟨d,.pick c a b,ty,pos,af,wh⟩=(bj cf.aq (cZ O [c,a,b]) c).bind λ|.bool z=>bif z then(bj cf.aq (cZ O [c,a,b]) a).bind λv=>aG (cZ O [c,a,b]) d (.dv v .no)else(bj cf.aq (cZ O [c,a,b]) b).bind λv=>aG (cZ O [c,a,b]) d (.dv v .no)|_=>Z:=by
 show(match bj _ (cZ O [c,a,b]) c with|some (.bool z)=>_|_=>Z)=_;rcases bj _ _ c with _|v;.rfl
 cases v<;>rfl
theorem aky{o:BinOp}{u:an}:dG P cf rec gs cr l O ⟨d,.binOp o t x y u,ty,pos,af,wh⟩=(bj cf.aq O x).bind λa=>(bj cf.aq O y).bind λb=>(gb P o t a b).bind λv=>aG O d (.dv v .no):=(rfl)
theorem akY{o:UnOp}:dG P cf rec gs cr l O ⟨d,.unOp o t x,ty,pos,af,wh⟩=(bj cf.aq O x).bind λa=>(JI o a).bind λv=>aG O d (.dv v .no):=(rfl)
theorem akv{d:Tmp}:dG P cf rec gs cr l O ⟨J d,.alloc e,ty,pos,af,wh⟩=(cu P e).bind λz=>Dn (gs.any (aw d)) O (J d) z.flat:=(rfl)
theorem akz{d:Tmp}:dG P cf rec gs cr l O ⟨J d,.box e x,ty,pos,af,wh⟩=(bj cf.aq (cZ O [x]) x).bind λv=>Dn (gs.any (aw d)) (cZ O [x]) (J d) v.flat:=(rfl)
theorem aB7{d:Tmp}{c:ao}(h:d<n):Dn C ⟨fn,n,sl,lb,g⟩ (J d) c=J ⟨fn,n,put (iu (EC sl d) d) d (.lp d 0),put lb d ⟨c,[]⟩,g⟩:=by show cond _ _ _=_;grind[vp]
theorem aB6{d:Tmp}{c:ao}(h:d<n):Dn V ⟨fn,n,sl,lb,g⟩ (J d) c=J ⟨fn,n,put (iu sl d) d (.dv (.ptr g.next 0) .no),lb,g.alloc (.box ⟨c,[]⟩)⟩:=by show cond _ _ _=_;grind[vp]
theorem azb{d:DV}{o:aM}:vL s (.dv d o)=.dv d o:=rfl
theorem azh{l:List (DV×aM)}:vL s (.tp l)=.tp l:=rfl
theorem azc{d:DV}:vL s (.ev d)=.ev d:=rfl
theorem azg{a:Nat}:vL s (.sr a)=.sr a:=rfl
theorem azf{a b e:Nat}:vL s (.se a b e)=.se a b e:=rfl
theorem azd{a:Nat}:vL s (.hd a)=.hd a:=rfl
theorem aza:vL s .dd=.dd:=rfl
theorem aze{a o:Nat}:vL s (.lp a o)=if a=s then .dd else .lp a o:=by show cond _ _ _=_;simp_all
def MH(a:Nat->ah ao)(s:St):List (Nat×aK)->ah (List (Nat×DV))|[]=>J []|p::t=>((bj a s p.2).map λv=>(p.1,v)).bind λq=>(MH a s t).bind λr=>J (q::r)
theorem Wn{a:Nat->ah ao}:∀l:List (Nat×aK),cw (λ(p:Nat×aK)=>(bj a O p.2).map λv=>(p.1,v)) l=MH a O l|[]=>rfl|p::t=>by show((bj a O p.2).map λv=>(p.1,v)).bind _=((bj a O p.2).map λv=>(p.1,v)).bind _;congr 1;funext q;show(cw _ t).bind _=_;rw[Wn t]
def opsV(a:Nat->ah ao)(s:St):List aK->ah ao|[]=>J []|p::t=>(bj a s p).bind λq=>(opsV a s t).bind λr=>J (q::r)
theorem Du{a:Nat->ah ao}:∀l:List aK,cw (bj a O) l=opsV a O l|[]=>rfl|p::t=>by show(bj a O p).bind _=(bj a O p).bind _;congr 1;funext q;show(cw _ t).bind _=_;rw[Du t]
def Oh(P:aH)(t:an)(a:St)(d:ah Tmp)(s:List (Nat×DV))(z:DV):ah St:=match P.underlying t with|some (.struct e)=>(cw (λ(f:Field)=>(aW P f.type).map λn=>(f.offset,n)) e.toList).bind λp=>(xV (λi=>oZ p i) s z.flat).bind λl=>aG a d (.dv (.agg l) .no)|some (.array _ m)=>(aW P m).bind λn=>(xV (λi=>J (ft i n,n)) s z.flat).bind λl=>aG a d (.dv (.agg l) .no)|_=>Z
theorem akB{p:List (Nat×aK)}:dG P cf rec gs cr l O ⟨d,.build t ⟨p⟩,ty,pos,af,wh⟩=(cu P t).bind λz=>(MH cf.aq (cZ O (Op.build t ⟨p⟩).operands.toList) p).bind λq=>Oh P t (cZ O (Op.build t ⟨p⟩).operands.toList) d q z:=by show(cu P t).bind _=(cu P t).bind _;congr 1;rw[Wn];rfl
def Mh(P:aH)(t:an)(u:iK)(a:St)(d:ah Tmp):SV->ah St|.lp s o=>(look a.lb s).bind λb=>(fF P u t b o).bind λr=>aG {a with lb:=put a.lb s r.2} d r.1|.ev v=>(match AM.isAgg P t with|some V=>(aW P t).bind λn=>bif !v.aU&&aw v.flat.length n then aG a d (.dv v .no)else Z|some C=>bif v.aU then aG a d (.dv v .no)else Z|none=>Z)|.se s i o=>(nF a s).bind λx=>(x.1[i]?).bind λv=>(jr P t v.flat o).bind λv=>aG a d (.dv v .no)|.dv (.ptr id o) _=>(match a.g.get id with|some (.box b)=>(match u,eu b o,AM.isAgg P t with|.ref,.ex _,J C=>bif ct o b.cells.length then aG a d (.gr id o)else Z|_,_,_=>(fF P u t b o).bind λr=>aG {a with g:=a.g.set id (.box r.2)} d r.1)|_=>Z)|_=>Z
theorem akK{d:Tmp}:dG P cf rec gs cr l O ⟨J d,.load t x,ty,pos,af,wh⟩=(cU cf.aq O x).bind (Mh P t (Gz cf.fk cr l d) O (J d)):=by show(match cU _ O x with|some (.lp s _)=>_|some (.ev d)=>_|some (.se s i _)=>_|some (.dv (.ptr id _) _)=>_|_=>Z)=_;cases cU _ O x with|none=>rfl|some v=>cases v with|dv v o=>cases v<;>rfl|_=>rfl
def RF(P:aH)(t:an)(a:St)(d:ah Tmp)(x:aK)(v:DV)(w:aM):SV->ah St|.lp s o=>(look a.lb s).bind λb=>(yP P t b o v w).bind λb=>aG {aQ leave a x with sl:=cN (aQ leave a x).sl,lb:=put a.lb s b} d (.tp [])|.dv (.ptr id o) _=>(match a.g.get id with|some (.box b)=>(yP P t b o v w).bind λb=>aG {aQ leave a x with sl:=cN (aQ leave a x).sl,g:=a.g.set id (.box b)} d (.tp [])|_=>Z)|.se s i o=>(nF (aQ share a x) s).bind λy=>(y.1[i]?).bind λel=>(aW P t).bind λn=>bif aw v.flat.length n&&bt (o+n) el.flat.length then(reshape el (lg el.flat o v.flat)).bind λe=>aG {aQ share a x with sl:=put (cN (aQ share a x).sl) s (.dv (.ay (iH y.1 i e) y.2.1 y.2.2) (.ex y.2.1))} d (.tp [])else Z|_=>Z
theorem akX:dG P cf rec gs cr l O ⟨d,.store t a x,ty,pos,af,wh⟩=(cU cf.aq O x).bind λv=>(OB v).bind λv=>(cU cf.aq O a).bind (RF P t O d x v.1 v.2):=by show(cU _ O x).bind _=(cU _ O x).bind _;congr 1;funext v;cases v with
 |dv v o=>show(match cU _ O a with|some (.lp s _)=>_|some (.dv (.ptr id _) _)=>_|some (.se s i _)=>_|_=>Z)=(cU _ O a).bind _;cases cU _ O a with|none=>rfl|some w=>cases w with|dv w o=>cases w<;>rfl|_=>rfl
 |_=>rfl
def VS(t:St)(d:ah Tmp):SV->ah St|.lp s o=>(look t.lb s).bind λ_=>aG t d (.lp s o)|.ev v=>aG t d (.ev v)|.se a b c=>aG t d (.se a b c)|.dv (.ptr id o) _=>aG t d (.dv (.ptr id o) .no)|_=>Z
theorem akU:dG P cf rec gs cr l O ⟨d,.nilCheck x,ty,pos,af,wh⟩=(cU cf.aq O x).bind (VS O d):=by show(cU _ O x).bind _=(cU _ O x).bind _;congr 1;funext v;cases v with|dv v o=>cases v<;>rfl|_=>rfl
def adN(P:aH)(a:St)(d:ah Tmp)(t:an)(f:Nat):SV->ah St|.lp b o=>(look a.lb b).bind λ_=>aG a d (.lp b (o+f))|.dv (.ptr id o) _=>aG a d (.dv (.ptr id (o+f)) .no)|.se s i o=>aG a d (.se s i (o+f))|.ev (.agg l)=>(jr P t l f).bind λv=>aG a d (.ev v)|_=>Z
def bF(P:aH)(t:an)(f:Nat):ah (an×Nat):=match P.underlying t with|some (.struct i)=>(i[f]?).bind λd=>(aW P d.type).bind λn=>(match n with|0=>Z|_=>J (d.type,d.offset))|_=>Z
theorem akG{f:Nat}:dG P cf rec gs cr l O ⟨d,.fieldAddr t x f,ty,pos,af,wh⟩=(bF P t f).bind λq=>(cU cf.aq O x).bind (adN P O d q.1 q.2):=by
 unfold bF;show(match P.underlying t with
 |some (.struct e)=>(e[f]?).bind λc=>(aW P c.type).bind λn=>match n,cU cf.aq O x with|fg _,J (.lp b a)=>(look O.lb b).bind λ_=>aG O d (.lp b (a+c.offset))|fg _,J (.dv (.ptr id a) _)=>aG O d (.dv (.ptr id (a+c.offset)) .no)|fg _,J (.se s i a)=>aG O d (.se s i (a+c.offset))|fg _,J (.ev (.agg l))=>(jr P c.type l c.offset).bind λv=>aG O d (.ev v)|_,_=>Z
 |_=>Z)=_;split;.rename_i e h;cases e[f]? with|none=>rfl|some c=>simp only[cR];cases aW P c.type with|none=>rfl|some n=>cases n with|zero=>rfl|succ n=>simp only[cR];cases cU cf.aq O x with|none=>rfl|some v=>cases v with|dv v o=>cases v<;>rfl|ev v=>cases v<;>rfl|_=>rfl
 rfl
theorem akF{i:Nat}:dG P cf rec gs cr l O ⟨d,.extract (.tmp s) i,ty,pos,af,wh⟩=(match look O.sl s with|some (.tp l)=>(l[i]?).bind λx=>aG {O with sl:=put O.sl s (.tp (l.take i++(match x.2 with|.ex _=>(DV.jk,aM.no)|_=>(x.1,.no))::l.drop (i+1)))} d (.dv x.1 x.2)|_=>Z):=rfl
def BG(P:aH)(t:St)(d:ah Tmp)(x:aK)(i:Nat):ah TypeDesc->SV->ah St|some (.slice m),.dv (.ay l e z) w=>(aW P m).bind λn=>bif aw n z&&aw e m then(match w,x with|.ex _,.tmp s=>bif ct i l.length then aG t d (.se s i 0)else Z|_,_=>(l[i]?).bind λv=>aG t d (.ev v))else Z|some (.slice m),.dv (.dY id o len e z) _=>(aW P m).bind λn=>bif aw n z&&aw e m&&ct i len then aG t d (.dv (.ptr id (o+i*z)) .no)else Z|some (.slice m),.sr s=>(nF t s).bind λy=>(aW P m).bind λn=>bif aw n y.2.2&&(aw y.2.1 m&&ct i y.1.length)then aG t d (.se s i 0)else Z|some (.array len m),.ev (.agg l)=>(aW P m).bind λn=>bif ct i len then(jr P m l (i*n)).bind λv=>aG t d (.ev v)else Z|some (.array len m),.lp s o=>(aW P m).bind λn=>bif ct i len then(look t.lb s).bind λ_=>aG t d (.lp s (o+i*n))else Z|_,_=>Z
def FE:DV->ah Nat|.int _ (.ofNat i)=>J i|_=>Z
theorem akH{i:aK}:dG P cf rec gs cr l O ⟨d,.indexAddr t x i,ty,pos,af,wh⟩=(bj cf.aq O i).bind λv=>(FE v).bind λi=>(cU cf.aq O x).bind (BG P O d x i (P.underlying t)):=by show(match bj _ O i with|some (.int _ (.ofNat i))=>(match P.underlying t,cU _ O x with|some (.slice m),J (.dv (.ay l e a) b)=>(aW P _).bind _|some (.slice m),J (.dv (.dY id f len e a) _)=>(aW P _).bind _|some (.slice m),J (.sr s)=>(nF O s).bind _|some (.array len m),J (.ev (.agg l))=>(aW P _).bind _|some (.array len m),J (.lp s f)=>(aW P _).bind _|_,_=>Z)|_=>Z)=_;cases bj _ O i with|none=>rfl|some v=>cases v with
 | int k z => rcases z with i|i;.show _=(cU _ O x).bind _;cases h:P.underlying t with|none=>cases cU _ O x<;>rfl|some u=>cases cU _ O x with|none=>grind|some w=>cases u with
              |slice e=>cases w with|dv w o=>cases w<;>rfl|_=>rfl
              |array n e=>cases w with|dv w o=>rfl|ev w=>cases w<;>rfl|_=>rfl
              |_=>rfl
              rfl|_=>rfl
def Qr(t:St):ah TypeDesc->SV->ah Nat|some (.array n _),.dv _ _=>J n|some .string,.dv (.str s) _=>J s.length|some (.slice _),.dv d _=>nd d|some (.slice _),.hd n=>J n|some (.slice _),.sr s=>(nF t s).map λy=>y.1.length|some (.slice _),.gr id o=>(Ew t id o).bind nd|_,_=>Z
theorem akJ{a:List an}:dG P cf rec gs cr l O ⟨d,.call ⟨.builtin .len,⟨[x]⟩,⟨t::a⟩⟩,ty,pos,af,wh⟩=(cU cf.aq O x).bind λv=>(Qr O (P.underlying t) v).bind λn=>aG O d (.dv (goN n) .no):=by show(cU _ O x).bind _=(cU _ O x).bind _;congr 1;funext v;show(match P.underlying t,v with|some (.array n _),.dv _ _=>aG O d _|some .string,.dv (.str s) _=>aG O d _|some (.slice _),.dv v _=>(nd v).bind λn=>aG O d _|some (.slice _),.hd n=>aG O d _|some (.slice _),.sr s=>(nF O s).bind λy=>aG O d _|some (.slice _),.gr id o=>(Ew O id _).bind λv=>(nd v).bind λn=>aG O d _|_,_=>Z)=_;grind[Qr,nF]
def SQ(P:aH)(g:aC)(t:St)(d:ah Tmp)(a:Nat)(s:List (Nat×DV))(e n:Nat)(z:DV):ah St:=bif aw n 0||!(bt (a*n) 16777216)then Z else bif aw z.flat.length n then(lD (λ(l:ao)(p:Nat×DV)=>bif ct p.1 l.length&&(aw p.2.flat.length n&&(p.2.aU==z.aU))then J (iH l p.1 p.2)else Z) s (lT a z)).bind λl=>aG t d (.dv (.ay l e n) (bif aw a 0&&CV g d then .full e else .ex e))else Z
def Gk:ah TypeDesc->ah an|some (.slice e)=>J e|_=>Z
theorem akA{a:Nat}{s:List (Nat×aK)}:dG P cf rec gs cr l O ⟨d,.buildSlice t a ⟨s⟩,ty,pos,af,wh⟩=(Gk (P.underlying t)).bind λm=>(aW P m).bind λn=>(MH cf.aq (cZ O (Op.buildSlice t a ⟨s⟩).operands.toList) s).bind λq=>(cu P m).bind λz=>SQ P gs (cZ O (Op.buildSlice t a ⟨s⟩).operands.toList) d a q m n z:=by show(match P.underlying t with|some (.slice m)=>(aW P _).bind λn=>bif aw n 0||!(bt _ _)then Z else(cw (λ(p:Nat×aK)=>(bj _ (cZ O (Op.buildSlice t _ _).operands.toList) _).map _) s).bind λb=>(cu P _).bind λz=>bif aw _ n then(lD _ _ _).bind λl=>aG (cZ O (Op.buildSlice t _ _).operands.toList) d _ else Z|_=>Z)=_;cases P.underlying t with|none=>rfl|some u=>cases u with|slice e=>show(aW P e).bind _=(aW P e).bind _;congr 1;funext n;rw[Wn];unfold SQ;cases(aw n 0||!(bt _ _))<;>simp_all|_=>rfl
def aa3(a:aC)(t:St)(d:ah Tmp)(x:aK)(e s b:Nat)(z v:DV)(w:DV×aM):ah St:=bif aw z.flat.length s then(wZ s v).bind λn=>bif n.all (λy=>aw y.flat.length s)then bif rb a d w.1 w.2 n then(fu e s b w.1 w.2 n).bind λ_=>aG {aQ leave t x with sl:=cN (aQ leave t x).sl,g:=t.g.alloc (.box ⟨n.flatMap DV.flat,[((n.flatMap DV.flat).length,.full e)]⟩)} d (.dv (.dY t.g.next 0 n.length e s) .no)else(fu e s b w.1 w.2 n).bind λr=>bif d.isSome then aG {aQ leave t x with sl:=cN (aQ leave t x).sl} d (.dv r.1 r.2)else Z else Z else Z
def Oc:ah TypeDesc->ah Unit|some (.slice _)|some .string=>J ()|_=>Z
theorem aHT{d:ah Tmp}{x:DV}{l:ao}:rb gs d x .any l=C:=by unfold rb;split<;>simp_all
theorem aHX{d:ah Tmp}{x:DV}{l:ao}:rb gs d x (.ty e) l=C:=by unfold rb;split<;>simp_all
theorem aHU{d:ah Tmp}{x:DV}{l:ao}:rb gs d x (.ex e) l=C:=by unfold rb;split<;>simp_all
theorem aHV{d:ah Tmp}{x:DV}{o:aM}{l:ao}:rb [] d x o l=C:=by unfold rb;split<;>first|rfl|(cases d<;>rfl)
theorem aAA{n e k:Nat}{l:ao}:wZ n (.ay l e k)=J l:=rfl
theorem aAB{n:Nat}:wZ n .nl=J []:=rfl
def dL(P:aH)(e:an):ah (Nat×Nat):=(P.info? e).map λi=>(i.size,i.bytes)
theorem akw{u:an}:dG P cf rec gs cr l O ⟨d,.call ⟨.builtin .append,⟨[x,y]⟩,⟨[t,u]⟩⟩,ty,pos,af,wh⟩=(Gk (P.underlying t)).bind λm=>(Oc (P.underlying u)).bind λ_=>(dL P m).bind λi=>(cu P m).bind λz=>(cU cf.aq O x).bind λw=>(OB w).bind λw=>(bj cf.aq O y).bind λv=>aa3 gs O d x m i.1 i.2 z v w:=by show(match P.underlying t,P.underlying u with|some (.slice m),J (.slice _)|some (.slice m),J .string=>(match P.info? _,cu P _,cU _ O x,bj _ O y with|some i,J z,J (.dv v f),J w=>bif aw _ _ then(wZ _ w).bind _ else Z|_,_,_,_=>Z)|_,_=>Z)=_;cases P.underlying t with|none=>rfl|some a=>cases a with
 |slice e=>cases P.underlying u with|none=>rfl|some b=>cases b with
  |slice c=>simp only[Gk,Oc,cR,dL];cases P.info? e with|none=>rfl|some i=>cases cu P e with|none=>rfl|some z=>cases cU _ O x with|none=>rfl|some w=>cases w with|dv w o=>cases bj _ O y<;>rfl|_=>rfl
  |string=>simp only[Gk,Oc,cR,dL];cases P.info? e with|none=>rfl|some i=>cases cu P e with|none=>rfl|some z=>cases cU _ O x with|none=>rfl|some w=>cases w with|dv w o=>cases bj _ O y<;>rfl|_=>rfl
  |_=>rfl
 |_=>cases P.underlying u<;>rfl
theorem anh{f:bW}{o:Op}{a:List aK}(h:cf.fk f=0):qC cf rec O o (.func f) a=(opsV cf.aq (cZ O (handsOn o)) a).bind λar=>jv cf rec f ar .no (cZ O (handsOn o)).g λv g=>J ({cZ O (handsOn o)with g:=g},v):=by show(bif aw _ 1 then _ else bif aw _ 2 then _ else bif aw _ 3 then _ else _)=_;rw[h];show(cw _ _).bind _=_;rw[Du];congr 1;funext ar;rw[kD];rfl
def Hh(a:Nat->ah ao)(s:St):List aK->ah ao|[]=>J []|p::t=>(zB a s p).bind λq=>(Hh a s t).bind λr=>J (q::r)
theorem SG{a:Nat->ah ao}:∀l:List aK,cw (zB a O) l=Hh a O l|[]=>rfl|p::t=>by show(zB a O p).bind _=(zB a O p).bind _;congr 1;funext q;show(cw _ t).bind _=_;rw[SG t]
theorem ank{f:bW}{o:Op}{a:List aK}(h:cf.fk f=3)(b:cf.iw f=V):qC cf rec O o (.func f) a=(Hh cf.aq O a).bind λar=>jv cf rec f ar .no O.g λv _=>bif v.plain then J (O,v)else Z:=by show(bif aw _ 1 then _ else bif aw _ 2 then _ else bif aw _ 3 then _ else _)=_;rw[h];show(bif cf.iw f then _ else Z)=_;grind[SG]
theorem akC{x:aK}{a:List aK}{t:Array an}:dG P cf rec gs cr l O ⟨d,.call ⟨.value x,⟨a⟩,t⟩,ty,pos,af,wh⟩=(qC cf rec O (.call ⟨.value x,⟨a⟩,t⟩) x a).bind λr=>aG {r.1 with sl:=cN r.1.sl} d r.2:=(rfl)
theorem ay1{d:DV}{o:aM}:pO (.dv d o)=.dv d o:=rfl
theorem ay8{d}:pO (.tp d)=.tp d:=rfl
theorem ay5{a b:Nat}:pO (.lp a b)=.lp a b:=rfl
theorem ay2{d:DV}:pO (.ev d)=.ev d:=rfl
theorem ay7{a:Nat}:pO (.sr a)=.sr a:=rfl
theorem ay6{a b e:Nat}:pO (.se a b e)=.se a b e:=rfl
theorem ay4{a:Nat}:pO (.hd a)=.hd a:=rfl
theorem ay0:pO .dd=.dd:=rfl
theorem ay3{a b:Nat}:pO (.gr a b)=.dd:=rfl
theorem abP{f:bW}{a:ao}{o:aM}{g:GH}{k:SV->GH->ah α}(h:cf.iw f=V)(b:cg a=V):jv cf rec f a o g k=(rec (.call f a o .empty)).bind λ|.val v _=>bif v.pure then k (rf (cf.rf f&&o.yp) v) g else Z|_=>Z:=by grind[jv]
theorem aO{c:bU}{f n:Nat}{b:Func}{j:bM}{a:ao}{w:aM}{g:GH}{r:bh}(l:P.funcs[f]?=J b)(h:exec P c (ev P c) Z j ⟨f,n,uu 0 w a,[],g⟩ (B6 P rs)=J r)(k:b.body=J j:=by rfl)(m:b.results=⟨rs⟩:=by rfl)(t:b.ntmps=n:=by rfl)(p:c.iU f a=Z:=by rfl)(d:(yx (rs.map vY)&&bt a.length n&&!c.AI f)=V:=by rfl):ev P c (.call f a w g)=J r:=by
 apply KQ;subst t;rw[gu,gu,NW]at d;obtain⟨d,u⟩:=d;unfold yW;simp only[p,l,cR,k,d.2,u,aR,bX];refine Eq.trans ?_ h;have e:∀O,xW P b O=(tG P rs O).bind λy=>J (.val (Dt y.1) y.2.g):=by intro O;unfold xW;rw[m];rw[d.1];cases tG P rs O<;>rfl
 congr 1;funext o;cases o with|fG O=>exact e O|rt O=>exact e O|ext i O=>rfl
end
end
end Go.VM
namespace Go.VM
open Go Go.AM
variable{m:Nat}{l:cX}
attribute[go_sem↓]aBT aMt aMv aMu aMs aMA aJF aJE ak2 asx asu asv asy asr asp aso aIT aIU aIS amH amI amF amG aHI aHH aH2 aH3 aH4 akT akx akV aky akY akv akz akB akK akX akU akG akF akH akJ akA akw akC bs aok cond_not
attribute[go_sem↓high]aoi aoh auH auG
attribute[go_sem↓low]aoj auI
attribute[go_sem]Nat.reduceLT Nat.reduceEqDiff
theorem aAV{s:Nat}:look (iu l s) m=(look l m).map (pP s):=qQ l (pP s) m
theorem aAU{s:Nat}:look (EC l s) m=(look l m).map (vL s):=qQ l (vL s) m
theorem aAS:look (cN l) m=(look l m).map pO:=qQ l pO m
theorem aGE{n:Nat}{x y:GO}{t:List (Nat×GO)}:put ((m,y)::t) n x=if m=n then(n,x)::t else(m,y)::put t n x:=aiz
theorem aGF{n:Nat}{x:GO}:put [] n x=[(n,x)]:=rfl
attribute[go_sem]me aAV aAU aAS aGE aGF gJ rA aEQ aER aES aEW aEX aEY aCk aCo aCl aCr aCq aCp aCm aCn aE1 apQ ahX aEB aEC aED uu aI1 aI9 aI5 aI2 aI8 aI7 aI3 aI4 aI6 azk azr azo azl azq azp azm azn azj Dm aAX aBz aJr aJq leave share oC aMD aMB aMC asV asW aHB aHy OB Dt aB7 aB6 azb azh azc azg azf azd aza aze ay1 ay8 ay5 ay2 ay7 ay6 ay4 ay0 ay3 if_true if_false reduceIte beq_true beq_false
end Go.VM
namespace Go.VM
open Go Go.AM
variable{α:Type}{g:GH}{ops:List aB}{a e f I:Nat}{v:SV}{P:aH}{x:aK}{ow:aM}{t:an}{l m:ao}{fk:bW->Nat}{R r:bh}{lb:dV}{k:fR}
theorem ali:AM.isAgg PP 105=J V/\AM.isAgg PP 77=J V/\AM.isAgg PP 103=J V/\AM.isAgg PP 257=J V/\AM.isAgg PP 69=J V/\AM.isAgg PP 75=J V/\AM.isAgg PP 64=J V/\AM.isAgg PP 227=J V/\AM.isAgg PP 305=J V/\AM.isAgg PP 46=J V/\AM.isAgg PP 373=J V/\AM.isAgg PP 66=J V/\AM.isAgg PP 71=J V/\AM.isAgg PP 209=J V/\AM.isAgg PP 321=J V/\AM.isAgg PP 312=J V/\AM.isAgg PP 338=J V/\AM.isAgg PP 313=J V/\AM.isAgg PP 328=J V/\AM.isAgg PP 22=J C/\AM.isAgg PP 3=J C/\AM.isAgg PP 100=J C/\AM.isAgg PP 101=J C/\AM.isAgg PP 457=J C/\AM.isAgg PP 32=J C/\AM.isAgg PP 9=J C/\AM.isAgg PP 72=J C/\AM.isAgg PP 62=J C/\AM.isAgg PP 73=J C/\AM.isAgg PP 223=J C/\AM.isAgg PP 255=J C/\AM.isAgg PP 38=J C/\AM.isAgg PP 67=J C/\AM.isAgg PP 4=J C/\AM.isAgg PP 211=J C/\AM.isAgg PP 207=J C/\AM.isAgg PP 5=J C/\AM.isAgg PP 602=J C/\AM.isAgg PP 603=J C/\AM.isAgg PP 317=J C/\AM.isAgg PP 359=J C/\AM.isAgg PP 366=J C:=by and_intros<;>kernel_rfl
theorem atF:bF PP 103 3=J (101,3)/\bF PP 105 0=J (22,0)/\bF PP 105 1=J (77,1)/\bF PP 77 3=J (75,3)/\bF PP 105 2=J (103,19)/\bF PP 103 2=J (100,2)/\bF PP 227 0=J (223,0)/\bF PP 257 4=J (64,4)/\bF PP 257 7=J (62,14)/\bF PP 257 5=J (32,12)/\bF PP 257 6=J (32,13)/\bF PP 257 9=J (32,16)/\bF PP 257 8=J (255,15)/\bF PP 69 1=J (67,1)/\bF PP 69 0=J (9,0)/\bF PP 77 1=J (72,1)/\bF PP 77 2=J (32,2)/\bF PP 77 4=J (62,17)/\bF PP 77 0=J (9,0)/\bF PP 75 6=J (64,6)/\bF PP 75 0=J (3,0)/\bF PP 75 1=J (73,1)/\bF PP 305 3=J (64,3)/\bF PP 103 0=J (3,0)/\bF PP 103 1=J (3,1)/\bF PP 257 0=J (3,0)/\bF PP 257 1=J (3,1)/\bF PP 64 1=J (62,1)/\bF PP 305 0=J (3,0)/\bF PP 305 1=J (3,1)/\bF PP 305 2=J (3,2)/\bF PP 257 2=J (3,2)/\bF PP 257 3=J (3,3)/\bF PP 209 0=J (207,0)/\bF PP 75 2=J (3,2)/\bF PP 75 3=J (3,3)/\bF PP 71 1=J (3,1)/\bF PP 66 1=J (3,1)/\bF PP 373 0=J (3,0)/\bF PP 373 1=J (3,1)/\bF PP 66 0=J (9,0)/\bF PP 64 0=J (3,0)/\bF PP 64 2=J (3,2)/\bF PP 64 3=J (3,3)/\bF PP 64 4=J (3,4)/\bF PP 64 5=J (46,5)/\bF PP 71 0=J (9,0)/\bF PP 75 4=J (3,4)/\bF PP 338 2=J (4,2)/\bF PP 338 4=J (4,4)/\bF PP 313 1=J (4,1)/\bF PP 312 0=J (32,0)/\bF PP 312 1=J (32,1)/\bF PP 312 2=J (3,2)/\bF PP 313 0=J (4,0)/\bF PP 328 0=J (4,0)/\bF PP 328 1=J (75,1)/\bF PP 75 5=J (3,5)/\bF PP 338 0=J (3,0)/\bF PP 338 1=J (3,1)/\bF PP 338 5=J (4,5)/\bF PP 338 3=J (4,3)/\bF PP 46 0=J (3,0)/\bF PP 46 2=J (9,2):=by and_intros<;>kernel_rfl
theorem atG:bF PP 46 1=J (3,1):=by and_intros<;>kernel_rfl
theorem aLa:aW PP 105=J 23/\aW PP 77=J 18/\aW PP 103=J 4/\aW PP 100=J 1/\aW PP 101=J 1/\aW PP 257=J 17/\aW PP 457=J 1/\aW PP 32=J 1/\aW PP 69=J 2/\aW PP 9=J 1/\aW PP 62=J 1/\aW PP 73=J 1/\aW PP 64=J 8/\aW PP 227=J 1/\aW PP 223=J 1/\aW PP 255=J 1/\aW PP 46=J 3/\aW PP 373=J 2/\aW PP 38=J 1/\aW PP 67=J 1/\aW PP 66=J 2/\aW PP 71=J 2/\aW PP 4=J 1/\aW PP 209=J 1/\aW PP 5=J 1/\aW PP 603=J 1/\aW PP 321=J 2/\aW PP 312=J 3/\aW PP 338=J 6/\aW PP 359=J 1/\aW PP 313=J 2/\aW PP 328=J 15:=by and_intros<;>kernel_rfl
theorem aMZ:cu PP 103=J (.agg [.int .i64 0,.int .i64 0,.nl,.nl])/\cu PP 3=J (.int .i64 0)/\cu PP 101=J (.nl)/\cu PP 257=J (.agg [.int .i64 0,.int .i64 0,.int .i64 0,.int .i64 0,.int .i64 0,.nl,.int .i64 0,.int .i64 0,.int .i64 0,.int .i64 0,.int .i64 0,.str [],.nl,.nl,.nl,.nl,.nl])/\cu PP 457=J (.nl)/\cu PP 32=J (.nl)/\cu PP 69=J (.agg [.str [],.nl])/\cu PP 75=J (.agg [.int .i64 0,.nl,.int .i64 0,.int .i64 0,.int .i64 0,.int .i64 0,.int .i64 0,.nl,.int .i64 0,.int .i64 0,.int .i64 0,.int .i64 0,.int .i64 0,.str []])/\cu PP 62=J (.nl)/\cu PP 73=J (.nl)/\cu PP 64=J (.agg [.int .i64 0,.nl,.int .i64 0,.int .i64 0,.int .i64 0,.int .i64 0,.int .i64 0,.str []])/\cu PP 227=J (.agg [.nl])/\cu PP 305=J (.agg [.int .i64 0,.int .i64 0,.int .i64 0,.int .i64 0,.nl,.int .i64 0,.int .i64 0,.int .i64 0,.int .i64 0,.int .i64 0,.str []])/\cu PP 255=J (.nl)/\cu PP 46=J (.agg [.int .i64 0,.int .i64 0,.str []])/\cu PP 373=J (.agg [.int .i64 0,.int .i64 0])/\cu PP 38=J (.int .i64 0)/\cu PP 66=J (.agg [.str [],.int .i64 0])/\cu PP 71=J (.agg [.str [],.int .i64 0])/\cu PP 4=J (.bool C)/\cu PP 209=J (.agg [.nilFunc])/\cu PP 603=J (.nilFunc)/\cu PP 265=J (.agg [.nl,.nl,.int .i64 0])/\cu PP 321=J (.agg [.nl,.nl])/\cu PP 312=J (.agg [.nl,.nl,.int .i64 0])/\cu PP 338=J (.agg [.int .i64 0,.int .i64 0,.bool C,.bool C,.bool C,.bool C])/\cu PP 359=J (.nilFunc)/\cu PP 328=J (.agg [.bool C,.int .i64 0,.nl,.int .i64 0,.int .i64 0,.int .i64 0,.int .i64 0,.int .i64 0,.nl,.int .i64 0,.int .i64 0,.int .i64 0,.int .i64 0,.int .i64 0,.str []]):=by and_intros<;>kernel_rfl
theorem axH:dL PP 257=J (17,240)/\dL PP 32=J (1,24)/\dL PP 227=J (1,24)/\dL PP 305=J (11,112)/\dL PP 209=J (1,8):=by and_intros<;>kernel_rfl
theorem sz3:aW PP 3=J 1:=aL
theorem ia3:dL PP 3=J (1,8):=aL
theorem xl:aW PP 75=J 14:=aL
theorem Vg:dL PP 75=J (14,152):=aL
theorem afT:dL PP 64=J (8,88):=aL
theorem ajH:aW PP 305=J 11:=aL
theorem afR:dL PP 373=J (2,16):=aL
attribute[go_sem]ali atF atG aLa aMZ axH sz3 ia3 xl Vg afT ajH afR
open Go.Proofs.Tryz in attribute[go_sem]underlying105 underlying77 underlying103 underlying257 underlying69 underlying75 underlying64 underlying227 underlying305 underlying46 underlying373 underlying66 underlying71 underlying209 underlying265 underlying321 underlying312 underlying339 underlying338 underlying314 underlying313 underlying328 underlying22 underlying3 underlying100 underlying101 underlying457 underlying32 underlying9 underlying72 underlying62 underlying73 underlying223 underlying255 underlying38 underlying67 underlying4 underlying211 underlying207 underlying259 underlying330 underlying479 underlying498 underlying541 underlying164 underlying5 underlying153 underlying260 underlying369 underlying478 underlying319 underlying602 underlying603 underlying128 underlying263 underlying317 underlying318 underlying359 underlying331 underlying201 underlying190 underlying333 underlying459 underlying154 underlying234 underlying519 underlying523 underlying366 underlying472 underlying527
set_option maxRecDepth 100000
theorem atP:fr 3=q3/\fr 4=q0/\fr 5=q5/\fr 6=q6/\fr 7=q7/\fr 8=q8/\fr 9=q9/\fr 10=B1/\fr 11=Wx/\fr 12=qm/\fr 13=yC/\fr 14=q5/\fr 15=yC/\fr 16=WW/\fr 17=F4/\fr 18=W5/\fr 19=W8/\fr 20=W9/\fr 21=Xk/\fr 22=Xo/\fr 23=lM/\fr 24=Xu/\fr 25=XC/\fr 26=XE/\fr 27=MW/\fr 28=XO/\fr 29=uc/\fr 30=uc/\fr 31=X6/\fr 32=lM/\fr 33=rY/\fr 34=Yi/\fr 35=qm/\fr 36=Yr/\fr 42=YH/\fr 43=YJ/\fr 44=YS/\fr 45=YT/\fr 46=YU/\fr 47=YV/\fr 48=YW/\fr 49=YX/\fr 50=YY/\fr 51=YZ/\fr 52=Y0/\fr 53=jF/\fr 54=Y1/\fr 57=B5/\fr 60=rZ/\fr 61=Y2/\fr 62=rZ/\fr 63=Y3/\fr 64=MY/\fr 65=Y4/\fr 66=rZ/\fr 67=Y5/\fr 68=Y6/\fr 69=Y7/\fr 70=MW/\fr 71=uc:=by and_intros<;>kernel_rfl
theorem atQ:fr 72=uc/\fr 73=Y8/\fr 74=Y9/\fr 75=Y'/\fr 76=Za/\fr 83=Zb/\fr 84=Zc/\fr 85=Zd/\fr 86=Ze/\fr 87=Zf/\fr 88=Zg/\fr 89=Zh/\fr 90=Zi/\fr 91=F6/\fr 92=F6/\fr 93=Zj/\fr 94=MZ/\fr 95=Zk/\fr 96=F7/\fr 97=MY/\fr 98=Zl/\fr 99=Zm/\fr 100=Ws/\fr 101=Wt/\fr 102=B2/\fr 103=Wu/\fr 104=Wv/\fr 105=Ww/\fr 106=uc/\fr 107=uc/\fr 108=lM/\fr 109=jF/\fr 110=jF/\fr 111=rX/\fr 114=Wy/\fr 115=Wz/\fr 120=WA/\fr 124=WB/\fr 125=rZ/\fr 126=MQ/\fr 127=WC/\fr 128=MQ/\fr 129=WD/\fr 130=WE/\fr 131=lM/\fr 132=F3/\fr 133=lM/\fr 134=lM/\fr 135=q5/\fr 136=lM/\fr 137=lM/\fr 138=MR/\fr 139=WG/\fr 140=WH/\fr 141=WI/\fr 142=F3/\fr 143=WJ/\fr 144=F7/\fr 145=WK/\fr 146=MZ:=by and_intros<;>kernel_rfl
theorem atS:fr 147=WL/\fr 148=WM/\fr 149=WN/\fr 150=F3/\fr 151=WO/\fr 152=WQ/\fr 153=WR/\fr 154=MS/\fr 155=WS/\fr 156=WT/\fr 157=WU/\fr 158=MS/\fr 159=WV/\fr 160=WX/\fr 161=WY/\fr 162=rZ/\fr 163=q5/\fr 164=lM/\fr 165=WZ/\fr 166=W0/\fr 167=rX/\fr 168=W3/\fr 169=jF/\fr 171=q5/\fr 174=jF/\fr 178=W4/\fr 182=rZ/\fr 186=W6/\fr 189=W7/\fr 192=MT/\fr 193=MT/\fr 194=lM/\fr 195=lM/\fr 196=rY/\fr 197=qm/\fr 198=F6/\fr 199=F7/\fr 200=Xa/\fr 201=Xb/\fr 202=Xc/\fr 203=Xd/\fr 204=Xe/\fr 205=Xf/\fr 206=Xg/\fr 207=Xh/\fr 208=Xi/\fr 209=Xj/\fr 210=Xl/\fr 211=Xm/\fr 212=q5/\fr 213=q6/\fr 214=jF/\fr 215=qm/\fr 216=q6/\fr 217=Xn/\fr 218=B2/\fr 219=yC/\fr 220=MU/\fr 221=Xp/\fr 222=qm:=by and_intros<;>kernel_rfl
theorem atT:fr 223=B4/\fr 224=rX/\fr 225=Xq/\fr 226=Xr/\fr 227=qm/\fr 230=B3/\fr 237=Xs/\fr 238=Xt/\fr 239=rY/\fr 240=Xv/\fr 241=Xw/\fr 242=rY/\fr 243=MU/\fr 244=Xx/\fr 245=Xy/\fr 246=Xz/\fr 247=XA/\fr 248=XB/\fr 249=F5/\fr 250=MV/\fr 251=B2/\fr 252=MR/\fr 253=B2/\fr 254=qm/\fr 255=XD/\fr 256=yD/\fr 257=B5/\fr 258=yD/\fr 259=MV/\fr 260=XF/\fr 261=XG/\fr 262=rY/\fr 263=q0/\fr 264=XH/\fr 265=XI/\fr 266=XJ/\fr 267=XK/\fr 268=XL/\fr 273=XM/\fr 274=XN/\fr 282=rX/\fr 283=B4/\fr 284=XP/\fr 285=XQ/\fr 286=XR/\fr 287=XS/\fr 288=XT/\fr 289=XU/\fr 290=XV/\fr 291=XW/\fr 292=XX/\fr 293=XY/\fr 294=XZ/\fr 295=X0/\fr 296=B4/\fr 297=X1/\fr 298=X2/\fr 299=jF/\fr 300=rZ/\fr 301=B3:=by and_intros<;>kernel_rfl
theorem atU:fr 302=X3/\fr 303=q6/\fr 304=X4/\fr 305=X5/\fr 306=B5/\fr 307=B5/\fr 313=X7/\fr 314=B3/\fr 315=jF/\fr 321=X8/\fr 322=jF/\fr 324=jF/\fr 325=X9/\fr 328=Ya/\fr 329=Yb/\fr 330=rY/\fr 331=rX/\fr 332=lM/\fr 333=Yc/\fr 334=q0/\fr 335=Yd/\fr 336=Ye/\fr 337=Yf/\fr 338=Yg/\fr 339=Yh/\fr 340=Yj/\fr 341=rY/\fr 342=Yk/\fr 343=Yl/\fr 344=Ym/\fr 345=Yn/\fr 346=uc/\fr 347=F5/\fr 348=Yo/\fr 349=F5/\fr 350=q0/\fr 351=B4/\fr 352=yD/\fr 353=jF/\fr 354=yD/\fr 355=jF/\fr 356=yD/\fr 357=jF/\fr 358=Yp/\fr 359=Yq/\fr 362=Ys/\fr 363=Yt/\fr 369=q5/\fr 373=X'/\fr 374=Yu/\fr 375=Yv/\fr 376=MX/\fr 377=jF/\fr 381=MX/\fr 382=jF/\fr 383=jF/\fr 384=Yw/\fr 385=Yx/\fr 386=Yy/\fr 390=B3:=by and_intros<;>kernel_rfl
theorem atV:fr 391=rX/\fr 392=YA/\fr 393=YB/\fr 394=lM/\fr 395=YC/\fr 396=YD/\fr 397=YE/\fr 398=rX/\fr 399=rX/\fr 400=q0/\fr 401=q6/\fr 407=rY/\fr 408=yC/\fr 409=YF/\fr 410=YG/\fr 411=q5/\fr 412=rZ/\fr 414=qm/\fr 422=Yz/\fr 424=yC/\fr 437=YR/\fr 451=qm/\fr 459=YI/\fr 460=YK/\fr 461=YL/\fr 462=YM/\fr 463=YN/\fr 464=YO/\fr 465=YP/\fr 466=YQ:=by and_intros<;>kernel_rfl
theorem anO(h:f≠27):cf.nZ f=C:=cb.2 λe=>h (Nat.eq_of_beq_eq_true e)
theorem anP:cf.nZ 27=V:=rfl
theorem anQ:cf.tH f=(fr f).g:=rfl
theorem anN:cf.zF f=(fr f).c:=rfl
theorem abU:cf.fk f=(fr f).k:=rfl
theorem abV:cf.iw f=(fr f).p:=rfl
theorem anS{h:Nat}:cf.live f h=nt [] ([]::(fr f).r) h:=rfl
theorem anR{h:Nat}:cf.keep f h=nt [] (fr f).r h:=rfl
attribute[go_sem]atP atQ atS atT atU atV nt anO anP anQ anN abU abV anS anR q0 eE tq jI q3 q5 q6 q7 q8 q9 B1 Wx qm yC WW F4 W5 W8 W9 Xk Xo lM Xu XC XE MW XO uc X6 rY Yi Yr YH YJ YS YT YU YV YW YX YY YZ Y0 jF Y1 B5 rZ Y2 Y3 MY Y4 Y5 Y6 Y7 Y8 Y9 Y' Za Zb Zc Zd Ze Zf Zg Zh Zi F6 Zj MZ Zk F7 Zl Zm Ws Wt B2 Wu Wv Ww rX Wy Wz WA WB MQ WC WD WE F3 MR WG WH WI WJ WK WL WM WN WO WQ WR MS WS WT WU WV WX WY WZ W0 W3 B3 W4 W6 W7 MT Xa Xb Xc Xd Xe Xf Xg Xh Xi Xj Xl Xm Xn MU Xp B4 Xq Xr Xs Xt Xv Xw Xx Xy Xz XA XB F5 MV XD yD XF XG XH XI XJ XK XL XM XN XP XQ XR XS XT XU XV XW XX XY XZ X0 X1 X2 X3 X4 X5 X7 X8 X9 X' Ya Yb Yc Yd Ye Yf Yg Yh Yj Yk Yl Ym Yn Yo Yp Yq Ys Yt Yu Yv MX Yw Yx Yy Yz YA YB YC YD YE YF YG YI YK YL YM YN YO YP YQ YR
inductive Expr|mk(op:Int)(nl:Bool)(args:List Expr)(var eM neg kind num:Int)(str:List Nat)
inductive ae|mk(op:Int)(nl:Bool)(args:List ae)(ty var scope span:Int)(cond:Expr)
abbrev bq:=List ae
def bw(a:Bool)(l:ao)(e n:Nat):DV:=match l with|[]=>bif a then .nl else .ay [] e n|l=>.ay l e n
mutual
def Expr.cells : Expr -> ao
  | .mk o l args v e n k num str => [.int .i64 o, bw l (Expr.bn args) 64 8, .int .i64 v, .int .i64 e, .int .i64 n, .int .i64 k, .int .i64 num, .str str]
def Expr.bn : List Expr -> ao
  | [] => []
  | e :: t => .agg e.cells :: Expr.bn t
end
mutual
def ae.cells : ae -> ao
  | .mk o n args t v s p c => [.int .i64 o, bw n (ae.bn args) 75 14, .int .i64 t, .int .i64 v, .int .i64 s, .int .i64 p] ++ c.cells
def ae.bn : bq -> ao
  | [] => []
  | e :: t => .agg e.cells :: ae.bn t
end
theorem Expr.KF:∀(l:List Expr)(i:Nat),(Expr.bn l)[i]?=(l[i]?).map λe=>.agg e.cells|[],i=>by simp[Expr.bn]|a::l,0=>by simp[Expr.bn]|a::l,i+1=>by simp[Expr.bn,Expr.KF l i]
theorem ae.KF:∀(l:bq)(i:Nat),(ae.bn l)[i]?=(l[i]?).map λe=>.agg e.cells|[],i=>by simp[ae.bn]|a::l,0=>by simp[ae.bn]|a::l,i+1=>by simp[ae.bn,ae.KF l i]
theorem Mf{b:Bool}{n:Nat}:nd (bw b l e n)=J l.length:=by
 rcases l with _|⟨a,l⟩;.cases b<;>rfl
 rfl
theorem aAz{a:Bool}{n k:Nat}:wZ k (bw a l e n)=J l:=by
 unfold bw;split;.cases a<;>simp_all[wZ,Qs]
 .rfl
theorem Nf{b:Bool}{n:Nat}:(bw b l e n).aU=V:=by
 rcases l with _|⟨a,l⟩;.cases b<;>rfl
 rfl
def zJ{b:Bool}{a:DV}{n:Nat}:bw b (a::l) e n=.ay (a::l) e n:=rfl
theorem Expr.dE:∀e:Expr,e.cells.length=8|.mk ..=>rfl
theorem ae.dE:∀e:ae,e.cells.length=14|.mk _ _ _ _ _ _ _ c=>by simp[ae.cells,Expr.dE c]
theorem Expr.qF:∀l:List Expr,(Expr.bn l).length=l.length|[]=>rfl|_::l=>by simp[Expr.bn,Expr.qF l]
theorem ae.qF:∀l:bq,(ae.bn l).length=l.length|[]=>rfl|_::l=>by simp[ae.bn,ae.qF l]
theorem axP:inL [] f=C:=rfl
theorem alC{d:Nat}:([]:aC).any (aw d)=C:=rfl
theorem anT:cf.rf f=if f=157 then V else C:=by show aw f _=_;by_cases h:f=157<;>simp_all[kS]
def FU(s:cX):aC->cX|[]=>[]|t::l=>match look s t with|some v=>(t,v)::FU s l|none=>FU s l
def MJ(a:dV)(l:aC):dV:=l.eraseDups.filterMap λs=>(look a s).map λb=>(s,b)
def F8:cX->aC|[]=>[]|(_,.lp s _)::l=>s::F8 l|_::l=>F8 l
theorem aiI:∀l:cX,l.flatMap (λx=>aiG x.2)=F8 l|[]=>rfl|(a,v)::l=>by rw[GZ,aiI l];cases v<;>rfl
theorem aBj{l:aC}{f n:Nat}{a:cX}:mask l ⟨f,n,a,lb,g⟩=⟨f,n,FU a l,MJ lb (F8 (FU a l)),g⟩:=by
 have e:l.filterMap (λs=>(look a s).map λv=>(s,v))=FU a l:=by induction l<;>grind[FU]
 unfold mask;simp only[e,aiI];rfl
theorem aFZ:MJ lb []=[]:=rfl
attribute[go_sem]axP alC anT FU aFZ F8 aBj D9 Option.getD_none
attribute[go_sem↓]ass
theorem aMj{l:List aB}{d:Tmp}:Gz fk [] l d=JK fk l d:=rfl
theorem aMi{l:List aB}{d a:Tmp}{t:aC}:Gz fk (a::t) l d=if d=a then .copy else Gz fk t l d:=by
 show(bif(aw d a||t.any _)then _ else _)=_;by_cases h:d=a;.simp_all
 .rw[if_neg h,kS h];rfl
theorem aMh{d:Tmp}:JK fk [] d=.none:=rfl
theorem aMg{d:Tmp}{o:aB}{l:List aB}:JK fk (o::l) d=iK.join (aan fk d o.op) (JK fk l d):=rfl
theorem ayk{d t:Nat}:qj d (.tmp t)=if t=d then V else C:=by show aw t d=_;grind[pw,kS]
theorem ayh{d:Nat}{v:aD}:qj d (.const v)=C:=rfl
theorem ayj{d:Nat}{v:Nat}:qj d (.global v)=C:=rfl
theorem ayi{d:Nat}{v:Nat}:qj d (.func v)=C:=rfl
section
variable{P:aH}{O:St}{u:iK}{t:an}{d:ah Tmp}{s I n:Nat}{D:ao}{own:List (Nat×aM)}
theorem aAJ:Mh P t u O d (.lp s I)=(look O.lb s).bind λb=>(fF P u t b I).bind λr=>aG {O with lb:=put O.lb s r.2} d r.1:=(rfl)
theorem aAC(h:AM.isAgg P t=J V):fF P u t ⟨D,[]⟩ I=(aW P t).bind λn=>bif bt (I+n) D.length then J (.dv (.agg ((D.drop I).take n)) .no,⟨D,[]⟩)else Z:=by grind[fF]
theorem aAF(h:AM.isAgg P t=J C)(a:u≠.take):fF P u t ⟨D,[]⟩ I=(D[I]?).bind λd=>J (.dv d .no,⟨D,[]⟩):=by grind[fF,pg,eu,look]
end
attribute[go_sem↓]aMj aMi aMh aMg aan C4
attribute[go_sem]ayk ayh ayj ayi aAJ aAC aAF eL zm List.any_nil Bool.true_or y7 Bool.or_false Bool.or_true ne_eq reduceCtorEq not_false_eq_true ctt ctf lS jJ dH gX Nat.reduceAdd Nat.reduceLeDiff xC List.drop_succ_cons List.take_succ_cons List.take_zero aaI J1 kE Nat.reduceBEq nw
theorem SN{b:Nat}:ct a b=decide (a<b):=by grind[vp,ct,N2]
theorem amE{b:Nat}:bt a b=decide (a<=b):=by grind[nw,N2]
theorem SJ{b:Nat}:aw a b=decide (a=b):=by grind[pw,kS]
theorem EB{a:Type}{f:a->α->ah a}{b:a}:lD f [] b=J b:=rfl
theorem EA{c:Type}{f:c->α->ah c}{b:c}{a:α}{l:List α}:lD f (a::l) b=(f b a).bind (lD f l):=rfl
theorem aIC:(DV.agg l).aU=C:=rfl
mutual
theorem Expr.pure : ∀ e : Expr, cg e.cells = V
  | .mk o l args v M n k num str => by
    have h := Expr.uX args
    simp only [Expr.cells, cg, DV.pure, wm, zd]
    unfold bw
    split
    · cases l <;> rfl
    · exact h
theorem Expr.uX : ∀ l : List Expr, cg (Expr.bn l) = V
  | [] => rfl
  | e :: l => by simp only [Expr.bn, cg, DV.pure, Expr.pure e, Expr.uX l, wm]
end
mutual
theorem ae.pure : ∀ e : ae, cg e.cells = V
  | .mk m a args t v s p ⟨j, i, S, c, Y, o, d, g, f⟩ => by
    have h := ae.uX args
    have k := Expr.uX S
    have b : ∀ a l e n, cg l = V -> (bw a l e n).pure = V := by
      intro a l e n h; unfold bw; split
      · cases a <;> rfl
      · exact h
    simp only [ae.cells, Expr.cells, lS, jJ, cg, DV.pure, wm, b _ _ _ _ h, b _ _ _ _ k]
theorem ae.uX : ∀ l : bq, cg (ae.bn l) = V
  | [] => rfl
  | e :: l => by simp only [ae.bn, cg, DV.pure, ae.pure e, ae.uX l, wm]
end
theorem nN{a:Bool}{n:Nat}(h:cg l=V):(bw a l e n).pure=V:=by
 unfold bw;split;.cases a<;>rfl
 .exact h
theorem ajg{n:Int}:(DV.int k n).aU=V:=rfl
theorem ajh{s:aC}:(DV.str s).aU=V:=rfl
attribute[go_sem]ajg ajh
attribute[go_sem]Gk MH fO eG SQ EB EA SN amE SJ eB lA List.replicate_succ List.replicate_zero iH aIC wm zd y9 y8 Nat.reduceMul gJ nN ae.uX Expr.uX DV.pure cg SV.pure Qr Mf aAz aAA aAB aHT aHX aHU aHV Oc Bool.false_and Bool.and_false CV goN opsV Hh anh ank abP rf zB adN
def nh(P:aH)(c:bU)(b:Hd bM)(r:ah Nat):eF->ah bh|.fG st=>ld (ev P c) b (mask (c.live st.fn (C4 b.get)) st) r|o=>J (.out o)
theorem arI{c:bU}{b:bM}{t:Tg b}{s:St}{d:ah Nat}(h:exec P c (ev P c) d b s (nh P c (.mk b t) d)=J r):ld (ev P c) (.mk b t) s d=J r:=by apply KQ;refine Eq.trans ?_ h;rfl
theorem aA1{c:bU}{b:bM}{t:Tg b}{r:ah Nat}{s:St}:nh P c (.mk b t) r (.fG s)=ld (ev P c) (.mk b t) (mask (c.live s.fn (C4 b)) s) r:=(rfl)
theorem aA0{c:bU}{b:Hd bM}{r:ah Nat}{i:Nat}{s:St}:nh P c b r (.ext i s)=J (.out (.ext i s)):=(rfl)
theorem aA2{c:bU}{b:Hd bM}{r:ah Nat}{s:St}:nh P c b r (.rt s)=J (.out (.rt s)):=(rfl)
theorem aFb{k:eF->ah bh}{o:eF}:fI k (.out o)=k o:=(rfl)
theorem aA8{b:Nat}:aA (.ofNat a) (.ofNat b)=decide (a<b):=SN
theorem vi{i:Nat}(h:i+1<9223372036854775808):dN .i64 (kh (dk i) 1)=dk (i+1):=by show(bif ct _ _ then dk _ else _)=_;grind[vp]
attribute[go_sem↓]aA1 aA0 aA2 aFb
section
variable{P:aH}{t:an}{s u:aC}{O:St}{aq:Nat->ah ao}
theorem amk{a b:Int}:gb P .add t (.int k a) (.int k b)=J (.int k (dN k (kh a b))):=by show(if k=k then _ else Z)=_;rw[if_pos rfl];rfl
theorem amB{a b:Int}:gb P .sub t (.int k a) (.int k b)=J (.int k (dN k (Int.sub a b))):=by show(if k=k then _ else Z)=_;rw[if_pos rfl];rfl
theorem amm{a b:Int}:gb P .eql t (.int k a) (.int k b)=J (.bool (aj a b)):=by show(if k=k then _ else Z)=_;rw[if_pos rfl];rfl
theorem amw{a b:Int}:gb P .neq t (.int k a) (.int k b)=J (.bool (!aj a b)):=by show(if k=k then _ else Z)=_;rw[if_pos rfl];rfl
theorem amt{a b:Int}:gb P .lss t (.int k a) (.int k b)=J (.bool (aA a b)):=by show(if k=k then _ else Z)=_;rw[if_pos rfl];rfl
theorem ams{a b:Int}:gb P .leq t (.int k a) (.int k b)=J (.bool (!aA b a)):=by show(if k=k then _ else Z)=_;rw[if_pos rfl];rfl
theorem amo{a b:Int}:gb P .gtr t (.int k a) (.int k b)=J (.bool (aA b a)):=by show(if k=k then _ else Z)=_;rw[if_pos rfl];rfl
theorem amn{a b:Int}:gb P .geq t (.int k a) (.int k b)=J (.bool (!aA a b)):=by show(if k=k then _ else Z)=_;rw[if_pos rfl];rfl
theorem amT:gb P .eql t (.str s) (.str u)=J (.bool (decide (s=u))):=by rw[<-zM];rfl
theorem amV:gb P .neq t (.str s) (.str u)=J (.bool (!decide (s=u))):=by rw[<-zM];rfl
theorem abI(h:s.length+u.length<=1000000000):gb P .add t (.str s) (.str u)=J (.str (s++u)):=by show(bif bt _ _ then J _ else Z).bind _=_;rw[dT,dT,ly,nw ab];rfl
theorem aEV{l:List UInt8}:cU aq O (.const (.string ⟨⟨l⟩⟩))=J (.dv (.str (l.map kj)) .no):=rfl
theorem aET:cU aq O (.const .nilFunc)=J (.dv .nilFunc .no):=rfl
end
attribute[go_sem]aEV aET UInt8.reduceToNat amk amB amm amw amt ams amo amn amT amV
attribute[go_sem]aA8 Option.or
section
variable{O:St}{x:aK}{d e t:Nat}{dd:DV}{u:iK}
theorem aBD:vP O x d .take (.dv dd (.ex e))=(aG O (J d) (.dv dd (.ex e))).bind λO=>J (aQ (λ_=>.sr d) O x):=by show Option.map _ _=_;grind[aG]
theorem aBC:vP O x d .take (.dv dd .any)=aG (aQ leave O x) (J d) (.dv dd .any):=(rfl)
theorem aBy:vP O x d .len (.dv dd (.ex e))=(nd dd).bind λn=>aG O (J d) (.hd n):=(rfl)
theorem aBA:vP O (.tmp t) d .ref (.dv dd (.ex e))=aG O (J d) (.sr t):=(rfl)
theorem aBw:vP O x d .copy (.dv dd (.ex e))=aG (aQ share O x) (J d) (.dv dd .no):=(rfl)
theorem aBv(h:u≠.take):vP O x d u (.dv dd .any)=aG O (J d) (.dv dd .any):=by cases u<;>first|rfl|grind
theorem aBF(h:u≠.take):vP O x d u (.dv dd (.ty e))=aG (aQ share O x) (J d) (.dv dd .no):=by cases u<;>first|rfl|grind
end
attribute[go_sem]aBD aBC aBy aBA aBw aBv aBF Bool.and_false Bool.false_and iK.join
section
variable{P:aH}{O:St}{x:aK}{d:ah Tmp}{e n i:Nat}{t:an}{u:iK}{nl:Bool}{xs l new:ao}{dd:DV}
theorem axB(h:aW P e=J n):BG P O d x i (J (.slice e)) (.dv (bw nl xs e n) .no)=(xs[i]?).bind λv=>aG O d (.ev v):=by
 have e1:=pw n;have e2:=pw e;rcases xs with _|⟨a,xs⟩;.cases nl with|true=>rfl|false=>show(aW P e).bind _=_;grind
 show(aW P e).bind _=_;grind
theorem axF(h:aW P e=J n):BG P O d x i (J (.slice e)) (.dv (.ay xs e n) .no)=(xs[i]?).bind λv=>aG O d (.ev v):=by have e1:=pw n;have e2:=pw e;show(aW P e).bind _=_;grind
theorem aAI:Mh P t u O d (.ev dd)=(AM.isAgg P t).bind λa=>bif a then(aW P t).bind λn=>bif !dd.aU&&aw dd.flat.length n then aG O d (.dv dd .no)else Z else bif dd.aU then aG O d (.dv dd .no)else Z:=by show(match AM.isAgg P t with|some V=>_|some C=>_|none=>Z)=_;grind
theorem p8{b:Nat}(c:n≠0)(h:(l.length+new.length)*b<=bm)(a:l.length+new.length<=bm):fu e n b (.ay l e n) (.ex e) new=J (.ay (l++new) e n,.ex e):=by grind[fu,kS,pw,nw]
theorem aAx:Qs (.ay l e n)=J l:=rfl
end
theorem ae.KE:∀l:bq,((ae.bn l).all λy=>decide (y.flat.length=14))=V|[]=>rfl|q::l=>by show(decide (q.cells.length=14)&&(ae.bn l).all _)=V;rw[ae.dE,ae.KE l];rfl
theorem Expr.KE:∀l:List Expr,((Expr.bn l).all λy=>decide (y.flat.length=8))=V|[]=>rfl|q::l=>by show(decide (q.cells.length=8)&&(Expr.bn l).all _)=V;rw[Expr.dE,Expr.KE l];rfl
theorem ae.Bh:∀l m:bq,ae.bn (l++m)=ae.bn l++ae.bn m|[],m=>rfl|q::l,m=>by simp[ae.bn,ae.Bh l m]
theorem Expr.Bh:∀l m:List Expr,Expr.bn (l++m)=Expr.bn l++Expr.bn m|[],m=>rfl|q::l,m=>by simp[Expr.bn,Expr.Bh l m]
attribute[go_sem]axB axF aAI aAx ae.KE Expr.KE ae.KF Expr.KF ae.qF Expr.qF ae.dE Expr.dE ae.pure Expr.pure aa3 Sp
theorem avi{a:List aK}{t:Array an}:handsOn (.call ⟨.value x,⟨a⟩,t⟩)=x::a:=by simp[handsOn,eL,Call.operands]
attribute[go_sem]avi
theorem flat_agg:(DV.agg l).flat=l:=rfl
theorem atf{n:Int}:(DV.int k n).flat=[.int k n]:=rfl
theorem atb{b:Bool}:(DV.bool b).flat=[.bool b]:=rfl
theorem atm{b:aC}:(DV.str b).flat=[.str b]:=rfl
theorem atj:DV.nl.flat=[.nl]:=rfl
theorem atg{n:Nat}:(DV.ay l e n).flat=[.ay l e n]:=rfl
theorem atd:(DV.func f l m).flat=[.func f l m]:=rfl
theorem ati:DV.nilFunc.flat=[.nilFunc]:=rfl
theorem atl{b:Nat}:(DV.ptr a b).flat=[.ptr a b]:=rfl
theorem atc{a:Bool}{n:Nat}:(bw a l e n).flat=[bw a l e n]:=by
 unfold bw;split;.cases a<;>rfl
 rfl
attribute[go_sem]flat_agg atf atb atm atj atg atd ati atl atc
theorem aEe:dk 0=0:=rfl
theorem aBW:FE (.int k 0)=J 0:=rfl
theorem aBX:FE (.int k 1)=J 1:=rfl
theorem aBY:FE (.int k 2)=J 2:=rfl
theorem aBZ{n:Nat}:FE (.int k (.ofNat n))=J n:=rfl
attribute[go_sem]aEe aBW aBX aBY aBZ
section
variable{P:aH}{cf:bU}{rec:dR}{O:St}{gs cr:aC}{l:List aB}{d:ah Tmp}{ty:an}{pos:String}{af:Array Edge}{wh:ah (Nat×Bool)}{x y:aK}{t u:an}{ts:Array an}
def agS(s:St)(d:ah Tmp):DV->DV->ah St|.int k a,.int _ b=>aG s d (.dv (.int k (bif aA a b then b else a)) .no)|_,_=>Z
theorem akO:dG P cf rec gs cr l O ⟨d,.call ⟨.builtin .max,⟨[x,y]⟩,ts⟩,ty,pos,af,wh⟩=(bj cf.aq O x).bind λa=>(bj cf.aq O y).bind (agS O d a):=by
 show((bj _ O x).bind λb=>((bj _ O y).bind _).bind _).bind _=_;rcases bj _ O x with _|a;.rfl
 rcases bj _ O y with _|b;.rfl
 cases a<;>cases b<;>rfl
theorem aBl{b:Nat}:(bif decide (a<b)then dk b else dk a)=dk (max a b):=ai
def afW(P:aH)(t:St)(d:ah Tmp)(i:Nat):ah TypeDesc->DV->ah St|some .string,.str s=>(s[i]?).bind λb=>aG t d (.dv (.int .u8 (.ofNat b)) .no)|_,_=>Z
theorem akI{i:aK}:dG P cf rec gs cr l O ⟨d,.index t x i,ty,pos,af,wh⟩=(bj cf.aq O i).bind λv=>(FE v).bind λa=>(bj cf.aq O x).bind (afW P O d a (P.underlying t)):=by show(match bj _ O i with|some (.int _ (.ofNat a))=>(match P.underlying t,bj _ O x with|some .string,J (.str s)=>(s[a]?).bind _|_,_=>Z)|_=>Z)=_;cases bj _ O i with|none=>rfl|some v=>cases v with
 |int k z=>
 rcases z with a|i;.show _=(bj _ O x).bind _;cases h:P.underlying t with|none=>cases bj _ O x<;>rfl|some w=>cases bj _ O x with|none=>grind|some q=>cases w with|string=>cases q<;>rfl|_=>rfl
 rfl|_=>rfl
def Mp:ah TypeDesc->ah (an×an)|some (.map k e)=>J (k,e)|_=>Z
def Fx:DV->ah Nat|.map r=>J r|_=>Z
def Fu(g:GH)(r:Nat):ah (List lq×Nat):=match g.get r with|some (.map e c)=>J (e,c)|_=>Z
def agI(P:aH)(s:St)(d:ah Tmp)(t:an):ah (Nat×lq)->ah St|some (_,e)=>aG s d (.dv e.2.1 .no)|none=>(cu P t).bind λz=>aG s d (.dv z .no)
theorem akL{k:aK}:dG P cf rec gs cr l O ⟨d,.lookup t x k C,ty,pos,af,wh⟩=(Mp (P.underlying t)).bind λq=>(bj cf.aq (cZ O (Op.lookup t x k C).operands.toList) x).bind λv=>(Fx v).bind λr=>(Fu (cZ O (Op.lookup t x k C).operands.toList).g r).bind λm=>(bj cf.aq (cZ O (Op.lookup t x k C).operands.toList) k).bind λa=>bif sU P q.1 a then(findD P q.1 a m.1 0).bind (agI P (cZ O (Op.lookup t x k C).operands.toList) d q.2)else Z:=by show(match P.underlying t,bj _ (cZ O (Op.lookup t x k _).operands.toList) x with|some (.map b e),J (.map r)=>(match(cZ O (Op.lookup t x k _).operands.toList).g.get r with|some (.map s _)=>(bj _ _ k).bind _|_=>Z)|_,_=>Z)=_;cases P.underlying t with|none=>rfl|some w=>cases w with
 |map b e=>cases bj _ _ x with|none=>rfl|some v=>cases v with
  |map r=>
  simp only[Fx,Fu,cR];rcases(cZ O _).g.get r with _|o;.rfl
  cases o<;>rfl|_=>rfl
 |_=>rfl
def VG(s:St)(d:ah Tmp)(r:Nat)(a:List lq)(c:Nat)(k x:DV):ah (Nat×lq)->ah St|some (i,e)=>bif k.aU then aG {s with sl:=cN s.sl,g:=s.g.set r (.map (a.take i++(e.1,x,e.2.2)::a.drop (i+1)) c)} d (.tp [])else Z|none=>aG {s with sl:=cN s.sl,g:=s.g.set r (.map (a++[(k,x,c)]) (c+1))} d (.tp [])
theorem akN{m k:aK}:dG P cf rec gs cr l O ⟨d,.mapUpdate t m k x,ty,pos,af,wh⟩=(Mp (P.underlying t)).bind λq=>(bj cf.aq (cZ O (ry t m k x).operands.toList) m).bind λv=>(Fx v).bind λr=>(Fu (cZ O (ry t m k x).operands.toList).g r).bind λs=>(bj cf.aq (cZ O (ry t m k x).operands.toList) k).bind λa=>(bj cf.aq (cZ O (ry t m k x).operands.toList) x).bind λb=>bif sU P q.1 a then(findD P q.1 a s.1 0).bind (VG (cZ O (ry t m k x).operands.toList) d r s.1 s.2 a b)else Z:=by show(match P.underlying t,bj cf.aq (cZ O (ry t m k x).operands.toList) m with|some (.map f _),J (.map r)=>(match(cZ O (ry t m k x).operands.toList).g.get r with|some (.map s c)=>(bj cf.aq (cZ O (ry t m k x).operands.toList) k).bind λa=>(bj cf.aq (cZ O (ry t m k x).operands.toList) x).bind λb=>bif sU P f a then(findD P f a s 0).bind λ|some (i,e)=>bif a.aU then aG {(cZ O (ry t m k x).operands.toList)with sl:=cN (cZ O (ry t m k x).operands.toList).sl,g:=(cZ O (ry t m k x).operands.toList).g.set r (.map (s.take i++(e.1,b,e.2.2)::s.drop (i+1)) c)} d (.tp [])else Z|none=>aG {(cZ O (ry t m k x).operands.toList)with sl:=cN (cZ O (ry t m k x).operands.toList).sl,g:=(cZ O (ry t m k x).operands.toList).g.set r (.map (s++[(a,b,c)]) (c+1))} d (.tp [])else Z|_=>Z)|_,_=>Z)=_;cases P.underlying t with|none=>rfl|some w=>cases w with
 |map f h=>show _=(bj cf.aq (cZ O (ry t m k x).operands.toList) m).bind _;cases bj cf.aq (cZ O (ry t m k x).operands.toList) m with|none=>rfl|some v=>cases v with
  |map r=>simp only[Fx,Fu,cR];cases(cZ O (ry t m k x).operands.toList).g.get r with|none=>rfl|some o=>cases o<;>rfl
  |_=>rfl
 |_=>rfl
theorem akR:dG P cf rec gs cr l O ⟨d,.makeMap t Z,ty,pos,af,wh⟩=aG {O with g:=O.g.alloc (.map [] 0)} d (.dv (.map O.g.next) .no):=(rfl)
theorem akQ{f:bW}{a b:List aK}:dG P cf rec gs cr l O ⟨d,.makeFunc (.func f) ⟨a⟩ ⟨b⟩,ty,pos,af,wh⟩=(opsV cf.aq (cZ O (Op.makeFunc (.func f) ⟨a⟩ ⟨b⟩).operands.toList) a).bind λc=>(opsV cf.aq (cZ O (Op.makeFunc (.func f) ⟨a⟩ ⟨b⟩).operands.toList) b).bind λe=>aG (cZ O (Op.makeFunc (.func f) ⟨a⟩ ⟨b⟩).operands.toList) d (.dv (.func f c e) .no):=by show(cw _ a).bind _=_;rw[Du,Du];rfl
def MC(a:Nat->ah ao)(s:St):ah aK->ah (ah DV)|none=>J Z|some x=>(bj a s x).bind λv=>J (J v)
theorem akW{o h m:ah aK}:dG P cf rec gs cr l O ⟨d,.slice t x o h m,ty,pos,af,wh⟩=(bj cf.aq (cZ O (Op.slice t x o h m).operands.toList) x).bind λv=>(MC cf.aq (cZ O (Op.slice t x o h m).operands.toList) o).bind λI=>(MC cf.aq (cZ O (Op.slice t x o h m).operands.toList) h).bind λc=>(MC cf.aq (cZ O (Op.slice t x o h m).operands.toList) m).bind λF=>(oD P t v I c F).bind λr=>aG (cZ O (Op.slice t x o h m).operands.toList) d (.dv r.1 r.2):=by
 have e:∀(O:St)(x:aK),(bj cf.aq O x).map J=(bj cf.aq O x).bind λv=>J (J v):=by intro O x;cases bj _ O x<;>rfl
 unfold dG dC;cases o<;>cases h<;>cases m<;>simp only[MC,cR,e]<;>rfl
def acz(t:St)(d:ah Tmp)(P:aH):ah TypeDesc->ah TypeDesc->DV->ah St|some _,J (.int k),.int _ n=>aG t d (.dv (.int k (dN k n)) .no)|some .string,J (.slice e),.str s=>(match P.underlying e with|some (.int .u8)=>aG t d (.dv (.ay (s.map λb=>.int .u8 (.ofNat b)) e 1) .no)|_=>Z)|_,_,_=>Z
theorem akE:dG P cf rec gs cr l O ⟨d,.convert t u x,ty,pos,af,wh⟩=(bj cf.aq (cZ O [x]) x).bind (acz (cZ O [x]) d P (P.underlying t) (P.underlying u)):=(rfl)
def Oj(c:bU)(r:dR)(s:St)(o:Op)(x:aK)(a:List aK):DV->ah (St×SV)
 |.func h f b=>bif aw (c.fk h) 0 then(opsV c.aq (cZ s (handsOn o)) a).bind λar=>jv c r h (f++ar++b) .no (cZ s (handsOn o)).g λv g=>J ({cZ s (handsOn o)with g:=g},v)else bif aw (c.fk h) 3&&c.iw h then(Hh c.aq s a).bind λar=>jv c r h (f++ar++b) .no s.g λv _=>bif v.plain then J (s,v)else Z else qC c r s o x a|.dU i=>(opsV c.aq (cZ s (handsOn o)) a).bind λar=>(r (.dU i ar (cZ s (handsOn o)).g)).bind λ|.val v g=>J ({cZ s (handsOn o)with g:=g},v)|_=>Z
 |_=>Z
theorem anm{o:Op}{s:Nat}{a:List aK}:qC cf rec O o (.tmp s) a=(bj cf.aq O (.tmp s)).bind (Oj cf rec O o (.tmp s) a):=by cases h:bj _ O _ with|none=>grind[qC]|some v=>cases v with|func f b c=>show _=(bif aw _ 0 then _ else bif aw _ 3&&cf.iw f then _ else _);grind[qC,cZ,Du,kS,SG]|dU i=>unfold qC;rw[h];rw[Du];rfl|_=>unfold qC;rw[h];rfl
theorem ane{o:Op}{a:List aK}{h:bW}{f c:ao}(e:cf.fk h=0):Oj cf rec O o x a (.func h f c)=(opsV cf.aq (cZ O (handsOn o)) a).bind λar=>jv cf rec h (f++ar++c) .no (cZ O (handsOn o)).g λv g=>J ({cZ O (handsOn o)with g:=g},v):=by show(bif aw _ 0 then _ else _)=_;simp_all
theorem anf{o:Op}{a:List aK}{h:bW}{f c:ao}(e:cf.fk h=3)(b:cf.iw h=V):Oj cf rec O o x a (.func h f c)=(Hh cf.aq O a).bind λar=>jv cf rec h (f++ar++c) .no O.g λv _=>bif v.plain then J (O,v)else Z:=by show(bif aw _ 0 then _ else bif aw _ 3&&cf.iw h then _ else _)=_;rw[e,b];rfl
theorem ann{f:bW}{a:ao}{k:SV->GH->ah α}(h:(cf.iw f||cf.nZ f)=C):jv cf rec f a ow g k=(rec (.call f a ow g)).bind λ|.val v g=>k v g|_=>Z:=by rw[JV]at h;unfold jv;rw[h.1,h.2];rfl
theorem ano{f:bW}{a:ao}{k:SV->GH->ah α}(h:cf.iw f=C)(c:cf.nZ f=V)(d:cg a=V):jv cf rec f a ow g k=(rec (.call f a ow ⟨g.next,[]⟩)).bind λ|.val v b=>bif FF g b then k v ⟨b.next,b.kb++g.kb⟩else Z|_=>Z:=by unfold jv;rw[h,c,d];rfl
theorem aBx{v:aD}{d:Nat}{u:iK}{a:DV}:vP O (.const v) d u (.dv a .no)=aG O (J d) (.dv a .no):=by cases u<;>rfl
theorem ans{b:Builtin}{a:List aK}:(Call.mk (.builtin b) ⟨a⟩ ts).operands.toList=a:=by simp[Call.operands]
theorem ant{a:List aK}:(Call.mk (.value x) ⟨a⟩ ts).operands.toList=x::a:=by simp[Call.operands]
end
attribute[go_sem↓]akO akI akL akN akR akQ akW akE
attribute[go_sem]agS aBl afW Mp Fx Fu agI VG MC acz anm ane anf ann aBx ans ant kD SV.plain DV.plain ML
def st0:St:=⟨0,0,[],[],.empty⟩
def SI(o:List aB)(l:List (Nat×Kd))(j:Nat)(k:Kd):List (Nat×Nat):=l.filterMap λe=>bif Kd.apart e.2 k||rh o e.1 j then Z else J (e.1,j)
def Kk(c:bU)(p:List aB):List aB->Nat->List (Nat×Kd)->List (Nat×Nat)|[],_,_=>[]|o::l,j,g=>SI p g j (kindOf c st0 o.op)++Kk c p l (j+1) ((j,kindOf c st0 o.op)::g)
def AG(c:bU)(o:List aB):List (Nat×Nat):=Kk c o o 0 []
def dz(c:bU)(o:List aB):Bool:=nE c st0 o&&(AG c o).isEmpty
def vK(b:List (Nat×Nat))(i j:Nat):Bool:=b.any λp=>aw p.1 i&&aw p.2 j
def ED(b:List (Nat×Nat))(i:Nat):Bool:=b.any λp=>aw p.1 i
section
variable{P:aH}{cf:bU}{rec:dR}{gs cr:aC}
theorem Vq{s:St}{o:Op}:(jE cf s o).kd=kindOf cf st0 o:=by unfold jE;cases o<;>first|rfl|(simp only;split<;>rfl)
def Kx.fr(a b:Kx):Bool:=Kx.xU a b||Kx.xU b a
def ue(P:aH)(c:bU)(r:dR)(s a:aC)(p:List aB)(b:List (Nat×Nat)):List aB->Nat->List (Nat×Kx)->(eF->ah bh)->St->ah bh|[],_,_,k,st=>k (.fG st)|o::l,j,g,k,st=>(yX ⟨p⟩ st o).bind λw=>bif w then bif g.all λe=>!(vK b e.1 j)||Kx.fr e.2 (jE c st o.op)then(dG P c r s a l st o).bind (ue P c r s a p b l (j+1) (bif ED b j then(j,jE c st o.op)::g else g) k)else Z else(aG st o.dst (.tp [])).bind (ue P c r s a p b l (j+1) g k)
theorem aH5{b:List (Nat×Nat)}{k:eF->ah bh}:∀(l:List aB)(j:Nat)(full:List (Nat×Kd))(g y:List (Nat×Kx))(st:St),(∀p,p∈Kk cf ops l j full->p∈b)->(∀e,e∈g->(e.1,e.2.kd)∈full/\(ED b e.1=V->e∈y))->ue P cf rec gs cr ops b l j y k st=J r->(kf P cf rec gs cr V ⟨ops⟩ l j g st).bind (λst=>k (.fG st))=J r:=by intro l;induction l with|nil=>intro j full g y st _ _ h;exact h|cons o l i=>intro j full g y st f d h;unfold ue at h;obtain⟨w,q,h⟩:=aE h;unfold kf;rw[q];simp only[cR];have u:∀p,p∈Kk cf ops l (j+1) ((j,kindOf cf st0 o.op)::full)->p∈b:=λp n=>f p (Sj _ n);cases w with
 |true=>
 simp only[aR]at h|-;rcases m:(y.all λe=>!(vK b e.1 j)||Kx.fr e.2 (jE cf st o.op))with _|_;.grind
 rw[m]at h;simp only[aR]at h;have A:IS ops g j (jE cf st o.op)=V:=by unfold IS;rw[AW];intro e a;obtain⟨c,t⟩:=d e a;cases v:Kd.apart e.2.kd (jE cf st o.op).kd||rh ops e.1 j with|true=>grind[Kx.apart,Kx.fr]|false=>
  have B:(e.1,j)∈b:=by refine f _ (J3 _ ?_);grind[SI,Vq]
  have x:ED b e.1=V:=by grind[ED,pw]
  have z:vK b e.1 j=V:=by simp_all[vK]
  grind[Kx.apart,Kx.fr]
 obtain⟨s,c,h⟩:=aE h;have:=i (j+1) ((j,kindOf cf st0 o.op)::full) ((j,jE cf st o.op)::g) _ s u (λe a=>by grind[Vq]) h;grind|false=>simp only[bX]at h|-;obtain⟨s,c,h⟩:=aE h;rw[c];simp only[cR];exact i (j+1) ((j,kindOf cf st0 o.op)::full) g y s u (λe a=>⟨jR _ (d e a).1,(d e a).2⟩) h
theorem aoR{f:ah Nat}{s:St}{k:eF->ah bh}{i:Nat}{b:List (Nat×Nat)}(h:nE cf st0 ops=V)(c:AG cf ops=b)(a:ue P cf rec (cf.tH s.fn) (cf.zF s.fn) ops b ops 0 [] (FA (cf.keep s.fn i) k) s=J r):exec P cf rec f (.region i ⟨ops⟩ V) s k=J r:=by show(bif !V||nE cf s _ then _ else Z)=_;have e:nE cf s _=nE cf st0 ops:=rfl;rw[e,h];subst c;exact aH5 _ 0 [] [] [] s (λp d=>d) aT a
theorem aH6:∀(l:List aB)(j:Nat)(full:List (Nat×Kd))(g:List (Nat×Kx))(st:St),(∀e,e∈g->(e.1,e.2.kd)∈full)->Kk cf ops l j full=[]->kf P cf rec gs cr V ⟨ops⟩ l j g st=kf P cf rec gs cr C ⟨ops⟩ l j [] st:=by intro l;induction l with|nil=>intro j full g st _ _;rfl|cons o l i=>intro j full g st s h;obtain⟨p,L⟩:=List.append_eq_nil_iff.1 h;unfold kf;congr 1;funext w;grind[IS,Kx.apart,SI,Vq]
theorem asq{r:ah Nat}{s:St}{k:eF->ah bh}{i:Nat}(h:dz cf ops=V):exec P cf rec r (.region i ⟨ops⟩ V) s k=re P cf rec (cf.tH s.fn) (cf.zF s.fn) (.mk ops (.mk ops)) (.mk ops (.mk ops)) (FA (cf.keep s.fn i) k) s:=by unfold dz at h;rw[gu]at h;show(bif !V||nE cf s _ then _ else Z)=_;have e:nE cf s _=nE cf st0 ops:=rfl;rw[e,h.1];rw[aH6 _ 0 [] [] s aT (List.isEmpty_iff.1 h.2)];rfl
end
def opsOf(d:Nat):bM->ah (List aB)|.region i ops _=>bif aw i d then J ops.toList else Z|.seq a b|.cond _ a b|.rangeFunc _ _ a b=>(opsOf d a).or (opsOf d b)|.block _ b|.loop b|.scope b=>opsOf d b|_=>Z
def bH(f:Func)(i:Nat):List aB:=((f.body).bind (opsOf i)).getD []
attribute[go_sem↓]asq
open Proofs.Tryz
theorem aKi:dz cf (bH f363 17)=V:=by rfl
theorem aKk:dz cf (bH f65 14)=V:=by rfl
theorem aJ1:dz cf (bH f143 6)=V:=by rfl
theorem aJ2:dz cf (bH f151 6)=V:=by rfl
theorem aJ3:dz cf (bH f255 6)=V:=by rfl
theorem aJ4:dz cf (bH f155 11)=V:=by rfl
theorem aJ5:dz cf (bH f203 3)=V:=by rfl
theorem aJ6:dz cf (bH f205 4)=V:=by rfl
theorem aJ7:dz cf (bH f205 6)=V:=by rfl
theorem aJ8:dz cf (bH f205 7)=V:=by rfl
theorem aJ9:dz cf (bH f156 10)=V:=by rfl
theorem aKa:dz cf (bH f240 10)=V:=by rfl
theorem aKd:dz cf (bH f211 9)=V:=aL
theorem aKc:dz cf (bH f211 11)=V:=aL
theorem aKg:dz cf (bH f291 10)=V:=aL
theorem aKh:dz cf (bH f294 5)=V:=by rfl
theorem aIB:AG cf (bH f65 17)=[(1,2)]:=by rfl
theorem aIQ:nE cf st0 (bH f65 17)=V:=by rfl
theorem aIx:AG cf (bH f153 13)=[(7,8)]:=by rfl
theorem aIM:nE cf st0 (bH f153 13)=V:=by rfl
theorem aIy:AG cf (bH f153 18)=[(1,2)]:=by rfl
theorem aIN:nE cf st0 (bH f153 18)=V:=by rfl
theorem aIA:AG cf (bH f298 1)=[(1,4)]:=by rfl
theorem aIP:nE cf st0 (bH f298 1)=V:=by rfl
theorem Expr.JA(e:Expr):List.take 8 e.cells=e.cells:=by grind[Expr.dE]
theorem ae.JA(e:ae):List.take 14 e.cells=e.cells:=by grind[ae.dE]
attribute[go_sem]Expr.JA ae.JA
structure Sl(α:Type)where
 nl:Bool
 l:List α
abbrev iD(n:Int):DV:=.int .i64 n
def cE(s:Sl Int):DV:=bw s.nl (s.l.map iD) 3 1
structure Guard where
 scope:Int
 ty:Int
 var:Int
 cond:Expr
structure kC where
 scope:Int
 span:Int
structure Edge where
 src:Int
 dst:Int
 var:Int
 ty:Int
 cond:Expr
 opens:Sl Int
 ma:Sl Int
 jN:Sl Expr
 ka:Sl kC
 inside:Sl Int
abbrev gh:=List Edge
structure Stat where guards:Sl Guard
structure dJ where
 vars:Int
 scopes:Int
 mM:Sl Stat
 oN:Sl Edge
structure lr where
 name:aC
 kind:Int
structure b9 where
 name:aC
 fields:Sl lr
structure eA where
 name:aC
 ty:Int
structure cA where
 name:aC
 vars:Sl eA
 key:Sl Int
 pat:ae
 jG:Sl Expr
structure eJ where
 types:Sl b9
 query:cA
 xK:dJ
def uB(s:Sl Expr):DV:=bw s.nl (Expr.bn s.l) 64 8
def Guard.cells(g:Guard):ao:=[iD g.scope,iD g.ty,iD g.var]++g.cond.cells
def Guard.d(g:Guard):DV:=.agg g.cells
def kC.d(g:kC):DV:=.agg [iD g.scope,iD g.span]
def Dl(s:Sl kC):DV:=bw s.nl (s.l.map kC.d) 373 2
def CW(s:Sl Guard):DV:=bw s.nl (s.l.map Guard.d) 305 11
def Edge.cells(e:Edge):ao:=[iD e.src,iD e.dst,iD e.var,iD e.ty]++e.cond.cells++[cE e.opens,cE e.ma,uB e.jN,Dl e.ka,cE e.inside]
def Edge.d(e:Edge):DV:=.agg e.cells
def Stat.d(s:Stat):DV:=.agg [CW s.guards]
def AH(s:Sl Stat):DV:=bw s.nl (s.l.map Stat.d) 227 1
def zI(s:Sl Edge):DV:=bw s.nl (s.l.map Edge.d) 257 17
def dJ.cells(a:dJ):ao:=[iD a.vars,iD a.scopes,AH a.mM,zI a.oN]
def lr.d(f:lr):DV:=.agg [.str f.name,iD f.kind]
def CQ(s:Sl lr):DV:=bw s.nl (s.l.map lr.d) 66 2
def b9.d(s:b9):DV:=.agg [.str s.name,CQ s.fields]
def cB(s:Sl b9):DV:=bw s.nl (s.l.map b9.d) 69 2
def eA.d(v:eA):DV:=.agg [.str v.name,iD v.ty]
def kB(s:Sl eA):DV:=bw s.nl (s.l.map eA.d) 71 2
def cA.cells(q:cA):ao:=[.str q.name,kB q.vars,cE q.key]++q.pat.cells++[uB q.jG]
def eJ.cells(p:eJ):ao:=[cB p.types]++p.query.cells++p.xK.cells
theorem Guard.dE(g:Guard):g.cells.length=11:=by simp[Guard.cells,Expr.dE]
theorem Edge.dE(e:Edge):e.cells.length=17:=by simp[Edge.cells,Expr.dE]
theorem cA.dE(q:cA):q.cells.length=18:=by simp[cA.cells,ae.dE]
theorem eJ.dE(p:eJ):p.cells.length=23:=by simp[eJ.cells,cA.dE,dJ.cells]
theorem B0:∀a b:ao,cg (a++b)=(cg a&&cg b)|[],b=>by simp[cg]|x::a,b=>by simp[cg,B0 a b,Bool.and_assoc]
theorem gT{b:Type}{f:b->DV}(h:∀a,(f a).pure=V):∀l:List b,cg (l.map f)=V|[]=>rfl|a::l=>by simp[cg,h a,gT h l]
def LX(s:Sl Int):(cE s).pure=V:=nN (gT (λ_=>rfl) _)
def adI(s:Sl Expr):(uB s).pure=V:=nN (Expr.uX _)
theorem Guard.pure(g:Guard):g.d.pure=V:=by show cg _=V;simp[Guard.cells,cg,DV.pure,Expr.pure]
def auJ(s:Sl Guard):(CW s).pure=V:=nN (gT Guard.pure _)
def aAv(s:Sl kC):(Dl s).pure=V:=nN (gT (λ_=>rfl) _)
theorem Edge.pure(e:Edge):e.d.pure=V:=by show cg _=V;simp[Edge.cells,B0,cg,DV.pure,Expr.pure,LX,adI,aAv]
def apV(s:Sl Edge):(zI s).pure=V:=nN (gT Edge.pure _)
theorem Stat.pure(s:Stat):s.d.pure=V:=by show cg _=V;simp[cg,auJ]
def aKA(s:Sl Stat):(AH s).pure=V:=nN (gT Stat.pure _)
theorem dJ.pure(a:dJ):cg a.cells=V:=by simp[dJ.cells,cg,DV.pure,aKA,apV]
def asO(s:Sl lr):(CQ s).pure=V:=nN (gT (λ_=>rfl) _)
theorem b9.pure(s:b9):s.d.pure=V:=by show cg _=V;simp[cg,DV.pure,asO]
def Zz(s:Sl b9):(cB s).pure=V:=nN (gT b9.pure _)
def aMo(s:Sl eA):(kB s).pure=V:=nN (gT (λ_=>rfl) _)
theorem cA.pure(q:cA):cg q.cells=V:=by simp[cA.cells,B0,cg,DV.pure,ae.pure,aMo,LX,adI]
theorem eJ.pure(p:eJ):cg p.cells=V:=by simp[eJ.cells,B0,cg,Zz,cA.pure,dJ.pure]
theorem ik{c:bU}{b:bM}{t:Tg b}{s:St}{d:ah Nat}{f:bh->ah bh}(h:(exec P c (ev P c) d b s (nh P c (.mk b t) d)).bind f=J R):(ld (ev P c) (.mk b t) s d).bind f=J R:=by obtain⟨r,hr,k⟩:=aE h;grind[arI]
theorem AK{i:Nat}(h:i<9223372036854775808):dN .i64 (dk i)=dk i:=by show(bif ct i _ then dk i else _)=_;grind[vp]
def Oa{b:Nat}:kh (dk a) (dk b)=dk (a+b):=rfl
def Jc:cX->Nat->SV->cX|[],n,x=>[(n,x)]|(m,y)::t,n,x=>bif aw m n then(n,x)::t else(m,y)::Jc t n x
theorem aGJ{n:Nat}{x:SV}:Jc [] n x=[(n,x)]:=rfl
theorem aGI{m n:Nat}{x y:SV}{t:cX}:Jc ((m,y)::t) n x=if m=n then(n,x)::t else(m,y)::Jc t n x:=by show cond _ _ _=_;simp_all
def fo:cX->cX->cX|sl,[]=>sl|sl,(k,v)::t=>fo (Jc sl k v) t
theorem aMe{s:cX}:fo s []=s:=rfl
theorem aMd{s:cX}{x:Nat×SV}{t:cX}:fo s (x::t)=fo (Jc s x.1 x.2) t:=rfl
abbrev iS(i:Nat):SV:=.dv (.int .i64 (.ofNat i)) .no
abbrev zS(i:Int):SV:=.dv (.int .i64 i) .no
abbrev vI(i:Int):bh:=.val (.dv (.int .i64 i) .no) .empty
abbrev vB(b:Bool):bh:=.val (.dv (.bool b) .no) .empty
theorem Qu{c:Type}{b:bM}{t:Tg b}{r:ah Nat}{k:eF->ah bh}{g:St}(a:List α)(f:c)(S:Nat->c->St)(G:Nat->List α->c->bh)(I:Nat->List α->c->Prop)(o:a.length<9223372036854775807)(e:S 0 f=g)(n:I 0 a f)(h:G 0 a f=R)(j:∀s,I a.length [] s->(exec PP cf (ev PP cf) r b (S a.length s) (nh PP cf (.mk b t) r)).bind (fI k)=J (G a.length [] s))(m:∀i x l s,(i<a.length)=True->a[i]?=J x->dN .i64 (kh (dk i) 1)=dk (i+1)->I i (x::l) s->(∀d,I (i+1) l d->(ld (ev PP cf) (.mk b t) (S (i+1) d) r).bind (fI k)=J (G (i+1) l d))->(exec PP cf (ev PP cf) r b (S i s) (nh PP cf (.mk b t) r)).bind (fI k)=J (G i (x::l) s)):(ld (ev PP cf) (.mk b t) g r).bind (fI k)=J R:=by
 have y:∀(l:List α)(i:Nat)(s:c),i+l.length=a.length->a.drop i=l->I i l s->(ld (ev PP cf) (.mk b t) (S i s) r).bind (fI k)=J (G i l s):=by intro l;induction l<;>grind[ik,G1,vi,D5]
 grind
theorem sV{f:Type}{b:bM}{t:Tg b}{r:ah Nat}{k:eF->ah bh}{a:St}(c:List α)(d:f)(u:Nat->f->cX)(G:Nat->List α->f->bh)(I:Nat->List α->f->Prop)(o:c.length<9223372036854775807)(e:fo a.sl (u 0 d)=a.sl)(n:I 0 c d)(h:G 0 c d=R)(j:∀s,I c.length [] s->(exec PP cf (ev PP cf) r b ⟨a.fn,a.n,fo a.sl (u c.length s),a.lb,a.g⟩ (nh PP cf (.mk b t) r)).bind (fI k)=J (G c.length [] s))(m:∀i x l s,(i<c.length)=True->c[i]?=J x->dN .i64 (kh (dk i) 1)=dk (i+1)->I i (x::l) s->(∀g,I (i+1) l g->(ld (ev PP cf) (.mk b t) ⟨a.fn,a.n,fo a.sl (u (i+1) g),a.lb,a.g⟩ r).bind (fI k)=J (G (i+1) l g))->(exec PP cf (ev PP cf) r b ⟨a.fn,a.n,fo a.sl (u i s),a.lb,a.g⟩ (nh PP cf (.mk b t) r)).bind (fI k)=J (G i (x::l) s)):(ld (ev PP cf) (.mk b t) a r).bind (fI k)=J R:=Qu c d (λi s=>⟨a.fn,a.n,fo a.sl (u i s),a.lb,a.g⟩) G I o aT n h j m
def jn{b:bM}{t:Tg b}{r:ah Nat}{k:eF->ah bh}{s:St}(a:List α)(u:Nat->cX)(G:Nat->List α->bh)(g:a.length<9223372036854775807)(e:fo s.sl (u 0)=s.sl)(c:G 0 a=R)(h:(exec PP cf (ev PP cf) r b ⟨s.fn,s.n,fo s.sl (u a.length),s.lb,s.g⟩ (nh PP cf (.mk b t) r)).bind (fI k)=J (G a.length []))(d:∀i x l,(i<a.length)=True->a[i]?=J x->dN .i64 (kh (dk i) 1)=dk (i+1)->(ld (ev PP cf) (.mk b t) ⟨s.fn,s.n,fo s.sl (u (i+1)),s.lb,s.g⟩ r).bind (fI k)=J (G (i+1) l)->(exec PP cf (ev PP cf) r b ⟨s.fn,s.n,fo s.sl (u i),s.lb,s.g⟩ (nh PP cf (.mk b t) r)).bind (fI k)=J (G i (x::l))):(ld (ev PP cf) (.mk b t) s r).bind (fI k)=J R:=sV a () (λi _=>u i) (λi l _=>G i l) (λ_ _ _=>True) g e trivial c (λ_ _=>h) λi x l _ f j w _ m=>d i x l f j w (m () trivial)
def sC(x:ah bh)(v:SV):Prop:=∃g,x=J (.val v g)
theorem NV{w:SV}:sC (J (.val v g)) w=(v=w):=propext ⟨λ⟨_,h⟩=>ai,λh=>by subst h;exact⟨g,rfl⟩⟩
theorem wa{c:bU}{r:dR}{z:Bool}{A B:sG}(h:z=V->sC (kg P c r A) v)(a:z=C->sC (kg P c r B) v):sC (bif z then W P c r A else W P c r B) v:=by
 cases z;.exact a rfl
 .exact h rfl
theorem Hf{c:bU}{n:Nat}{b:Func}{d:bM}{r:List oK}{a:ao}(i:P.funcs[f]?=J b)(h:sC (exec P c (ev P c) Z d ⟨f,n,uu 0 ow a,[],g⟩ (B6 P r)) v)(e:b.body=J d:=by rfl)(k:b.results=⟨r⟩:=by rfl)(t:b.ntmps=n:=by rfl)(p:c.iU f a=Z:=by rfl)(j:(yx (r.map vY)&&bt a.length n&&!c.AI f)=V:=by rfl):sC (ev P c (.call f a ow g)) v:=h.imp λ_ h=>aO i h e k t p j
theorem Mk{d:Type}{b:bM}{t:Tg b}{r:ah Nat}{k:eF->ah bh}{g:St}{R:SV}(a:List α)(f:d)(S:Nat->d->St)(G:Nat->List α->d->SV)(I:Nat->List α->d->Prop)(w:a.length<9223372036854775807)(e:S 0 f=g)(v:I 0 a f)(u:G 0 a f=R)(m:∀s,I a.length [] s->sC ((exec PP cf (ev PP cf) r b (S a.length s) (nh PP cf (.mk b t) r)).bind (fI k)) (G a.length [] s))(n:∀i x l s,(i<a.length)=True->a[i]?=J x->dN .i64 (kh (dk i) 1)=dk (i+1)->I i (x::l) s->(∀c,I (i+1) l c->sC ((ld (ev PP cf) (.mk b t) (S (i+1) c) r).bind (fI k)) (G (i+1) l c))->sC ((exec PP cf (ev PP cf) r b (S i s) (nh PP cf (.mk b t) r)).bind (fI k)) (G i (x::l) s)):sC ((ld (ev PP cf) (.mk b t) g r).bind (fI k)) R:=by
 have y:∀(l:List α)(i:Nat)(s:d),i+l.length=a.length->a.drop i=l->I i l s->sC ((ld (ev PP cf) (.mk b t) (S i s) r).bind (fI k)) (G i l s):=by intro l;induction l with|nil=>intro i s o _ h;obtain rfl:i=a.length:=ab;exact(m s h).imp λ_ h=>ik h|cons x l q=>
  intro i s o hd h;have E:i<a.length:=ai;have p:a[i]?=J x:=by grind[G1]
  refine(n i x l s (ir E) p (vi ab) h λc j=>q _ c ai ?_ j).imp λ_ h=>ik h;grind[D5]
 grind
theorem alu{o:GO}:GH.empty.alloc o=⟨1,[(0,o)]⟩:=rfl
theorem aCb:GH.empty.next=0:=rfl
theorem alv{n:Nat}{l:List (Nat×GO)}{o:GO}:(GH.mk n l).alloc o=⟨n+1,put l n o⟩:=rfl
theorem aui{n i:Nat}{l:List (Nat×GO)}:(GH.mk n l).get i=look l i:=rfl
theorem aJb{n i:Nat}{l:List (Nat×GO)}{o:GO}:(GH.mk n l).set i o=⟨n,put l i o⟩:=rfl
theorem wB{n j:Nat}(h:l.length=n):(l++m)[n+j]?=m[j]?:=ai
theorem abc{n:Nat}(h:l.length=n):(l++m).take n=l:=aT
section
variable{e:Expr}{p:ae}{q:cA}{m:ao}
theorem eg8:(e.cells++m)[8]?=m[0]?:=wB (j:=0) e.dE
theorem eg9:(e.cells++m)[9]?=m[1]?:=wB (j:=1) e.dE
theorem apW:(e.cells++m)[10]?=m[2]?:=wB (j:=2) e.dE
theorem apX:(e.cells++m)[11]?=m[3]?:=wB (j:=3) e.dE
theorem apY:(e.cells++m)[12]?=m[4]?:=wB (j:=4) e.dE
theorem et8:(e.cells++m).take 8=e.cells:=abc e.dE
theorem aFW:(p.cells++m)[14]?=m[0]?:=wB (j:=0) p.dE
theorem aGx:(p.cells++m).take 14=p.cells:=abc p.dE
end
theorem aID{b:Bool}:(DV.bool b).aU=V:=rfl
theorem aIE{a b:ao}:(DV.func f a b).aU=V:=rfl
theorem aIG{n:Nat}:(DV.ay l e n).aU=V:=rfl
theorem aII:DV.nl.aU=V:=rfl
theorem aIK{b:Nat}:(DV.ptr a b).aU=V:=rfl
theorem aL6{b:Bool}:JI .not (.bool b)=J (.bool (!b)):=rfl
theorem aL5{n:Int}:JI .neg (.int k n)=J (.int k (dN k (Int.sub 0 n))):=rfl
theorem aKE{a:St}{d:ah Tmp}{v:DV}{s:Nat}:RF P t a d x v ow (.lp s I)=(look a.lb s).bind λb=>(yP P t b I v ow).bind λb=>aG {aQ leave a x with sl:=cN (aQ leave a x).sl,lb:=put a.lb s b} d (.tp []):=(rfl)
theorem aKC{b:LB}{v:DV}{o:aM}:yP P t b I v o=(aW P t).bind λn=>bif aw v.flat.length n&&bt (I+n) b.cells.length then J ⟨lg b.cells I v.flat,mK I v o++cY b.own I n⟩else Z:=(rfl)
theorem aFq{v:DV}:mK I v .no=[]:=by simp[mK]
theorem aFn{v:DV}:mK I v .any=[]:=by simp[mK]
theorem aFo{n:Nat}:mK I (.ay l e n) (.ex e)=[(I,.ex e)]:=rfl
theorem aoU{n:Nat}:cY [] I n=[]:=rfl
theorem aFY{l:aC}:MJ lb (a::l)=(match look lb a with|some b=>[(a,b)]|none=>[])++MJ lb (l.filter λb=>!(b==a)):=by grind[MJ]
theorem aBE{s:St}{d:Nat}{u:iK}{l:List (DV×aM)}:vP s x d u (.tp l)=aG (aQ leave s x) (J d) (.tp l):=(rfl)
theorem alx{x:DV×aM}{l:List (DV×aM)}:((x::l).all λx=>x.1.pure)=(x.1.pure&&l.all λx=>x.1.pure):=rfl
theorem alz{x:DV×aM}{l:List (DV×aM)}:((x::l).all λx=>x.1.plain)=(x.1.plain&&l.all λx=>x.1.plain):=rfl
theorem aly:(([]:List (DV×aM)).all λx=>x.1.pure)=V:=rfl
theorem alA:(([]:List (DV×aM)).all λx=>x.1.plain)=V:=rfl
def ia(P:aH)(t:an):ah (List (Nat×Nat)):=match P.underlying t with|some (.struct i)=>cw (λ(f:Field)=>(aW P f.type).map λn=>(f.offset,n)) i.toList|_=>Z
theorem amX{s:St}{d:ah Tmp}{p:List (Nat×DV)}{z:DV}(h:(ia P t).isSome=V):Oh P t s d p z=(ia P t).bind λa=>(xV (λi=>oZ a i) p z.flat).bind λl=>aG s d (.dv (.agg l) .no):=by grind[ia,Oh]
theorem asQ{p:Nat->ah (Nat×Nat)}:xV p [] l=J l:=rfl
theorem asP{l:Nat->ah (Nat×Nat)}{p:Nat×DV}{t:List (Nat×DV)}{c:ao}:xV l (p::t) c=(l p.1).bind λo=>bif aw p.2.flat.length o.2&&bt (o.1+o.2) c.length then xV l t (lg c o.1 p.2.flat)else Z:=rfl
theorem aC4{a:α}{l:List α}:oZ (a::l) 0=J a:=rfl
theorem aC5{a:α}{l:List α}{i:Nat}:oZ (a::l) (i+1)=oZ l i:=rfl
theorem CN{f:bW}{a:ao}(h:cf.iU f a=J (J v))(b:(aw (cf.fk f) 2&&!vU ow)=C):ev PP cf (.call f a ow g)=J (.val v g):=by apply KQ;show(match cf.iU f _ with|some r=>bif aw _ 2&&!vU ow then Z else r.map _|none=>_)=_;grind
theorem aqi{b:Nat}:aj (.ofNat a) (.ofNat b)=decide (a=b):=SJ
theorem gL{a b:Int}:aA a b=decide (a<b):=by cases a<;>cases b<;>simp only[aA,SN,JZ,Int.negSucc_eq]<;>first|exact decide_eq_decide.2 ab|exact(Bd ab).symm|grind
theorem iZ{a b:Int}:aj a b=decide (a=b):=by cases a<;>cases b<;>simp only[aj,SJ,JZ,Int.negSucc_eq]<;>first|exact decide_eq_decide.2 ab|rfl
theorem aqk{n:Nat}:aj (.ofNat (n+1)) 0=C:=rfl
section
variable{l:ao}
theorem aFE{l:List lr}:cg (l.map lr.d)=V:=gT (λ_=>rfl) _
theorem aFJ{l:List b9}:cg (l.map b9.d)=V:=gT b9.pure _
theorem aFM{l:List eA}:cg (l.map eA.d)=V:=gT (λ_=>rfl) _
theorem aib{l:cF}:cg (l.map iD)=V:=gT (λ_=>rfl) _
theorem aFG{l:List kC}:cg (l.map kC.d)=V:=gT (λ_=>rfl) _
theorem aFF{l:List Guard}:cg (l.map Guard.d)=V:=gT Guard.pure _
theorem aFC{l:gh}:cg (l.map Edge.d)=V:=gT Edge.pure _
theorem aFL{l:List Stat}:cg (l.map Stat.d)=V:=gT Stat.pure _
end
theorem aFU{c:ao}:jr P t c I=(AM.isAgg P t).bind λa=>bif a then(aW P t).bind λn=>bif bt (I+n) c.length then J (.agg ((c.drop I).take n))else Z else c[I]?:=by grind[jr]
theorem aBa{n:Nat}:decide (n<n)=C:=aT
attribute[go_sem]aGI aGJ aBE alx alz aly alA amX asQ asP aC4 aC5 aFE aFJ aFM aib aFG aFF aFC aFL NV alu aCb alv aui aJb aqi aFY D4 List.filter_nil Nat.reduceBNe aKE aKC aFq aFn aFo aoU lg jJ aqk aL6 aL5 ajg ajh aID aIE aIG aII aIK eg8 eg9 apW apX apY et8 aFW aGx wv ib iS zS vI vB iD cE uB Dl CW Guard.cells Guard.d Guard.dE kC.d Edge.d Edge.cells Edge.dE Stat.d AH zI dJ.cells lr.d CQ b9.d cB eA.d kB cA.dE Nf aFU aBa fZ ki gJ aMe aMd
theorem aKn:ia PP 209=J [(0,1)]:=aL
theorem aKp:ia PP 265=J [(0,1),(1,1),(2,1)]:=aL
theorem aKq:ia PP 312=J [(0,1),(1,1),(2,1)]:=aL
theorem aKr:ia PP 321=J [(0,1),(1,1)]:=aL
theorem aKv:ia PP 328=J [(0,1),(1,14)]:=aL
theorem aKs:ia PP 46=J [(0,1),(1,1),(2,1)]:=aL
theorem aKt:ia PP 64=J [(0,1),(1,1),(2,1),(3,1),(4,1),(5,3)]:=aL
theorem aKu:ia PP 75=J [(0,1),(1,1),(2,1),(3,1),(4,1),(5,1),(6,8)]:=aL
theorem aKw:ia PP 103=J [(0,1),(1,1),(2,1),(3,1)]:=aL
theorem aKx:ia PP 227=J [(0,1)]:=aL
theorem aKy:ia PP 257=J [(0,1),(1,1),(2,1),(3,1),(4,8),(12,1),(13,1),(14,1),(15,1),(16,1)]:=aL
theorem aKz:ia PP 305=J [(0,1),(1,1),(2,1),(3,8)]:=aL
theorem aKo:ia PP 373=J [(0,1),(1,1)]:=aL
attribute[go_sem]aKn aKp aKq aKr aKv aKs aKt aKu aKw aKx aKy aKz aKo
attribute[local congr]bB bC
set_option maxHeartbeats 4000000
mutual
def Expr.nn : Expr -> Nat
  | .mk _ _ args _ _ _ _ _ _ => Expr.bN args + 1
def Expr.bN : List Expr -> Nat
  | [] => 0
  | e :: l => e.nn + Expr.bN l
end
mutual
def Expr.mR (l : Nat) : Expr -> Nat
  | .mk _ _ args _ _ _ _ _ _ => Expr.p9 l args 1
def Expr.p9 (i : Nat) : List Expr -> Nat -> Nat
  | [], n => n
  | e :: l, n => if i < n then n else Expr.p9 i l (n + e.mR i)
end
mutual
theorem Expr.Kv (l : Nat) : ∀ e : Expr, e.mR l <= e.nn
  | .mk _ _ args _ _ _ _ _ _ => by
    have := Expr.Kw l args 1
    simp only [Expr.mR, Expr.nn]; omega
theorem Expr.Kw (i : Nat) : ∀ (l : List Expr) (n : Nat), Expr.p9 i l n <= n + Expr.bN l
  | [], n => by simp [Expr.p9, Expr.bN]
  | e :: l, n => by
    have h := Expr.Kv i e
    have a := Expr.Kw i l (n + e.mR i)
    simp only [Expr.p9, Expr.bN]
    split <;> omega
end
theorem Expr.mH:∀l:List Expr,l.length<=Expr.bN l|[]=>bS _|.mk _ _ _ _ _ _ _ _ _::l=>by have:=Expr.mH l;simp only[Expr.bN,Expr.nn,dH];omega
theorem Expr.rV:∀(l:List Expr)p,p∈l->p.nn<=Expr.bN l
 |[],p,h=>by simp at h|e::l,p,h=>by
  simp only[Expr.bN];rcases Cp.1 h with rfl|h;.omega
  .have:=Expr.rV l p h;omega
theorem TM(m:Nat):∀e:Expr,e.nn<100000000->CC 128 [.agg e.cells,.int .i64 (.ofNat m)] (vI (.ofNat (e.mR m)))
 |.mk o f args v M g k num str,n=>by
  simp only[Expr.nn]at n;refine aO func128 ?_;simp only[go_sem,f128,Expr.cells,Expr.mR];refine sV args (1:Nat) (λi s=>[(6,iS i),(5,iS s)]) (λ_ l s=>vI (.ofNat (Expr.p9 m l s))) (λ_ l s=>s+Expr.bN l<100000000) (by have:=Expr.mH args;omega) rfl ab rfl (λs _=>?_) (λi x l s a b w I c=>?_);.simp only[go_sem,Expr.p9]
  . simp only[Expr.bN]at I;have hr:=TM m x ab;have d:=Expr.Kv m x;by_cases h:m<s;.simp only[go_sem,a,Expr.p9,h]
    .simp only[go_sem,a,b,w,hr,Expr.p9,h,Oa,AK (show s+x.mR m<9223372036854775808 by omega)];exact c _ ab termination_by e=>pB e decreasing_by simp_wf;have:=pr (du b);omega
mutual
def ae.nn : ae -> Nat
  | .mk _ _ args _ _ _ _ _ => ae.bN args + 1
def ae.bN : bq -> Nat
  | [] => 0
  | e :: l => e.nn + ae.bN l
end
mutual
def ae.mR (l : Nat) : ae -> Nat
  | .mk _ _ args _ _ _ _ _ => ae.p9 l args 1
def ae.p9 (i : Nat) : bq -> Nat -> Nat
  | [], n => n
  | e :: l, n => if i < n then n else ae.p9 i l (n + e.mR i)
end
mutual
theorem ae.Kv (l : Nat) : ∀ e : ae, e.mR l <= e.nn
  | .mk _ _ args _ _ _ _ _ => by
    have := ae.Kw l args 1
    simp only [ae.mR, ae.nn]; omega
theorem ae.Kw (i : Nat) : ∀ (l : bq) (n : Nat), ae.p9 i l n <= n + ae.bN l
  | [], n => by simp [ae.p9, ae.bN]
  | e :: l, n => by
    have h := ae.Kv i e
    have a := ae.Kw i l (n + e.mR i)
    simp only [ae.p9, ae.bN]
    split <;> omega
end
theorem ae.mH:∀l:bq,l.length<=ae.bN l|[]=>bS _|.mk _ _ _ _ _ _ _ _::l=>by have:=ae.mH l;simp only[ae.bN,ae.nn,dH];omega
theorem ae.rV:∀(l:bq)p,p∈l->p.nn<=ae.bN l
 |[],p,h=>by simp at h|e::l,p,h=>by
  simp only[ae.bN];rcases Cp.1 h with rfl|h;.omega
  .have:=ae.rV l p h;omega
theorem TK(m:Nat):∀e:ae,e.nn<100000000->CC 126 [.agg e.cells,.int .i64 (.ofNat m)] (vI (.ofNat (e.mR m)))
 |.mk j g args t v c p o,n=>by
  simp only[ae.nn]at n;refine aO func126 ?_;simp only[go_sem,f126,ae.cells,ae.mR];refine sV args (1:Nat) (λi s=>[(6,iS i),(5,iS s)]) (λ_ l s=>vI (.ofNat (ae.p9 m l s))) (λ_ l s=>s+ae.bN l<100000000) (by have:=ae.mH args;omega) rfl ab rfl (λs _=>?_) (λi x l s a b w I d=>?_);.simp only[go_sem,ae.p9]
  . simp only[ae.bN]at I;have hr:=TK m x ab;have f:=ae.Kv m x;by_cases h:m<s;.simp only[go_sem,a,ae.p9,h]
    .simp only[go_sem,a,b,w,hr,ae.p9,h,Oa,AK (show s+x.mR m<9223372036854775808 by omega)];exact d _ ab termination_by e=>pB e decreasing_by simp_wf;have:=pr (du b);omega
mutual
def Expr.dep : Expr -> Nat
  | .mk _ _ args _ _ _ _ _ _ => Expr.nD args 0 + 1
def Expr.nD : List Expr -> Nat -> Nat
  | [], d => d
  | e :: l, d => Expr.nD l (max d e.dep)
end
mutual
theorem Expr.Ek : ∀ e : Expr, e.dep <= e.nn
  | .mk _ _ args _ _ _ _ _ _ => by
    have := Expr.Be args 0
    simp only [Expr.dep, Expr.nn]; omega
theorem Expr.Be : ∀ (l : List Expr) (d : Nat), Expr.nD l d <= d + Expr.bN l
  | [], d => by simp [Expr.nD, Expr.bN]
  | e :: l, d => by
    have h := Expr.Ek e
    have a := Expr.Be l (max d e.dep)
    simp only [Expr.nD, Expr.bN]; omega
end
theorem adt:∀e:Expr,e.nn<100000000->CC 193 [.agg e.cells] (vI (.ofNat e.dep))
 |.mk o f args v M g k num str,n=>by
  simp only[Expr.nn]at n;refine aO func193 ?_;have hd:=Expr.Be args 0;simp only[go_sem,f193,Expr.cells,Expr.dep];refine sV args (0:Nat) (λi s=>[(4,iS i),(3,iS s)]) (λ_ l s=>vI (.ofNat (Expr.nD l s+1))) (λ_ l s=>s+Expr.bN l<100000000) (by have:=Expr.mH args;omega) rfl ab rfl (λs h=>?_) (λi x l s b a w h c=>?_);.simp only[Expr.bN]at h;simp only[go_sem,Expr.nD,vi (show s+1<9223372036854775808 by omega)]
  .simp only[Expr.bN]at h;have hr:=adt x ab;have d:=Expr.Ek x;simp only[go_sem,b,a,w,hr,Expr.nD];exact c _ ab termination_by e=>pB e decreasing_by simp_wf;have:=pr (du a);omega
mutual
def ae.dep : ae -> Nat
  | .mk _ _ args _ _ _ _ _ => ae.nD args 0 + 1
def ae.nD : bq -> Nat -> Nat
  | [], d => d
  | e :: l, d => ae.nD l (max d e.dep)
end
mutual
theorem ae.Ek : ∀ e : ae, e.dep <= e.nn
  | .mk _ _ args _ _ _ _ _ => by
    have := ae.Be args 0
    simp only [ae.dep, ae.nn]; omega
theorem ae.Be : ∀ (l : bq) (d : Nat), ae.nD l d <= d + ae.bN l
  | [], d => by simp [ae.nD, ae.bN]
  | e :: l, d => by
    have h := ae.Ek e
    have a := ae.Be l (max d e.dep)
    simp only [ae.nD, ae.bN]; omega
end
theorem ady:∀e:ae,e.nn<100000000->CC 192 [.agg e.cells] (vI (.ofNat e.dep))
 |.mk j g args t v c p o,n=>by
  simp only[ae.nn]at n;refine aO func192 ?_;have hd:=ae.Be args 0;simp only[go_sem,f192,ae.cells,ae.dep];refine sV args (0:Nat) (λi s=>[(4,iS i),(3,iS s)]) (λ_ l s=>vI (.ofNat (ae.nD l s+1))) (λ_ l s=>s+ae.bN l<100000000) (by have:=ae.mH args;omega) rfl ab rfl (λs h=>?_) (λi x l s b a w h d=>?_);.simp only[ae.bN]at h;simp only[go_sem,ae.nD,vi (show s+1<9223372036854775808 by omega)]
  .simp only[ae.bN]at h;have hr:=ady x ab;have f:=ae.Ek x;simp only[go_sem,b,a,w,hr,ae.nD];exact d _ ab termination_by e=>pB e decreasing_by simp_wf;have:=pr (du a);omega
mutual
def nodes : ae -> bq
  | .mk o n args t v s p c => .mk o n args t v s p c :: eS args
def eS : bq -> bq
  | [] => []
  | q :: l => nodes q ++ eS l
end
theorem FI:∀l:bq,(eS l).length=ae.bN l|[]=>rfl|.mk o n args t v s p c::l=>by simp only[eS,nodes,ae.bN,ae.nn,ib,dH,FI args,FI l]
theorem TL:∀p:ae,p.nn<1200000->CC 127 [.agg p.cells] (.val (.dv (.ay (ae.bn (nodes p)) 75 14) (.ex 75)) .empty)
 |.mk t q args y r c a ⟨f,n,S,v,Y,o,b,e,d⟩,k=>by
  simp only[ae.nn]at k;refine aO func127 ?_;simp only[go_sem,f127,ae.cells,Expr.cells];refine sV args [ae.mk t q args y r c a ⟨f,n,S,v,Y,o,b,e,d⟩] (λi s=>[(4,iS i),(3,.dv (.ay (ae.bn s) 75 14) (.ex 75))]) (λ_ l s=>.val (.dv (.ay (ae.bn (s++eS l)) 75 14) (.ex 75)) .empty) (λ_ l s=>s.length+(eS l).length<1200000) (by have:=ae.mH args;omega) rfl (by have:=FI args;simp only[dH,gX];omega) rfl (λs h=>?_) (λi x l s j g w h m=>?_);.simp only[go_sem,eS,kD]
  . simp only[eS,ib]at h;have u:(nodes x).length=x.nn:=by have:=FI [x];simpa[eS,ae.bN]using this
    have hr:=TL x ab;have N:fu 75 14 152 (.ay (ae.bn s) 75 14) (.ex 75) (ae.bn (nodes x))=J (.ay (ae.bn (s++nodes x)) 75 14,.ex 75):=by rw[p8 fD (by simp only[ae.qF];show _<=bm;unfold bm;omega) (by simp only[ae.qF];unfold bm;omega),ae.Bh]
    simp only[go_sem,j,g,w,hr,N,eS];rw[<-wv];exact m _ (by simp only[ib];omega)termination_by p=>pB p decreasing_by simp_wf;have:=pr (du g);omega
def Expr.HM(e:Expr):Bool:=bif !(aA 200 (.ofNat (e.mR 200)))then !(aA 100 (.ofNat e.dep))else C
theorem KL(e:Expr)(n:e.nn<100000000):CC 125 [.agg e.cells] (vB e.HM):=by have a:ev PP cf (.call 128 [.agg _,.int _ 200] _ _)=_:=TM _ e n;have b:=adt e n;refine aO func125 ?_;simp only[go_sem,f125,a,Expr.HM];apply sp<;>intro h<;>simp only[h,go_sem,b]
def within(i n:Int):Bool:=bif !(aA i 0)then aA i n else C
theorem Et(i n:Int):CC 407 [.int .i64 i,.int .i64 n] (.val (.dv (.bool (within i n)) .no) .empty):=by refine aO func407 ?_;simp only[go_sem,f407,within];apply sp<;>intro h<;>simp only[h,go_sem]
def digit(b:Int):Bool:=bif !(aA b 48)then !(aA 57 b)else C
theorem adA(b:Int):CC 133 [.int .u8 b] (.val (.dv (.bool (digit b)) .no) .empty):=by refine aO func133 ?_;simp only[go_sem,f133,digit];apply sp<;>intro h<;>simp only[h,go_sem]
def letter(b:Int):Bool:=bif aj b 95 then V else bif(bif aA b 97 then C else !(aA 122 b))then V else bif aA b 65 then C else !(aA 90 b)
theorem aqw(b:Int):CC 137 [.int .u8 b] (.val (.dv (.bool (letter b)) .no) .empty):=by refine aO func137 ?_;simp only[go_sem,f137,letter];repeat'(with_reducible apply sp<;>intro h<;>simp only[*,go_sem])
theorem adk(b:Int):CC 194 [.int .u8 b] (vB (digit b)):=by refine aO func194 ?_;simp only[go_sem,f194,digit];repeat'(with_reducible apply sp<;>intro h<;>simp only[*,go_sem])
theorem aqW(b:Int):CC 195 [.int .u8 b] (vB (letter b)):=by refine aO func195 ?_;simp only[go_sem,f195,letter];repeat'(with_reducible apply sp<;>intro h<;>simp only[*,go_sem])
def word(b:Nat):Bool:=bif letter (.ofNat b)then V else digit (.ofNat b)
def BR:aC->Bool|[]=>C|c::t=>bif aA 24 (.ofNat (t.length+1))then C else bif digit (.ofNat c)then C else(c::t).all word
theorem adb(s:aC)(e:s.length<1200000):CC 130 [.str s] (vB (BR s)):=by refine aO func130 ?_;cases s with|nil=>rfl|cons c t=>
 simp only[go_sem,f130,BR];repeat'(with_reducible apply sp<;>intro h<;>simp only[*,adk,go_sem])
 refine jn (c::t) (λi=>[(19,iS i)]) (λ_ l=>vB (l.all word)) ab rfl rfl ?_ (λi x l a b w d=>?_);.simp only[go_sem,nU]
 .rw[dH]at a;simp only[go_sem,a,b,oJ,aqW,word]at d|-;repeat'(with_reducible apply sp<;>intro h<;>simp only[*,adk,go_sem])
theorem aqv(b:Int):CC 136 [.int .u8 b] (vB (bif letter b then C else !digit b)):=by refine aO func136 ?_;simp only[go_sem,f136,aqw];repeat'(with_reducible apply sp<;>intro h<;>simp only[*,adA,go_sem])
theorem aKW:ia PP 80=J [(0,1),(1,1),(2,1),(3,1),(4,1)]/\ia PP 184=J [(0,1),(1,3)]/\ia PP 187=J [(0,1),(1,1)]/\ia PP 178=J [(0,1),(1,1),(2,1)]/\ia PP 50=J [(0,1),(1,1),(2,1),(3,1)]/\ia PP 52=J [(0,1),(1,3),(4,4)]/\ia PP 35=J [(0,1),(1,1)]/\ia PP 182=J [(0,1),(1,1),(2,1)]/\ia PP 96=J [(0,1)]/\ia PP 25=J [(0,1),(1,1)]/\ia PP 77=J [(0,1),(1,1),(2,1),(3,14),(17,1)]/\ia PP 105=J [(0,1),(1,18),(19,4)]/\ia PP 415=J [(0,1),(1,1)]/\ia PP 420=J [(0,23),(23,1)]/\ia PP 419=J [(0,23),(23,1)]/\ia PP 434=J [(0,4),(4,1)]/\ia PP 433=J [(0,4),(4,1)]/\ia PP 197=J [(0,1),(1,1),(2,2)]/\ia PP 196=J [(0,1),(1,1),(2,2)]/\ia PP 483=J [(0,23),(23,3),(26,1),(27,1),(28,1),(29,3),(32,1)]:=by and_intros<;>kernel_rfl
theorem alj:AM.isAgg PP 78=J C/\AM.isAgg PP 80=J V/\AM.isAgg PP 47=J C/\AM.isAgg PP 184=J V/\AM.isAgg PP 94=J C/\AM.isAgg PP 187=J V/\AM.isAgg PP 176=J C/\AM.isAgg PP 178=J V/\AM.isAgg PP 48=J C/\AM.isAgg PP 50=J V/\AM.isAgg PP 52=J V/\AM.isAgg PP 33=J C/\AM.isAgg PP 35=J V/\AM.isAgg PP 27=J C/\AM.isAgg PP 182=J V/\AM.isAgg PP 96=J V/\AM.isAgg PP 246=J C/\AM.isAgg PP 378=J C/\AM.isAgg PP 25=J V/\AM.isAgg PP 23=J C:=by and_intros<;>kernel_rfl
theorem alk:AM.isAgg PP 106=J C/\AM.isAgg PP 415=J V/\AM.isAgg PP 413=J C/\AM.isAgg PP 420=J V/\AM.isAgg PP 419=J V/\AM.isAgg PP 434=J V/\AM.isAgg PP 433=J V/\AM.isAgg PP 432=J C/\AM.isAgg PP 197=J V/\AM.isAgg PP 196=J V/\AM.isAgg PP 483=J V/\AM.isAgg PP 482=J V/\AM.isAgg PP 481=J C/\AM.isAgg PP 153=J C/\AM.isAgg PP 154=J C/\AM.isAgg PP 151=J C/\AM.isAgg PP 36=J C/\AM.isAgg PP 418=J C/\AM.isAgg PP 448=J C/\AM.isAgg PP 386=J C:=by and_intros<;>kernel_rfl
theorem alm:AM.isAgg PP 169=J C/\AM.isAgg PP 230=J C/\AM.isAgg PP 189=J C:=by and_intros<;>kernel_rfl
theorem aLb:aW PP 78=J 1/\aW PP 80=J 5/\aW PP 47=J 1/\aW PP 184=J 4/\aW PP 94=J 1/\aW PP 187=J 2/\aW PP 176=J 1/\aW PP 178=J 3/\aW PP 48=J 1/\aW PP 50=J 4/\aW PP 52=J 8/\aW PP 33=J 1/\aW PP 35=J 2/\aW PP 27=J 1/\aW PP 182=J 3/\aW PP 96=J 1/\aW PP 246=J 1/\aW PP 378=J 1/\aW PP 25=J 2/\aW PP 23=J 1:=by and_intros<;>kernel_rfl
theorem aLc:aW PP 106=J 1/\aW PP 22=J 1/\aW PP 415=J 2/\aW PP 413=J 1/\aW PP 420=J 24/\aW PP 419=J 24/\aW PP 434=J 5/\aW PP 433=J 5/\aW PP 432=J 1/\aW PP 197=J 4/\aW PP 196=J 4/\aW PP 483=J 33/\aW PP 482=J 33/\aW PP 481=J 1/\aW PP 153=J 1/\aW PP 154=J 1/\aW PP 151=J 1/\aW PP 36=J 1/\aW PP 418=J 1/\aW PP 448=J 1:=by and_intros<;>kernel_rfl
theorem aLd:aW PP 386=J 1/\aW PP 169=J 1/\aW PP 230=J 1/\aW PP 189=J 1:=by and_intros<;>kernel_rfl
theorem axI:dL PP 46=J (3,32)/\dL PP 78=J (1,24)/\dL PP 80=J (5,56)/\dL PP 47=J (1,24)/\dL PP 184=J (4,32)/\dL PP 94=J (1,24)/\dL PP 187=J (2,16)/\dL PP 176=J (1,24)/\dL PP 178=J (3,56)/\dL PP 48=J (1,24)/\dL PP 50=J (4,80)/\dL PP 52=J (8,120)/\dL PP 33=J (1,24)/\dL PP 35=J (2,48)/\dL PP 27=J (1,24)/\dL PP 182=J (3,24)/\dL PP 38=J (1,8)/\dL PP 96=J (1,24)/\dL PP 246=J (1,24)/\dL PP 378=J (1,24):=by and_intros<;>kernel_rfl
theorem axJ:dL PP 25=J (2,48)/\dL PP 77=J (18,240)/\dL PP 105=J (23,328)/\dL PP 23=J (1,24)/\dL PP 106=J (1,24)/\dL PP 22=J (1,24)/\dL PP 415=J (2,16)/\dL PP 413=J (1,8)/\dL PP 420=J (24,336)/\dL PP 419=J (24,336)/\dL PP 434=J (5,72)/\dL PP 433=J (5,72)/\dL PP 432=J (1,8)/\dL PP 197=J (4,96)/\dL PP 196=J (4,96)/\dL PP 483=J (33,464)/\dL PP 482=J (33,464)/\dL PP 481=J (1,8)/\dL PP 153=J (1,24)/\dL PP 154=J (1,4):=by and_intros<;>kernel_rfl
theorem axK:dL PP 151=J (1,24)/\dL PP 5=J (1,1)/\dL PP 36=J (1,8)/\dL PP 418=J (1,8)/\dL PP 448=J (1,8)/\dL PP 386=J (1,8)/\dL PP 169=J (1,8)/\dL PP 230=J (1,24)/\dL PP 189=J (1,8):=by and_intros<;>kernel_rfl
theorem aM0:cu PP 78=J (.nl)/\cu PP 80=J (.agg [.int .i64 0,.int .i64 0,.int .i64 0,.int .i64 0,.nl])/\cu PP 47=J (.nl)/\cu PP 184=J (.agg [.int .i64 0,.int .i64 0,.int .i64 0,.int .i64 0])/\cu PP 94=J (.nl)/\cu PP 187=J (.agg [.int .i64 0,.int .i64 0])/\cu PP 176=J (.nl)/\cu PP 178=J (.agg [.int .i64 0,.nl,.nl])/\cu PP 48=J (.nl)/\cu PP 50=J (.agg [.int .i64 0,.nl,.nl,.nl])/\cu PP 52=J (.agg [.int .i64 0,.int .i64 0,.int .i64 0,.str [],.int .i64 0,.nl,.nl,.nl])/\cu PP 33=J (.nl)/\cu PP 35=J (.agg [.nl,.nl])/\cu PP 27=J (.nl)/\cu PP 182=J (.agg [.int .i64 0,.int .i64 0,.int .i64 0])/\cu PP 96=J (.agg [.nl])/\cu PP 246=J (.nl)/\cu PP 378=J (.nl)/\cu PP 25=J (.agg [.nl,.nl])/\cu PP 77=J (.agg [.str [],.nl,.nl,.int .i64 0,.nl,.int .i64 0,.int .i64 0,.int .i64 0,.int .i64 0,.int .i64 0,.nl,.int .i64 0,.int .i64 0,.int .i64 0,.int .i64 0,.int .i64 0,.str [],.nl]):=by and_intros<;>kernel_rfl
theorem aM1:cu PP 105=J (.agg [.nl,.str [],.nl,.nl,.int .i64 0,.nl,.int .i64 0,.int .i64 0,.int .i64 0,.int .i64 0,.int .i64 0,.nl,.int .i64 0,.int .i64 0,.int .i64 0,.int .i64 0,.int .i64 0,.str [],.nl,.int .i64 0,.int .i64 0,.nl,.nl])/\cu PP 23=J (.nl)/\cu PP 106=J (.nl)/\cu PP 22=J (.nl)/\cu PP 415=J (.agg [.int .i64 0,.int .i64 0])/\cu PP 413=J (.fU)/\cu PP 420=J (.agg [.nl,.str [],.nl,.nl,.int .i64 0,.nl,.int .i64 0,.int .i64 0,.int .i64 0,.int .i64 0,.int .i64 0,.nl,.int .i64 0,.int .i64 0,.int .i64 0,.int .i64 0,.int .i64 0,.str [],.nl,.int .i64 0,.int .i64 0,.nl,.nl,.eN])/\cu PP 419=J (.agg [.nl,.str [],.nl,.nl,.int .i64 0,.nl,.int .i64 0,.int .i64 0,.int .i64 0,.int .i64 0,.int .i64 0,.nl,.int .i64 0,.int .i64 0,.int .i64 0,.int .i64 0,.int .i64 0,.str [],.nl,.int .i64 0,.int .i64 0,.nl,.nl,.eN])/\cu PP 434=J (.agg [.int .i64 0,.int .i64 0,.nl,.nl,.fU])/\cu PP 433=J (.agg [.int .i64 0,.int .i64 0,.nl,.nl,.fU])/\cu PP 432=J (.fU)/\cu PP 197=J (.agg [.nl,.nl,.nl,.nl])/\cu PP 196=J (.agg [.nl,.nl,.nl,.nl])/\cu PP 483=J (.agg [.nl,.str [],.nl,.nl,.int .i64 0,.nl,.int .i64 0,.int .i64 0,.int .i64 0,.int .i64 0,.int .i64 0,.nl,.int .i64 0,.int .i64 0,.int .i64 0,.int .i64 0,.int .i64 0,.str [],.nl,.int .i64 0,.int .i64 0,.nl,.nl,.int .i64 0,.nl,.nl,.int .i64 0,.nl,.fU,.int .i64 0,.int .i64 0,.str [],.bool C])/\cu PP 482=J (.agg [.nl,.str [],.nl,.nl,.int .i64 0,.nl,.int .i64 0,.int .i64 0,.int .i64 0,.int .i64 0,.int .i64 0,.nl,.int .i64 0,.int .i64 0,.int .i64 0,.int .i64 0,.int .i64 0,.str [],.nl,.int .i64 0,.int .i64 0,.nl,.nl,.int .i64 0,.nl,.nl,.int .i64 0,.nl,.fU,.int .i64 0,.int .i64 0,.str [],.bool C])/\cu PP 481=J (.fU)/\cu PP 153=J (.nl)/\cu PP 154=J (.int .u32 0)/\cu PP 151=J (.nl)/\cu PP 5=J (.int .u8 0):=by and_intros<;>kernel_rfl
theorem aM2:cu PP 36=J (.nilFunc)/\cu PP 418=J (.eN)/\cu PP 448=J (.eN)/\cu PP 386=J (.eN)/\cu PP 169=J (.eN)/\cu PP 230=J (.nl)/\cu PP 189=J (.nilFunc):=by and_intros<;>kernel_rfl
theorem atH:bF PP 80 0=J (3,0)/\bF PP 80 1=J (3,1)/\bF PP 80 2=J (3,2)/\bF PP 80 3=J (3,3)/\bF PP 80 4=J (78,4)/\bF PP 184 0=J (3,0)/\bF PP 184 1=J (182,1)/\bF PP 187 0=J (3,0)/\bF PP 187 1=J (3,1)/\bF PP 178 0=J (3,0)/\bF PP 178 1=J (94,1)/\bF PP 178 2=J (176,2)/\bF PP 50 0=J (3,0)/\bF PP 50 1=J (47,1)/\bF PP 50 2=J (48,2)/\bF PP 50 3=J (47,3)/\bF PP 52 0=J (3,0)/\bF PP 52 1=J (46,1)/\bF PP 52 2=J (50,4)/\bF PP 35 0=J (32,0):=by and_intros<;>kernel_rfl
theorem atI:bF PP 35 1=J (33,1)/\bF PP 182 0=J (3,0)/\bF PP 182 1=J (3,1)/\bF PP 182 2=J (3,2)/\bF PP 96 0=J (94,0)/\bF PP 25 0=J (22,0)/\bF PP 25 1=J (23,1)/\bF PP 415 0=J (3,0)/\bF PP 415 1=J (3,1)/\bF PP 420 0=J (105,0)/\bF PP 420 1=J (418,23)/\bF PP 419 0=J (105,0)/\bF PP 419 1=J (418,23)/\bF PP 434 0=J (103,0)/\bF PP 434 1=J (432,4)/\bF PP 433 0=J (103,0)/\bF PP 433 1=J (432,4)/\bF PP 197 0=J (22,0)/\bF PP 197 1=J (106,1)/\bF PP 197 2=J (35,2):=by and_intros<;>kernel_rfl
theorem atJ:bF PP 196 0=J (22,0)/\bF PP 196 1=J (106,1)/\bF PP 196 2=J (35,2)/\bF PP 483 0=J (105,0)/\bF PP 483 1=J (178,23)/\bF PP 483 2=J (3,26)/\bF PP 483 3=J (47,27)/\bF PP 483 4=J (481,28)/\bF PP 483 5=J (46,29)/\bF PP 483 6=J (4,32)/\bF PP 482 0=J (105,0)/\bF PP 482 1=J (178,23)/\bF PP 482 2=J (3,26)/\bF PP 482 3=J (47,27)/\bF PP 482 4=J (481,28)/\bF PP 482 5=J (46,29)/\bF PP 482 6=J (4,32):=by and_intros<;>kernel_rfl
attribute[go_sem]aKW alj alk alm aLb aLc aLd axI axJ axK aM0 aM1 aM2 atH atI atJ Proofs.Tryz.underlying78 Proofs.Tryz.underlying80 Proofs.Tryz.underlying47 Proofs.Tryz.underlying184 Proofs.Tryz.underlying94 Proofs.Tryz.underlying187 Proofs.Tryz.underlying176 Proofs.Tryz.underlying178 Proofs.Tryz.underlying48 Proofs.Tryz.underlying50 Proofs.Tryz.underlying52 Proofs.Tryz.underlying33 Proofs.Tryz.underlying35 Proofs.Tryz.underlying27 Proofs.Tryz.underlying182 Proofs.Tryz.underlying96 Proofs.Tryz.underlying246 Proofs.Tryz.underlying378 Proofs.Tryz.underlying25 Proofs.Tryz.underlying23 Proofs.Tryz.underlying106 Proofs.Tryz.underlying415 Proofs.Tryz.underlying413 Proofs.Tryz.underlying420 Proofs.Tryz.underlying419 Proofs.Tryz.underlying434 Proofs.Tryz.underlying433 Proofs.Tryz.underlying432 Proofs.Tryz.underlying197 Proofs.Tryz.underlying196 Proofs.Tryz.underlying483 Proofs.Tryz.underlying482 Proofs.Tryz.underlying481 Proofs.Tryz.underlying151 Proofs.Tryz.underlying36 Proofs.Tryz.underlying418 Proofs.Tryz.underlying448 Proofs.Tryz.underlying386 Proofs.Tryz.underlying169 Proofs.Tryz.underlying230 Proofs.Tryz.underlying189
end Go.VM
namespace Go.VM
open Go Go.AM Proofs.Tryz
variable{t:Nat}
attribute[local congr]bB bC
set_option maxRecDepth 100000
def aci(f:Nat)(i c:ao)(g:GH)(a:ao)(b:Bool):Prop:=cf.fk f=0/\(cf.iw f||cf.nZ f)=C/\ev PP cf (.call f (i++a++c) .no g)=J (.val (.dv (.bool b) .no) g)\/cf.fk f=3/\cf.iw f=V/\cg (i++a++c)=V/\ev PP cf (.call f (i++a++c) .no .empty)=J (vB b)
def gk{a:Type}(q:a->Bool):List a->Nat->Int|[],_=>-1|x::l,i=>bif q x then .ofNat i else gk q l (i+1)
theorem ym{a:Type}{q:a->Bool}:∀(l:List a)(i:Nat),aA (gk q l i) 0=!(l.any q)|[],_=>rfl|x::l,i=>by simp only[gk,zm];cases q x with|true=>rfl|false=>rw[bX,y7];exact ym l (i+1)
section
variable{α:Type}{d:α->DV}{q:α->Bool}(f:Nat)(fi ca:ao)(g:GH)(nl:Bool)(xs:List α)(hl:xs.length<1000000000)(hq:∀x,x∈xs->aci f fi ca g [d x] (q x))
include hl hq
theorem KP{n t m:Nat}(s:(n,t,m)=(414,305,11)\/(n,t,m)=(451,373,2)\/(n,t,m)=(254,257,17)\/(n,t,m)=(215,75,14)\/(n,t,m)=(12,35,2)\/(n,t,m)=(35,52,8)\/(n,t,m)=(227,80,5))(u:∀x:α,(d x).aU=C/\(d x).flat.length=m):ev PP cf (.call n [bw nl (xs.map d) t m,.func f fi ca] .no g)=J (.val (.dv (.int .i64 (gk q xs 0)) .no) g):=by
 rcases s with h|h|h|h|h|h|h<;>cases h<;>first|refine aO func414 ?_|refine aO func451 ?_|refine aO func254 ?_|refine aO func215 ?_|refine aO func12 ?_|refine aO func35 ?_|refine aO func227 ?_
 all_goals
 simp only[go_sem,f414,f451,f254,f215,f12,f35,f227];refine jn xs (λi=>[(8,iS i)]) (λi l=>.val (.dv (.int _ (gk q l i)) _) g) ab rfl rfl ?_ (λi x l k e w o=>?_);.simp only[go_sem,gk]
 . obtain⟨B,p⟩:=u x;rcases hq x (du e)with⟨c,a,b⟩|⟨c,a,j,b⟩;.obtain⟨a,r⟩:=JV.1 a;simp only[go_sem,k,e,B,p,gk]at b o|-;simp only[go_sem,c,a,r,b];apply sp<;>intro h<;>simp only[*,go_sem]
   .simp only[go_sem,k,e,B,p,gk]at b j o|-;simp only[go_sem,c,a,b,j];apply sp<;>intro h<;>simp only[*,go_sem]
theorem arE{n t:Nat}(p:(n,t)=(222,3)\/(n,t)=(197,5))(s:∀x:α,(d x).aU=V/\cg [d x]=V):ev PP cf (.call n [bw nl (xs.map d) t 1,.func f fi ca] .no g)=J (.val (.dv (.int .i64 (gk q xs 0)) .no) g):=by
 rcases p with h|h<;>cases h<;>first|refine aO func222 ?_|refine aO func197 ?_
 all_goals
 simp only[go_sem,f222,f197];refine jn xs (λi=>[(8,iS i)]) (λi l=>.val (.dv (.int _ (gk q l i)) _) g) ab rfl rfl ?_ (λi x l k e w m=>?_);.simp only[go_sem,gk]
 . obtain⟨B,r⟩:=s x;rcases hq x (du e)with⟨c,a,b⟩|⟨c,a,j,b⟩;.obtain⟨a,o⟩:=JV.1 a;simp only[go_sem,k,e,B,gk]at b m|-;simp only[go_sem,c,a,o,b];apply sp<;>intro h<;>simp only[*,go_sem]
   .simp only[go_sem,k,e,B,gk]at b j m|-;simp only[go_sem,c,a,b,j];apply sp<;>intro h<;>simp only[*,go_sem]
theorem Eu{n m:Nat}(a:(n,t,m)=(369,305,11)\/(n,t,m)=(411,373,2)\/(n,t,m)=(212,257,17)\/(n,t,m)=(5,35,2)\/(n,t,m)=(14,52,8)\/(n,t,m)=(171,80,5))(s:∀x:α,(d x).aU=C/\(d x).flat.length=m):ev PP cf (.call n [bw nl (xs.map d) t m,.func f fi ca] .no g)=J (.val (.dv (.bool (xs.any q)) .no) g):=by
 have k:=@KP _ _ _ f fi ca g nl xs hl hq;rcases a with h|h|h|h|h|h<;>cases h;.have h:=k (.inl rfl) s;refine aO func369 ?_;simp only[go_sem,f369,h,ym,AQ]
 .have h:=k (.inr (.inl rfl)) s;refine aO func411 ?_;simp only[go_sem,f411,h,ym,AQ]
 .have h:=k (.inr (.inr (.inl rfl))) s;refine aO func212 ?_;simp only[go_sem,f212,h,ym,AQ]
 .have h:=k (.inr (.inr (.inr (.inr (.inl rfl))))) s;refine aO func5 ?_;simp only[go_sem,f5,h,ym,AQ]
 .have h:=k (.inr (.inr (.inr (.inr (.inr (.inl rfl)))))) s;refine aO func14 ?_;simp only[go_sem,f14,h,ym,AQ]
 .have h:=k (.inr (.inr (.inr (.inr (.inr (.inr rfl)))))) s;refine aO func171 ?_;simp only[go_sem,f171,h,ym,AQ]
theorem adB{n:Nat}(a:(n,t)=(163,3)\/(n,t)=(135,5))(s:∀x:α,(d x).aU=V/\cg [d x]=V):ev PP cf (.call n [bw nl (xs.map d) t 1,.func f fi ca] .no g)=J (.val (.dv (.bool (xs.any q)) .no) g):=by
 have k:=@arE _ _ _ f fi ca g nl xs hl hq;rcases a with h|h<;>cases h;.have h:=k (.inl rfl) s;refine aO func163 ?_;simp only[go_sem,f163,h,ym,AQ]
 .have h:=k (.inr rfl) s;refine aO func135 ?_;simp only[go_sem,f135,h,ym,AQ]
end
end Go.VM
namespace Go.VM
open Go Go.AM Proofs.Tryz
variable{a:Int}{t:an}
attribute[local congr]bB bC
set_option maxRecDepth 100000
def acY{n:Nat}{x y:DV}:gF PP (n+1) t x y=zN PP (gF PP n) t x y:=rfl
theorem HC{n:Nat}{s:List Field}{x y:ao}(h:PP.underlying t=J (.struct ⟨s⟩))(d:PP.stoodInHeld t=C):gF PP (n+1) t (.agg x) (.agg y)=lD (λc(f:Field)=>bif c then(bif f.name== "_"then J V else(jr PP f.type x f.offset).bind λa=>(jr PP f.type y f.offset).bind λb=>gF PP n f.type a b)else J C) s V:=by simp_all[acY,zN]
theorem Bi{n:Nat}{b:Int}:gF PP (n+1) 3 (.int .i64 a) (.int .i64 b)=J (aj a b):=by rfl
theorem OJ{n:Nat}{a b:aC}:gF PP (n+1) 9 (.str a) (.str b)=J (decide (a=b)):=by simp[acY,zN,zM]
def yJ(a b:Int)(s:aC)(c d:Int)(e:aC):Bool:=bif aj a c then bif aj b d then decide (s=e)else C else C
theorem wJ{b c d:Int}{s e:aC}:gF PP 50 46 (.agg [.int .i64 a,.int .i64 b,.str s]) (.agg [.int .i64 c,.int .i64 d,.str e])=J (yJ a b s c d e):=by rw[HC underlying46 aT];simp only[go_sem,yJ,Bi,OJ,String.reduceBEq];grind
def Nd(x y:kC):Bool:=bif aj x.scope y.scope then aj x.span y.span else C
theorem aqn{b c d:Int}:gF PP 50 373 (.agg [.int .i64 a,.int .i64 b]) (.agg [.int .i64 c,.int .i64 d])=J (bif aj a c then aj b d else C):=by rw[HC underlying373 aT];simp only[go_sem,Bi,String.reduceBEq];grind
theorem Eg{o:BinOp}{x y:ao}{b:Bool}(h:PP.eqGuardType PP.depth t=C)(k:gF PP 50 t (.agg x) (.agg y)=J b)(a:o=.eql\/o=.neq):gb PP o t (.agg x) (.agg y)=J (.bool (match o with|.eql=>b|_=>!b)):=by rcases a with rfl|rfl<;>show(bif !PP.eqGuardType _ t then Option.map _ _ else Z)=_<;>rw[h,k]<;>rfl
section
variable{a b a' b':Int}{s s':aC}
theorem amj:gb PP .neq 46 (.agg [.int .i64 a,.int .i64 b,.str s]) (.agg [.int .i64 a',.int .i64 b',.str s'])=J (.bool (!yJ a b s a' b' s')):=by simp[Eg,wJ]
theorem amf:gb PP .neq 373 (.agg [.int .i64 a,.int .i64 b]) (.agg [.int .i64 a',.int .i64 b'])=J (.bool (!bif aj a a' then aj b b' else C)):=by simp[Eg,aqn]
end
attribute[go_sem]amj amf
def lx{a:Type}(q:a->a->Bool):List a->List a->Bool|[],[]=>V|x::s,y::b=>bif q x y then lx q s b else C|_,_=>C
theorem Kf{b:Type}{q:b->b->Bool}:∀s a:List b,s.length=a.length->lx q s a=(s.zip a).all λp=>q p.1 p.2|[],[],_=>rfl|x::s,y::a,h=>by simp only[lx,List.zip_cons_cons,oJ];rw[Kf s a (by simpa using h)];cases q x y<;>rfl
theorem Ke{b:Type}{q:b->b->Bool}:∀s a:List b,s.length≠a.length->lx q s a=C|[],[],h=>absurd rfl h|x::s,y::a,h=>by simp only[lx];rw[Ke s a (by simpa using h)];cases q x y<;>rfl|[],_::_,_=>rfl|_::_,[],_=>rfl
theorem R8{a:Type}{x y:List a}{i:Nat}{p:a×a}(h:(x.zip y)[i]?=J p):x[i]?=J p.1/\y[i]?=J p.2:=ai
theorem DZ{a:Type}{x y:List a}(h:x.length=y.length):(x.zip y).length=x.length:=aT
section
variable{α:Type}{d:α->DV}{c:α->ao}{q:α->α->Bool}(f:Nat)(fi ca:ao)(g:GH)(a b:Bool)(xs ys:List α)(hl:xs.length<1000000000)(hq:∀x y,x∈xs->aci f fi ca g [d x,d y] (q x y))
include hl hq
theorem KO{n t m:Nat}(B:(n,t,m)=(352,257,17)\/(n,t,m)=(354,227,1)\/(n,t,m)=(356,305,11)\/(n,t,m)=(256,64,8)\/(n,t,m)=(258,75,14))(s:∀x:α,d x=.agg (c x)/\(c x).length=m):ev PP cf (.call n [bw a (xs.map d) t m,bw b (ys.map d) t m,.func f fi ca] .no g)=J (.val (.dv (.bool (lx q xs ys)) .no) g):=by
 have w:∀x,(c x).take m=c x:=λx=>G4 aT;by_cases e:xs.length=ys.length<;>rcases B with h|h|h|h|h<;>cases h<;>first|refine aO func352 ?_|refine aO func354 ?_|refine aO func356 ?_|refine aO func256 ?_|refine aO func258 ?_
 all_goals first
 |simp only[go_sem,f352,f354,f356,f256,f258,e,Ke _ _ e]
 | simp only[go_sem,f352,f354,f356,f256,f258,e,Kf _ _ e];refine jn (xs.zip ys) (λi=>[(17,iS i)]) (λi l=>.val (.dv (.bool (l.all λp=>q p.1 p.2)) .no) g) ai rfl rfl ?_ (λi x l u o D z=>?_);.simp only[go_sem,DZ e,nU,e]
   . obtain⟨o,y⟩:=R8 o;rw[DZ e,e]at u;rcases hq x.1 x.2 (du o)with⟨r,j,k⟩|⟨r,j,v,k⟩;.obtain⟨j,A⟩:=JV.1 j;simp only[go_sem,u,o,y,λx=>(s x).1,λx=>(s x).2,w,oJ]at k z|-;simp only[go_sem,r,j,A,k];apply sp<;>intro h<;>simp only[*,go_sem]
     .simp only[go_sem,u,o,y,λx=>(s x).1,λx=>(s x).2,w,oJ]at k v z|-;simp only[go_sem,r,j,k,v];apply sp<;>intro h<;>simp only[*,go_sem]
end
theorem HD(s t:Sl Int)(d:s.l.length<1000000000):CC 57 [cE s,cE t] (vB (lx aj s.l t.l)):=by
 refine aO func57 ?_;have hd:dz cf (bH f57 6)=V:=by rfl
 simp only[bH,opsOf,f57,go_sem]at hd;by_cases e:s.l.length=t.l.length
 . simp only[go_sem,f57,e,Kf _ _ e];refine jn (s.l.zip t.l) (λi=>[(13,iS i)]) (λi l=>vB (l.all λp=>aj p.1 p.2)) ai rfl rfl ?_ (λi x l b a w c=>?_);.simp only[go_sem,DZ e,nU,e]
   .obtain⟨a,y⟩:=R8 a;rw[DZ e,e]at b;simp only[go_sem,hd,b,a,y,oJ]at c|-;apply sp<;>intro h<;>simp only[*,go_sem]
 .simp only[go_sem,f57,e,Ke _ _ e]
theorem ac8(s t:Sl kC)(d:s.l.length<1000000000):CC 257 [Dl s,Dl t] (vB (lx Nd s.l t.l)):=by
 refine aO func257 ?_;have hd:dz cf (bH f257 6)=V:=by rfl
 simp only[bH,opsOf,f257,go_sem]at hd;by_cases e:s.l.length=t.l.length
 . simp only[go_sem,f257,e,Kf _ _ e];refine jn (s.l.zip t.l) (λi=>[(13,iS i)]) (λi l=>vB (l.all λp=>Nd p.1 p.2)) ai rfl rfl ?_ (λi x l b a w c=>?_);.simp only[go_sem,DZ e,nU,e]
   .obtain⟨a,y⟩:=R8 a;rw[DZ e,e]at b;simp only[go_sem,hd,b,a,y,oJ,Nd]at c|-;apply sp<;>intro h<;>simp only[*,go_sem]
 .simp only[go_sem,f257,e,Ke _ _ e]
end Go.VM
namespace Go.VM
open Go Go.AM Proofs.Tryz
attribute[local congr]bB bC
set_option maxRecDepth 100000
def Fb(a b:aC):Int:=match Dg b 0 a with|some i=>.ofNat i|none=>-1
def aq8(a b:aC)(h:a.length<1000000000):CC 282 [.str a,.str b] (vI (Fb a b)):=by
 refine(CN (v:=.dv (match Dg b 0 a with|some i=>goN i|none=>.int .i64 (-1)) .no) ?_ rfl).trans ?_;.show(bif ct _ _ then _ else _)=_;grind[eQ]
 unfold Fb;cases Dg b 0 a<;>rfl
def aqX(a b:aC)(h:a.length<1000000000):CC 239 [.str a,.str b] (vI (Fb a b)):=by refine aO func239 ?_;simp only[go_sem,f239,aq8 a b h]
def ade(a b:aC)(h:a.length<1000000000):CC 196 [.str a,.str b] (vB (!aA (Fb a b) 0)):=by refine aO func196 ?_;simp only[go_sem,f196,aqX a b h]
def kwT:aC:=[32,97,108,108,32,97,108,116,32,97,110,100,32,98,111,111,108,32,98,121,32,99,111,117,110,116,32,102,97,108,115,101,32,102,105,114,115,116,32,105,102,32,105,110,116,32,108,97,99,107,115,32,108,97,115,116,32,109,97,116,99,104,32,109,97,120,32,109,105,110,32,110,111,116,32,111,114,32,112,108,117,115,32,113,117,101,114,121,32,114,101,116,117,114,110,32,115,101,113,32,115,116,114,105,110,103,32,115,117,109,32,116,105,109,101,32,116,114,117,101,32,116,121,112,101,32,119,104,101,114,101,32,119,105,116,104,105,110,32]
def L9(s:aC):Bool:=bif decide (s=[])then C else bif aA (Fb s [32]) 0 then !aA (Fb kwT (32::(s++[32]))) 0 else C
def arD(s:aC)(b:s.length<1200000):CC 134 [.str s] (vB (L9 s)):=by
 refine aO func134 ?_;have a:=ade s [32] ab;simp only[go_sem,f134,L9];repeat'(with_reducible apply sp<;>intro h<;>simp only[h,a,abI (show[32].length+s.length<=1000000000 by grind),abI (show(32::s).length+[32].length<=1000000000 by grind),go_sem])
 rw[ade _ _ fD];simp only[go_sem];rfl
def Vu(b:Nat):Bool:=bif letter (.ofNat b)then C else !digit (.ofNat b)
theorem aaZ:∀l:aC,l.any Vu=!l.all word|[]=>rfl|x::l=>by simp only[zm,oJ,aaZ l,Vu,word];cases letter (.ofNat x)<;>cases digit (.ofNat x)<;>simp
def adw(s:aC)(e:s.length<1200000):CC 93 [.str s] (vI (bif BR s then bif L9 s then 8 else 0 else 8)):=by
 refine aO func93 ?_;rcases s with _|⟨c,t⟩;.rfl
 have a:=adB (d:=λb:Nat=>.int .u8 (.ofNat b)) (q:=Vu) 136 [] [] .empty C (c::t) ab (λx _=>.inr ⟨rfl,rfl,rfl,aqv _⟩) (.inr rfl) (λ_=>⟨rfl,rfl⟩);rw[aaZ]at a;simp only[fO,bw]at a;simp only[go_sem,f93,BR];repeat'(with_reducible apply sp<;>intro h<;>simp only[h,adA,arD _ e,a,go_sem])
 grind
set_option maxHeartbeats 1000000
abbrev tmL:aC:=[116,105,109,101]
def aqJ(s:aC)(a:s.length<1200000):CC 131 [.str s] (vB (bif BR s then !decide (s=tmL)else C)):=by refine aO func131 ?_;simp only[go_sem,f131,adb _ a,tmL];apply sp<;>intro h<;>simp only[h,go_sem]
def O1(n:aC):Bool:=bif BR n then !decide (n=tmL)else C
def K5:List aC->List lr->Int|_,[]=>0|b,f::l=>bif O1 f.name then bif b.any (λn=>decide (f.name=n))then 7 else bif aA f.kind 0 then 1 else bif aA f.kind 3 then K5 (b++[f.name]) l else 1 else 8
def Rs(s:b9):Int:=bif BR s.name then bif aA 8 (.ofNat s.fields.l.length)then 5 else K5 [] s.fields.l else 8
def OH(b:List aC)(i:Nat):List lq:=(b.zipIdx i).map λx=>(.str x.1,.bool V,x.2)
def qa(b:List aC):List lq:=OH b 0
def OI{b:List aC}{n:aC}:qa (b++[n])=qa b++[(.str n,.bool V,b.length)]:=by simp[qa,OH,List.zipIdx_append]
theorem KU{n:aC}:∀(b:List aC)(i j:Nat),(b.any λm=>decide (n=m))=C->findD PP 9 (.str n) (OH b i) j=J Z|[],_,_,_=>rfl|m::b,i,j,h=>by rw[zm,JV]at h;show(gF PP 50 9 (.str n) (.str m)).bind _=_;rw[OJ,h.1];exact KU b (i+1) (j+1) h.2
theorem KV{n:aC}:∀(b:List aC)(i j:Nat),(b.any λm=>decide (n=m))=V->∃k c m,findD PP 9 (.str n) (OH b i) j=J (J (k,.str m,.bool V,c))|[],_,_,h=>by simp at h|m::b,i,j,h=>by rw[zm]at h;cases a:decide (n=m)with|true=>exact⟨j,i,m,by show(gF PP 50 9 (.str n) (.str m)).bind _=_;rw[OJ,a];rfl⟩|false=>rw[a,y7]at h;obtain⟨k,c,d,e⟩:=KV b (i+1) (j+1) h;exact⟨k,c,d,by show(gF PP 50 9 (.str n) (.str m)).bind _=_;rw[OJ,a];exact e⟩
theorem ayW{n:aC}:sU PP 9 (.str n)=V:=by rfl
attribute[go_sem]ayW
def arC(s:b9)(j:s.name.length<1200000)(n:∀f,f∈s.fields.l->f.name.length<1200000)(p:s.fields.l.length<1200000):sC (ev PP cf (.call 88 [s.d] .no .empty)) (zS (Rs s)):=by
 refine Hf func88 ?_;simp only[go_sem,f88,adb _ j,Rs];apply wa<;>intro h<;>simp only[h,go_sem];apply wa<;>intro h<;>simp only[h,go_sem];refine Mk s.fields.l ([]:List aC) (λi b=>⟨88,45,[(18,iS i),(3,.dv (.map 0) .no),(16,.dv (CQ s.fields) .no),(17,iS s.fields.l.length)],[],⟨1,[(0,.map (qa b) b.length)]⟩⟩) (λ_ l b=>zS (K5 b l)) (λ_ _ _=>True) ab rfl trivial rfl (λs _=>?_) (λi x l b o g w _ a=>?_);.simp only[go_sem,K5]
 . have a:=a (b++[x.name]) trivial;simp only[OI,ib,dH,gX,go_sem]at a;simp only[go_sem,o,g,K5,aqJ _ (n _ (du g))];apply wa<;>intro h;.cases d:b.any λm=>decide (x.name=m)with|true=>obtain⟨k,c,m,e⟩:=KV b 0 0 d;simp only[O1,h,go_sem,qa,e]|false=>have e:=KU b 0 0 d;simp only[O1,h,go_sem,qa,e];apply wa<;>intro h<;>simp only[h,go_sem];apply wa<;>intro h<;>simp only[h,w,go_sem,e];exact a
   .simp only[O1,h,go_sem]
def Ng:List aC->List b9->Int|_,[]=>0|b,s::l=>bif aj (Rs s) 0 then bif b.any (λn=>decide (s.name=n))then 7 else Ng (b++[s.name]) l else Rs s
def v8(l:List b9):Int:=bif aA 16 (.ofNat l.length)then 5 else Ng [] l
structure b9.ok(s:b9):Prop where
 h1:s.name.length<1200000
 h2:∀f,f∈s.fields.l->f.name.length<1200000
 h3:s.fields.l.length<1200000
def KN(t:Sl b9)(j:∀s,s∈t.l->s.ok)(p:t.l.length<1200000):sC (ev PP cf (.call 63 [cB t] .no .empty)) (zS (v8 t.l)):=by
 refine Hf func63 ?_;simp only[go_sem,f63,v8];apply wa<;>intro h<;>simp only[h,go_sem];refine Mk _ _ (λi b=>⟨63,30,[(13,iS i),(3,.dv (.map 0) .no),(11,.dv (cB t) .no),(12,iS t.l.length)],[],⟨1,[(0,.map (qa b) b.length)]⟩⟩) (λ_ l b=>zS (Ng b l)) (λ_ _ _=>True) ab rfl trivial rfl (λs _=>?_) (λi x l b n g w _ a=>?_);.simp only[go_sem,Ng]
 .have a:=a (b++[x.name]) trivial;have d:=j x (du g);obtain⟨o,hr⟩:=arC x d.h1 d.h2 d.h3;simp only[OI,ib,dH,gX,go_sem]at a hr;simp only[go_sem,n,g,hr,Ng];apply wa<;>intro h<;>simp only[h,go_sem];cases f:b.any λm=>decide (x.name=m)with|true=>obtain⟨k,c,m,e⟩:=KV b 0 0 f;simp only[go_sem,qa,e]|false=>have e:=KU b 0 0 f;simp only[go_sem,qa,e,w];exact a
def ZP{a:Type}{s:List a}{i:Nat}{x:a}(h:s[i]?=J x):s.take (i+1)=s.take i++[x]:=by grind[G2]
def sA(k n:Int)(s:aC):Int:=bif aA k 0 then 1 else bif aA 2 k then 1 else bif aj k 2 then bif aj n 0 then bif aA 64 (.ofNat s.length)then 13 else 0 else 3 else bif decide (s=[])then bif aj k 1 then bif aA n 0 then 2 else bif aA 1 n then 2 else 0 else bif aA n (-1099511627776)then 2 else bif aA 1099511627776 n then 2 else 0 else 3
def ZH(k n:Int)(s:aC):Int:=bif bif aj k 0 then bif aA n (-1099511627776)then V else aA 1099511627776 n else C then 2 else bif bif aj k 1 then bif aj n 0 then C else !aj n 1 else C then 2 else bif aA 64 (.ofNat s.length)then 13 else 0
def are(k n:Int)(s:aC):CC 76 [.agg [iD k,iD n,.str s]] (vI (ZH k n s)):=by refine aO func76 ?_;simp only[go_sem,f76,ZH];repeat'(with_reducible apply sp<;>intro h<;>simp only[h,go_sem])
def OR(k n:Int)(s:aC):CC 54 [.agg [iD k,iD n,.str s]] (vI (sA k n s)):=by
 refine aO func54 ?_;have a:=are k n s;simp only[go_sem,f54];repeat'(with_reducible apply sp<;>intro h<;>simp only[h,a,go_sem])
 all_goals grind[sA,ZH,gL,iZ]
def arity(o:Int):Int:=bif aA o 0 then-1 else bif aA 12 o then-1 else bif aA o 5 then 0 else bif aj o 12 then 1 else 2
def aqS(o:Int):CC 285 [iD o] (.val (.tp [(iD (bif aA (arity o) 0 then 0 else arity o),.no),(.bool (!aA (arity o) 0),.no)]) .empty):=by
 refine aO func285 ?_;simp only[go_sem,f285,arity];repeat'(with_reducible apply sp<;>intro h<;>simp only[h,go_sem])
 all_goals rfl
def yU(o:Int):Bool:=aj o 1||(aj o 4||(aj o 2||aj o 3))
def yT(o:Int):Bool:=aj o 1||aj o 4
def aqT(o:Int):CC 286 [iD o] (.val (.tp [(.bool (yU o),.no),(.bool (yT o),.no)]) .empty):=by refine aO func286 ?_;simp only[go_sem,f286,yU,yT];repeat'(with_reducible apply sp<;>intro h<;>simp only[h,go_sem])
def RM(k a:Int):Bool:=aj a 0||(aj k 4||aj k 5)
def adq(k a b:Int)(s:aC):CC 288 [iD k,.agg [iD a,iD b,.str s]] (vB (RM k a)):=by refine aO func288 ?_;simp only[go_sem,f288,RM];repeat'(with_reducible apply sp<;>intro h<;>simp only[h,go_sem])
def Oz(o e k n:Int)(s:aC):Int:=bif aj (sA k n s) 0 then bif aj o 4&&(!RM e k||(aj e 1&&!yJ k n s 0 0 []))then 9 else 0 else sA k n s
def aqU(o l a v M e k n s):CC 287 [.agg (Expr.mk o l a v M e k n s).cells] (vI (Oz o e k n s)):=by refine aO func287 ?_;have b:=OR k n s;have c:=adq e k n s;simp only[go_sem]at b c;simp only[go_sem,f287,Expr.cells,Oz,b];repeat'(with_reducible apply sp<;>intro h<;>simp only[h,c,go_sem])
def iT(o n v M e k u:Int)(s:aC):Int:=bif aA (arity o) 0 then 1 else bif aj n (arity o)then bif(yU o&&(aA v 0||!aA v 16))||(yT o&&(aA M 0||!aA M 8))then 2 else bif aj o 4&&(aA e 1||aA 5 e)then 1 else bif(aj o 4||aj o 0)&&!aj (Oz o e k u s) 0 then Oz o e k u s else bif(!yU o&&!aj v 0)||((!yT o&&!aj M 0)||((!aj o 4&&!aj e 0)||(!(aj o 4||aj o 0)&&!yJ k u s 0 0 [])))then 3 else 0 else 15
def Expr.iT:Expr->Int|.mk op _ args var e n k num str=>VM.iT op (.ofNat args.length) var e n k num str
def wk{P:aH}{c:bU}{e:dR}{A:sG}{r:ah bh}(h:kg P c e A=r):W P c e A=r:=h
def opC(o:Int):(yU o=V/\yT o=V/\aj o 4=C/\aj o 0=C)\/(yU o=V/\yT o=V/\aj o 4=V/\aj o 0=C)\/(yU o=V/\yT o=C/\aj o 4=C/\aj o 0=C)\/(yU o=C/\yT o=C/\aj o 4=C/\aj o 0=V)\/(yU o=C/\yT o=C/\aj o 4=C/\aj o 0=C):=by grind[yU,yT,iZ]
def aqI(e:Expr):CC 245 [.agg e.cells] (vI e.iT):=by obtain⟨op,nl,args,var,M,n,k,num,str⟩:=e;have f:=aqU op nl args var M n k num str;simp only[Expr.cells]at f;refine aO func245 ?_;simp only[go_sem,f245,Expr.cells,Expr.iT,iT,aqS];apply sp<;>intro h<;>simp only[h,go_sem];apply sp<;>intro h<;>simp only[h,aqT,go_sem];rcases opC op with⟨a,b,c,d⟩|⟨a,b,c,d⟩|⟨a,b,c,d⟩|⟨a,b,c,d⟩|⟨a,b,c,d⟩<;>simp only[a,b,c,d,go_sem]<;>refine wk ?_<;>simp only[c,d,f,go_sem]<;>repeat'(with_reducible apply sp<;>intro h<;>simp only[h,c,d,f,go_sem])
set_option maxHeartbeats 4000000
end Go.VM
