/- Proved: the value machine is sound; the tables of this program and the laws by which its code is stepped through (a part of the proof of RescaleReturnsUptoCardSaid, whose theorem stands in the last text). -/
import Derived.Test.YtaeflaolgbjjlaaGreatDoorAe
open Option renaming some->J,none->Z
open Bool renaming true->V,false->C
open Go renaming TypeId->an,Oper->aB,Value->aC,Program->aG,Operand->aK,World->aW,Code->bF,FuncId->bV,Frame->dh,lone->fc,IntKind->fN,ResultVar->oy
open Go.Lib renaming compact->sR
open Go.Op renaming operands->eJ,mapUpdate->qS
open Int renaming ofNat->di,add->jP
open List renaming rec->iQ,replicate->lW
open Nat renaming beq->aw,ble->br,blt->cm,succ->fg,add->gW
open SizeOf renaming sizeOf->oW
open UInt8 renaming toNat->ka
noncomputable section
set_option linter.all false
namespace Go.VM
open Go Go.AM
variable{α:Type}{j:B4}{x:bh}
section
variable{P:aG}{ak:cg}{rec:dR}{cf:bR}{K K' K1 K2:aX}{φ ψ φ0 φ1:ch}{ω ω' ω0 fW ω1:aI}{H H' H1:Heap}{lb:dV}{g g':GH}{O st' st2:St}{tm tm':Tr AV}{fr fC:cD}{rd:ah Nat}
def Y3(p:ah bF):LoopState:=match p with|none=>.ready|some _=>.done
theorem Tf{d:aX}{c:Heap}{l i:Nat}{p:ah bF}{v:SV}(B:bg c)(n:Nx d φ0 ω0 c K φ ω H)(o:Ok K φ ω H O tm)(j:φ l=J i)(h:wz l O p=J (.val v g')):∃R,H.get i=J (.loop R)/\AB P d φ0 ω0 c v g' (.ret (.bool p.isNone) (H.put i i (.loop {R with state:=Y3 p,pending:=p}))):=by
 unfold wz at h;split at h;.rename_i r g;obtain⟨rfl,rfl⟩:=bh.val.inj (bt h);obtain⟨k,e,w,R,f,q3,q4,q5,q6,q7,q8,q9,tE⟩:=o.hr.js l _ g;obtain rfl:i=k:=bt (j.symm.trans e);obtain⟨Fi,a⟩:=YS (R':={R with state:=Y3 p,pending:=p}) (y:=.loop {r with state:=Y3 p,pending:=p}) o e w f ⟨_,wY _ _ _ _,rfl,rfl,q5,q6,q7,q8,q9,tE⟩;refine⟨R,f,_,_,K,φ,_,rfl,n.trans B ⟨a.ext,a.dk,a.mS,a.keep,λp r b h=>?_,a.log⟩,Fi.hr.callee C,.bool _⟩;obtain⟨q,_,h⟩:=aI.iz h;exact a.lG q r b h
 grind
theorem aLf(N:qN P ak cf rec)(Y:wa P ak cf rec)(O:vX P ak cf)(Q:GF P ak cf rec):wa P ak cf (yQ P cf rec):=by
 intro l args g v g' h K φ ω H S i b I L A;simp only[yQ]at h;split at h;.rename_i r hg;obtain⟨i',q1,qw,R,q2,q3,q4,q5,q6,q7,q8,q9,tE⟩:=b.js l _ hg;obtain rfl:i=i':=bt (A.symm.trans q1);cases x:(aw args.length r.params.length&&r.params.all λp=>cm p r.n)with|false=>grind|true=>
  rw[x]at h;simp only[aR]at h;simp only[gD,bE,gZ]at x;have jv:∀p,p∈r.params->p<r.n:=λp hp=>by simp_all
  have hinv:ur P ak (.yield i) S H=J (.call {fn:=R.fn,n:=R.n,tmps:=fO (λt(p:Tmp×AV)=>bif cm p.1 R.n then t.ins p.1 p.2 else t) (List.zip R.params S) R.tmps,todo:=[.code R.assign,.beginRound,.code R.body],defers:=[],mode:=.run,roundOf:=J i} H):=by
   unfold ur;simp only[q2];have:aw (eM S) (eM R.params)=V:=by rw[dS,dS,<-L.1,q7,x.1];simp_all
   grind
  have cU:=aHK (n:=R.n) R.params args S r.sl R.tmps tE L ai (λp hp=>ai);have dZ:Ok K φ ω H {fn:=r.fn,n:=r.n,sl:=BU r.params args r.sl,lb:=[],g:=g} (fO (λt(p:Tmp×AV)=>bif cm p.1 R.n then t.ins p.1 p.2 else t) (List.zip R.params S) R.tmps):=⟨b,aEY ai⟩;have je:=Om (rd:=J l) (bs:=H.next) N Y O Q (AB P K φ ω H v g') r.assign _ _ _ K φ ω H {fn:=R.fn,n:=R.n,tmps:=fO (λt(p:Tmp×AV)=>bif cm p.1 R.n then t.ins p.1 p.2 else t) (List.zip R.params S) R.tmps,todo:=[.code R.assign,.beginRound,.code R.body],defers:=[],mode:=.run,roundOf:=J i} [.beginRound,.code r.body] h dZ I ⟨q5,q6,rfl,bJ _,i,q1,rfl,rfl⟩ (λo f=>by cases o with|ext id s=>grind|rt s=>grind|fJ s=>
   simp only at f;split at f
   . rename_i r1 kz;split at f;.rename_i cj;intro K1 φ1 ω1 H1 M J5 n1 wV e1 e2 f1;obtain⟨T,j1,j2,B⟩:=f1.rd;have ry:i=T:=bt (show J i=J T from j2);subst ry;have B:J5=[]:=B;subst B;obtain⟨i2,k1,kw,E,k2,k3,k4,k5,k6,k7,k8,k9,UE⟩:=wV.hr.js l _ kz;obtain rfl:i=i2:=bt (j1.symm.trans k1);obtain⟨Fi,X⟩:=YS (R':={E with state:=.busy}) (y:=.loop {r1 with state:=.busy}) wV k1 kw k2 ⟨_,wY _ _ _ _,rfl,k4,k5,k6,k7,k8,k9,UE⟩;have f2:=f1.nx wV.hr.inv X (st':={s with sl:=cK s.sl,g:=s.g.set l (.loop {r1 with state:=.busy})}) rfl rfl M [.beginRound,.code r.body];have c:=n1.trans b.inv X;have qt:=Om (rd:=J l) (bs:=H.next) N Y O Q (AB P K φ ω H v g') r.body _ _ _ K1 φ1 ω1 _ {fn:=R.fn,n:=R.n,tmps:=M,todo:=[.beginRound,.code r.body],defers:=[],mode:=.run,roundOf:=J i} [] f Fi (I.mono c.ext (aU.refl _)) f2 (λo2 w=>by intro K3 φ3 ω3 j q k n3 C9 e3 e4 f3;obtain⟨W,D,j5,j6⟩:=f3.rd;have z:i=W:=bt (show J i=J W from j5);subst z;have U:=c.trans b.inv n3;cases o2 with|fJ F=>have w:wz l F Z=J (.val v g'):=w;obtain⟨G,d,e⟩:=Tf (P:=P) b.inv U C9 D w;refine⟨1,_,?_,e⟩;show body P ak (AM.run P ak 0) {fn:=R.fn,n:=R.n,tmps:=q,todo:=[],defers:=k,mode:=.run,roundOf:=J i} j=_;unfold body uN wj xD xE xF AX;simp only[d];rfl|rt F=>have w:wz l F (J .ret)=J (.val v g'):=w;obtain⟨G,d,e⟩:=Tf (P:=P) b.inv U C9 D w;refine⟨1,_,?_,e⟩;show body P ak (AM.run P ak 0) {fn:=R.fn,n:=R.n,tmps:=q,todo:=[.code .ret],defers:=k,mode:=.run,roundOf:=J i} j=_;unfold body uN wj xD xE xF AX;simp only[d];rfl|ext id F=>have w:wz l F (J (.exit id))=J (.val v g'):=w;obtain⟨G,d,e⟩:=Tf (P:=P) b.inv U C9 D w;refine⟨1,_,?_,e⟩;show body P ak (AM.run P ak 0) {fn:=R.fn,n:=R.n,tmps:=q,todo:=[.code (.exit id)],defers:=k,mode:=.run,roundOf:=J i} j=_;unfold body uN wj xD xE xF AX;simp only[exitTo,d];rfl);refine dQ.step 0 (λm _=>?_) qt;show body P ak _ {fn:=R.fn,n:=R.n,tmps:=M,todo:=[.beginRound,.code r.body],defers:=[],mode:=.run,roundOf:=J i} H1=_;unfold body uN wj xD xE xF AX;have u:E.state=.ready:=aT;simp only[k2,u];rfl
     grind
   grind);obtain⟨n,o,hn,a,H',K',ψ,ω',rfl,h2,h3,h4⟩:=je;refine⟨a,H',K',ψ,ω',⟨_,hinv,n,?_⟩,h2,h3,h4⟩;grind
 grind
theorem aKO(I:vX P ak cf)(e:Nu P ak cf)(N:∀f args S H,cf.iK f args=Z->ak f S H=Z):∀n,qN P ak cf (Jn P cf n)/\wa P ak cf (Jn P cf n)/\GF P ak cf (Jn P cf n):=by intro n;induction n with
 |zero=>
 refine⟨λf args w g v g' h=>?_,λl args g v g' h=>?_,λb O rd o h=>?_⟩;.have h:(Z:ah _)=J _:=h;grind
 .have h:(Z:ah _)=J _:=h;grind
 .have h:(Z:ah _)=J _:=h;grind|succ n i=>obtain⟨a,c,d⟩:=i;exact⟨amm a c I d e N,aLf a c I d,azQ a c I d⟩
end
section
variable(P:aG)(cf:bR)
def DK(j:B4)(x:bh):Prop:=∃n,∀m,n<=m->Jn P cf m j=J x
open Classical in def ev:dR:=λj=>if h:∃x,DK P cf j x then J h.choose else Z
theorem DK.gV{y:bh}(h:DK P cf j x)(k:DK P cf j y):x=y:=by obtain⟨n,h⟩:=h;obtain⟨m,k⟩:=k;exact bt ((h (max n m) ab).symm.trans ai)
theorem S8:ev P cf j=J x↔DK P cf j x:=by
 unfold ev;constructor;.intro h;split at h<;>grind
 .intro h;have e:∃x,DK P cf j x:=⟨x,h⟩;grind[DK.gV]
def Cn{a:Type}(F:dR->ah a):Prop:=∀o,F (ev P cf)=J o->∃n,∀m,n<=m->F (Jn P cf m)=J o
variable{P cf}
theorem Cn.const(x:ah α):Cn P cf λ_=>x:=λ_ h=>⟨0,λ_ _=>h⟩
theorem Cn.Is(j:B4):Cn P cf λr=>r j:=λ_ h=>(S8 P cf).1 h
theorem Cn.bind{d:Type}{F:dR->ah α}{G:dR->α->ah d}(h:Cn P cf F)(k:∀a,Cn P cf λr=>G r a):Cn P cf λr=>(F r).bind (G r):=λo b=>by obtain⟨a,c,b⟩:=aF b;obtain⟨n,g⟩:=h a c;obtain⟨m,f⟩:=k a o b;refine⟨max n m,λi e=>?_⟩;grind
theorem Cn.cond(b:Bool){F G:dR->ah α}(h:Cn P cf F)(k:Cn P cf G):Cn P cf λr=>bif b then F r else G r:=by cases b<;>simp_all
theorem Cn.kb(f:bV)(s:aq)(o:aM)(g:GH){k:dR->SV->GH->ah α}(h:∀v g,Cn P cf λr=>k r v g):Cn P cf λr=>kb cf r f s o g (k r):=by
 refine Cn.cond _ (Cn.cond _ ((Cn.Is _).bind λa=>?_) (Cn.const _)) ((Cn.Is _).bind λa=>?_);.cases a<;>simp_all[Cn.cond,Cn.const]
 .cases a<;>simp_all[Cn.const]
theorem Cn.qh(s:St)(o:Op)(i:aK)(g:List aK):Cn P cf λr=>qh cf r s o i g:=by refine(Cn.const _).bind λv=>?_;cases v with
 |func h first c=>
 refine Cn.cond _ (Cn.const _) (Cn.cond _ ?_ (Cn.cond _ ?_ ?_));.cases first with
 |cons a b=>simp[Cn.const]
 | nil => rcases g with _|⟨x,f⟩;.simp[Cn.const]
          show Cn P cf λr=>match cR _ s x with|some (.dv d w)=>(cu _ f).bind _|_=>Z;rcases cR _ s x with _|e;.simp[Cn.const]
          cases e<;>simp[Cn.const,bind,Cn.kb]
 .exact Cn.cond _ ((Cn.const _).bind λS=>Cn.kb _ _ _ _ λ_ _=>Cn.const _) (Cn.const _)
 simp[Cn.const,bind,Cn.kb]|dT l=>simp[Cn.const,bind,Cn.Is]|_=>exact Cn.const _
theorem Cn.dH(g b:aD)(l:List aB)(s:St)(o:aB):Cn P cf λr=>dH P cf r g b l s o:=by unfold VM.dH;cases o.op with
 |call c=>cases c with|mk callee args a=>cases callee<;>simp[Cn.qh,bind,Cn.const]
 |_=>exact Cn.const _
theorem Cn.jN(s c:aD)(d:Bool)(p:Array aB):∀(l:List aB)(j:Nat)(g:List (Nat×Kx))(st:St),Cn P cf λr=>jN P cf r s c d p l j g st:=by intro l;induction l with|nil=>intro j g st;exact Cn.const _|cons o l i=>intro j g st;refine(Cn.const _).bind λw=>Cn.cond _ (Cn.cond _ ((Cn.dH _ _ _ _ _).bind λa=>i _ _ _) (Cn.const _)) ((Cn.const _).bind λa=>i _ _ _)
theorem Cn.exec(u:ah Nat):∀(c:bF)(st:St)(k:dR->eB->ah bh),(∀o,Cn P cf λr=>k r o)->Cn P cf λr=>exec P cf r u c st (k r):=by intro c;induction c with
 |skip=>intro st k d;exact d _|label _=>intro st k d;exact d _|seq a b i e=>intro st k d;refine i st _ λo=>?_;cases o<;>simp_all|cond c a b i e=>
 intro st k d;show Cn P cf λr=>match bj _ st c with|some (.bool x)=>bif x then VM.exec P cf r u a st _ else VM.exec P cf r u b st _|_=>Z;rcases bj _ st c with _|v;.simp[Cn.const]
 cases v<;>simp_all[Cn.cond,Cn.const]|block id b l=>intro st k d;refine l st _ λo=>?_;cases o<;>simp_all[Cn.cond]|loop b l=>
 intro st k d;refine Cn.bind (Cn.Is _) λa=>?_;rcases a with⟨v,g⟩|o;.exact Cn.const _
 exact d _|scope b l=>intro st k d;exact l st k d|exit id=>intro st k d;exact d _|ret=>intro st k d;exact d _|region id z w=>intro st k d;exact Cn.cond _ ((Cn.jN _ _ _ _ _ _ _ _).bind λa=>d _) (Cn.const _)|rangeFunc f m X b i e=>intro st k d;unfold VM.exec;cases bj _ st f with|none=>simp[Cn.const]|some v=>cases v with
  |func h first t=>refine Cn.cond _ (Cn.const _) ((Cn.Is _).bind λa=>?_);cases a with|out o=>simp[Cn.const]|val v g=>show Cn P cf λr=>match g.get _ with|some (.loop q)=>(match q.state with|.busy=>Z|_=>(match q.pending with|none=>k r _|some .ret=>k r _|some (.exit id)=>k r _|_=>Z))|_=>Z;cases g.get _ with|none=>simp[Cn.const]|some y=>cases y with
   |loop q=>cases q with|mk s p fn n sl m j body=>cases s with
    |busy=>simp[Cn.const]
    | _ => rcases p with _|c;.simp_all
           cases c<;>simp_all[Cn.const]
   |_=>simp[Cn.const]
  |_=>exact Cn.const _
 |goto _=>intro st k d;exact Cn.const _|refuse _=>intro st k d;exact Cn.const _
theorem Cn.yQ(j:B4):Cn P cf λr=>yQ P cf r j:=by
 rcases j with⟨f,args,w,g⟩|⟨b,st,rd⟩|⟨l,args,g⟩;.show Cn P cf λr=>match cf.iK f _ with|some r=>bif aw _ 2&&!vw w then Z else r.map _|none=>(P.funcs[f]?).bind _;cases cf.iK f _ with|some v=>simp[Cn.const]|none=>refine(Cn.const _).bind λfn=>(Cn.const _).bind λb=>Cn.cond _ (Cn.exec _ b _ _ λo=>Cn.const _) (Cn.const _)
 .refine Cn.exec rd b st _ λo=>?_;cases o<;>simp[Cn.Is,Cn.const]
 show Cn P cf λr=>match g.get l with|some (.loop R)=>bif aw _ _&&R.params.all _ then VM.exec P cf r _ _ _ _ else Z|_=>Z;cases g.get l with|none=>simp[Cn.const]|some c=>cases c with
 |loop R=>refine Cn.cond _ (Cn.exec _ _ _ _ λo=>?_) (Cn.const _);cases o with
  |fJ st=>show Cn P cf λr=>match st.g.get l with|some (.loop r1)=>(match r1.state with|.ready=>VM.exec P cf r _ _ _ _|_=>Z)|_=>Z;cases st.g.get l with|none=>simp[Cn.const]|some c=>cases c with
   |loop r1=>cases r1 with|mk s p fn n sl m a body=>cases s<;>simp[Cn.exec,Cn.const]
   |_=>simp[Cn.const]
  |_=>simp[Cn.const]
 |_=>simp[Cn.const]
theorem Kh(h:yQ P cf (ev P cf) j=J x):ev P cf j=J x:=by
 obtain⟨n,a⟩:=Cn.yQ j x h;refine(S8 P cf).2 ⟨n+1,λm b=>?_⟩;rcases m with _|m;.omega
 exact a m ab
theorem aqx{a:cg}(I:vX P a cf)(c:Nu P a cf)(N:∀f args S H,cf.iK f args=Z->a f S H=Z):qN P a cf (ev P cf):=by intro f args o g v b h;obtain⟨n,d⟩:=(S8 P cf).1 h;exact(aKO I c N n).1 f _ o g v b aT
end
end Go.VM
namespace Go.AM
open Go
variable{E E' H:Heap}{j:Nat}{σ:Nat->ah Nat}{P:aG}{w:aW}{φ ψ:bc}
def IV(d:Nat->ah Nat)(i:AV->ah AV)(a:AV):ah AV:=match a with|.ptr id o=>(d id).bind λj=>J (.ptr j o)|.sl id o len c e=>(d id).bind λj=>J (.sl j o len c e)|.map _|.yield _=>Z|.func f a b=>(cu i a).bind λa=>(cu i b).bind λb=>J (.func f a b)|.agg l=>(cu i l).bind λl=>J (.agg l)|.cM l=>(cu i l).bind λl=>J (.cM l)|a=>J a
def nB(a:Nat->ah Nat)(n:Nat):AV->ah AV:=Nat.rec (λ_=>Z) (λ_ i=>IV a i) n
theorem Bx{d e:Type}{f:d->ah e}:∀{l:List d}{m:List e},cu f l=J m->l.length=m.length/\∀(i:Nat)(a:d)(b:e),l[i]?=J a->m[i]?=J b->f a=J b:=by intro l;induction l with|nil=>intro m h;obtain rfl:=bt (show J []=J m from h);grind|cons x l k=>intro m h;have c:((f x).bind λb=>(cu f l).bind _)=J m:=h;obtain⟨b,g,c⟩:=aF c;obtain⟨t,j,c⟩:=aF c;grind
theorem Mv{n:Nat}{a b:AV}(h:nB σ n a=J b):b.aV=a.aV:=by
 rcases n with _|n;.simp_all[nB]
 replace h:IV σ _ a=J b:=h;unfold IV at h;cases a<;>simp only at h<;>(try(cases h;rfl))<;>(try(simp at h;done));all_goals obtain⟨_,_,h⟩:=aF h;first|(cases h;rfl)|(obtain⟨_,_,h⟩:=aF h;cases h;rfl)
theorem ahX(b:Nat->ah Nat)(n:Nat)(a:AV):nB b (n+1) a=IV b (nB b n) a:=rfl
theorem ahW{E:bc}(x:∀i j p,σ i=J j->E i=J p->ψ j=J p):∀(n:Nat)(a b:AV)(v:aC),nB σ n a=J b->VR E a v->VR ψ b v:=by intro n;induction n with|zero=>simp[nB]|succ n ih=>
 intro a b v h S;rw[ahX]at h;unfold IV at h;have d:∀{l m:aJ}{c:Array aC},cu (nB σ n) l=J m->l.length=c.size->(∀(i:Nat)(a:AV)(v:aC),l[i]?=J a->c[i]?=J v->VR E a v)->m.length=c.size/\∀(i:Nat)(a:AV)(v:aC),m[i]?=J a->c[i]?=J v->VR ψ a v:=λ{l m c}u hl hg=>by grind[Bx]
 cases S with|top n=>cases h;exact .top n|bool c=>cases h;exact .bool c|int k m=>cases h;exact .int k m|str l s F=>cases h;exact .str l s F|eN=>cases h;exact .eN|ptr id o p w=>obtain⟨j,D,h⟩:=aF h;cases h;exact .ptr j o p (x _ _ _ D w)|bC=>cases h;exact .bC|sl id o len c B p T A w y z G H I L M=>obtain⟨j,D,h⟩:=aF h;cases h;exact .sl j o len c B p T A (x _ _ _ D w) y z G H I L M|fR=>cases h;exact .fR|map r p w=>grind|func f l1 l2 N O t Q g1 g2=>obtain⟨W,U,h⟩:=aF h;obtain⟨X,K,h⟩:=aF h;cases h;obtain⟨e,q⟩:=d U t g1;obtain⟨y,z⟩:=d K Q g2;exact .func f W X N O e y q z|yield l p w=>grind|nilFunc=>cases h;exact .nilFunc|agg l c t F g=>obtain⟨m,u,h⟩:=aF h;cases h;obtain⟨e,q⟩:=d u t g;refine .agg m c e (λb R=>?_) q;obtain⟨i,hi⟩:=List.mem_iff_getElem?.1 R;obtain⟨k1,k2⟩:=Bx u;have P:i<l.length:=ai;have Y:l[i]?=J l[i]:=dD P;grind[Mv,GA]|cM l c t g=>obtain⟨m,u,h⟩:=aF h;cases h;obtain⟨e,q⟩:=d u t g;exact .cM m c e q
theorem QJ{x:bc}(N:∀i j p,σ i=J j->ψ j=J p->x i=J p):∀(n:Nat)(a b:AV)(v:aC),nB σ n a=J b->VR ψ b v->VR x a v:=by intro n;induction n with|zero=>simp[nB]|succ n U=>
 intro a b v h e;rw[ahX]at h;unfold IV at h;have d:∀{l m:aJ}{c:Array _},cu (nB σ n) l=J m->m.length=c.size->(∀(i:Nat)(a:AV)(v:aC),m[i]?=J a->c[i]?=J v->VR ψ a v)->l.length=c.size/\∀(i:Nat)(a:AV)(v:aC),l[i]?=J a->c[i]?=J v->VR x a v:=λ{l m c}s R P=>by grind[Bx]
 cases a with
 |ptr id w=>obtain⟨j,L,h⟩:=aF h;cases h;cases e with|ptr _ _ p M=>exact .ptr id _ p aT
 |sl id w len c H=>obtain⟨j,L,h⟩:=aF h;cases h;cases e with|sl _ _ _ _ _ p T G M t u y z A B D=>exact .sl id _ _ c _ p _ _ aT t u y z A B D
 |map r=>grind|yield l=>grind|func f l1 l2=>obtain⟨W,Q,h⟩:=aF h;obtain⟨X,K,h⟩:=aF h;cases h;cases e with|func _ _ _ E F q I g1 g2=>obtain⟨k,o⟩:=d Q q g1;obtain⟨t,u⟩:=d K I g2;exact .func f l1 l2 E F k t o u
 |agg l=>obtain⟨m,s,h⟩:=aF h;cases h;cases e with|agg _ c q S g=>obtain⟨k,o⟩:=d s q g;refine .agg l c k (λa O=>?_) o;grind[List.mem_iff_getElem?,Bx,Mv,GA]
 |cM l=>obtain⟨m,s,h⟩:=aF h;cases h;cases e with|cM _ c q g=>obtain⟨k,o⟩:=d s q g;exact .cM l c k o
 |_=>cases h;cases e<;>constructor<;>assumption
theorem aGy{e:bc}(b:∀i j p,σ i=J j->ψ j=J p->e i=J p){n:Nat}{l m:aJ}{c:List aC}(h:cu (nB σ n) l=J m)(d:ba ψ m c):ba e l c:=by obtain⟨f,q⟩:=Bx h;refine⟨by rw[f];exact d.1,λi a v r k=>?_⟩;have o:i<m.length:=ai;have g:=dD o;exact QJ b n _ _ _ ai (d.2 i _ _ g k)
structure AG(E H:Heap)(σ:Nat->ah Nat):Prop where
 obj:∀id,id<E.next->∃l root e j l' r' fl',E.get id=J (.cells l root .ro e)/\σ id=J j/\H.get j=J (.cells l' r' fl' e)/\(H.bn r').1<=j/\cu (nB σ 50) l=J l'
 low:∀id j,σ id=J j->id<E.next
def sN(a:Nat->ah Nat)(b:bc):bc:=λi=>(a i).bind b
theorem Re{i:Nat}{p:Pl}(h:σ i=J j)(g:φ j=J p):sN σ φ i=J p:=by grind[sN]
theorem yL{i:Nat}{p:Pl}(h:sN σ φ i=J p):∃j,σ i=J j/\φ j=J p:=aF h
theorem AG.ro(h:AG E H σ){i:Nat}(b:σ i=J j):fI E i:=by obtain⟨l,root,e,_,_,_,_,a,_⟩:=h.obj i (h.low i j b);exact⟨l,_,e,a⟩
theorem AG.Ar(h:AG E H σ)(t:bM gC φ H w):bM gC (sN σ φ) E w:=by
 have N:∀i j p,σ i=J j->φ j=J p->sN σ φ i=J p:=λi j p a b=>Re a b;refine⟨⟨λid p g=>?_,λid p l r B e g n=>?_,λx y p q u v m d=>?_,λx y p q u v m d U=>?_⟩,λid p o g _ M n=>?_⟩;.obtain⟨j,c,f⟩:=yL g;obtain⟨l,root,e,_,_,_,_,g1,_⟩:=h.obj id (h.low id j c);exact⟨(t.stat.cw j p f).1,ai⟩
 .obtain⟨j,c,f⟩:=yL g;obtain⟨l0,root,e0,z,F,L,k,g1,g2,g3,g4,g5⟩:=h.obj id (h.low id j c);rw[c]at g2;cases g2;rw[n]at g1;obtain⟨rfl,_⟩:=b9.cells.inj (bt g1);rw[(Bx g5).1];exact t.stat.len j p _ _ _ _ f g3
 .obtain⟨j,c,_⟩:=yL u;exact absurd (h.ro c) d
 . obtain⟨j,c,_⟩:=yL u;obtain⟨z,f,_⟩:=yL v;rcases d with d|d;.exact absurd (h.ro c) d
   .exact absurd (h.ro f) d
 .obtain⟨j,c,f⟩:=yL g;obtain⟨l0,root,e0,z,F,L,k,g1,g2,g3,g4,g5⟩:=h.obj id (h.low id j c);rw[c]at g2;cases g2;rw[n]at g1;cases g1;obtain⟨A,D,e1,G,I,K,P,Q,R,S⟩:=t.obj j p _ f trivial (λl r B e s=>ai) g3;obtain⟨k1,k2⟩:=Bx g5;refine⟨A,D,e1,G,I,K,λi a O=>?_,λa T=>?_,λs=>absurd rfl s,λs=>ai⟩<;>grind[QJ,List.mem_iff_getElem?,Mv,GA]
theorem AG.post{d:aW}(h:AG E H σ)(m:fT (sN σ φ) E w ψ E' d):(∀b,b<w.heap.size->d.heap[b]?=w.heap[b]?)/\(∀id p,ψ id=J p->E.next<=id->w.heap.size<=p.aY\/sN σ φ id=J p):=by
 obtain⟨_,_,fr⟩:=m;refine⟨λb l=>?_,λid p hid r=>?_⟩
 . rcases fr.nh b l with x|⟨id,p,e,_,f,_⟩;.omega
   .obtain⟨j,a,_⟩:=yL e;exact absurd (h.ro a) f
 .cases c:sN σ φ id with|some q=>have:=fr.ext _ _ c;grind|none=>
   obtain⟨_,a⟩:=fr.new id p hid c;rcases a with a|⟨j,q,g,_,i,_⟩;.omega
   .obtain⟨n,k,_⟩:=yL g;exact absurd (h.ro k) i
structure ZN(H H2:Heap)(n:Nat):Prop where
 next:H2.next=H.next+n
 old:∀id,id<H.next->H2.get id=H.get id
 dp:∀r,H2.bn r=H.bn r
 bu:H2.bu=H.bu
 bT:H2.bT=H.bT
 cG:H2.cG=H.cG
 inv:bg H2
def news(H:Heap)(n:Nat)(f:Nat->Nat)(a b:bc):bc:=λi=>if i<H.next then a i else if i<H.next+n then b (f (i-H.next))else Z
theorem ark{F:Heap}{w':aW}{n:Nat}{P:Nat->Nat}(h:AG E H σ)(Y:bg H)(B:bM gC φ H w)(T:fT (sN σ φ) E w ψ E' w')(A:ZN H F n)(N:∀k,k<n->∃l root t e m,E'.get (P k)=J (.cells l root t e)/\(E'.bn root).1<=P k/\E.next<=P k/\F.get (H.next+k)=J (.cells m (H.next+k) .ro e)/\l.length=m.length/\P k<E'.next/\∀(i:Nat)(b:AV),m[i]?=J b->∃a,l[i]?=J a/\a.aV=b.aV/\∀v,VR ψ a v->VR (news H n P φ ψ) b v):fT φ H w (news H n P φ ψ) F w':=by
 obtain⟨po,mf⟩:=h.post T;obtain⟨cH,W,fr⟩:=T;have bU:∀id p,φ id=J p->id<H.next:=λid p g=>B.stat.lt Y g;have X:Ext φ (news H n P φ ψ):=λid p g=>by grind[news]
 have f:∀id p,news H n P φ ψ id=J p->(id<H.next/\φ id=J p)\/∃k,k<n/\id=H.next+k/\ψ (P k)=J p:=λid p g=>by grind[news]
 have K:∀k p,k<n->ψ (P k)=J p->w.heap.size<=p.aY:=λk p S g=>by
   obtain⟨_,_,_,_,_,_,_,u,_⟩:=N k S;rcases mf (P k) p g u with I|I;.omega
   .obtain⟨j,d,_⟩:=yL I;have:=h.low _ _ d;omega
 have O:∀id,id<H.next->rootOf F id=rootOf H id:=λid g=>by unfold rootOf;rw[A.old id g]
 have M:∀id,id<H.next->(fI F id↔fI H id):=λid g=>by unfold fI;rw[A.old id g]
 have R:∀id,id<H.next->(jb F id↔jb H id):=λid g=>by unfold jb;rw[A.old id g];exact⟨λx l r t e y=>by rw[<-A.dp];grind,λx l r t e y=>by rw[A.dp];grind⟩
 have aNb:∀k,k<n->fI F (H.next+k):=λk S=>by obtain⟨l,root,t,e,m,_,_,_,d,_⟩:=N k S;exact⟨m,_,e,d⟩
 refine⟨A.inv,⟨⟨λid p g=>?_,λid p l r t e g D=>?_,λx y p q I U G Q=>?_,λx y p q I U G Q wO=>?_⟩,λid p o g _ ha D=>?_⟩,?_⟩
 . rcases f id p g with⟨c,s⟩|⟨k,c,rfl,u⟩;.exact⟨gi (B.stat.cw id p s).1 fr.size,by rw[A.old id c];exact(B.stat.cw id p s).2⟩
   .obtain⟨l,root,t,e,m,_,_,_,d,_⟩:=N k c;exact⟨(W.stat.cw _ p u).1,ai⟩
 . rcases f id p g with⟨c,s⟩|⟨k,c,rfl,u⟩;.rw[A.old id c]at D;exact B.stat.len id p l r t e s D
   .obtain⟨l0,root,ri,e0,m,g1,_,_,d,z,_⟩:=N k c;rw[D]at d;obtain⟨rfl,_⟩:=b9.cells.inj (bt d);rw[<-z];exact W.stat.len _ p _ _ _ _ u g1
 . rcases f x p I with⟨c,s⟩|⟨k,c,rfl,u⟩
   . rcases f y q U with⟨d,z⟩|⟨k,d,rfl,z⟩;.rw[O x c,O y d];exact B.stat.inj x y p q s z G (λL=>Q ((M x c).2 L))
     .have:=K k q d z;have:=(B.stat.cw x p s).1;omega
   grind
 . rcases f x p I with⟨c,s⟩|⟨k,c,rfl,u⟩
   . rcases f y q U with⟨d,z⟩|⟨k,d,rfl,z⟩;.exact B.stat.mono x y p q s z G (Q.imp (λa b=>a ((M x c).2 b)) (λa b=>a ((M y d).2 b))) wO
     .have:=K k q d z;have:=(B.stat.cw x p s).1;omega
   grind
 . rcases f id p g with⟨c,s⟩|⟨k,c,rfl,u⟩;.rw[A.old id c]at D;exact(B.obj id p o s trivial ((R id c).1 ha) D).mono X (po _ (B.stat.cw id p s).1)
   .obtain⟨l,root,t,e,m,g1,g2,_,d,z,_,h6⟩:=N k c;rw[D]at d;cases d;obtain⟨cs,fz,e1,o1,o2,o3,o4,o5,_,_⟩:=W.obj _ p _ u trivial (λl' r' fl' e' L=>aT) g1;refine⟨cs,fz,e1,o1,o2,o3,λi b G=>?_,λb G=>?_,λL=>absurd rfl L,λL=>aT⟩;all_goals grind[List.mem_iff_getElem?]
 .exact{
     ext:=X
     size:=fr.size
     os:=fr.os
     tape:=fr.tape
     output:=fr.output
     next:=by rw[A.next];omega
     bu:=A.bu
     bT:=λr g=>by rw[A.bT];omega
     cG:=λr g=>by rw[A.cG];omega
     root:=λid g=>O id g
     view:=λid o g _ _ D=>⟨by rw[A.old id g];omega,(R id g).2,(R id g).1⟩
     nh:=λb G=>.inl (po b G)
     new:=λid p g hn=>by grind
     ro:=λid g hr=>(M id g).2 hr
     keep:=λid o g D=>⟨o,by rw[A.old id g];omega,qO.refl o⟩
     cover:=λid c s=>by rw[A.next]at s;obtain⟨l,root,t,e,m,_,_,g3,_,_,g6,_⟩:=N (id-H.next) ab;obtain⟨p,T⟩:=fr.cover _ g3 g6;grind[news]
     mi:=λid p g hn T8=>by
      rcases f id p g with⟨_,s⟩|⟨k,c,rfl,u⟩;.simp_all
      .obtain⟨l,root,t,e,m,_,_,_,d,_⟩:=N k c;rw[pY d]at T8;have:=Y.bu;omega
     uK:=λr g=>by rw[A.bT]at g;simp_all
     uT:=λr g=>by rw[A.cG]at g;simp_all}
def J'(a b:Bool):Bool:=bif a then b else !b
def SU(a b:ah Nat):Bool:=match a with|none=>(match b with|none=>V|some _=>C)|some x=>(match b with|none=>C|some y=>aw x y)
def wy(f:AV->AV->Bool)(l:aJ):aJ->Bool:=iQ (λm=>iQ V (λ_ _ _=>C) m) (λa _ i m=>iQ C (λb t _=>bif f a b then i t else C) m) l
def Kb(h:AV->AV->Bool)(a b:AV):Bool:=match a with|.top=>(match b with|.top=>V|_=>C)|.bool x=>(match b with|.bool y=>J' x y|_=>C)|.int j x=>(match b with|.int k y=>j==k&&aj x y|_=>C)|.str x=>(match b with|.str y=>xM x y|_=>C)|.ptr i o=>(match b with|.ptr j p=>aw i j&&aw o p|_=>C)|.eN=>(match b with|.eN=>V|_=>C)|.sl i o l c e=>(match b with|.sl j p m d f=>aw i j&&(aw o p&&(aw l m&&(SU c d&&aw e f)))|_=>C)|.bC=>(match b with|.bC=>V|_=>C)|.fR=>(match b with|.fR=>V|_=>C)|.func f l1 l2=>(match b with|.func g n q=>aw f g&&(wy h l1 n&&wy h l2 q)|_=>C)|.nilFunc=>(match b with|.nilFunc=>V|_=>C)|.agg l=>(match b with|.agg m=>wy h l m|_=>C)|.cM l=>(match b with|.cM m=>wy h l m|_=>C)|_=>C
def xO(n:Nat):AV->AV->Bool:=Nat.rec (λ_ _=>C) (λ_ i=>Kb i) n
theorem N9{f:AV->AV->Bool}(d:∀a b,f a b=V->a=b):∀(l m:aJ),wy f l m=V->l=m:=by intro l;induction l with|nil=>intro m h;cases m<;>grind[wy]|cons a l i=>
 intro m h;rcases m with _|⟨b,t⟩;.grind[wy]
 have c:(bif f a b then wy f l t else C)=V:=h;grind
theorem ao9{a b:Bool}(h:J' a b=V):a=b:=by grind[J']
theorem aph{a b:ah Nat}(h:SU a b=V):a=b:=by cases a<;>cases b<;>simp[SU,bE]at h|-;omega
theorem apk(n:Nat)(a b:AV):xO (n+1) a b=Kb (xO n) a b:=rfl
theorem N':∀(n:Nat)(a b:AV),xO n a b=V->a=b:=by intro n;induction n with|zero=>simp[xO]|succ n i=>intro a b h;rw[apk]at h;unfold Kb at h;grind[bE,ao9,zC,xN,aph,N9]
structure eD where
 args:aJ
 H:Heap
 v:AV
 news:List (aJ×an)
def sg(n:Nat)(k:Tr Nat)(i:Nat):ah Nat:=bif cm i n then k.get i else Z
theorem aHW{n:Nat}{k:Tr Nat}{i:Nat}(h:sg n k i=J j):i<n:=by grind[sg,eK]
def tZ(E H:Heap)(a:Nat->ah Nat)(i:Nat):Bool:=match E.get i with|some (.cells l _ .ro e)=>(match a i with|some j=>(match H.get j with|some (.cells c r _ b)=>aw e b&&(br (H.bn r).1 j&&(match cu (nB a 50) l with|some m=>wy (xO 50) m c|none=>C))|_=>C)|none=>C)|_=>C
def Cb(f:Nat->Bool)(n:Nat):Bool:=Nat.rec V (λk i=>bif f k then i else C) n
theorem RS{f:Nat->Bool}:∀(n:Nat),Cb f n=V->∀k,k<n->f k=V:=by intro n;induction n<;>grind[Cb]
theorem azh{k:Tr Nat}(h:Cb (tZ E H (sg E.next k)) E.next=V):AG E H (sg E.next k):=by
 refine⟨λid hid=>?_,λid j a=>aHW a⟩;have c:=RS _ h id hid;unfold tZ at c;split at c;.split at c<;>grind[bE,dg,N9,N']
 grind
def ZY(a:Nat->ah Nat)(l:List (aJ×an)):Heap->ah Heap:=iQ (λH=>J H) (λx _ i H=>(cu (nB a 50) x.1).bind λm=>i (H.cP m .ro x.2)) l
theorem ake{d:Nat->ah Nat}:∀(l:List (aJ×an))(H a:Heap),bg H->ZY d l H=J a->ZN H a l.length/\∀(k:Nat)(x:aJ×an),l[k]?=J x->∃m,cu (nB d 50) x.1=J m/\a.get (H.next+k)=J (.cells m (H.next+k) .ro x.2):=by intro l;induction l with|nil=>intro H a i h;obtain rfl:=bt (show J H=J a from h);exact⟨⟨rfl,λ_ _=>rfl,λ_=>rfl,rfl,rfl,rfl,i⟩,λk x h=>ai⟩|cons x l j=>
 intro H a i h;have b:=h;obtain⟨m,f,b⟩:=aF b;have n:bg (H.cP m .ro x.2):=we i _ (λl r o e g=>ai);obtain⟨A,hN⟩:=j _ a n b;have u:(H.cP m .ro x.2).next=H.next+1:=rfl;refine⟨⟨by rw[A.next,u];grind,λid hid=>?_,λr=>by rw[A.dp];rfl,A.bu,A.bT,A.cG,A.inv⟩,λk y c=>?_⟩;.rw[A.old id ab];exact nq H _ ab
 . rcases k with _|k;.simp at c;subst c;refine⟨m,f,?_⟩;rw[tQ,A.old _ ab];exact me H _
   grind
def IJ(f:AV->AV->List (Nat×Nat))(l:aJ):aJ->List (Nat×Nat):=iQ (λ_=>[]) (λa _ i m=>iQ [] (λb t _=>dF (f a b) (i t)) m) l
def ahi(n:Nat):AV->AV->List (Nat×Nat):=Nat.rec (λ_ _=>[]) (λ_ h a b=>match a with|.ptr i _=>(match b with|.ptr j _=>[(i,j)]|_=>[])|.sl i _ _ _ _=>(match b with|.sl j _ _ _ _=>[(i,j)]|_=>[])|.func _ l1 l2=>(match b with|.func _ c d=>dF (IJ h l1 c) (IJ h l2 d)|_=>[])|.agg l=>(match b with|.agg m=>IJ h l m|_=>[])|.cM l=>(match b with|.cM m=>IJ h l m|_=>[])|_=>[]) n
def atC(E H:Heap)(f:Nat):List (Nat×Nat)->Tr Nat->Tr Nat:=Nat.rec (λ_ k=>k) (λ_ i w k=>iQ k (λx s _=>match k.get x.1 with|some _=>i s k|none=>(match E.get x.1 with|some (.cells l _ _ _)=>(match H.get x.2 with|some (.cells a _ _ _)=>i (dF (IJ (ahi 50) l a) s) (k.ins x.1 x.2)|_=>k)|_=>k)) w) f
def PI(n:Nat)(a:Nat->ah Nat)(m i:Nat):ah Nat:=bif cm i n then a i else J (gW m (Nat.sub i n))
def Dv(n:Nat)(f:aD)(i:Nat):ah Nat:=bif cm i n then J i else oM f (Nat.sub i n)
def NH(b:Nat->ah Nat)(l a:aJ):Bool:=match cu (nB b 50) l with|some m=>wy (xO 50) m a|none=>C
def TB(a:Nat->ah Nat)(n:Nat):Bool:=Cb (λg=>match a g with|some j=>aw j g|none=>C) n
def BX(n:Nat)(E:eD)(a:aJ)(H:Heap)(k:Tr Nat):ah (AV×Heap):=bif NH (sg E.H.next k) E.args a&&(Cb (tZ E.H H (sg E.H.next k)) E.H.next&&TB (sg E.H.next k) n)then(nB (PI E.H.next (sg E.H.next k) H.next) 50 E.v).bind λv=>(ZY (PI E.H.next (sg E.H.next k) H.next) E.news H).bind λb=>J (v,b)else Z
structure RI(E:eD)(v0:AV)(E':Heap)(fP:aD):Prop where
 len:fP.length=E.news.length
 val:nB (Dv E.H.next fP) 50 E.v=J v0
 obj:∀(k:Nat)(x:aJ×an),E.news[k]?=J x->∃j l root fl,fP[k]?=J j/\E'.get j=J (.cells l root fl x.2)/\(E'.bn root).1<=j/\E.H.next<=j/\cu (nB (Dv E.H.next fP) 50) x.1=J l
set_option maxHeartbeats 1600000 in theorem ai7{y:Rec}(hn:qQ P)(eW:m8 P y){f:bV}{E:eD}{K:cD}{v0 v:AV}{W:Heap}{o:aD}{kE:Tr Nat}{r:aJ}(Bf:wx P f E.args=J K)(hr:y K E.H=J (.ret v0 E'))(R:bg E.H)(S:RI E v0 E' o)(h:BX P.globals.size E r H kE=J (v,W))(d:bc)(w:aW)(n:Array aC)(c:dh)(I:List dh)(Q:bg H)(T:bM gC d H w)(hg:iP P d)(hv:ba d r n.toList):∃ψ D u,fT d H w ψ W D/\VR ψ v u/\((callFunc f n).run P w=.ok (.enter f n) w/\Steps P (fc (Frame.enter P f n .normal) (c::I) w) (fc (c.finish u) I D)):=by
 unfold BX at h;generalize hσ:sg E.H.next kE=σ at h;rcases O:(NH σ E.args r&&(Cb (tZ E.H H σ) E.H.next&&TB σ P.globals.size))with _|_;.grind
 rw[O]at h;simp only[aR]at h;obtain⟨v',Bm,h⟩:=aF h;obtain⟨H2',M,h⟩:=aF h;obtain⟨rfl,rfl⟩:=il (bt h);simp only[gD]at O;obtain⟨iw,jV,zL⟩:=O;have L:AG E.H H σ:=by grind[azh]
 have jK:cu (nB σ 50) E.args=J r:=by grind[NH,N9,N']
 have F:iP P (sN σ d):=λg zM=>by
  have:=RS _ zL g zM;split at this;.rename_i j z;rw[bE,gZ]at this;subst this;obtain⟨p,s,h2⟩:=hg j zM;grind[Re]
  grind
 have CS:ba (sN σ d) E.args n.toList:=aGy (λi j p a b=>Re a b) jK hv;obtain⟨e1,e2,e4,fn,b,e5,e6⟩:=J9 (φ:=sN σ d) Bf CS;have dZ:=eW K E.H _ hr (sN σ d) w _ (c::I) R (L.Ar T) F e1;obtain⟨ψ,D,u,B,q2,q3⟩:=kp.back dZ;obtain⟨A,hN⟩:=ake _ _ _ Q M;have t:∀i j p,PI E.H.next σ H.next i=J j->sN (Dv E.H.next _) ψ i=J p->news H E.news.length (λk=>(o[k]?).getD 0) d ψ j=J p:=λi j p s h2=>by
  unfold PI at s;obtain⟨j',e,h4⟩:=yL h2;unfold Dv at e;rw[eK]at s e;by_cases Y:i<E.H.next
  . simp only[Y,dM,aR]at s e;cases e;have z:∃q,d j=J q/\q=p:=by
     rcases hq:sN σ d i with _|q;.have:=(B.2.2.new i p h4 hq).1;omega
     have:=B.2.2.ext _ _ hq;grind[yL]
    obtain⟨q,h5,rfl⟩:=z;unfold news;rw[if_pos (T.stat.lt Q h5)];omega
  .simp only[Y,kM,bS]at s e;rw[wT]at e;have Bd:o[i-E.H.next]?=J j':=e;have N:=(List.getElem?_eq_some_iff.1 Bd).1;rw[S.len]at N;grind[news]
 have x:∀i j p,Dv _ _ i=J j->ψ j=J p->sN (Dv E.H.next o) ψ i=J p:=λi j p a b=>Re a b;refine⟨_,D,u,ark L Q T B A (λk hk=>?_),ahW t 50 _ _ _ Bm (QJ x 50 _ _ _ S.val q2),JR hn e5 e6 _ w,q3⟩;have hx:=dD hk;obtain⟨j,l,root,fl,o1,o2,o3,o4,o5⟩:=S.obj k _ hx;obtain⟨m,m1,m2⟩:=hN k _ hx;obtain⟨k1,k2⟩:=Bx o5;obtain⟨k3,k4⟩:=Bx m1;have z:(o[k]?).getD 0=j:=ai;refine⟨l,root,fl,_,m,ai,ab,ab,m2,ab,by rw[z];exact B.1.get j _ o2,λi b N=>?_⟩;have gO:i<(E.news[k]).1.length:=ai;have X:=dD gO;have G:i<l.length:=ab;have ha:=dD G;have f1:=k2 i _ _ X ha;have f2:=k4 i _ _ X N;exact⟨_,ha,by rw[Mv f1,Mv f2],λvv U=>ahW t 50 _ _ _ f2 (QJ x 50 _ _ _ f1 U)⟩
def Ko(n:Nat)(a:aJ)(H:Heap)(f:Nat)(l:List eD):ah (AV×Heap):=iQ Z (λE _ i=>Option.rec i (λr=>J r) (Ku (atC E.H H f (dF (Nat.rec [] (λk t=>(k,k)::t) n) (IJ (ahi 50) E.args a)) .nil) λb=>BX n E a H b)) l
def Gv(P:aG)(f:bV)(E:eD):Prop:=∃r fr v E' a,m8 P r/\wx P f E.args=J fr/\r fr E.H=J (.ret v E')/\bg E.H/\RI E v E' a
theorem arX{n:Nat}{a:aJ}{f:Nat}{r:AV×Heap}:∀(l:List eD),Ko n a H f l=J r->∃E k,E∈l/\BX n E a H k=J r:=by intro l;induction l with|nil=>simp[Ko]|cons E l i=>intro h;unfold Ko at h;simp only[Oz]at h;generalize u:BX n E _ H _=x at h;cases x<;>grind[Ko,Oz]
def mw(n u:Nat)(t:Tr (List eD))(a:cg):cg:=λf args H=>match t.get f with|none=>a f args H|some l=>(match Ko n args H u l with|some r=>J (J r)|none=>a f args H)
theorem aK9(y:qQ P){n:cg}(p:jH P n){fuel:Nat}{t:Tr (List eD)}(z:∀f l E,t.get f=J l->E∈l->Gv P f E):jH P (mw P.globals.size fuel t n):=by
 intro f args H v m h φ w e c s i j g k;unfold mw at h;split at h;.exact p f args H v m h φ w e c s i j g k
 . rename_i l x;split at h;.rename_i r hr;obtain rfl:=bt (bt h);obtain⟨E,F,o,q⟩:=arX l hr;obtain⟨A,fr,G,E',D,k1,k2,k3,k4,k5⟩:=z f l E x o;obtain⟨ψ,B,u,a,b,d⟩:=ai7 y k1 k2 k3 k4 k5 q φ w e c s i j g k;exact⟨ψ,B,u,a,b,.inr d⟩
   .exact p f args H v m h φ w e c s i j g k
def oD:Heap:={tr:=.nil,dp:=.nil,next:=0,bu:=0,bT:=[],cG:=[]}
def jM(l:List (aJ×an)):Heap:=fO (λH x=>H.cP x.1 .ro x.2) l oD
theorem aoW:bg oD where
 get:=λid o h=>by
  have:oD.get id=Z:=by unfold Heap.get oD;rfl
  rw[this]at h;simp at h
 root:=λid l r a e h=>by
  have:oD.get id=Z:=by unfold Heap.get oD;rfl
  rw[this]at h;simp at h
 nZ:=λid l r a e h=>by
  have:oD.get id=Z:=by unfold Heap.get oD;rfl
  rw[this]at h;simp at h
 dp:=λr f h=>by
  have:oD.dp.get r=Z:=by unfold oD;rfl
  rw[this]at h;simp at h
 bu:=bJ _
theorem asj:∀(l:List (aJ×an))(H:Heap),bg H->bg (fO (λH x=>H.cP x.1 .ro x.2) l H):=by intro l;induction l with|nil=>intro H h;exact h|cons x l i=>intro H h;exact i _ (we h _ aT)
theorem nW(l:List (aJ×an)):bg (jM l):=asj l oD aoW
def abb(E:eD)(a:Heap)(f:aD)(k:Nat):Bool:=match oM E.news k with|some x=>(match oM f k with|some j=>(match a.get j with|some (.cells l root _ e)=>aw x.2 e&&(br (a.bn root).1 j&&(br E.H.next j&&(match cu (nB (Dv E.H.next f) 50) x.1 with|some m=>wy (xO 50) m l|none=>C)))|_=>C)|none=>C)|none=>C
def Vw(E:eD)(v:AV)(a:Heap)(f:aD):Bool:=aw (eM f) (eM E.news)&&((match nB (Dv E.H.next f) 50 E.v with|some m=>xO 50 m v|none=>C)&&Cb (abb E a f) (eM E.news))
def entry(P:aG)(r:Rec)(f:bV)(E:eD)(a:aD):Bool:=match wx P f E.args with|some fr=>(match r fr E.H with|some (.ret v E')=>Vw E v E' a|none=>C)|none=>C
theorem aDY{E:eD}{v:AV}{f:aD}(h:Vw E v E' f=V):RI E v E' f:=by
 unfold Vw at h;simp only[gD,bE,gZ,dS]at h;obtain⟨c,e,d⟩:=h;refine⟨c,?_,λk x b=>?_⟩;.grind[N']
 .have a:=RS _ d k (List.getElem?_eq_some_iff.1 b).1;unfold abb at a;rw[wT,wT,b]at a;simp only at a;split at a<;>grind[bE,dg,N9,N']
theorem ao6{r:Rec}{f:bV}{E:eD}{a:aD}(e:m8 P r)(i:bg E.H)(h:entry P r f E a=V):Gv P f E:=by
 unfold entry at h;split at h
 . rename_i fr d;split at h;.rename_i v E' hr;exact⟨r,fr,v,E',a,e,d,hr,i,aDY h⟩
   .simp at h
 .simp at h
def qz(b:aD):aD->Bool:=iQ (λ_=>V) (λx _ i a=>iQ C (λy t _=>bif aw x y then i t else C) a) b
def Bq(b a:aD):Nat->ah Nat:=iQ (λi=>bif qz b []then J i else Z) (λx s h i=>bif qz b (x::s)then J i else h (fg i)) a
def Pv:ah Nat->AV|some i=>hJ i|none=>.int .i64 (-1)
def Ek(H:Heap)(g:Nat):Bool:=match H.get g with|some (.cells [.top] root _ _)=>br (H.bn root).1 g|_=>C
def Mg(c g:Nat)(k:cg):cg:=λf args H=>bif aw f c then match args with|[.str a,.str b]=>bif Ek H g&&cm (eM a) 4294967281 then J (J (Pv (Bq b a 0),H))else J Z|_=>J Z else k f args H
theorem aJ9(a b:UInt8):aw a.toNat b.toNat=(a==b):=by grind[bE,UInt8.toNat_inj]
theorem afk:∀(b a:List UInt8),qz (b.map ka) (a.map ka)=b.isPrefixOf a:=by intro b;induction b with|nil=>intro a;rfl|cons x b i=>
 intro a;rcases a with _|⟨y,a⟩;.rfl
 show(bif aw _ _ then qz _ _ else C)=_;grind[aJ9]
theorem awE(b:List UInt8):∀(a:List UInt8)(i:Nat),Bq (b.map ka) (a.map ka) i=if Lib.index a b=-1 then Z else J (i+(Lib.index a b).toNat):=by intro a;induction a with|nil=>intro i;show(bif qz _ (([]:List _).map ka)then J i else Z)=_;grind[afk,Lib.index]|cons x a h=>intro i;show(bif qz _ ((x::a).map _)then J i else Bq _ _ _)=_;rw[afk,h];have g:=Lib.index_ge a b;grind[Lib.index]
theorem awF(a b:List UInt8):Pv (Bq (b.map ka) (a.map ka) 0)=.int .i64 (Lib.index a b):=by
 rw[awE];have g:=Lib.index_ge a b;by_cases h:Lib.index a b=-1;.rw[if_pos h,h];rfl
 .rw[if_neg h];show AV.int _ _=_;grind
theorem auc{g:Nat}(s:bM gC φ H w)(b:iP P φ)(M:g<P.globals.size)(h:Ek H g=V):∃m,w.cell? ⟨g,0,Z⟩=J (.int .i64 m):=by
 unfold Ek at h;split at h
 . rename_i root j e E;obtain⟨p,a,n,q⟩:=b g M;have z:jb H g:=λl r f i u=>by simp_all
   have o:=s.obj g p _ a trivial z E;obtain⟨d,k,_,k1,k2,k3,k4,k5⟩:=o;obtain⟨c,t,v⟩:=k4 0 _ rfl;cases v<;>grind[World.cell?]
 grind
theorem aE8{k:cg}(F:jH P k){d g:Nat}(T:g<P.globals.size)(G:∀args w,(callFunc d args).run P w=.ok (.enter d args) w)(B:∀(s sub:ByteArray)(m:Int)(w:aW),s.size<4294967281->w.cell? ⟨g,0,Z⟩=J (.int .i64 m)->Calls P d #[.string s,.string sub] w λe i=>e=.returned (.int .i64 (Lib.index s.data.toList sub.data.toList))/\i=w):jH P (Mg d g k):=by
 intro f args H v z h φ w n c A r j p u;unfold Mg at h;rw[bE]at h;by_cases o:f=d
 . subst o;simp only[dM,aR]at h;split at h
   . rename_i a b;rcases q:(Ek H g&&cm (eM a) 4294967281)with _|_;.grind
     rw[q]at h;obtain⟨rfl,rfl⟩:=il (bt (bt h));simp only[gD,eK,gZ,dS]at q;obtain⟨m,E⟩:=auc j p T q.1;obtain⟨x,t,e1,M,I⟩:=u.cons_inv;obtain⟨y,t2,e2,N,S⟩:=I.cons_inv;obtain rfl:=S.rG;cases M with|str _ s O=>cases N with|str _ sub R=>
     have U:n=#[.string s,.string sub]:=by grind
     subst U;subst O;subst R;have l:s.size<4294967281:=by simp_all
     obtain⟨e,i,fr,⟨D,L⟩,K,W,Q⟩:=B s _ m w l E _;subst D;subst L;refine⟨φ,i,.int .i64 (Lib.index s.data.toList sub.data.toList),⟨r,j,Fr.refl φ H i⟩,?_,.inr ⟨G _ _,?_⟩⟩;.rw[awF];exact .int _ _
     .exact Steps.trans K (Steps.head (step_leave_returned Q) (Steps.refl _ _))
   grind
 .simp only[o,kM,bS]at h;exact F f _ H v z h φ w n c A r j p u
def cmpL(a:aD):aD->Int:=iQ (λb=>iQ 0 (λ_ _ _=>-1) b) (λx _ i b=>iQ 1 (λy t _=>bif cm x y then-1 else bif cm y x then 1 else i t) b) a
def Qq(c:Nat)(k:cg):cg:=λf args H=>bif aw f c then match args with|[.str a,.str b]=>J (J (.int .i64 (cmpL a b),H))|_=>J Z else k f args H
theorem cmpL_eq:∀a b:List UInt8,cmpL (a.map ka) (b.map ka)=Lib.compareBytes a b:=by intro a;induction a with|nil=>intro b;cases b<;>rfl|cons x a i=>
 intro b;rcases b with _|⟨y,b⟩;.rfl
 show(bif cm x.toNat y.toNat then-1 else bif cm y.toNat x.toNat then 1 else cmpL (a.map ka) (b.map ka))=_;rw[i b,eK,eK];show _=if x<y then(-1:Int)else if y<x then 1 else Lib.compareBytes a b;by_cases c:x<y;.have h:x.toNat<y.toNat:=c;simp[c,h]
 . have h:¬x.toNat<y.toNat:=c;by_cases d:y<x;.have e:y.toNat<x.toNat:=d;simp[c,h,d,e]
   .have e:¬y.toNat<x.toNat:=d;simp[c,h,d,e]
theorem aE7{k:cg}(z:jH P k){d:Nat}(G:∀args w,(callFunc d args).run P w=.ok (.enter d args) w)(q:∀(a b:ByteArray)(w:aW),Calls P d #[.string a,.string b] w λe g=>e=.returned (.int .i64 (Lib.compareBytes a.data.toList b.data.toList))/\g=w):jH P (Qq d k):=by
 intro f args H v o h φ w i c p l m u n;unfold Qq at h;rw[bE]at h;by_cases j:f=d
 . subst j;simp only[dM,aR]at h;split at h;.rename_i a b;obtain⟨rfl,rfl⟩:=il (bt (bt h));obtain⟨x,t,e1,D,A⟩:=n.cons_inv;obtain⟨y,t2,e2,E,F⟩:=A.cons_inv;obtain rfl:=F.rG;cases D with|str _ s I=>cases E with|str _ sub R=>
    have U:i=#[.string s,.string sub]:=by grind
    subst U;subst I;subst R;obtain⟨e,g,fr,⟨r,B⟩,K,M,L⟩:=q s _ w _;subst r;subst B;refine⟨φ,g,.int .i64 (Lib.compareBytes s.data.toList sub.data.toList),⟨l,m,Fr.refl φ H g⟩,?_,.inr ⟨G _ _,?_⟩⟩;.rw[cmpL_eq];exact .int _ _
    .exact Steps.trans K (Steps.head (step_leave_returned L) (Steps.refl _ _))
   grind
 .simp only[j,kM,bS]at h;exact z f _ H v o h φ w i c p l m u n
end Go.AM
namespace Go.VM
open Go Go.AM
noncomputable abbrev PP:aG:=Proofs.Tryz.prog
structure FR where
 g:aD
 c:aD
 k:Nat
 p:Bool
 r:List aD
def nt{b:Type}(d:b):List b->Nat->b|[],_=>d|a::_,0=>a|_::l,n+1=>nt d l n
def dP(r:List aD):FR:=⟨[],[],3,V,r⟩
def pL(r:List aD):FR:=⟨[],[],0,V,r⟩
def jE(r:List aD):FR:=⟨[],[],0,C,r⟩
def q3:FR:=⟨[],[67,69,85,87],3,V,[[4,3,2],[7,4,3],[7,4,3,34],[6],[7,4,8,9,3],[7,4,8,10,11,9],[7,4,8,66],[6],[7,12,4,8],[7,69,12,4,67,68],[7,4,67,68,69,12,70],[13,7,4,67,68,69,14,12],[13,7,4,67,68,69,14,12,79],[6],[13,7,12,4,67,68,69,14],[87,13,7,85,12,4,67,68,69,86],[13,7,85,12,4,67,68,69,86,87,88],[13,7,85,12,4,67,68,69,86,87,16],[13,7,85,12,4,67,68,69,86,87,18,17],[13,7,85,12,4,67,68,69,86,87,19,20,18],[13,7,85,12,4,67,68,69,86,87,113],[6],[87,13,7,85,12,4,67,68,69,86],[7,69,12,4,67,68],[6]]⟩
def q4:=dP [[2,3],[2,3,28],[4],[5,2,3],[2,3,5,33],[5,2,3],[2,3,5,46],[4],[6,3,2],[3,2,6,51],[6,3,2],[3,2,6,75],[4],[4]]
def q5:=dP [[3,2],[6],[4]]
def q6:FR:=⟨[1],[],0,V,[]⟩
def q7:=pL [[2,4,3],[8,2,4],[8,2,4,14],[6,7],[9,2,4],[9,2,4,19],[6,7],[6,7]]
def q8:FR:=⟨[],[24,26],0,V,[[4,1,2],[4,7,1,2],[4,7,1,2,17],[4,5],[4,1,2,22],[4,5],[4,26,1,2,24,25],[4,1,2,24,25,26,27],[4,1,2,24,25,26,9],[4,10,1,2,24,25,26,9],[4,10,1,2,24,25,26,9,34],[4,5],[4,1,2,24,25,26,44],[4,5],[4,26,1,2,24,25],[4,5]]⟩
def q9:=dP [[3,2],[3,2,22],[4],[5,3,2],[3,2,5,27],[5,3,2],[3,2,5,40],[4],[6,3,2],[3,2,6,45],[6,3,2],[3,2,6,75],[4],[4]]
def tE:FR:=⟨[],[13],3,V,[[1,0],[1,0,10],[4],[13,1,0,12],[1,0,12,13,14],[1,0,12,13,5],[1,0,12,13,24],[4],[13,1,0,12],[4]]⟩
def VD:FR:=⟨[],[7,9],3,V,[[1],[3,1],[9,3,7,8],[7,8,9,3,10],[7,8,9,5,3],[3,7,8,9],[9,3,7,8],[2]]⟩
def VJ:=dP [[1],[5,4],[5,4,12],[2,3],[2,3]]
def VQ:=dP [[1,0],[6,1,0],[6,1,0,16],[4,5],[4,5]]
def VX:=dP [[2,3],[4]]
def VZ:FR:=⟨[23],[],0,C,[[3,2],[7,3,6,2],[7,3,6,2,16],[4,5],[8],[9,8],[9,8,27],[4,5],[4,5]]⟩
def V2:FR:=⟨[],[3],0,V,[[2,0],[2,3],[2],[2]]⟩
def FE:=jE [[3,1,0],[3]]
def We:=pL [[2,0],[2,0,9],[2,3],[2,3]]
def Wl:=pL [[10,9,3,6,7,5],[10,14,13,9,3,6,7],[10,14,13,9,3,6,7,24],[10,11,12],[10,13,9,3,6,7,27],[10,11,12],[10,13,9,3,6,49],[10,11,12],[10,13,9,3,6,60],[10,11,12],[10,13,9,3,6,15],[10,14,16,13],[10,14,16,13,87],[10,11,12],[10,16,13],[10,11,12]]
def Wr:=dP [[0],[8],[2],[2]]
def Ws:FR:=⟨[11],[14,26,28],0,V,[[2,1],[2,5,1],[14,2,5,1,13],[2,5,1,13,14,15],[2,5,1,13,14,6],[2,5,1,13,14],[14,2,5,1,13],[28,5,1,26,27],[5,1,26,27,28,29],[5,1,26,27,28,8],[5,1,26,27,28,8,9],[5,1,26,27,28],[28,5,1,26,27],[4]]⟩
def WB:FR:=⟨[],[20,22],0,V,[[1],[5,1],[5,1,17],[2,3],[1,6],[22,1,6,20,21],[1,20,21,22,6,23],[1,20,21,22,8,6],[10,1,20,21,22,9,8,6],[10,1,20,21,22,9,8,6,33],[2,3],[1,6,20,21,22],[22,1,6,20,21],[2,3]]⟩
def lz:=dP [[0],[2]]
def WK:FR:=⟨[],[17,19,24,26],0,V,[[2,0],[4,2,0],[19,4,17,2,18],[4,17,2,18,19,20],[4,17,2,18,19,6],[7,4,17,2,18,19,6],[26,7,24,4,17,2,18,19,25],[24,4,17,2,18,19,25,26,7,27],[24,4,17,2,18,19,25,26,9,7],[7,24,4,17,2,18,19,25,26],[26,7,24,4,17,2,18,19,25],[4,17,2,18,19],[19,4,17,2,18],[2,10,4],[2,4,10,46],[2,10,4],[2,4,10,61],[2,3],[2,4,66],[2,3],[2,3]]⟩
def WO:=dP [[3,2],[3,2,9],[4],[3,2,14],[4],[4]]
def WR:=dP [[3,2],[3,2,19],[4],[5,3,2],[3,2,5,24],[5,3,2],[3,2,5,38],[4],[4]]
def WX:FR:=⟨[],[38,40],3,V,[[1],[4,1],[4,1,13],[2,3],[1,5],[1,5,21],[5],[6,1,5],[1,6,5,27],[6,1,5],[1,5,6],[7,5],[40,7,38,39],[38,39,40,7,41],[38,39,40,9,7],[7,38,39,40],[40,7,38,39],[2,3]]⟩
def W5:FR:=⟨[],[5,7],3,V,[[0],[7,5,6],[5,6,7,8],[5,6,7,4],[5,6,7,12],[2],[7,5,6],[2]]⟩
def rK:=dP [[1,0],[4]]
def Xf:=dP [[2,1,3],[6]]
def Xi:=dP [[0],[3,0],[0,3,11],[3,0],[0,3,19],[2],[2]]
def Xo:=dP [[0],[3,0],[0,3,7],[3,0],[0,3,25],[2],[2]]
def Xx:FR:=⟨[],[42,44],0,C,[[0],[0,6],[2],[0,23],[2],[0,30],[2],[44,0,42,43],[0,42,43,44,45],[0,42,43,44,4,3],[5,0,42,43,44,4,3],[5,0,42,43,44,4,3,53],[2],[0,42,43,44,70],[2],[44,0,42,43],[2]]⟩
def vz:=pL [[0],[0,4],[2],[2]]
def XW:=dP [[1,2],[1,5],[7],[4]]
def X4:FR:=⟨[1],[36],0,V,[[2,1],[3,2,1],[3,2,1],[36,3,2,1,35],[3,2,1,35,36,37],[3,2,1,35,36,4],[3,2,1,35,36,5],[3,2,1,35,36],[36,3,2,1,35],[2]]⟩
def X6:FR:=⟨[],[21,23],3,V,[[1],[4,1],[4,1,13],[2,3],[1,18],[2,3],[5,1],[23,5,1,21,22],[5,1,21,22,23,24],[6,5,1,21,22,23,7],[8,6,5,1,21,22,23,7],[8,6,5,1,21,22,23,7,33],[2,3],[6,5,1,21,22,23,7,39],[2,3],[5,1,21,22,23],[23,5,1,21,22],[2,3]]⟩
def X7:=pL [[2,1],[2,6,4],[2,3]]
def X8:=jE [[0,1,2],[0,7,1,2],[1,2,0,7,15],[1,2,0,7,24],[0,7,1,2],[0,7,1,2],[6]]
def iX:=dP [[3,2],[4]]
def X9:=dP [[3,2],[3,2,9],[4],[3,2,19],[4],[3,2,29],[4],[34],[4],[4]]
def Yc:=dP [[3,2],[3,2,29],[4],[5,3,2],[3,2,5,34],[5,3,2],[3,2,5,47],[4],[6,3,2],[3,2,6,52],[6,3,2],[3,2,6,65],[4],[4]]
def Yf:=dP [[1,0],[1,0,10],[4],[5,1,0],[1,0,5,14],[5,1,0],[1,0,5,26],[4],[4]]
def Yg:FR:=⟨[],[4],3,V,[[1],[1,4],[2],[1,4,5],[1,4,5],[1,10],[2],[1,11],[1,15],[2],[2]]⟩
def vA:=dP [[1],[2]]
def Yh:=dP [[0],[3,0],[0,3,11],[3,0],[0,3,29],[2],[2]]
def vC:=jE [[1,0],[4]]
def Yi:=jE [[3,0],[3,0,24],[4],[5,3,0],[5,3,0,29],[4],[3,6,0],[7,3,6,0],[7,3,6,0,44],[4],[3,6,46],[4],[3,6,56],[4],[3,8,6],[3,9,10,11],[92],[4],[4]]
def Yj:=dP [[3,2],[5,3,2],[5,3,2,12],[4],[4]]
def Yk:=dP [[3,0],[5,3,0],[5,3,0,9],[4],[4]]
def Yl:FR:=⟨[],[30,32],0,V,[[6,0,5,1],[6,9,0,5,1],[6,9,0,5,1,17],[6,7,8],[6,0,5,1,22],[6,7,8],[6,0,5,1,28],[6,7,8],[6,32,0,30,5,1,31],[6,0,30,5,1,31,32,33],[6,0,30,5,1,31,32,10,11],[6,0,30,5,1,31,32,48],[6,7,8],[6,32,0,30,5,1,31],[6,12,5],[6,12,5,57],[6,7,8],[6,7,8]]⟩
def Ym:=dP [[1],[1,6],[2],[2]]
def Yn:FR:=⟨[],[9],0,V,[[0],[3],[9,3,8],[3,8,9,10],[3,8,9,4],[3,8,9],[9,3,8],[2]]⟩
def Yo:FR:=⟨[5,7],[],0,C,[[0],[0,4],[2],[2]]⟩
def Yp:FR:=⟨[],[11,13],3,V,[[0],[0,9],[2],[3,0],[13,3,11,12],[3,11,12,13,14],[3,11,12,13,5],[6,3,11,12,13,5],[6,3,11,12,13,5,20],[2],[3,11,12,13,5,25],[2],[3,11,12,13],[13,3,11,12],[2]]⟩
def Mq:FR:=⟨[2,3],[],3,V,[[2,3],[6],[4]]⟩
def Yq:FR:=⟨[1,2,3,4,5,7],[],0,V,[[2,3,4,1],[2,3,4,6,5,1],[2,3,4,6,5,1,18],[2,3,4],[2,3,4,5,7,1],[2,3,4,6,5,7],[2,3,4,6,5,7,30],[2,3,4],[2,3,4,5,7,34],[2,3,4,5,7,8,36],[2,3,4,5,7,9,8],[2,3,4,11,5,7,9,10],[2,3,4,11,5,7,9,10,46],[2,3,4],[2,3,4,5,7],[2,3,4,5,7,64],[2,3,4],[2,3,4]]⟩
def Yr:FR:=⟨[],[6,8],3,V,[[0],[3,0],[8,3,6,7],[3,6,7,8,9],[5,3,6,7,8],[5,3,6,7,8,14],[2],[8,3,6,7],[2]]⟩
def Ys:FR:=⟨[],[11,12,13],3,V,[[1,0],[1,0,5],[6,1,0,5],[6,1,0,11],[12],[4],[4],[1,0,13],[4],[1,0,16],[4],[19],[4],[4]]⟩
def Yt:FR:=⟨[],[10],3,V,[[3,2],[10,3,2,8,9],[3,2,8,9,10,11],[3,2,8,9,10,6],[7,3,2,8,9,10],[7,3,2,8,9,10,19],[4],[10,3,2,8,9],[4]]⟩
def Yu:=dP [[1,0],[1,0,7],[4],[10],[4],[4]]
def Yv:=dP [[1],[1,3],[2],[1,17],[2],[31],[2],[2]]
def Yw:=dP [[1],[1,31],[2],[3,1],[1,3,36],[3,1],[1,3,45],[2],[2]]
def Yx:=dP [[1],[1,7],[2],[3],[4,3],[3,4,13],[4,3],[3,4,22],[2],[2]]
def Yy:=dP [[1],[1,3],[1,3,7],[1,3],[4,1,3],[1,4,3,12],[4,1,3],[1,3,4],[2]]
def Yz:=dP [[1],[3,1],[1,3,15],[3,1],[1,3,55],[2],[4,1],[1,4,64],[4,1],[5,1,4],[5,1,4,105],[2],[6,5,1,4],[5,1,4,6,110],[6,5,1,4],[5,1,4,6,119],[2],[2]]
def YA:=dP [[0],[3,0],[0,3,11],[3,0],[0,3,20],[2],[2]]
def tF:FR:=⟨[],[8],0,C,[[0,1],[8,0,1,7],[0,1,7,8,9],[5,0,1,7,8],[5,0,1,7,8,16],[4],[8,0,1,7],[4]]⟩
def BL:FR:=⟨[],[9,11,25,27],0,V,[[0],[3,0],[11,3,9,0,10],[9,0,10,11,3,12],[9,0,10,11,5,3],[3,9,0,10,11],[3,9,0,10,11,20],[3,9,0,10,11],[11,3,9,0,10],[6,0],[27,6,25,26],[25,26,27,6,28],[25,26,27,8,6],[6,25,26,27],[27,6,25,26],[2]]⟩
def YB:FR:=⟨[],[38,40],3,V,[[3,0],[5,3,0],[5,3,0,13],[4],[3,0,24],[4],[6,3],[6,3,36],[4],[40,6,38,39],[6,38,39,40,41],[6,38,39,40,7,8],[9,6,38,39,40,7,8],[9,6,38,39,40,7,8,48],[4],[6,38,39,40,57],[4],[40,6,38,39],[4]]⟩
def BM:=jE [[2,1],[3]]
def yy:=pL [[2,1],[2]]
def YC:=dP [[3,2],[3,2,9],[4],[4]]
def VC:=dP [[0],[0,7],[0],[0,3],[4,0,3],[0,4,3,15],[4,0,3],[0,3,4],[2]]
def VE:FR:=⟨[],[16,18],3,V,[[1],[1,9],[2],[1,13],[2],[3,1],[18,3,16,17],[3,16,17,18,19],[3,16,17,18,5],[3,16,17,18,5,22],[2],[3,16,17,18,5,27],[2],[3,16,17,18,5,32],[2],[3,16,17,18],[18,3,16,17],[2]]⟩
def VF:FR:=⟨[],[8,10],0,C,[[0],[10,8,9],[8,9,10,11],[8,9,10,5],[7,6,8,9,10],[7,6,8,9,10,21],[2,3],[10,8,9],[2,3]]⟩
def VG:FR:=⟨[1],[],0,C,[[2,1],[2]]⟩
def FB:=jE [[0],[1]]
def VH:=dP [[0],[0,18],[2],[21],[2],[2]]
def Mi:=jE [[1,0],[2,3]]
def VI:FR:=⟨[3,4,5],[],3,V,[[5,3,4],[6,7]]⟩
def FC:=jE [[1,0],[2]]
def VK:=jE [[1,0],[4],[2]]
def VL:FR:=⟨[2,3,6],[],0,V,[[3,2],[6,3,2],[8,6],[8,6,23],[4,5],[4,5]]⟩
def VN:FR:=⟨[],[37,39],0,V,[[1],[4,1],[4,1,15],[2,3],[5],[5,6],[5,6,22],[5,6],[9,5,6,8],[9,5,6,8,35],[2,3],[39,5,37,6,38],[37,6,38,39,5,40],[37,6,38,39,11,5],[37,6,38,39,11,5,46],[5,37,6,38,39],[39,5,37,6,38],[5,6,54],[2,3],[2,3]]⟩
def VO:=dP [[1],[5,1],[5,1,12],[2,3,4],[7,6],[2,3,4]]
def BJ:FR:=⟨[1],[],0,C,[[1],[2]]⟩
def VP:=pL [[1],[4,1],[4,1,8],[2,3],[2,3]]
def rJ:=dP []
def VS:=dP [[1,0],[1,0,10],[4],[5,1,0],[1,0,5,14],[5,1,0],[1,0,5,25],[4],[4]]
def VT:=dP [[1],[1,12],[2],[3],[4,3],[3,4,18],[4,3],[3,4,27],[2],[2]]
def Mj:=dP [[1,2],[1,2,5],[6,1,2,5],[1,2,6,5,16],[6,1,2,5],[1,2,5,6],[4]]
def VU:=pL [[1],[1,3],[4,1,3],[1,4,3,11],[4,1,3],[1,3,4],[2]]
def VV:=dP [[0],[3,0],[0,3,7],[3,0],[0,3,16],[2],[2]]
def VW:FR:=⟨[],[32,53,55],3,V,[[3,2],[5,3,2],[5,3,2,16],[4],[3,2,25],[4],[32,30,3,2,31],[30,3,2,31,32,33],[30,3,2,31,32,7],[8,30,3,2,31,32],[8,30,3,2,31,32,39],[4],[32,30,3,2,31],[9,3,2],[9,3,2,46],[4],[3,2,51],[4],[55,3,2,53,54],[3,2,53,54,55,56],[3,2,53,54,55,11,10],[12,3,2,53,54,55,11,10],[12,3,2,53,54,55,11,10,65],[4],[3,2,53,54,55,79],[4],[55,3,2,53,54],[4]]⟩
def BK:=pL []
def VY:=dP [[1],[1,3],[2],[12],[2],[2]]
def Mk:FR:=⟨[2,3],[],0,C,[[2,3],[4]]⟩
def V0:FR:=⟨[],[31,33],0,V,[[7,2,1,4],[12,11,7,2],[12,11,7,2,26],[8,9,10],[11,7,2,30],[8,9,10],[33,11,31,7,2,32],[11,31,7,2,32,33,34],[11,31,7,2,32,33,14],[15,11,31,7,2,32,33],[15,11,31,7,2,32,33,41],[8,9,10],[33,11,31,7,2,32],[16,7,2,11],[16,7,2,11,48],[8,9,10],[18,17],[18,17,64],[8,9,10],[8,9,10]]⟩
def V1:FR:=⟨[],[19],3,V,[[0],[0,16],[2],[19,0,18],[0,18,19,20],[0,18,19,3],[0,18,19,33],[2],[19,0,18],[2]]⟩
def FD:=jE [[0],[1,2]]
def V3:=jE [[1,0],[5,1,3],[5,19],[2],[2]]
def V4:FR:=⟨[8],[],0,C,[[2,1,0],[3,4]]⟩
def V5:FR:=⟨[],[24,59,61],0,C,[[0,3],[6,0,3],[6,0,3],[6,0,3,24],[6,0,3,24,25],[6,0,3,24,25],[6,0,3,28],[6,0,3,41],[4,5],[7,6,0,3],[7,6,0,3,55],[4,5],[61,0,59,60],[0,59,60,61,62],[0,59,60,61,9],[11,10,0,59,60,61],[11,10,0,59,60,61,72],[4,5],[61,0,59,60],[4,5]]⟩
def V6:FR:=⟨[5,6],[],3,V,[[1],[4,1],[4,1,10],[2,3],[6,5,1],[6,5],[2,3]]⟩
def V7:FR:=⟨[],[24,26,35,37],3,V,[[0,3],[0,3,15],[4],[0,3,21],[4],[5,0,3],[26,5,24,0,3,25],[5,24,0,3,25,26,27],[5,24,0,3,25,26,7],[5,24,0,3,25,26],[26,5,24,0,3,25],[8,0,5,3],[37,8,0,5,35,36],[8,0,5,35,36,37,38],[8,0,5,35,36,37,10,9],[8,0,5,35,36,37,10,9,45],[8,0,5,35,36,37,47],[4],[0,5,35,36,37,10,11,8],[0,5,35,36,37,10,11,8,60],[4],[0,5,35,36,37,10,11,71],[4],[8,0,5,35,36,37],[37,8,0,5,35,36],[4]]⟩
def V8:=jE [[0],[2],[2,6],[1],[9],[1],[1]]
def V9:FR:=⟨[],[9,11],0,C,[[2,0,1],[11,2,0,1,9,10],[2,0,1,9,10,11,12],[2,0,1,9,10,11,5],[7,2,0,1,9,10,11,6],[7,2,0,1,9,10,11,6,24],[3],[2,0,1,9,10,11],[11,2,0,1,9,10],[3]]⟩
def V':FR:=⟨[],[20,22],3,V,[[0,5,1],[8,0,5,1],[8,0,5,1,15],[6,7],[0,5,1,19],[6,7],[22,0,20,5,1,21],[0,20,5,1,21,22,23],[0,20,5,1,21,22,10],[0,20,5,1,21,22,35],[6,7],[22,0,20,5,1,21],[11,5,1,0],[11,5,1,0,40],[6,7],[6,7]]⟩
def Wa:FR:=⟨[],[24,26],3,V,[[1,2],[6,1,2],[6,1,2,14],[4,5],[1,2,18],[4,5],[7,1],[26,7,24,25],[7,24,25,26,27],[8,7,24,25,26,9],[8,7,24,25,26,9,10],[8,7,24,25,26,9,10,34],[10,8,7,24,25,26],[10,8,7,24,25,26,39],[4,5],[26,7,24,25],[4,5]]⟩
def Wb:=dP [[1],[3,1],[3,1,10],[2],[6],[19],[2],[2]]
def Wc:FR:=⟨[1,2,3,4,5,6,7,8],[],0,V,[[2,3,4,1],[2,3,4,5,1],[2,3,4,6,5,1],[2,3,4,6,5,10],[2,3,4,6,5,7,12],[2,3,4,6,5,7,8],[2,3,4,6,5,7,8],[2,3,4,6,5,7,8,16],[2,3,4,6,5,7,8],[2,3,4,6,5,7,8,24],[2,3,4,6,5,7,8,28],[2,3,4],[2,3,4,6,5,7,8],[2,3,4,6,5,7],[2,3,4,6,5,7,41],[2,3,4,6,5],[2,3,4,6,5,48],[2,3,4],[2,3,4]]⟩
def Ml:FR:=⟨[3],[],3,V,[[3,0],[4]]⟩
def Wd:FR:=⟨[1,5,6,7,8,9],[18,29],3,V,[[1],[7,6,5,1],[7,6,5,11],[7,6,5,8],[7,6,5,8,9],[7,6,5,8,9,18],[7,6,5,8,9],[7,6,5,8,9],[7,6,5,8,29],[7,6,5],[7,6,5],[2,3,4]]⟩
def Wf:FR:=⟨[],[10,12,25],0,C,[[1,12,0,10,11],[1,0,10,11,12,13],[1,3,0,10,11,12,4],[6,1,3,5,0,10,11,12],[25,6,1,3,5,0,10,11,12,24],[6,1,3,5,0,10,11,12,24,25,26],[6,1,3,5,0,10,11,12,24,25,8],[6,1,3,5,0,10,11,12,24,25,9],[6,1,3,5,0,10,11,12,24,25,9],[6,1,3,5,0,10,11,12,24,25,9,39],[6,1,3,5,0,10,11,12,24,25],[25,6,1,3,5,0,10,11,12,24],[1,0,10,11,12,57],[1,12,0,10,11]]⟩
def Wg:=pL [[1],[5,1],[5,1,9],[2,3,4],[2,3,4]]
def Wh:FR:=⟨[1,2,5],[],3,V,[[2,1],[2,1,4,3],[2,1,4,13],[2],[2,1,15],[2],[2,17],[2,5],[2,6],[2,6,22],[2],[2]]⟩
def Wi:FR:=⟨[],[7,19,21],0,V,[[1],[1,3],[1,3,7],[1,3,7,8],[1,3,7,8],[2],[3,1,7,16],[21,3,19,20],[19,20,21,3,22],[19,20,21,5,3],[3,19,20,21],[21,3,19,20],[1,3,7,30],[1,3],[2],[1,3,51,7],[1,3,51],[2],[2]]⟩
def Mm:=dP [[1],[1,3],[4,1,3],[1,4,3,9],[4,1,3],[1,3,4],[2]]
def Wj:=dP [[1],[3,1],[3,1,12],[2],[5,1,4],[5,1,4,22],[2],[28],[2],[2]]
def Wk:FR:=⟨[],[10,12],3,V,[[0],[0,8],[2],[3,0],[12,3,0,10,11],[3,0,10,11,12,13],[3,0,10,11,12,5,4],[3,0,10,11,12,5,4,17],[2],[3,0,10,11,12,5,21],[2],[3,0,10,11,12,5,34],[2],[3,0,10,11,12],[12,3,0,10,11],[2]]⟩
def Wm:FR:=⟨[13,8],[20,22],3,V,[[3,2],[5,3,2],[6,5,3,2],[22,6,5,3,2,20,21],[6,5,3,2,20,21,22,23],[6,5,3,2,20,21,22,8,7],[9,6,5,3,2,20,21,22,8,7],[9,6,5,3,2,20,21,22,8,7,32],[4],[6,5,3,2,20,21,22,8,7,44],[4],[10,6,5,3,2,20,21,22,8,7],[10,6,5,3,2,20,21,22,8,7,49],[4],[6,5,3,2,20,21,22,55],[4],[22,6,5,3,2,20,21],[4]]⟩
def Wn:=dP [[4,5,3],[7],[7,16],[6],[6]]
def Wo:=dP [[2,3],[2,5,6],[4]]
def Wp:FR:=⟨[24],[25,27],0,C,[[1,2],[6,1,2],[6,1,2,14],[4,5],[7,1,2],[7,1,2,19],[4,5],[8,1],[27,8,25,26],[8,25,26,27,28],[8,25,26,27,10],[8,25,26,27],[27,8,25,26],[4,5]]⟩
def Wq:FR:=⟨[],[32,34,84,86],0,C,[[3,0],[3,0,11],[4],[3,0,26],[4],[34,3,0,32,33],[3,0,32,33,34,35],[3,0,32,33,34,6,5],[3,0,32,33,34,8,6,5],[3,0,32,33,34,8,6,5,49],[4],[3,0,32,33,34,8,63],[4],[3,0,32,33,34,79],[4],[34,3,0,32,33],[86,3,0,84,85],[3,0,84,85,86,87],[3,0,84,85,86,9,10],[3,0,84,85,86,9,10,91],[4],[3,0,84,85,86,115],[4],[86,3,0,84,85],[4]]⟩
def Wt:FR:=⟨[],[13,15],3,V,[[0,1],[0,1,11],[4],[0,5,1],[15,0,5,13,14],[0,5,13,14,15,16],[0,5,13,14,15,7],[8,0,5,13,14,15,7],[8,0,5,13,14,15,7,23],[4],[0,5,13,14,15,7,28],[4],[0,5,13,14,15,7],[0,5,13,14,15,41],[4],[15,0,5,13,14],[4]]⟩
def Wu:=dP [[5,1,0],[8,7],[8,7,17],[6],[20],[6],[6]]
def Wv:FR:=⟨[3,4,5],[],0,C,[[2,3],[2,4,3],[2,5,4,3],[2,5]]⟩
def Ww:=jE [[3,4,0,7,6],[3,4,0,7,6,14],[8],[3,4,0],[3,4,0,22],[3],[8]]
def Wx:FR:=⟨[],[52,54],3,V,[[3,2],[3,2,16],[3,2,5],[3,2,5,25],[4],[3,2,32,5],[3,2,32],[4],[54,3,52,53],[3,52,53,54,55],[3,52,53,54,7],[8,3,52,53,54],[8,3,52,53,54,62],[4],[54,3,52,53],[4]]⟩
def Wy:FR:=⟨[],[10],0,V,[[4,3,2],[4,5,3,2],[4,5,3,2,10],[4,5,3,2,10,11],[4],[4,2,5,3,22],[4],[4]]⟩
def Wz:=dP [[1],[1,4,3],[1,4,10],[2],[1,13],[2],[2]]
def WA:FR:=⟨[],[22,24],3,V,[[3,2],[3,2,15],[4,5],[6,2,3],[24,6,2,22,3,23],[2,22,3,23,24,6,25],[2,22,3,23,24,6,8],[10,2,22,3,23,24,9,6],[10,2,22,3,23,24,9,6,35],[4,5],[6,2,22,3,23,24],[24,6,2,22,3,23],[11,3],[11,3,47],[4,5],[56],[4,5],[4,5]]⟩
def WC:FR:=⟨[1,3,4],[],0,V,[[1],[3,1],[3,6],[3,4],[3,4,10],[3],[3],[2]]⟩
def WD:FR:=⟨[],[19,21],0,V,[[1],[1,11],[2],[1,14],[2],[3,1],[21,3,19,20],[19,20,21,3,22],[19,20,21,5,3],[3,19,20,21],[21,3,19,20],[2]]⟩
def WE:FR:=⟨[1,2,4],[],3,V,[[2,1],[2,3,1],[2,3,1,8],[2],[2,11],[2,4],[2,15],[2],[2]]⟩
def WG:FR:=⟨[1],[4],0,C,[[1],[1,4],[1,4,5],[2],[1,4,8],[1,4,8],[1,4,8],[2],[1,4,14],[2],[1,22],[2],[2]]⟩
def WH:=dP [[3,2],[3,2,45],[4],[4]]
def FF:=jE [[1,2],[3]]
def Mn:FR:=⟨[],[11,13],3,V,[[1],[5,4,1],[13,5,4,11,12],[11,12,13,5,4,14],[11,12,13,5,4,7],[11,12,13,9,5,8,4],[5,4,11,12,13],[13,5,4,11,12],[2,3]]⟩
def WI:FR:=⟨[],[64],3,V,[[1],[1,12],[2],[1,3],[1,3,17],[2],[1,3,32],[2],[1,3,64],[4,1,3],[4,1,3,69],[2],[112],[2],[2]]⟩
def WJ:FR:=⟨[5],[],0,C,[[0,3],[5,0,6,7],[5,0,47],[4],[],[4]]⟩
def WL:FR:=⟨[],[44,46],3,V,[[4,5,7,1,3],[12,4,11,5,7,1],[12,4,11,5,7,1,30],[10],[4,11,5,7,1,34],[10],[13,4,11,5,7],[13,4,11,5,7,40],[10],[14,4,11,5,15],[46,14,4,11,5,44,15,45],[4,11,5,44,45,46,14,15,47],[4,11,5,44,45,46,17,14,16],[4,11,5,44,45,46,19,18,20],[4,11,5,44,45,46,19,18,70],[10],[14,4,11,5,44,15,45,46],[46,14,4,11,5,44,15,45],[77],[10],[10]]⟩
def WM:=pL [[0],[4],[4,10],[2,3],[2,3]]
def WN:FR:=⟨[],[47,49,62,64],3,V,[[1],[1,10],[2],[1,29],[2],[49,1,47,48],[1,47,48,49,50],[1,47,48,49,4],[5,1,47,48,49],[5,1,47,48,49,58],[2],[49,1,47,48],[6,1],[64,6,1,62,63],[1,62,63,64,6,65],[1,62,63,64,8,6],[9,1,62,63,64,8],[9,1,62,63,64,8,73],[2],[6,1,62,63,64],[64,6,1,62,63],[2]]⟩
def WQ:FR:=⟨[3],[],0,C,[[3,0],[3,0],[4]]⟩
def WS:FR:=⟨[51],[32,34,53,55],0,C,[[4,1,6,3],[10,4,1,6,3],[10,4,1,6,3,24],[8,9],[4,1,6,3,31],[8,9],[34,4,32,1,6,3,33],[4,32,1,6,3,33,34,35],[4,32,1,6,3,33,34,12],[13,4,32,1,6,3,33,34],[13,4,32,1,6,3,33,34,43],[8,9],[34,4,32,1,6,3,33],[1,14,6],[55,1,14,53,54],[1,14,53,54,55,56],[1,14,53,54,55,16],[17,1,14,53,54,55],[17,1,14,53,54,55,67],[8,9],[55,1,14,53,54],[8,9]]⟩
def WT:=jE [[1,4,0]]
def WU:=pL [[0],[0,8],[2],[3,0],[3,0,13],[3,0],[3,0,25],[3,4,0],[5,3,4,0],[4,0,5,3,32],[5,3,4,0],[4,0,5,3,44],[4,0,5,3],[3,4,0,5],[3,0],[2],[2]]
def WV:FR:=⟨[],[19,21],0,C,[[6,5,4,2,3],[6,5,4,2,3],[6,5,4,17],[7],[21,6,5,4,19,20],[6,5,4,19,20,21,22],[6,5,4,19,20,21,9],[6,5,4,19,20,21,9,29],[7],[6,5,4,19,20,21,9,32],[6,5,4,19,20,21],[21,6,5,4,19,20],[7]]⟩
def WW:=pL [[1,0],[5],[5],[4]]
def WY:FR:=⟨[],[16,18],0,C,[[1,2],[5,1,2],[5,1,2,13],[4],[18,1,16,17],[1,16,17,18,19],[1,16,17,18,7],[8,1,16,17,18],[8,1,16,17,18,26],[4],[18,1,16,17],[4]]⟩
def WZ:FR:=⟨[],[73],3,V,[[1],[1,3,4],[1,3,17],[2],[1,22],[2],[1,6,5],[1,6,5,52],[2],[1,7,6,5],[1,7,6,5,66],[2],[1,8,7,6,5],[1,8,7,6,5,73],[9,1,8,7,6,5],[9,1,8,7,6,5,77],[2],[113],[2],[2]]⟩
def W0:=dP [[3,2],[3,2,10],[4,5],[3,2,19],[4,5],[3,2,27],[4,5],[3,6],[3,6,44],[4,5],[7,3],[7,68],[4,5],[4,5]]
def W3:FR:=⟨[],[8,10,14],3,V,[[1,0],[10,1,0,8,9],[1,0,8,9,10,11],[1,0,8,9,10,6],[1,0,8,9,10,6,7],[1,0,8,9,10,6,7,14],[1,0,8,9,10,6,7,14,15],[1,0,8,9,10,6,7,14,15],[1,0,8,9,10,6,7,14,15],[1,0,8,9,10,6,7,14,15],[1,0,8,9,10,7],[1,0,8,9,10,6,7,14,22],[1,0,8,9,10,6,7,14,22],[1,0,8,9,10,6,7,14,22],[1,0,8,9,10,7],[1,0,8,9,10,6,7,28],[1,0,8,9,10,7],[1,0,8,9,10,36],[4],[10,1,0,8,9],[4]]⟩
def W4:FR:=⟨[],[],1,V,[]⟩
def FG:FR:=⟨[],[],2,V,[]⟩
def Mo:=jE []
def W6:FR:=⟨[],[51],3,V,[[3,2],[3,2,47],[4],[51,3,2,50],[3,2,50,51,52],[3,2,50,51,5],[3,2,50,51,65],[4],[51,3,2,50],[4]]⟩
def yx:FR:=⟨[],[15,17],0,C,[[2,1,0],[2,1,0,14],[6],[17,2,1,15,16],[2,1,15,16,17,18],[2,1,15,16,17,8,7],[2,1,15,16,17,9,8],[2,1,15,16,17,30],[6],[17,2,1,15,16],[6]]⟩
def W7:FR:=⟨[],[12,14],0,C,[[1,2],[1,2,10],[4],[14,1,12,13],[1,12,13,14,15],[1,12,13,14,6],[1,12,13,14,21],[4],[14,1,12,13],[4]]⟩
def W8:=dP [[2,1,0],[6]]
def W9:=jE [[3,6,1,4],[10,3,6,1,4],[10,3,6,1,4,14],[8,9],[8,9]]
def Xa:FR:=⟨[10],[24,26],0,C,[[0,2,1],[7,8,0,2,1],[26,7,8,0,2,1,24,25],[7,8,0,2,1,24,25,26,27],[7,8,0,2,1,24,25,26,10,9],[11,7,8,0,2,1,24,25,26,10,9],[11,7,8,0,2,1,24,25,26,10,9,39],[6],[7,8,0,2,1,24,25,26,10,12,9],[7,8,0,2,1,24,25,26,10,12,9,42],[6],[7,8,0,2,1,24,25,26,10,12,9,50],[6],[7,8,0,2,1,24,25,26,10,63],[6],[7,8,0,2,1,24,25,26,10,81],[7,0,2,1,24,25,26,13,8,14,15],[7,0,2,1,24,25,26,13,112],[6],[7,8,0,2,1,24,25,26],[26,7,8,0,2,1,24,25],[6]]⟩
def Xb:=pL [[4,3,2],[4,6,3,2],[4,6,3,2,12],[4,5],[4,8,7],[4,8,7,22],[4,5],[4,5]]
def Xc:FR:=⟨[],[27,29],0,V,[[2,1,0],[9,2],[10,9,2],[10,9,2,23],[6,7,8],[11,9,2],[29,11,9,27,28],[11,9,27,28,29,30],[11,9,27,28,29,13],[11,9,27,28,29],[29,11,9,27,28],[15,14],[6,7,8]]⟩
def Xd:FR:=⟨[6],[11,13],3,V,[[1,2],[1,2,10],[4],[13,1,2,11,12],[1,2,11,12,13,14],[1,2,11,12,13,6,5],[1,2,11,12,13,6,5,18],[4],[1,2,11,12,13,6,39],[4],[7,1,2,11,12,13],[7,1,2,11,12,13,49],[4],[13,1,2,11,12],[4]]⟩
def Xe:FR:=⟨[],[63,65],3,V,[[4,3,2],[4,3,2,12],[6],[4,3,47],[6],[7,4,3],[7,4,3,56],[6],[4,3,61],[6],[65,63,4,3,64],[63,4,3,64,65,66],[63,4,3,64,65,9],[10,63,4,3,64,65],[10,63,4,3,64,65,72],[6],[65,63,4,3,64],[11,4],[11,4,88],[6],[92],[6],[6]]⟩
def Xg:=jE [[0,1],[0,1,10],[4],[5,0,1],[5,0,1,15],[5,0,1],[5,0,1,28],[5,6,0,1],[7,5,6,0,1],[6,0,1,7,5,35],[7,5,6,0,1],[6,0,1,7,5,49],[6,0,1,7,5],[5,6,0,1,7],[5,0],[4],[4]]
def Xh:=jE [[4,3,2],[5]]
def Mp:FR:=⟨[],[11,13],0,C,[[2,1,0],[13,2,1,11,0,12],[2,1,11,0,12,13,14],[2,1,11,0,12,13,8,7],[2,1,11,0,12,13,8,7,21],[6],[2,1,11,0,12,13,9,8],[10,2,1,11,0,12,13],[10,2,1,11,0,12,13,31],[6],[13,2,1,11,0,12],[38],[6],[6]]⟩
def Xj:=dP [[5,1,3],[8,5,7],[8,5,7,16],[6],[6]]
def Xk:=jE [[0,5,4],[0,5,4,10],[6],[0,5,4,25],[6],[0,5,4],[0,5],[0,5,57],[6],[7,0,8,9],[7,0,94],[6],[],[6]]
def Xl:FR:=⟨[3],[],0,V,[[4,0,3],[4,5,0],[4]]⟩
def Xm:=jE [[4,2,1,0,10,3],[4,2,1,0,11,10,3],[4,2,1,0,11,10,12,3],[4,2,1,0,11,10,12,3,25],[],[4,2,1,0,11,10,12,3,32],[],[4,2,0,11,10,1,12,3,39],[4,2,0,11,10,1,12,3],[4,2,0,11,10,3,1,12],[4,2,0,11,10,3,1,12,13,14],[4,2,0,11,10,3,1,12,13,14,56],[4,2,0,11,10,3,1,12,13],[4,2,0,11,10,3,13,1,12],[4,2,0,11,10,3,13,1,12,14],[4,2,0,11,10,3,13,1,12,75],[4,2,0,11,10,3,13,1,12,80],[4,2,0,11,10,3,13,1,12,97],[4,2,0,11,10,3,15],[4,2,1,0,11,10,3],[4,2,0,3,16,1,12,17],[4,2,0,11,3,16,1,12],[4,2,0,11,3,16,1,18,19,12],[4,2,0,11,3,16,1,20,18,19],[4,2,0,11,3,16,1,20,18,19,125],[4,2,0,11,10,3,16,1],[4,2,0,11,10,3,16],[4,2,1,0,11,10,3],[4,1,0,11,10,3,16,2],[4,1,0,11,10,3,16],[4,2,1,0,11,10,3]]
def Xn:=dP [[0],[2],[2]]
def Xp:FR:=⟨[],[8],3,V,[[0,1],[8,0,1,7],[0,1,7,8,9],[5,0,1,7,8],[5,0,1,7,8,16],[4],[8,0,1,7],[4]]⟩
def Xq:=dP [[0],[0,4],[2,3],[0,11],[2,3],[14],[2,3],[2,3]]
def Xr:FR:=⟨[],[4],3,V,[[0],[4],[4,5],[4,5],[2,3],[8,4],[8],[2,3],[2,3]]⟩
def Xs:=dP [[1],[3,1],[3,1,8],[2],[31],[2],[2]]
def Xt:=dP [[0,3],[4]]
def Xu:=dP [[2,1,0,8,3],[2,1,0,9,8,3],[2,1,0,9,8,10,3],[2,1,0,9,8,10,3,23],[],[2,1,0,9,8,10,3,29],[],[2,0,9,8,1,10,3,35],[2,0,9,8,1,10,3],[2,0,9,8,3,1,10],[2,0,9,8,3,1,10,11,12],[2,0,9,8,3,1,10,11,12,50],[2,0,9,8,3,1,10,11],[2,0,9,8,3,11,1,10],[2,0,9,8,3,11,1,10,12],[2,0,9,8,3,11,1,10,68],[2,0,9,8,3,11,1,10,72],[2,0,9,8,3,11,1,10,87],[2,0,9,8,3,13],[2,1,0,9,8,3],[2,0,3,14,1,10,15],[2,0,9,3,14,1,10],[2,0,9,3,14,1,16,17,10],[2,0,9,3,14,1,18,16,17],[2,0,9,3,14,1,18,16,17,113],[2,0,9,8,3,14,1],[2,0,9,8,3,14],[2,1,0,9,8,3],[1,0,9,8,3,14,2],[1,0,9,8,3,14],[2,1,0,9,8,3]]
def Xv:FR:=⟨[2,3,4,5,6],[8,10,27],0,C,[[2,1],[10,2,1,8,9],[2,1,8,9,10,11],[2,1,8,9,10,3,4],[2,1,8,9,10,3,4,21],[2,1,8,9,10,3,23],[2,1,8,9,10,5,3,25],[2,1,8,9,10,6,5,3],[2,1,8,9,10,6,5,3,27],[2,1,8,9,10,6,5,3,27,28],[2,1,8,9,10,6,5],[2,1,8,9,10,6,5,3,35],[2,1,8,9,10,6,5],[2,1,8,9,10,46],[10,2,1,8,9]]⟩
def Xw:=pL [[4,2,1],[4,2,5],[4,2,5,10],[4,5],[4,5,18],[4],[4]]
def Xy:FR:=⟨[],[11],0,V,[[6,1,5,0],[6,1,7,5],[6,1,7,5,11],[6,7],[6,7],[6]]⟩
def Xz:FR:=⟨[3,4,5],[],0,C,[[2,3,1],[2,3,7],[2,4,3,9],[2,5,4,3],[2,5,4,3,12],[25],[38]]⟩
def XA:FR:=⟨[2,3,4],[16,28],0,C,[[2,1],[2,1,10],[3,2,1,12],[4,3,2,1],[4,3,2,5,1],[4,3,2,5,1,16],[4,3,2,5,1],[4,3,2,5,1],[4,3,2,5,1,16,25],[4,3,2,5,1,28],[4,3,2,5,1],[4,3,2,1,37,16],[4,3,2,1,37],[4,3,2,5,1],[4,3,2,5,1],[4,3,2,5,1,50],[4,3,2],[61]]⟩
def XB:FR:=⟨[],[9,45],0,V,[[8,5,4,2,3],[8,5,4,2,9],[8,5,4,2],[8,5,4,2,25],[8,5,4,2],[8,5,4,2],[8,5,4,45],[8,5],[8]]⟩
def XC:FR:=⟨[3,5],[],0,V,[[6,3,5,1],[6,3],[6]]⟩
def XD:FR:=⟨[],[62,64],0,V,[[4,2,3],[4,2,3,21],[4,2,3,37],[4,5],[4,6,2],[4,8,7],[4,5],[4,2,3,9],[4,2,3,9],[4,64,2,3,62,63],[4,2,3,62,63,64,65],[4,2,3,62,63,64,11],[4,13,12,2,3,62,63,64],[4,13,12,2,3,62,63,64,75],[4,5],[4,2,3,62,63,64],[4,64,2,3,62,63],[4,5]]⟩
def XE:FR:=⟨[],[17,19],3,V,[[2,1],[5,2,1],[5,2,1,12],[4],[2,1,16],[4],[19,2,17,18],[2,17,18,19,20],[2,17,18,19,7],[8,2,17,18,19],[8,2,17,18,19,27],[4],[19,2,17,18],[4]]⟩
def XF:=pL [[4,3,2],[4,3,2,14],[4],[4,6,5],[4]]
def XG:FR:=⟨[3,4],[11],0,V,[[6,2,4,3],[6,2,4,7,3],[6,2,4,7,3,11],[6,2,4,7,3,11,12],[6,19],[6],[6],[6,2,7,4,3,11,23],[6],[6,2,7,4,3,11,29],[6,2,7,4,3,11,29],[6,2,7,36],[6],[6],[6,2,7,4,3,51],[6,2,7,4,8],[6,2,7,4,8,59],[6],[6,4,2,76],[6],[6]]⟩
def XH:FR:=⟨[],[15,17],0,V,[[2,3],[2,3,13],[4,5],[2,6,3],[17,2,15,6,16],[2,15,6,16,17,18],[2,15,6,16,17,8],[2,15,6,16,17,9,8,10],[2,15,6,16,17,9,8,33],[9,8,2,15,16,17,37],[4,5],[2,15,6,16,17],[17,2,15,6,16],[4,5]]⟩
def XI:FR:=⟨[],[9,11,15,17],3,V,[[2,1],[2,11,9,10],[2,9,10,11,12],[6,2,9,10,11],[17,6,2,15,9,10,11,16],[6,2,15,9,10,11,16,17,18],[6,2,15,9,10,11,16,17,8,7],[6,2,15,9,10,11,16,17,8,7,22],[4],[6,2,15,9,10,11,16,17,28],[4],[17,6,2,15,9,10,11,16],[2,11,9,10],[4]]⟩
def XJ:FR:=⟨[],[6,8],0,V,[[0],[3,0],[8,3,6,7],[6,7,8,3,9],[6,7,8,5,3],[3,6,7,8],[8,3,6,7],[2]]⟩
def XK:=jE [[0,8,3,1,2],[0,3,1,2,8,14],[0,8,3,1,2],[9,0,3,1,2,8],[0,3,1,2,8,9,34],[9,0,3,1,2,8],[0,3,1,2,8,9]]
def XL:=jE [[3,8,0,1,2],[3,8,0,9,1,2],[3,8,10,0,9],[11,3,8,10,0,9],[3,8,10,0,9,11,21],[11,3,8,10,0,9],[3,8,10,0,9,11],[12,3,8,9,0],[3,8,9,0,12,33],[12,3,8,9,0],[3,8,9,0,12],[3,8,9,0,12]]
def XM:FR:=⟨[9],[],0,C,[[0,1,8],[0,1,8,17],[0,1,8,9],[0,1,8,10,9],[11,0,1,8,10,9],[0,1,8,10,9,11,35],[11,0,1,8,10,9],[0,1,8,10,9,11,12],[0,1,8,10,9,11,12,45],[0,1,8,10,9,11,12],[0,1,8,10,9,11]]⟩
def XN:FR:=⟨[11],[55],0,C,[[3,0,1,2],[3,0,10,1],[11,3,0,10,1],[11,3,0,12,10,1],[11,3,0,13,12,10,1],[11,3,0,14,13,12,10],[11,3,0,14,13,12,10,34],[11,3,0,14,13,12,36],[11,3,12,0,14,13],[11,3,13,12,0,14],[11,3,14,13,12,0],[13,11],[13,55],[8,9],[13,55,57],[8,9],[13,60],[8,9]]⟩
def XO:=jE [[8,0,2],[9,8,0],[0,9,8,15],[0,9,8],[8,0,9],[9,8,0]]
def XP:=jE [[0,3,2,1],[9,0,3,2,1],[9,10,0,3,2,1],[9,0,3,2,1,10,16],[9,10,0,3,2,1],[0,3,2,1,10,9,36],[9,0,3,2,1,10],[9,0,3,2,1,10,41],[8],[9,0,3,2,1,10,45],[8],[9,0,3,2,1,10],[9,0,3,2,1,10,65],[9,0,3,2,1,10,11],[9,0,3,2,1,10,11,69],[9,0,3,2,1,10,11],[9,0,3,2,1,10,11,84],[9,0,3,2,1,10,11],[9,0,3,2,1,10,104],[9,0,3,2,1,10,12],[9,0,3,2,1,10,12,109],[9,0,3,2,1,10,12],[9,0,3,2,1,10,12,124],[9,0,3,2,1,10,12],[8]]
def XQ:=jE [[0,1,4,2,3],[0,1,4,2],[11,12,0,1,4],[12,0,1,4,11,47],[11,12,0,1,4],[11,0,1,4,12,65],[12,11,0,1,4],[11,0,1,4,12,70],[0,1,4,12,11],[11,0,1,4,12],[11,12,0,1,4],[10]]
def XR:=jE [[0,1,4,2,3],[0,1,4,2],[12,13,0,1,4],[13,0,1,4,12,47],[12,13,0,1,4],[0,1,4,12,13,66],[13,0,1,4,12],[13,0,1,4,12,71],[13],[10,11],[0,1,4,13,12],[12,0,1,4,13],[12,13,0,1,4],[13,0,1,4,12,120],[12,13,0,1,4],[0,1,4,12,13,139],[13,0,1,4,12],[13,0,1,4,12,144],[0,1,4,13,12],[12,0,1,4,13],[12,13,0,1,4],[13],[10,11]]
def XS:=dP [[0,2],[0,2,4],[0],[2,0],[2,0,8],[0,2],[0,2],[2]]
def XT:=dP [[0,2],[0,2,4],[0],[2,0],[2,0,8],[0,2],[2,0],[2,0,14],[0,2],[0,2],[2]]
def XU:=dP [[0,1],[0,1,5,6],[0,7,1,5,6],[0,8,7,1,5,6],[9,0,8,7,1,5,6],[0,7,1,5,6,9,8,20],[9,0,8,7,1,5,6],[0,8,7,1,5,6,9],[7,1,0,5,6,8,39],[4],[7,1,0,5,10,6,8],[7,1,0,5,6,10,8,44],[7,1,0,5,6,10,8],[7,1,0,5,6,10,8],[7,1,0,5,6,8,10],[7,10,1,0,5,6,8],[7,10,1,0,5,6,8,77],[4],[4]]
def XV:=dP [[0,6,1,2],[0,1,2,6,12],[0,6,1,2],[7,0,1,2,6],[0,1,2,6,7,30],[7,0,1,2,6],[0,1,2,6,7]]
def XX:=dP [[6,0,1,2],[6,0,7,1,2],[6,8,0,7],[9,6,8,0,7],[6,8,0,7,9,19],[9,6,8,0,7],[6,8,0,7,9],[10,6,7,0],[6,7,0,10,30],[10,6,7,0],[6,7,0,10],[6,7,0,10]]
def XY:FR:=⟨[7],[],3,V,[[0,1,6],[0,1,6,15],[0,1,6,7],[0,1,6,8,7],[9,0,1,6,8,7],[0,1,6,8,7,9,33],[9,0,1,6,8,7],[0,1,6,8,7,9,10],[0,1,6,8,7,9,10,43],[0,1,6,8,7,9,10],[0,1,6,8,7,9]]⟩
def XZ:FR:=⟨[9],[49],3,V,[[0,1,2],[0,8,1],[9,0,8,1],[9,0,10,8,1],[9,0,11,10,8,1],[9,0,12,11,10,8],[9,0,12,11,10,8,32],[9,0,12,11,10,34],[9,10,0,12,11],[9,11,10,0,12],[9,12,11,10,0],[11,9],[11,49],[6,7],[11,49,51],[6,7],[11,54],[6,7]]⟩
def X0:=dP [[6,0,2],[7,6,0],[0,7,6,13],[0,7,6],[6,0,7],[7,6,0]]
def X1:=dP [[0,2,1],[7,0,2,1],[7,8,0,2,1],[7,0,2,1,8,14],[7,8,0,2,1],[0,2,1,8,7,32],[7,0,2,1,8],[7,0,2,1,8,37],[6],[7,0,2,1,8,41],[6],[7,0,2,1,8],[7,0,2,1,8,61],[7,0,2,1,8,9],[7,0,2,1,8,9,65],[7,0,2,1,8,9],[7,0,2,1,8,9,78],[7,0,2,1,8,9],[7,0,2,1,8,98],[7,0,2,1,8,10],[7,0,2,1,8,10,103],[7,0,2,1,8,10],[7,0,2,1,8,10,116],[7,0,2,1,8,10],[6]]
def X2:=dP [[0,1,2,3],[0,1,2],[9,10,0,1],[10,0,1,9,43],[9,10,0,1],[9,0,1,10,59],[10,9,0,1],[9,0,1,10,64],[0,1,10,9],[9,0,1,10],[9,10,0,1],[8]]
def X3:=dP [[0,1,2,3],[0,1,2],[10,11,0,1],[11,0,1,10,43],[10,11,0,1],[0,1,10,11,60],[11,0,1,10],[11,0,1,10,65],[11],[8,9],[0,1,11,10],[10,0,1,11],[10,11,0,1],[11,0,1,10,112],[10,11,0,1],[0,1,10,11,129],[11,0,1,10],[11,0,1,10,134],[0,1,11,10],[10,0,1,11],[10,11,0,1],[11],[8,9]]
def X5:=pL [[4,1,0],[4,1,0,7],[4],[4]]
def X':=jE [[0],[0],[0],[0],[2]]
def Ya:=dP [[0],[0,4],[5,0,4],[0,5,4,12],[5,0,4],[0,4,5],[7,6,4,0],[8,7,6,4],[4,8,7,6,25],[8,7,6,4],[4,8,7,6,30],[6,4,8,7],[7,6,4,8],[2,3]]
def Yb:=dP [[8,3,0,2],[3,0,2,8,9],[3,0,2,8,9,16],[3,0,2,8,9,36],[3,0,2,9,8],[3,0,2,9,8,52],[3,0,2,9],[8,3,0,2]]
def Yd:=jE [[2,1,0],[6]]
def Ye:=jE [[4,0,3,2,1],[4,1,0,3,2],[4,2,1,0],[2],[10]]
def ahH:=jE [[1,2,3,0],[1,2,3,18],[1,2],[8,9],[8,9]]
def q0:=pL []
def frT:=[q0,q0,q0,q3,q4,q5,q6,q7,q8,q9,tE,VD,VJ,VQ,VX,VZ,V2,FE,We,Wl,Wr,Ws,WB,lz,WK,WO,WR,WX,W5,lz,rK,Xf,Xi,Xo,Xx,q0,q0,q0,vz,XW,X4,X6,X7,X8,iX,X9,Yc,Yf,Yg,vA,Yh,vA,vC,lz,Yi,Yj,q0,Yk,Yl,q0,q0,q0,q0,Ym,q0,Yn,Yo,vz,vz,Yp,Mq,Yq,Yr,Ys,Yt,Yu,iX,Yv,Yw,Yx,Yy,Yz,YA,tF,iX,vA,BL,q0,q0,YB,q0,vC,q0,q0,iX,q0,q0,q0,YC,vz,q0,q0,q0,q0,q0,q0,VC,q0,q0,q0,vz,VE,VF,VG,FB,FB,VH,Mi,VI,FC,Mq,VK,VL,VN,VO,BJ,VP,lz,iX,iX,rJ,yy,VS,VT,vA,Mj,VU,Mj,VV,VW,BK,VY,tF,q0,q0,yy,q0,q0,q0,q0,q0,q0,V0,q0,V1,lz,FD,lz,lz,vC,lz,lz,Mk,V3,V4,V5,FD,V6,FC,V7,Mi,V8,V9,V',FD,Wa,Wb,Wc,Ml,Wd,Wf,Wg,Ml,Wh,Wi,rJ,Mm,Mm,Wj,Wk,Wm,Wn,Wo,q0,q0,q0,q0,Wp,Wq,q0,q0,q0,q0,q0,q0,q0,lz,lz,rK,tF,FB,FC,Wt,Wu,Wv,Ww,Wx,Wy,Wz,WA,WC,WD,WE,WG,vC,BM,iX,tF,BM,WH,BJ,FF,Mn,WI,rJ,iX,vA,yy,WJ,BM,WL,WM,tE,tE,q0,q0,q0,q0,q0,WN,yy,iX,q0,q0,q0,q0,q0,WQ,iX,q0,iX,WS,q0,q0,q0,WU,rK,WV,WW,rK,Mn,WY,WZ,W0,W3,W4,FG,Mo,BJ,Mk,BJ,tF,W6,yx,tE,yx,Mo,W7,W8,rK,yx,iX,yx,iX,yx,iX,W9,Xa,Xb,Xc,Xd,Xe,q0,q0,q0,q0,q0,vC,q0,q0,q0,WT,Xg,Xh,Mp,iX,q0,q0,q0,Mp,iX,iX,Xj,Xk,Xl,q0,q0,q0,Xn,yy,rJ,BL,Xp,Xq,Xr,Xs,Xt,Xu,Xv,Xw,Xy,Xz,XA,BL,XB,XC,BM,XD,XE,XF,XG,XH,rK,FF,XI,XJ,vC,vA,q0,tF,q0,q0,q0,q0,q0,q0,q0,Xm,q0,FF,q0,q0,q0,q0,q0,q0,q0,q0,q0,q0,q0,q0,XS,XT,rK,rJ,lz,XU,BK,XV,XX,XY,XZ,X0,X1,rK,X2,X3,vz,FG,X5,FG,BK,BL,q0,q0,q0,q0,q0,q0,q0,q0,q0,q0,q0,q0,tF,q0,q0,q0,q0,q0,q0,q0,XK,XL,XM,XN,XO,XP,XQ,XR,q0,q0,q0,q0,q0,q0,q0,q0,q0,q0,q0,q0,q0,q0,q0,q0,q0,q0,q0,q0,q0,lz,X',q0,q0,rJ,Ya,Yb,Yd,Ye,rJ,rJ,BK,q0,q0,q0,q0,q0,q0,q0,q0,q0,q0,q0,q0,q0,q0,q0,q0,q0,q0,q0,q0,q0,q0,q0,q0,ahH]
def fr:=nt q0 frT
def Ky:aq:=[.bool V,.bool V,.bool V,.bool C,.bool C,.bool C,.bool V,.bool C,.bool C,.bool C,.bool V,.bool V,.bool V,.bool C,.bool V,.bool V]
def Kz:aq:=[.int .i64 0,.int .i64 0,.bool V,.bool V,.bool C,.bool C,.int .i64 2,.int .i64 64,.bool C,.bool C,.bool C,.bool C,.int .i64 2,.int .i64 64,.bool C,.bool C,.bool C,.bool C,.int .i64 2,.int .i64 64,.bool C,.bool C,.bool C,.bool C,.int .i64 1,.int .i64 1,.bool C,.bool C,.bool C,.bool C,.int .i64 1,.int .i64 1,.bool V,.bool V,.bool V,.bool C,.int .i64 1,.int .i64 1,.bool C,.bool C,.bool V,.bool V,.int .i64 1,.int .i64 1,.bool C,.bool V,.bool C,.bool C,.int .i64 2,.int .i64 2,.bool C,.bool C,.bool C,.bool C,.int .i64 1,.int .i64 1,.bool V,.bool V,.bool V,.bool C,.int .i64 1,.int .i64 1,.bool C,.bool C,.bool V,.bool V]
def inL(l:aD)(f:Nat):Bool:=l.any (aw f)
def qz:aD->aD->Bool|[],_=>V|a::s,b::t=>aw a b&&qz s t|_::_,[]=>C
def CY(s:aD):Nat->aD->ah Nat|i,[]=>bif qz s []then J i else Z|i,b::t=>bif qz s (b::t)then J i else CY s (i+1) t
def abF:DV->aq|.ay l _ _=>l|_=>[]
def rD(l:aq)(e n:Nat):DV:=match l with|[]=>.nl|_=>.ay l e n
def oj:DV->Int|.int _ n=>n|_=>0
def uu:DV->Bool|.int .i64 _=>V|_=>C
def lS(l:aq):aq:=((l.map oj).mergeSort λx y=>decide (x<=y)).map (DV.int .i64)
def xJ(l:aq):aq:=(sR (l.map oj)).map (DV.int .i64)
def Cz(e s b:Nat):aq->ah SV|[.nl,.int .i64 (.ofNat n)]=>bif br (n*b) bl&&br n bl then J (bif aw n 0 then .dv .nl .any else .dv (.ay [] e s) (.ex e))else Z|_=>Z
def rP(n:Nat):Bool:=cm n 1000000000
def cf:bR:={
 ao:=λg=>bif aw g 0 then J Ky else bif aw g 1 then J Kz else Z
 iK:=λf args=>bif aw f 330 then(match args with|[.str a,.str b]=>bif cm a.length 4294967281 then J (J (.dv (match CY b 0 a with|some i=>goN i|none=>.int .i64 (-1)) .no))else J Z|_=>J Z)else bif aw f 6 then(match args with|[]=>J (J (.dv (.bool V) .no))|_=>J Z)else bif aw f 388 then J (Cz 3 1 8 args)else bif aw f 402 then J (Cz 59 8 88 args)else bif aw f 464 then J (Cz 394 2 16 args)else bif aw f 275 then J Z else bif aw f 276 then(match args with|[.nl]=>J (J (.dv .nl .no))|[.ay (x::l) 3 1]=>bif(x::l).all uu&&rP (x::l).length then J (J (.dv (rD (xJ (x::l)) 3 1) .no))else J Z|_=>J Z)else bif aw f 399 then(match args with|[.ay l 61 14,.int .i64 (.ofNat 0),.ay [x] 61 14]=>bif rP l.length then J (J (.dv (.ay (x::l) 61 14) .no))else J Z|_=>J Z)else bif aw f 401 then(match args with|[.ay l 61 14,.int .i64 (.ofNat i),.int .i64 (.ofNat j)]=>bif rP l.length&&(cm i j&&br j l.length)then J (J (.dv (.ay (l.take i++l.drop j) 61 14) .no))else J Z|_=>J Z)else bif aw f 130 then(match args with|[.str a,.str b]=>J (J (.dv (.int .i64 (cmpL a b)) .no))|_=>J Z)else bif aw f 140 then J (Cz 90 5 56 args)else Z
 Ay:=λf=>aw f 21||aw f 40||aw f 241
 eQ:=λf=>(fr f).p
 s8:=λf=>(fr f).g
 zt:=λf=>(fr f).c
 qJ:=λf=>aw f 181
 fk:=λf=>(fr f).k
 pU:=λf d z=>bif aw f 275 then(match d,z with|.nl,[]=>J (.nl,.tp [])|.ay (x::l) 3 1,[]=>bif(x::l).all uu&&rP (x::l).length then J (rD (lS (x::l)) 3 1,.tp [])else Z|_,_=>Z)else Z
 live:=λf=>nt [] ([]::(fr f).r)
 keep:=λf=>nt [] (fr f).r}
abbrev CC(n:Nat)(a:List DV)(v:bh):=ev PP cf (.call n a .no .empty)=J v
end Go.VM
namespace Go.VM
open Go Go.AM
variable{α β:Type}{want z:Bool}{x:DV}{rs:List oy}{a s t:Nat}{f:SV->SV}{gs:aD}{P:aG}{e:an}{l:aq}
theorem uP{n:Nat}(h:s<n):cm s n=V:=aT
theorem kK{b:Nat}(h:a≠b):aw a b=C:=by simp_all[Bool.eq_false_iff]
theorem bz{x y:ah α}{f:α->ah β}(h:x=y):x.bind f=y.bind f:=ai
theorem bA{c d:Bool}{a b:α}(h:c=d):cond c a b=cond d a b:=ai
section
variable{P:aG}{cf:bR}{rec:dR}{rd:ah Nat}{O:St}{k:eB->ah bh}
inductive Tg{α:Type}:α->Type|mk(a:α):Tg a
inductive Hd(α:Type)|mk(a:α)(t:Tg a)
def Hd.get{b:Type}:Hd b->b|.mk a _=>a
def QV(P:aG)(c:bR)(r:dR)(d:ah Nat)(b:Hd bF)(k:eB->ah bh):eB->ah bh|.fJ O=>exec P c r d b.get O k|.ext i O=>k (.ext i O)|.rt O=>k (.rt O)
def JQ(d:Nat)(k:eB->ah bh):eB->ah bh|.fJ O=>k (.fJ O)|.ext i O=>bif aw i d then k (.fJ O)else k (.ext i O)|.rt O=>k (.rt O)
def BN(P:aG)(r:List oy):eB->ah bh|.fJ O|.rt O=>(sZ P r O).bind λy=>J (.val (C' y.1) y.2.g)|.ext ..=>Z
theorem ari{a b:bF}:exec P cf rec rd (.seq a b) O k=exec P cf rec rd a O (QV P cf rec rd (.mk b (.mk b)) k):=by rfl
theorem aq8{i:Nat}{b:bF}:exec P cf rec rd (.block i b) O k=exec P cf rec rd b O (JQ i k):=by rfl
theorem aHD{b:bF}{t:Tg b}:QV P cf rec rd (.mk b t) k (.fJ O)=exec P cf rec rd b O k:=(rfl)
theorem aHC{b:Hd bF}{i:Nat}:QV P cf rec rd b k (.ext i O)=k (.ext i O):=(rfl)
theorem aHE{b:Hd bF}:QV P cf rec rd b k (.rt O)=k (.rt O):=(rfl)
theorem alE{i:Nat}:JQ i k (.fJ O)=k (.fJ O):=(rfl)
theorem alF{i:Nat}:JQ i k (.rt O)=k (.rt O):=(rfl)
theorem alC{i:Nat}:JQ i k (.ext i O)=k (.fJ O):=by show cond _ _ _=_;simp_all
theorem alD{i d:Nat}(h:i≠d):JQ d k (.ext i O)=k (.ext i O):=by show cond _ _ _=_;grind[kK]
theorem aGs:BN P rs (.fJ O)=(sZ P rs O).bind λy=>J (.val (C' y.1) y.2.g):=(rfl)
theorem aGt:BN P rs (.rt O)=(sZ P rs O).bind λy=>J (.val (C' y.1) y.2.g):=(rfl)
theorem arL{s:St}:sZ P [] s=J ([],s):=(rfl)
theorem arK{s:St}{r:oy}{l:List oy}:sZ P (r::l) s=(IS P s r).bind λx=>(sZ P l x.2).bind λy=>J (x.1::y.1,y.2):=(rfl)
theorem aGm{s:St}{t:Tmp}:IS P s (.tmp t)=uE s t:=(rfl)
def NY:SV->ah (DV×aM)|.dv d o=>J (d,o)|_=>Z
theorem aGj{s:St}{t:Tmp}:uE s t=(look s.sl t).bind λv=>(NY v).bind λr=>J (r,{s with sl:=put s.sl t (leave v)}):=by
 unfold uE;rcases look _ t with _|v;.rfl
 cases v<;>rfl
theorem bs{a:α}{f:α->ah β}:(J a).bind f=f a:=(rfl)
theorem ctt{a b:α}:cond V a b=a:=(rfl)
theorem ctf{a b:α}:cond C a b=b:=(rfl)
theorem ane{c:Bool}{x y:ah α}{f:α->ah β}:(bif c then x else y).bind f=bif c then x.bind f else y.bind f:=ai
theorem cond_not{c:Bool}{x y:α}:(bif !c then x else y)=bif c then y else x:=aT
theorem arj:exec P cf rec rd .skip O k=k (.fJ O):=(rfl)
theorem arb{i:Nat}:exec P cf rec rd (.exit i) O k=k (.ext i O):=(rfl)
theorem arf:exec P cf rec rd .ret O k=k (.rt O):=(rfl)
def NX(P:aG)(c:bR)(r:dR)(d:ah Nat)(a b:Hd bF)(s:St)(k:eB->ah bh):DV->ah bh|.bool x=>bif x then exec P c r d a.get s k else exec P c r d b.get s k|_=>Z
theorem aq9{c:aK}{a b:bF}:exec P cf rec rd (.cond c a b) O k=(bj cf.ao O c).bind (NX P cf rec rd (.mk a (.mk a)) (.mk b (.mk b)) O k):=by
 show(match bj _ O c with|some (.bool x)=>_|_=>Z)=_;rcases bj _ O c with _|v;.rfl
 cases v<;>rfl
theorem ana{a:bF}{t:Tg a}{b:Hd bF}:NX P cf rec rd (.mk a t) b O k (.bool V)=exec P cf rec rd a O k:=(rfl)
theorem am9{b:bF}{t:Tg b}{a:Hd bF}:NX P cf rec rd a (.mk b t) O k (.bool C)=exec P cf rec rd b O k:=(rfl)
def agW(k:eB->ah bh)(s:St):ah bh:=k (.fJ s)
def qI(P:aG)(c:bR)(r:dR)(g a:aD)(o l:Hd (List aB))(k:eB->ah bh)(s:St):ah bh:=(jN P c r g a C ⟨o.get⟩ l.get 0 [] s).bind (agW k)
inductive rV|ex(rd:Option Nat)(a:Hd bF)(O:St)(k:eB->Option bh)|so(gs cr:List Nat)(os l:Hd (List aB))(k:eB->Option bh)(O:St)(o:Hd aB)|sk(gs cr:List Nat)(os l:Hd (List aB))(k:eB->Option bh)(O:St)(d:Option Tmp)|bd(a:rV)(f:bh->Option bh)
def jO(P:aG)(c:bR)(r:dR):rV->ah bh|.ex rd a O k=>exec P c r rd a.get O k|.so gs cr s l k O o=>(dH P c r gs cr l.get O o.get).bind (qI P c r gs cr s l k)|.sk gs cr s l k O d=>(aH O d (.tp [])).bind (qI P c r gs cr s l k)|.bd a f=>(jO P c r a).bind f
def W(P:aG)(c:bR)(r:dR)(a:rV):ah bh:=jO P c r a
theorem aj5{a:rV}{f:bh->ah bh}:(W P cf rec a).bind f=W P cf rec (.bd a f):=(rfl)
theorem sp{A B:rV}{r:ah bh}(h:z=V->jO P cf rec A=r)(a:z=C->jO P cf rec B=r):(bif z then W P cf rec A else W P cf rec B)=r:=by
 cases z;.exact a rfl
 .exact h rfl
theorem anb{a b:Hd bF}:NX P cf rec rd a b O k (.bool z)=bif z then W P cf rec (.ex rd a O k)else W P cf rec (.ex rd b O k):=(rfl)
theorem I0{c:aD}{p:Array aB}:∀(l:List aB)(i j:Nat)(log:List (Nat×Kx))(O:St),jN P cf rec gs c C p l i log O=jN P cf rec gs c C p l j log O:=by intro l;induction l with|nil=>intro i j log O;rfl|cons o l h=>intro i j log O;unfold jN;congr 1;funext w;grind
def E7(l:aD)(k:eB->ah bh):eB->ah bh|.fJ O=>k (.fJ (mask l O))|o=>k o
theorem aAw{l:aD}:E7 l k (.fJ O)=k (.fJ (mask l O)):=(rfl)
theorem are{i:Nat}{o:List aB}:exec P cf rec rd (.region i ⟨o⟩ C) O k=qI P cf rec (cf.s8 O.fn) (cf.zt O.fn) (.mk o (.mk o)) (.mk o (.mk o)) (E7 (cf.keep O.fn i) k) O:=(rfl)
def kT(r:dR)(b:Hd bF)(s:St)(d:ah Nat):ah bh:=r (.loop b.get s d)
theorem arc{b:bF}:exec P cf rec rd (.loop b) O k=(kT rec (.mk b (.mk b)) (mask (cf.live O.fn (CJ b)) O) rd).bind (fF k):=(rfl)
variable{gs cr:aD}{ops:Array aB}{l:List aB}{j:Nat}{log:List (Nat×Kx)}{d:ah Tmp}{op:Op}{ty:an}{pos:String}{af:Array Edge}{wh:ah (Nat×Bool)}
section
variable{os:Hd (List aB)}{tl:Tg l}{o:aB}{tg:Tg o}
theorem aGO{t:Tg []}:qI P cf rec gs cr os (.mk [] t) k O=k (.fJ O):=(rfl)
theorem aGM{t:Tg (⟨d,op,ty,pos,af,Z⟩::l)}:qI P cf rec gs cr os (.mk (⟨d,op,ty,pos,af,Z⟩::l) t) k O=(dH P cf rec gs cr l O ⟨d,op,ty,pos,af,Z⟩).bind (qI P cf rec gs cr os (.mk l (.mk l)) k):=by
 show((dH P cf _ gs cr l O _).bind _).bind _=_;rcases dH P cf _ gs cr l O _ with _|s;.rfl
 show(jN P cf _ gs cr _ _ l 1 [] _).bind _=_;rw[I0 l 1 0];rfl
def M8(o:Hd (List aB))(s:St)(i:Nat)(w:Bool):ah Bool:=yR ⟨o.get⟩ s ⟨Z,.assign (.tmp 0),0, "",#[],J (i,w)⟩
def OC(P:aG)(c:bR)(r:dR)(g a:aD)(s l:Hd (List aB))(k:eB->ah bh)(t:St)(o:Hd aB)(w:Bool):ah bh:=bif w then(dH P c r g a l.get t o.get).bind (qI P c r g a s l k)else(aH t o.get.dst (.tp [])).bind (qI P c r g a s l k)
theorem aGN{i:Nat}{t:Tg (⟨d,op,ty,pos,af,J (i,want)⟩::l)}:qI P cf rec gs cr os (.mk (⟨d,op,ty,pos,af,J (i,want)⟩::l) t) k O=(M8 os O i want).bind (OC P cf rec gs cr os (.mk l (.mk l)) k O (.mk ⟨d,op,ty,pos,af,J (i,want)⟩ (.mk _))):=by show((M8 os O i _).bind _).bind _=_;cases M8 os O i _ with|none=>rfl|some w=>cases w with
 |true=>
 show((dH P cf _ gs cr l O _).bind _).bind _=(dH P cf _ gs cr l O ⟨d,op,ty,_,af,_⟩).bind _;rcases dH P cf _ gs cr l O _ with _|s;.rfl
 show(jN P cf _ gs cr _ _ l 1 [] _).bind _=_;rw[I0 l 1 0];rfl|false=>
 show((aH O d _).bind _).bind _=(aH O d _).bind _;rcases aH O d _ with _|s;.rfl
 show(jN P cf _ gs cr _ _ l 1 [] _).bind _=_;rw[I0 l 1 0];rfl
theorem atz:OC P cf rec gs cr os (.mk l tl) k O (.mk o tg) V=(dH P cf rec gs cr l O o).bind (qI P cf rec gs cr os (.mk l tl) k):=(rfl)
theorem aty:OC P cf rec gs cr os (.mk l tl) k O (.mk o tg) C=(aH O o.dst (.tp [])).bind (qI P cf rec gs cr os (.mk l tl) k):=(rfl)
theorem atA:OC P cf rec gs cr os (.mk l tl) k O (.mk o tg) z=bif z then W P cf rec (.so gs cr os (.mk l tl) k O (.mk o tg))else W P cf rec (.sk gs cr os (.mk l tl) k O o.dst):=(rfl)
theorem aKQ{r:ah Nat}{a:bF}{t:Tg a}:jO P cf rec (.ex r (.mk a t) O k)=exec P cf rec r a O k:=(rfl)
theorem aKS:jO P cf rec (.so gs cr os (.mk l tl) k O (.mk o tg))=(dH P cf rec gs cr l O o).bind (qI P cf rec gs cr os (.mk l tl) k):=(rfl)
theorem aKR{l:Hd (List aB)}:jO P cf rec (.sk gs cr os l k O d)=(aH O d (.tp [])).bind (qI P cf rec gs cr os l k):=(rfl)
theorem aKP{a:rV}{f:bh->ah bh}:jO P cf rec (.bd a f)=(jO P cf rec a).bind f:=(rfl)
end
def Dr:List aB->Nat->ah Tmp|[],_=>Z|a::_,0=>a.dst|_::l,i+1=>Dr l i
theorem aIp{a:aB}{l:List aB}:Dr (a::l) 0=a.dst:=rfl
theorem aIo{a:aB}{l:List aB}{i:Nat}:Dr (a::l) (i+1)=Dr l i:=rfl
theorem air:∀(l:List aB)(i:Nat),(l[i]?).bind (·.dst)=Dr l i|[],_=>by simp[Dr]|a::_,0=>rfl|a::l,i+1=>by simp only[AJ];exact air l i
def M9(w:Bool):ah SV->ah Bool|some (.dv (.bool b) _)=>J (b==w)|some (.tp [])=>J C|_=>Z
def ZF(s:cT)(w:Bool):ah Tmp->ah Bool|some d=>M9 w (look s d)|none=>J C
theorem aKX{o:List aB}{t:Tg o}{i:Nat}:M8 (.mk o t) O i want=ZF O.sl want (Dr o i):=by unfold M8 yR;simp only[Hd.get,List.getElem?_toArray,air];cases Dr o i with|none=>rfl|some d=>simp only[ZF];unfold M9;rfl
theorem aK0{s:cT}{d:Tmp}:ZF s want (J d)=M9 want (look s d):=rfl
theorem aKY{b:Bool}{o:aM}:M9 want (J (.dv (.bool b) o))=J (b==want):=rfl
theorem aKZ:M9 want (J (.tp []))=J C:=rfl
theorem yl{m n:Nat}{x:α}{t:List (Nat×α)}:look ((m,x)::t) n=if m=n then J x else look t n:=by show cond _ _ _=_;simp_all
theorem azK{n:Nat}:look ([]:List (Nat×α)) n=Z:=rfl
theorem ahC{m n:Nat}{x y:α}{t:List (Nat×α)}:put ((m,y)::t) n x=if m=n then(n,x)::t else(m,y)::put t n x:=by show cond _ _ _=_;simp_all
theorem ax7{d:DV}{o:aM}:pr s (.dv d o)=.dv d o:=rfl
theorem aye{l:List (DV×aM)}:pr s (.tp l)=.tp l:=rfl
theorem ayb{b:Nat}:pr s (.lp a b)=.lp a b:=rfl
theorem ax8{d:DV}:pr s (.ev d)=.ev d:=rfl
theorem ax9{b:Nat}:pr s (.gr a b)=.gr a b:=rfl
theorem aya:pr s (.hd a)=.hd a:=rfl
theorem ax6:pr s .dd=.dd:=rfl
theorem ayd:pr s (.sr t)=if t=s then .dd else .sr t:=by show cond _ _ _=_;simp_all
theorem ayc{i f:Nat}:pr s (.se t i f)=if t=s then .dd else .se t i f:=by show cond _ _ _=_;simp_all
theorem aHQ{v:SV}:aH O Z v=J O:=rfl
section
variable{fn n s:Nat}{sl:cT}{lb:dV}{g:GH}{dd:DV}{o:aM}
theorem aHL(h:s<n):aH ⟨fn,n,sl,lb,g⟩ (J s) (.dv dd o)=J ⟨fn,n,put (ij sl s) s (.dv dd o),lb,g⟩:=by show cond (cm s n&&!C) _ _=_;grind[uP]
theorem aHT{l:List (DV×aM)}(h:s<n):aH ⟨fn,n,sl,lb,g⟩ (J s) (.tp l)=J ⟨fn,n,put (ij sl s) s (.tp l),lb,g⟩:=by show cond (cm s n&&!C) _ _=_;grind[uP]
theorem aHP{b:Nat}(h:s<n):aH ⟨fn,n,sl,lb,g⟩ (J s) (.lp a b)=J ⟨fn,n,put (ij sl s) s (.lp a b),lb,g⟩:=by show cond (cm s n&&!C) _ _=_;grind[uP]
theorem aHM(h:s<n):aH ⟨fn,n,sl,lb,g⟩ (J s) (.ev dd)=J ⟨fn,n,put (ij sl s) s (.ev dd),lb,g⟩:=by show cond (cm s n&&!C) _ _=_;grind[uP]
theorem aHO(h:s<n):aH ⟨fn,n,sl,lb,g⟩ (J s) (.hd a)=J ⟨fn,n,put (ij sl s) s (.hd a),lb,g⟩:=by show cond (cm s n&&!C) _ _=_;grind[uP]
theorem aHN{b:Nat}(h:s<n):aH ⟨fn,n,sl,lb,g⟩ (J s) (.gr a b)=J ⟨fn,n,put (ij sl s) s (.gr a b),lb,g⟩:=by show cond (cm s n&&!C) _ _=_;grind[uP]
theorem aHS(h:s<n)(k:a≠s):aH ⟨fn,n,sl,lb,g⟩ (J s) (.sr a)=J ⟨fn,n,put (ij sl s) s (.sr a),lb,g⟩:=by show cond (cm s n&&!(aw a s)) _ _=_;grind[uP,kK]
theorem aHR{i f:Nat}(h:s<n)(k:a≠s):aH ⟨fn,n,sl,lb,g⟩ (J s) (.se a i f)=J ⟨fn,n,put (ij sl s) s (.se a i f),lb,g⟩:=by show cond (cm s n&&!(aw a s)) _ _=_;grind[uP,kK]
theorem ag2:aQ f ⟨fn,n,sl,lb,g⟩ (.tmp t)=match look sl t with|some v=>⟨fn,n,put sl t (f v),lb,g⟩|none=>⟨fn,n,sl,lb,g⟩:=rfl
theorem aDn{v:aC}:aQ f O (.const v)=O:=rfl
theorem aDo{v:bV}:aQ f O (.func v)=O:=rfl
theorem aDp{v:Nat}:aQ f O (.global v)=O:=rfl
end
section
variable{ao:Nat->ah aq}{fn n:Nat}{sl:cT}{lb:dV}{g:GH}
def BA:ah SV->ah SV|some .dd=>Z|r=>r
theorem aDK:cR ao O (.tmp t)=BA (look O.sl t):=by rfl
theorem aAX{d:DV}{o:aM}:BA (J (.dv d o))=J (.dv d o):=rfl
theorem aA1{b:Nat}:BA (J (.lp a b))=J (.lp a b):=rfl
theorem aAY{d:DV}:BA (J (.ev d))=J (.ev d):=rfl
theorem aA4{d}:BA (J (.tp d))=J (.tp d):=rfl
theorem aA3:BA (J (.sr a))=J (.sr a):=rfl
theorem aA2{b c:Nat}:BA (J (.se a b c))=J (.se a b c):=rfl
theorem aAZ{b:Nat}:BA (J (.gr a b))=J (.gr a b):=rfl
theorem aA0:BA (J (.hd a))=J (.hd a):=rfl
theorem aDD{k:fN}{z:Int}:cR ao O (.const (.int k z))=J (.dv (.int k z) .no):=rfl
theorem aDC{b:Bool}:cR ao O (.const (.bool b))=J (.dv (.bool b) .no):=rfl
theorem aDE:cR ao O (.const (.slice Z 0 0))=J (.dv .nl .any):=rfl
theorem aDI{f:bV}:cR ao O (.func f)=J (.dv (.func f [] []) .no):=rfl
theorem aDJ{i:Nat}:cR ao O (.global i)=(ao i).map λl=>.ev (.agg l):=rfl
theorem aDN{x:aK}:bj ao O x=(cR ao O x).bind Cp:=rfl
theorem aoM{d:DV}{o:aM}:Cp (.dv d o)=J d:=rfl
end
section
variable{x y a b c:aK}{fn n:Nat}{sl:cT}{lb:dV}{g:GH}{t:an}
def vq(s:St)(x:aK)(d:Tmp)(u:iF):SV->ah St|.tp l=>aH (aQ leave s x) (J d) (.tp l)|.dv dd o=>(match u,o,x with|.take,.ex _,_=>(aH s (J d) (.dv dd o)).map λs=>aQ (λ_=>.sr d) s x|.take,_,_=>aH (aQ leave s x) (J d) (.dv dd o)|.len,.ex _,_=>(mQ dd).bind λn=>aH s (J d) (.hd n)|.ref,.ex _,.tmp t=>aH s (J d) (.sr t)|_,.any,_=>aH s (J d) (.dv dd o)|_,_,_=>aH (aQ share s x) (J d) (.dv dd .no))|v=>aH s (J d) v
theorem ajV{d:Tmp}:dH P cf rec gs cr l O ⟨J d,.move x,ty,pos,af,wh⟩=(cR cf.ao O x).bind (vq O x d (Gb cf.fk cr l d)):=by
 show(cR _ O x).bind _=(cR _ O x).bind _;rcases cR _ O x with _|v;.rfl
 cases v<;>rfl
theorem ajz:dH P cf rec gs cr l O ⟨d,.assign x,ty,pos,af,wh⟩=(cR cf.ao O x).bind λv=>aH (aQ leave O x) d v:=(rfl)
theorem ahF:∀{sl:cT}{t:Nat}{v:SV},look sl t=J v->put sl t v=sl
 |[],_,_,h=>by simp[look]at h|(m,y)::l,t,v,h=>by
  rw[yl]at h;rw[ahC];by_cases e:m=t;.subst e;rw[if_pos rfl]at h|-;rw[bt h]
  .rw[if_neg e]at h|-;rw[ahF h]
theorem ag1{t:Nat}{v:SV}(h:look sl t=J v)(k:f v=v):aQ f ⟨fn,n,sl,lb,g⟩ (.tmp t)=⟨fn,n,sl,lb,g⟩:=by grind[ag2,ahF]
theorem aAm{t d:Nat}{u:iF}{a:DV}(h:look sl t=J (.dv a .no)):vq ⟨fn,n,sl,lb,g⟩ (.tmp t) d u (.dv a .no)=aH ⟨fn,n,sl,lb,g⟩ (J d) (.dv a .no):=by have e1:aQ leave _ _=(⟨fn,n,sl,lb,g⟩:St):=ag1 h rfl;have e2:aQ share _ _=(⟨fn,n,sl,lb,g⟩:St):=ag1 h rfl;grind[vq]
def cY(s:St)(l:List aK):St:=l.foldl (aQ share) s
theorem aIb:cY O []=O:=rfl
theorem aIa{l:List aK}:cY O (x::l)=cY (aQ share O x) l:=rfl
theorem ajX:dH P cf rec gs cr l O ⟨d,.pick c a b,ty,pos,af,wh⟩=(bj cf.ao (cY O [c,a,b]) c).bind λ|.bool z=>bif z then(bj cf.ao (cY O [c,a,b]) a).bind λv=>aH (cY O [c,a,b]) d (.dv v .no)else(bj cf.ao (cY O [c,a,b]) b).bind λv=>aH (cY O [c,a,b]) d (.dv v .no)|_=>Z:=by
 show(match bj _ (cY O [c,a,b]) c with|some (.bool z)=>_|_=>Z)=_;rcases bj _ _ c with _|v;.rfl
 cases v<;>rfl
theorem ajA{o:BinOp}{u:an}:dH P cf rec gs cr l O ⟨d,.binOp o t x y u,ty,pos,af,wh⟩=(bj cf.ao O x).bind λa=>(bj cf.ao O y).bind λb=>(gG P o t a b).bind λv=>aH O d (.dv v .no):=(rfl)
theorem aj0{o:UnOp}:dH P cf rec gs cr l O ⟨d,.unOp o t x,ty,pos,af,wh⟩=(bj cf.ao O x).bind λa=>(Ji o a).bind λv=>aH O d (.dv v .no):=(rfl)
theorem ajx{d:Tmp}:dH P cf rec gs cr l O ⟨J d,.alloc e,ty,pos,af,wh⟩=(cI P e).bind λz=>C5 (gs.any (aw d)) O (J d) z.flat:=(rfl)
theorem ajB{d:Tmp}:dH P cf rec gs cr l O ⟨J d,.box e x,ty,pos,af,wh⟩=(bj cf.ao (cY O [x]) x).bind λv=>C5 (gs.any (aw d)) (cY O [x]) (J d) v.flat:=(rfl)
theorem aAK{d:Tmp}{c:aq}(h:d<n):C5 C ⟨fn,n,sl,lb,g⟩ (J d) c=J ⟨fn,n,put (ij (Ee sl d) d) d (.lp d 0),put lb d ⟨c,[]⟩,g⟩:=by show cond _ _ _=_;grind[uP]
theorem aAJ{d:Tmp}{c:aq}(h:d<n):C5 V ⟨fn,n,sl,lb,g⟩ (J d) c=J ⟨fn,n,put (ij sl d) d (.dv (.ptr g.next 0) .no),lb,g.alloc (.box ⟨c,[]⟩)⟩:=by show cond _ _ _=_;grind[uP]
theorem axY{d:DV}{o:aM}:vl s (.dv d o)=.dv d o:=rfl
theorem ax4{l:List (DV×aM)}:vl s (.tp l)=.tp l:=rfl
theorem axZ{d:DV}:vl s (.ev d)=.ev d:=rfl
theorem ax3{a:Nat}:vl s (.sr a)=.sr a:=rfl
theorem ax2{a b e:Nat}:vl s (.se a b e)=.se a b e:=rfl
theorem ax0{a:Nat}:vl s (.hd a)=.hd a:=rfl
theorem axX:vl s .dd=.dd:=rfl
theorem ax1{a o:Nat}:vl s (.lp a o)=if a=s then .dd else .lp a o:=by show cond _ _ _=_;simp_all
def L'(a:Nat->ah aq)(s:St):List (Nat×aK)->ah (List (Nat×DV))|[]=>J []|p::t=>((bj a s p.2).map λv=>(p.1,v)).bind λq=>(L' a s t).bind λr=>J (q::r)
theorem Vy{a:Nat->ah aq}:∀l:List (Nat×aK),cu (λ(p:Nat×aK)=>(bj a O p.2).map λv=>(p.1,v)) l=L' a O l|[]=>rfl|p::t=>by show((bj a O p.2).map λv=>(p.1,v)).bind _=((bj a O p.2).map λv=>(p.1,v)).bind _;congr 1;funext q;show(cu _ t).bind _=_;rw[Vy t]
def opsV(a:Nat->ah aq)(s:St):List aK->ah aq|[]=>J []|p::t=>(bj a s p).bind λq=>(opsV a s t).bind λr=>J (q::r)
theorem Da{a:Nat->ah aq}:∀l:List aK,cu (bj a O) l=opsV a O l|[]=>rfl|p::t=>by show(bj a O p).bind _=(bj a O p).bind _;congr 1;funext q;show(cu _ t).bind _=_;rw[Da t]
def Sa(P:aG)(t:an)(a:St)(d:ah Tmp)(s:List (Nat×DV))(z:DV):ah St:=match P.underlying t with|some (.struct e)=>(cu (λ(f:Field)=>(aZ P f.type).map λn=>(f.offset,n)) e.toList).bind λp=>(A7 (λi=>oM p i) s z.flat).bind λl=>aH a d (.dv (.agg l) .no)|_=>Z
theorem ajD{p:List (Nat×aK)}:dH P cf rec gs cr l O ⟨d,.build t ⟨p⟩,ty,pos,af,wh⟩=(cI P t).bind λz=>(L' cf.ao (cY O (Op.build t ⟨p⟩).operands.toList) p).bind λq=>Sa P t (cY O (Op.build t ⟨p⟩).operands.toList) d q z:=by show(cI P t).bind _=(cI P t).bind _;congr 1;rw[Vy];rfl
def LH(P:aG)(t:an)(u:iF)(a:St)(d:ah Tmp):SV->ah St|.lp s o=>(look a.lb s).bind λb=>(fD P u t b o).bind λr=>aH {a with lb:=put a.lb s r.2} d r.1|.ev v=>(match AM.isAgg P t with|some V=>(aZ P t).bind λn=>bif !v.aV&&aw v.flat.length n then aH a d (.dv v .no)else Z|some C=>bif v.aV then aH a d (.dv v .no)else Z|none=>Z)|.se s i o=>(np a s).bind λx=>(x.1[i]?).bind λv=>(kU P t v.flat o).bind λv=>aH a d (.dv v .no)|.dv (.ptr id o) _=>(match a.g.get id with|some (.box b)=>(match u,ew b o,AM.isAgg P t with|.ref,.ex _,J C=>bif cm o b.cells.length then aH a d (.gr id o)else Z|_,_,_=>(fD P u t b o).bind λr=>aH {a with g:=a.g.set id (.box r.2)} d r.1)|_=>Z)|_=>Z
theorem ajM{d:Tmp}:dH P cf rec gs cr l O ⟨J d,.load t x,ty,pos,af,wh⟩=(cR cf.ao O x).bind (LH P t (Gb cf.fk cr l d) O (J d)):=by show(match cR _ O x with|some (.lp s _)=>_|some (.ev d)=>_|some (.se s i _)=>_|some (.dv (.ptr id _) _)=>_|_=>Z)=_;cases cR _ O x with|none=>rfl|some v=>cases v with|dv v o=>cases v<;>rfl|_=>rfl
def Q5(P:aG)(t:an)(a:St)(d:ah Tmp)(x:aK)(v:DV)(w:aM):SV->ah St|.lp s o=>(look a.lb s).bind λb=>(yK P t b o v w).bind λb=>aH {aQ leave a x with sl:=cK (aQ leave a x).sl,lb:=put a.lb s b} d (.tp [])|.dv (.ptr id o) _=>(match a.g.get id with|some (.box b)=>(yK P t b o v w).bind λb=>aH {aQ leave a x with sl:=cK (aQ leave a x).sl,g:=a.g.set id (.box b)} d (.tp [])|_=>Z)|.se s i o=>(np (aQ share a x) s).bind λy=>(y.1[i]?).bind λel=>(aZ P t).bind λn=>bif aw v.flat.length n&&br (o+n) el.flat.length then(reshape el (km el.flat o v.flat)).bind λe=>aH {aQ share a x with sl:=put (cK (aQ share a x).sl) s (.dv (.ay (iC y.1 i e) y.2.1 y.2.2) (.ex y.2.1))} d (.tp [])else Z|_=>Z
theorem ajZ:dH P cf rec gs cr l O ⟨d,.store t a x,ty,pos,af,wh⟩=(cR cf.ao O x).bind λv=>(NY v).bind λv=>(cR cf.ao O a).bind (Q5 P t O d x v.1 v.2):=by show(cR _ O x).bind _=(cR _ O x).bind _;congr 1;funext v;cases v with
 |dv v o=>show(match cR _ O a with|some (.lp s _)=>_|some (.dv (.ptr id _) _)=>_|some (.se s i _)=>_|_=>Z)=(cR _ O a).bind _;cases cR _ O a with|none=>rfl|some w=>cases w with|dv w o=>cases w<;>rfl|_=>rfl
 |_=>rfl
def U6(t:St)(d:ah Tmp):SV->ah St|.lp s o=>(look t.lb s).bind λ_=>aH t d (.lp s o)|.ev v=>aH t d (.ev v)|.se a b c=>aH t d (.se a b c)|.dv (.ptr id o) _=>aH t d (.dv (.ptr id o) .no)|_=>Z
theorem ajW:dH P cf rec gs cr l O ⟨d,.nilCheck x,ty,pos,af,wh⟩=(cR cf.ao O x).bind (U6 O d):=by show(cR _ O x).bind _=(cR _ O x).bind _;congr 1;funext v;cases v with|dv v o=>cases v<;>rfl|_=>rfl
def acT(P:aG)(a:St)(d:ah Tmp)(t:an)(f:Nat):SV->ah St|.lp b o=>(look a.lb b).bind λ_=>aH a d (.lp b (o+f))|.dv (.ptr id o) _=>aH a d (.dv (.ptr id (o+f)) .no)|.se s i o=>aH a d (.se s i (o+f))|.ev (.agg l)=>(kU P t l f).bind λv=>aH a d (.ev v)|_=>Z
def bN(P:aG)(t:an)(f:Nat):ah (an×Nat):=match P.underlying t with|some (.struct i)=>(i[f]?).bind λd=>(aZ P d.type).bind λn=>(match n with|0=>Z|_=>J (d.type,d.offset))|_=>Z
theorem ajI{f:Nat}:dH P cf rec gs cr l O ⟨d,.fieldAddr t x f,ty,pos,af,wh⟩=(bN P t f).bind λq=>(cR cf.ao O x).bind (acT P O d q.1 q.2):=by
 unfold bN;show(match P.underlying t with
 |some (.struct e)=>(e[f]?).bind λc=>(aZ P c.type).bind λn=>match n,cR cf.ao O x with|fg _,J (.lp b a)=>(look O.lb b).bind λ_=>aH O d (.lp b (a+c.offset))|fg _,J (.dv (.ptr id a) _)=>aH O d (.dv (.ptr id (a+c.offset)) .no)|fg _,J (.se s i a)=>aH O d (.se s i (a+c.offset))|fg _,J (.ev (.agg l))=>(kU P c.type l c.offset).bind λv=>aH O d (.ev v)|_,_=>Z
 |_=>Z)=_;split;.rename_i e h;cases e[f]? with|none=>rfl|some c=>simp only[cQ];cases aZ P c.type with|none=>rfl|some n=>cases n with|zero=>rfl|succ n=>simp only[cQ];cases cR cf.ao O x with|none=>rfl|some v=>cases v with|dv v o=>cases v<;>rfl|ev v=>cases v<;>rfl|_=>rfl
 rfl
theorem ajH{i:Nat}:dH P cf rec gs cr l O ⟨d,.extract (.tmp s) i,ty,pos,af,wh⟩=(match look O.sl s with|some (.tp l)=>(l[i]?).bind λx=>aH {O with sl:=put O.sl s (.tp (l.take i++(match x.2 with|.ex _=>(DV.jk,aM.no)|_=>(x.1,.no))::l.drop (i+1)))} d (.dv x.1 x.2)|_=>Z):=rfl
def Bp(P:aG)(t:St)(d:ah Tmp)(x:aK)(i:Nat):ah TypeDesc->SV->ah St|some (.slice m),.dv (.ay l e z) w=>(aZ P m).bind λn=>bif aw n z&&aw e m then(match w,x with|.ex _,.tmp s=>bif cm i l.length then aH t d (.se s i 0)else Z|_,_=>(l[i]?).bind λv=>aH t d (.ev v))else Z|some (.slice m),.dv (.cV id o len e z) _=>(aZ P m).bind λn=>bif aw n z&&aw e m&&cm i len then aH t d (.dv (.ptr id (o+i*z)) .no)else Z|some (.slice m),.sr s=>(np t s).bind λy=>(aZ P m).bind λn=>bif aw n y.2.2&&(aw y.2.1 m&&cm i y.1.length)then aH t d (.se s i 0)else Z|some (.array len m),.ev (.agg l)=>(aZ P m).bind λn=>bif cm i len then(kU P m l (i*n)).bind λv=>aH t d (.ev v)else Z|some (.array len m),.lp s o=>(aZ P m).bind λn=>bif cm i len then(look t.lb s).bind λ_=>aH t d (.lp s (o+i*n))else Z|_,_=>Z
def Fb:DV->ah Nat|.int _ (.ofNat i)=>J i|_=>Z
theorem ajJ{i:aK}:dH P cf rec gs cr l O ⟨d,.indexAddr t x i,ty,pos,af,wh⟩=(bj cf.ao O i).bind λv=>(Fb v).bind λi=>(cR cf.ao O x).bind (Bp P O d x i (P.underlying t)):=by show(match bj _ O i with|some (.int _ (.ofNat i))=>(match P.underlying t,cR _ O x with|some (.slice m),J (.dv (.ay l e a) b)=>(aZ P _).bind _|some (.slice m),J (.dv (.cV id f len e a) _)=>(aZ P _).bind _|some (.slice m),J (.sr s)=>(np O s).bind _|some (.array len m),J (.ev (.agg l))=>(aZ P _).bind _|some (.array len m),J (.lp s f)=>(aZ P _).bind _|_,_=>Z)|_=>Z)=_;cases bj _ O i with|none=>rfl|some v=>cases v with
 | int k z => rcases z with i|i;.show _=(cR _ O x).bind _;cases h:P.underlying t with|none=>cases cR _ O x<;>rfl|some u=>cases cR _ O x with|none=>grind|some w=>cases u with
              |slice e=>cases w with|dv w o=>cases w<;>rfl|_=>rfl
              |array n e=>cases w with|dv w o=>rfl|ev w=>cases w<;>rfl|_=>rfl
              |_=>rfl
              rfl|_=>rfl
def PR(t:St):ah TypeDesc->SV->ah Nat|some (.array n _),.dv _ _=>J n|some .string,.dv (.str s) _=>J s.length|some (.slice _),.dv d _=>mQ d|some (.slice _),.hd n=>J n|some (.slice _),.sr s=>(np t s).map λy=>y.1.length|some (.slice _),.gr id o=>(Ea t id o).bind mQ|_,_=>Z
theorem ajL{a:List an}:dH P cf rec gs cr l O ⟨d,.call ⟨.builtin .len,⟨[x]⟩,⟨t::a⟩⟩,ty,pos,af,wh⟩=(cR cf.ao O x).bind λv=>(PR O (P.underlying t) v).bind λn=>aH O d (.dv (goN n) .no):=by show(cR _ O x).bind _=(cR _ O x).bind _;congr 1;funext v;show(match P.underlying t,v with|some (.array n _),.dv _ _=>aH O d _|some .string,.dv (.str s) _=>aH O d _|some (.slice _),.dv v _=>(mQ v).bind λn=>aH O d _|some (.slice _),.hd n=>aH O d _|some (.slice _),.sr s=>(np O s).bind λy=>aH O d _|some (.slice _),.gr id o=>(Ea O id _).bind λv=>(mQ v).bind λn=>aH O d _|_,_=>Z)=_;grind[PR,np]
def R9(P:aG)(g:aD)(t:St)(d:ah Tmp)(a:Nat)(s:List (Nat×DV))(e n:Nat)(z:DV):ah St:=bif aw n 0||!(br (a*n) 16777216)then Z else bif aw z.flat.length n then(nL (λ(l:aq)(p:Nat×DV)=>bif cm p.1 l.length&&(aw p.2.flat.length n&&(p.2.aV==z.aV))then J (iC l p.1 p.2)else Z) s (lW a z)).bind λl=>aH t d (.dv (.ay l e n) (bif aw a 0&&CA g d then .full e else .ex e))else Z
def FU:ah TypeDesc->ah an|some (.slice e)=>J e|_=>Z
theorem ajC{a:Nat}{s:List (Nat×aK)}:dH P cf rec gs cr l O ⟨d,.buildSlice t a ⟨s⟩,ty,pos,af,wh⟩=(FU (P.underlying t)).bind λm=>(aZ P m).bind λn=>(L' cf.ao (cY O (Op.buildSlice t a ⟨s⟩).operands.toList) s).bind λq=>(cI P m).bind λz=>R9 P gs (cY O (Op.buildSlice t a ⟨s⟩).operands.toList) d a q m n z:=by show(match P.underlying t with|some (.slice m)=>(aZ P _).bind λn=>bif aw n 0||!(br _ _)then Z else(cu (λ(p:Nat×aK)=>(bj _ (cY O (Op.buildSlice t _ _).operands.toList) _).map _) s).bind λb=>(cI P _).bind λz=>bif aw _ n then(nL _ _ _).bind λl=>aH (cY O (Op.buildSlice t _ _).operands.toList) d _ else Z|_=>Z)=_;cases P.underlying t with|none=>rfl|some u=>cases u with|slice e=>show(aZ P e).bind _=(aZ P e).bind _;congr 1;funext n;rw[Vy];unfold R9;cases(aw n 0||!(br _ _))<;>simp_all|_=>rfl
def aaa(a:aD)(t:St)(d:ah Tmp)(x:aK)(e s b:Nat)(z v:DV)(w:DV×aM):ah St:=bif aw z.flat.length s then(wR s v).bind λn=>bif n.all (λy=>aw y.flat.length s)then bif qH a d w.1 w.2 n then(fB e s b w.1 w.2 n).bind λ_=>aH {aQ leave t x with sl:=cK (aQ leave t x).sl,g:=t.g.alloc (.box ⟨n.flatMap DV.flat,[((n.flatMap DV.flat).length,.full e)]⟩)} d (.dv (.cV t.g.next 0 n.length e s) .no)else(fB e s b w.1 w.2 n).bind λr=>bif d.isSome then aH {aQ leave t x with sl:=cK (aQ leave t x).sl} d (.dv r.1 r.2)else Z else Z else Z
def NF:ah TypeDesc->ah Unit|some (.slice _)|some .string=>J ()|_=>Z
theorem aGE{d:ah Tmp}{x:DV}{l:aq}:qH gs d x .any l=C:=by unfold qH;split<;>simp_all
theorem aGI{d:ah Tmp}{x:DV}{l:aq}:qH gs d x (.ty e) l=C:=by unfold qH;split<;>simp_all
theorem aGF{d:ah Tmp}{x:DV}{l:aq}:qH gs d x (.ex e) l=C:=by unfold qH;split<;>simp_all
theorem aGG{d:ah Tmp}{x:DV}{o:aM}{l:aq}:qH [] d x o l=C:=by unfold qH;split<;>first|rfl|(cases d<;>rfl)
theorem azo{n e k:Nat}{l:aq}:wR n (.ay l e k)=J l:=rfl
theorem azp{n:Nat}:wR n .nl=J []:=rfl
def ey(P:aG)(e:an):ah (Nat×Nat):=(P.info? e).map λi=>(i.size,i.bytes)
theorem ajy{u:an}:dH P cf rec gs cr l O ⟨d,.call ⟨.builtin .append,⟨[x,y]⟩,⟨[t,u]⟩⟩,ty,pos,af,wh⟩=(FU (P.underlying t)).bind λm=>(NF (P.underlying u)).bind λ_=>(ey P m).bind λi=>(cI P m).bind λz=>(cR cf.ao O x).bind λw=>(NY w).bind λw=>(bj cf.ao O y).bind λv=>aaa gs O d x m i.1 i.2 z v w:=by show(match P.underlying t,P.underlying u with|some (.slice m),J (.slice _)|some (.slice m),J .string=>(match P.info? _,cI P _,cR _ O x,bj _ O y with|some i,J z,J (.dv v f),J w=>bif aw _ _ then(wR _ w).bind _ else Z|_,_,_,_=>Z)|_,_=>Z)=_;cases P.underlying t with|none=>rfl|some a=>cases a with
 |slice e=>cases P.underlying u with|none=>rfl|some b=>cases b with
  |slice c=>simp only[FU,NF,cQ,ey];cases P.info? e with|none=>rfl|some i=>cases cI P e with|none=>rfl|some z=>cases cR _ O x with|none=>rfl|some w=>cases w with|dv w o=>cases bj _ O y<;>rfl|_=>rfl
  |string=>simp only[FU,NF,cQ,ey];cases P.info? e with|none=>rfl|some i=>cases cI P e with|none=>rfl|some z=>cases cR _ O x with|none=>rfl|some w=>cases w with|dv w o=>cases bj _ O y<;>rfl|_=>rfl
  |_=>rfl
 |_=>cases P.underlying u<;>rfl
theorem amd{f:bV}{o:Op}{a:List aK}(h:cf.fk f=0):qh cf rec O o (.func f) a=(opsV cf.ao (cY O (handsOn o)) a).bind λar=>kb cf rec f ar .no (cY O (handsOn o)).g λv g=>J ({cY O (handsOn o)with g:=g},v):=by show(bif aw _ 1 then _ else bif aw _ 2 then _ else bif aw _ 3 then _ else _)=_;rw[h];show(cu _ _).bind _=_;rw[Da];congr 1;funext ar;rw[jQ];rfl
def GS(a:Nat->ah aq)(s:St):List aK->ah aq|[]=>J []|p::t=>(zp a s p).bind λq=>(GS a s t).bind λr=>J (q::r)
theorem RW{a:Nat->ah aq}:∀l:List aK,cu (zp a O) l=GS a O l|[]=>rfl|p::t=>by show(zp a O p).bind _=(zp a O p).bind _;congr 1;funext q;show(cu _ t).bind _=_;rw[RW t]
theorem amg{f:bV}{o:Op}{a:List aK}(h:cf.fk f=3)(b:cf.eQ f=V):qh cf rec O o (.func f) a=(GS cf.ao O a).bind λar=>kb cf rec f ar .no O.g λv _=>bif v.plain then J (O,v)else Z:=by show(bif aw _ 1 then _ else bif aw _ 2 then _ else bif aw _ 3 then _ else _)=_;rw[h];show(bif cf.eQ f then _ else Z)=_;grind[RW]
theorem ajE{x:aK}{a:List aK}{t:Array an}:dH P cf rec gs cr l O ⟨d,.call ⟨.value x,⟨a⟩,t⟩,ty,pos,af,wh⟩=(qh cf rec O (.call ⟨.value x,⟨a⟩,t⟩) x a).bind λr=>aH {r.1 with sl:=cK r.1.sl} d r.2:=(rfl)
theorem axO{d:DV}{o:aM}:pq (.dv d o)=.dv d o:=rfl
theorem axV{d}:pq (.tp d)=.tp d:=rfl
theorem axS{a b:Nat}:pq (.lp a b)=.lp a b:=rfl
theorem axP{d:DV}:pq (.ev d)=.ev d:=rfl
theorem axU{a:Nat}:pq (.sr a)=.sr a:=rfl
theorem axT{a b e:Nat}:pq (.se a b e)=.se a b e:=rfl
theorem axR{a:Nat}:pq (.hd a)=.hd a:=rfl
theorem axN:pq .dd=.dd:=rfl
theorem axQ{a b:Nat}:pq (.gr a b)=.dd:=rfl
theorem aa0{f:bV}{a:aq}{o:aM}{g:GH}{k:SV->GH->ah α}(h:cf.eQ f=V)(b:cA a=V):kb cf rec f a o g k=(rec (.call f a o .empty)).bind λ|.val v _=>bif v.pure then k (qJ (cf.qJ f&&o.yh) v) g else Z|_=>Z:=by grind[kb]
theorem aP{c:bR}{f n:Nat}{b:Func}{j:bF}{a:aq}{w:aM}{g:GH}{r:bh}(l:P.funcs[f]?=J b)(h:exec P c (ev P c) Z j ⟨f,n,tX 0 w a,[],g⟩ (BN P rs)=J r)(k:b.body=J j:=by rfl)(m:b.results=⟨rs⟩:=by rfl)(t:b.ntmps=n:=by rfl)(p:c.iK f a=Z:=by rfl)(d:(yp (rs.map vF)&&br a.length n&&!c.Ay f)=V:=by rfl):ev P c (.call f a w g)=J r:=by
 apply Kh;subst t;rw[gD,gD,Bool.not_eq_true']at d;obtain⟨d,u⟩:=d;unfold yQ;simp only[p,l,cQ,k,d.2,u,aR,bS];refine Eq.trans ?_ h;have e:∀O,xQ P b O=(sZ P rs O).bind λy=>J (.val (C' y.1) y.2.g):=by intro O;unfold xQ;rw[m];rw[d.1];cases sZ P rs O<;>rfl
 congr 1;funext o;cases o with|fJ O=>exact e O|rt O=>exact e O|ext i O=>rfl
end
end
end Go.VM
namespace Go.VM
open Go Go.AM
variable{m:Nat}{l:cT}
attribute[go_sem↓]aAw aKQ aKS aKR aKP aKX aIp aIo aj5 ari are arf arj arb aq9 aq8 aHD aHE aHC alE alF alC alD aGt aGs aGM aGN aGO ajV ajz ajX ajA aj0 ajx ajB ajD ajM ajZ ajW ajI ajH ajJ ajL ajC ajy ajE bs ane cond_not
attribute[go_sem↓high]ana am9 atz aty
attribute[go_sem↓low]anb atA
attribute[go_sem]Nat.reduceLT Nat.reduceEqDiff
theorem azI{s:Nat}:look (ij l s) m=(look l m).map (pr s):=qB l (pr s) m
theorem azH{s:Nat}:look (Ee l s) m=(look l m).map (vl s):=qB l (vl s) m
theorem azF:look (cK l) m=(look l m).map pq:=qB l pq m
theorem aFp{n:Nat}{x y:GO}{t:List (Nat×GO)}:put ((m,y)::t) n x=if m=n then(n,x)::t else(m,y)::put t n x:=ahC
theorem aFq{n:Nat}{x:GO}:put [] n x=[(n,x)]:=rfl
attribute[go_sem]lN azI azH azF aFp aFq gF qV aDC aDD aDE aDI aDJ aDK aAX aA1 aAY aA4 aA3 aA2 aAZ aA0 aDN aoM ag2 aDn aDo aDp tX aHL aHT aHP aHM aHS aHR aHN aHO aHQ ax7 aye ayb ax8 ayd ayc ax9 aya ax6 yl azK aAm aIb aIa leave share n7 aK0 aKY aKZ arK arL aGm aGj NY C' aAK aAJ axY ax4 axZ ax3 ax2 ax0 axX ax1 axO axV axS axP axU axT axR axN axQ if_true if_false reduceIte beq_true beq_false
end Go.VM
namespace Go.VM
open Go Go.AM
variable{α:Type}{g:GH}{ops:List aB}{a e f I:Nat}{v:SV}{P:aG}{x:aK}{ow:aM}{t:an}{l m:aq}{fk:bV->Nat}{R r:bh}{lb:dV}{k:fN}
theorem akk:AM.isAgg PP 69=J V/\AM.isAgg PP 63=J V/\AM.isAgg PP 67=J V/\AM.isAgg PP 241=J V/\AM.isAgg PP 79=J V/\AM.isAgg PP 61=J V/\AM.isAgg PP 59=J V/\AM.isAgg PP 229=J V/\AM.isAgg PP 281=J V/\AM.isAgg PP 43=J V/\AM.isAgg PP 394=J V/\AM.isAgg PP 76=J V/\AM.isAgg PP 81=J V/\AM.isAgg PP 212=J V/\AM.isAgg PP 316=J V/\AM.isAgg PP 307=J V/\AM.isAgg PP 333=J V/\AM.isAgg PP 308=J V/\AM.isAgg PP 323=J V/\AM.isAgg PP 22=J C/\AM.isAgg PP 3=J C/\AM.isAgg PP 64=J C/\AM.isAgg PP 65=J C/\AM.isAgg PP 437=J C/\AM.isAgg PP 26=J C/\AM.isAgg PP 9=J C/\AM.isAgg PP 55=J C/\AM.isAgg PP 57=J C/\AM.isAgg PP 56=J C/\AM.isAgg PP 225=J C/\AM.isAgg PP 239=J C/\AM.isAgg PP 31=J C/\AM.isAgg PP 77=J C/\AM.isAgg PP 4=J C/\AM.isAgg PP 110=J C/\AM.isAgg PP 210=J C/\AM.isAgg PP 5=J C/\AM.isAgg PP 546=J C/\AM.isAgg PP 547=J C/\AM.isAgg PP 312=J C/\AM.isAgg PP 380=J C/\AM.isAgg PP 387=J C:=by and_intros<;>kernel_rfl
theorem asy:bN PP 67 3=J (65,3)/\bN PP 69 0=J (22,0)/\bN PP 69 1=J (63,1)/\bN PP 63 3=J (61,3)/\bN PP 69 2=J (67,19)/\bN PP 67 2=J (64,2)/\bN PP 229 0=J (225,0)/\bN PP 241 4=J (59,4)/\bN PP 241 7=J (57,14)/\bN PP 241 5=J (26,12)/\bN PP 241 6=J (26,13)/\bN PP 241 9=J (26,16)/\bN PP 241 8=J (239,15)/\bN PP 79 1=J (77,1)/\bN PP 79 0=J (9,0)/\bN PP 63 1=J (55,1)/\bN PP 63 2=J (26,2)/\bN PP 63 4=J (57,17)/\bN PP 63 0=J (9,0)/\bN PP 61 6=J (59,6)/\bN PP 61 0=J (3,0)/\bN PP 61 1=J (56,1)/\bN PP 281 3=J (59,3)/\bN PP 67 0=J (3,0)/\bN PP 67 1=J (3,1)/\bN PP 241 0=J (3,0)/\bN PP 241 1=J (3,1)/\bN PP 59 1=J (57,1)/\bN PP 281 0=J (3,0)/\bN PP 281 1=J (3,1)/\bN PP 281 2=J (3,2)/\bN PP 241 2=J (3,2)/\bN PP 241 3=J (3,3)/\bN PP 212 0=J (210,0)/\bN PP 61 2=J (3,2)/\bN PP 61 3=J (3,3)/\bN PP 81 1=J (3,1)/\bN PP 76 1=J (3,1)/\bN PP 394 0=J (3,0)/\bN PP 394 1=J (3,1)/\bN PP 76 0=J (9,0)/\bN PP 59 0=J (3,0)/\bN PP 59 2=J (3,2)/\bN PP 59 3=J (3,3)/\bN PP 59 4=J (3,4)/\bN PP 59 5=J (43,5)/\bN PP 81 0=J (9,0)/\bN PP 61 4=J (3,4)/\bN PP 333 2=J (4,2)/\bN PP 333 4=J (4,4)/\bN PP 308 1=J (4,1)/\bN PP 307 0=J (26,0)/\bN PP 307 1=J (26,1)/\bN PP 307 2=J (3,2)/\bN PP 308 0=J (4,0)/\bN PP 323 0=J (4,0)/\bN PP 323 1=J (61,1)/\bN PP 61 5=J (3,5)/\bN PP 333 0=J (3,0)/\bN PP 333 1=J (3,1)/\bN PP 333 5=J (4,5)/\bN PP 333 3=J (4,3)/\bN PP 43 0=J (3,0)/\bN PP 43 2=J (9,2):=by and_intros<;>kernel_rfl
theorem asz:bN PP 43 1=J (3,1):=by and_intros<;>kernel_rfl
theorem aJT:aZ PP 69=J 23/\aZ PP 63=J 18/\aZ PP 67=J 4/\aZ PP 64=J 1/\aZ PP 65=J 1/\aZ PP 241=J 17/\aZ PP 437=J 1/\aZ PP 26=J 1/\aZ PP 79=J 2/\aZ PP 9=J 1/\aZ PP 57=J 1/\aZ PP 56=J 1/\aZ PP 59=J 8/\aZ PP 229=J 1/\aZ PP 225=J 1/\aZ PP 239=J 1/\aZ PP 43=J 3/\aZ PP 394=J 2/\aZ PP 31=J 1/\aZ PP 77=J 1/\aZ PP 76=J 2/\aZ PP 81=J 2/\aZ PP 4=J 1/\aZ PP 212=J 1/\aZ PP 5=J 1/\aZ PP 547=J 1/\aZ PP 316=J 2/\aZ PP 307=J 3/\aZ PP 333=J 6/\aZ PP 380=J 1/\aZ PP 308=J 2/\aZ PP 323=J 15:=by and_intros<;>kernel_rfl
theorem aLl:cI PP 67=J (.agg [.int .i64 0,.int .i64 0,.nl,.nl])/\cI PP 3=J (.int .i64 0)/\cI PP 65=J (.nl)/\cI PP 241=J (.agg [.int .i64 0,.int .i64 0,.int .i64 0,.int .i64 0,.int .i64 0,.nl,.int .i64 0,.int .i64 0,.int .i64 0,.int .i64 0,.int .i64 0,.str [],.nl,.nl,.nl,.nl,.nl])/\cI PP 437=J (.nl)/\cI PP 26=J (.nl)/\cI PP 79=J (.agg [.str [],.nl])/\cI PP 61=J (.agg [.int .i64 0,.nl,.int .i64 0,.int .i64 0,.int .i64 0,.int .i64 0,.int .i64 0,.nl,.int .i64 0,.int .i64 0,.int .i64 0,.int .i64 0,.int .i64 0,.str []])/\cI PP 57=J (.nl)/\cI PP 56=J (.nl)/\cI PP 59=J (.agg [.int .i64 0,.nl,.int .i64 0,.int .i64 0,.int .i64 0,.int .i64 0,.int .i64 0,.str []])/\cI PP 229=J (.agg [.nl])/\cI PP 281=J (.agg [.int .i64 0,.int .i64 0,.int .i64 0,.int .i64 0,.nl,.int .i64 0,.int .i64 0,.int .i64 0,.int .i64 0,.int .i64 0,.str []])/\cI PP 239=J (.nl)/\cI PP 43=J (.agg [.int .i64 0,.int .i64 0,.str []])/\cI PP 394=J (.agg [.int .i64 0,.int .i64 0])/\cI PP 31=J (.int .i64 0)/\cI PP 76=J (.agg [.str [],.int .i64 0])/\cI PP 81=J (.agg [.str [],.int .i64 0])/\cI PP 4=J (.bool C)/\cI PP 212=J (.agg [.nilFunc])/\cI PP 547=J (.nilFunc)/\cI PP 266=J (.agg [.nl,.nl,.int .i64 0])/\cI PP 316=J (.agg [.nl,.nl])/\cI PP 307=J (.agg [.nl,.nl,.int .i64 0])/\cI PP 333=J (.agg [.int .i64 0,.int .i64 0,.bool C,.bool C,.bool C,.bool C])/\cI PP 380=J (.nilFunc)/\cI PP 323=J (.agg [.bool C,.int .i64 0,.nl,.int .i64 0,.int .i64 0,.int .i64 0,.int .i64 0,.int .i64 0,.nl,.int .i64 0,.int .i64 0,.int .i64 0,.int .i64 0,.int .i64 0,.str []]):=by and_intros<;>kernel_rfl
theorem awA:ey PP 241=J (17,240)/\ey PP 26=J (1,24)/\ey PP 229=J (1,24)/\ey PP 281=J (11,112)/\ey PP 212=J (1,8):=by and_intros<;>kernel_rfl
theorem sz3:aZ PP 3=J 1:=aN
theorem ia3:ey PP 3=J (1,8):=aN
theorem xc:aZ PP 61=J 14:=aN
theorem Ux:ey PP 61=J (14,152):=aN
theorem ae3:ey PP 59=J (8,88):=aN
theorem aiN:aZ PP 281=J 11:=aN
theorem ae1:ey PP 394=J (2,16):=aN
attribute[go_sem]akk asy asz aJT aLl awA sz3 ia3 xc Ux ae3 aiN ae1
open Go.Proofs.Tryz in attribute[go_sem]underlying69 underlying63 underlying67 underlying241 underlying79 underlying61 underlying59 underlying229 underlying281 underlying43 underlying394 underlying76 underlying81 underlying212 underlying266 underlying316 underlying307 underlying334 underlying333 underlying309 underlying308 underlying323 underlying22 underlying3 underlying64 underlying65 underlying437 underlying26 underlying9 underlying55 underlying57 underlying56 underlying225 underlying239 underlying31 underlying77 underlying4 underlying110 underlying210 underlying260 underlying325 underlying403 underlying422 underlying469 underlying169 underlying5 underlying130 underlying261 underlying390 underlying402 underlying314 underlying546 underlying547 underlying103 underlying264 underlying312 underlying313 underlying380 underlying326 underlying176 underlying138 underlying328 underlying489 underlying131 underlying186 underlying557 underlying561 underlying387 underlying508 underlying568
set_option maxRecDepth 100000
theorem asI:fr 3=q3/\fr 4=q4/\fr 5=q5/\fr 6=q6/\fr 7=q7/\fr 8=q8/\fr 9=q9/\fr 10=tE/\fr 11=VD/\fr 12=VJ/\fr 13=VQ/\fr 14=VX/\fr 15=VZ/\fr 16=V2/\fr 17=FE/\fr 18=We/\fr 19=Wl/\fr 20=Wr/\fr 21=Ws/\fr 22=WB/\fr 23=lz/\fr 24=WK/\fr 25=WO/\fr 26=WR/\fr 27=WX/\fr 28=W5/\fr 29=lz/\fr 30=rK/\fr 31=Xf/\fr 32=Xi/\fr 33=Xo/\fr 34=Xx/\fr 38=vz/\fr 39=XW/\fr 40=X4/\fr 41=X6/\fr 42=X7/\fr 43=X8/\fr 44=iX/\fr 45=X9/\fr 46=Yc/\fr 47=Yf/\fr 48=Yg/\fr 49=vA/\fr 50=Yh/\fr 51=vA/\fr 52=vC/\fr 53=lz/\fr 54=Yi/\fr 55=Yj/\fr 57=Yk/\fr 58=Yl/\fr 63=Ym/\fr 65=Yn/\fr 66=Yo/\fr 67=vz/\fr 68=vz/\fr 69=Yp/\fr 70=Mq/\fr 71=Yq:=by and_intros<;>kernel_rfl
theorem asJ:fr 72=Yr/\fr 73=Ys/\fr 74=Yt/\fr 75=Yu/\fr 76=iX/\fr 77=Yv/\fr 78=Yw/\fr 79=Yx/\fr 80=Yy/\fr 81=Yz/\fr 82=YA/\fr 83=tF/\fr 84=iX/\fr 85=vA/\fr 86=BL/\fr 89=YB/\fr 91=vC/\fr 94=iX/\fr 98=YC/\fr 99=vz/\fr 106=VC/\fr 110=vz/\fr 111=VE/\fr 112=VF/\fr 113=VG/\fr 114=FB/\fr 115=FB/\fr 116=VH/\fr 117=Mi/\fr 118=VI/\fr 119=FC/\fr 120=Mq/\fr 121=VK/\fr 122=VL/\fr 123=VN/\fr 124=VO/\fr 125=BJ/\fr 126=VP/\fr 127=lz/\fr 128=iX/\fr 129=iX/\fr 130=rJ/\fr 131=yy/\fr 132=VS/\fr 133=VT/\fr 134=vA/\fr 135=Mj/\fr 136=VU/\fr 137=Mj/\fr 138=VV/\fr 139=VW/\fr 140=BK/\fr 141=VY/\fr 142=tF/\fr 145=yy/\fr 152=V0/\fr 154=V1/\fr 155=lz/\fr 156=FD/\fr 157=lz:=by and_intros<;>kernel_rfl
theorem asK:fr 158=lz/\fr 159=vC/\fr 160=lz/\fr 161=lz/\fr 162=Mk/\fr 163=V3/\fr 164=V4/\fr 165=V5/\fr 166=FD/\fr 167=V6/\fr 168=FC/\fr 169=V7/\fr 170=Mi/\fr 171=V8/\fr 172=V9/\fr 173=V'/\fr 174=FD/\fr 175=Wa/\fr 176=Wb/\fr 177=Wc/\fr 178=Ml/\fr 179=Wd/\fr 180=Wf/\fr 181=Wg/\fr 182=Ml/\fr 183=Wh/\fr 184=Wi/\fr 185=rJ/\fr 186=Mm/\fr 187=Mm/\fr 188=Wj/\fr 189=Wk/\fr 190=Wm/\fr 191=Wn/\fr 192=Wo/\fr 197=Wp/\fr 198=Wq/\fr 206=lz/\fr 207=lz/\fr 208=rK/\fr 209=tF/\fr 210=FB/\fr 211=FC/\fr 212=Wt/\fr 213=Wu/\fr 214=Wv/\fr 215=Ww/\fr 216=Wx/\fr 217=Wy/\fr 218=Wz/\fr 219=WA/\fr 220=WC/\fr 221=WD/\fr 222=WE/\fr 223=WG/\fr 224=vC/\fr 225=BM/\fr 226=iX/\fr 227=tF/\fr 228=BM:=by and_intros<;>kernel_rfl
theorem asL:fr 229=WH/\fr 230=BJ/\fr 231=FF/\fr 232=Mn/\fr 233=WI/\fr 234=rJ/\fr 235=iX/\fr 236=vA/\fr 237=yy/\fr 238=WJ/\fr 239=BM/\fr 240=WL/\fr 241=WM/\fr 242=tE/\fr 243=tE/\fr 249=WN/\fr 250=yy/\fr 251=iX/\fr 257=WQ/\fr 258=iX/\fr 260=iX/\fr 261=WS/\fr 265=WU/\fr 266=rK/\fr 267=WV/\fr 268=WW/\fr 269=rK/\fr 270=Mn/\fr 271=WY/\fr 272=WZ/\fr 273=W0/\fr 274=W3/\fr 275=W4/\fr 276=FG/\fr 277=Mo/\fr 278=BJ/\fr 279=Mk/\fr 280=BJ/\fr 281=tF/\fr 282=W6/\fr 283=yx/\fr 284=tE/\fr 285=yx/\fr 286=Mo/\fr 287=W7/\fr 288=W8/\fr 289=rK/\fr 290=yx/\fr 291=iX/\fr 292=yx/\fr 293=iX/\fr 294=yx/\fr 295=iX/\fr 296=W9/\fr 297=Xa/\fr 298=Xb/\fr 299=Xc/\fr 300=Xd/\fr 301=Xe/\fr 307=vC:=by and_intros<;>kernel_rfl
theorem asM:fr 311=WT/\fr 312=Xg/\fr 313=Xh/\fr 314=Mp/\fr 315=iX/\fr 319=Mp/\fr 320=iX/\fr 321=iX/\fr 322=Xj/\fr 323=Xk/\fr 324=Xl/\fr 328=Xn/\fr 329=yy/\fr 330=rJ/\fr 331=BL/\fr 332=Xp/\fr 333=Xq/\fr 334=Xr/\fr 335=Xs/\fr 336=Xt/\fr 337=Xu/\fr 338=Xv/\fr 339=Xw/\fr 340=Xy/\fr 341=Xz/\fr 342=XA/\fr 343=BL/\fr 344=XB/\fr 345=XC/\fr 346=BM/\fr 347=XD/\fr 348=XE/\fr 349=XF/\fr 350=XG/\fr 351=XH/\fr 352=rK/\fr 353=FF/\fr 354=XI/\fr 355=XJ/\fr 356=vC/\fr 357=vA/\fr 359=tF/\fr 367=Xm/\fr 369=FF/\fr 382=XS/\fr 383=XT/\fr 384=rK/\fr 385=rJ/\fr 386=lz/\fr 387=XU/\fr 388=BK/\fr 389=XV/\fr 390=XX/\fr 391=XY/\fr 392=XZ/\fr 393=X0/\fr 394=X1/\fr 395=rK/\fr 396=X2/\fr 397=X3:=by and_intros<;>kernel_rfl
theorem asN:fr 398=vz/\fr 399=FG/\fr 400=X5/\fr 401=FG/\fr 402=BK/\fr 403=BL/\fr 416=tF/\fr 424=XK/\fr 425=XL/\fr 426=XM/\fr 427=XN/\fr 428=XO/\fr 429=XP/\fr 430=XQ/\fr 431=XR/\fr 453=lz/\fr 454=X'/\fr 457=rJ/\fr 458=Ya/\fr 459=Yb/\fr 460=Yd/\fr 461=Ye/\fr 462=rJ/\fr 463=rJ/\fr 464=BK:=by and_intros<;>kernel_rfl
theorem amK:cf.s8 f=(fr f).g:=rfl
theorem amJ:cf.zt f=(fr f).c:=rfl
theorem aa5:cf.fk f=(fr f).k:=rfl
theorem aa6:cf.eQ f=(fr f).p:=rfl
theorem amM{h:Nat}:cf.live f h=nt [] ([]::(fr f).r) h:=rfl
theorem amL{h:Nat}:cf.keep f h=nt [] (fr f).r h:=rfl
attribute[go_sem]asI asJ asK asL asM asN nt amK amJ aa5 aa6 amM amL q0 dP pL jE q3 q4 q5 q6 q7 q8 q9 tE VD VJ VQ VX VZ V2 FE We Wl Wr Ws WB lz WK WO WR WX W5 rK Xf Xi Xo Xx vz XW X4 X6 X7 X8 iX X9 Yc Yf Yg vA Yh vC Yi Yj Yk Yl Ym Yn Yo Yp Mq Yq Yr Ys Yt Yu Yv Yw Yx Yy Yz YA tF BL YB BM yy YC VC VE VF VG FB VH Mi VI FC VK VL VN VO BJ VP rJ VS VT Mj VU VV VW BK VY Mk V0 V1 FD V3 V4 V5 V6 V7 V8 V9 V' Wa Wb Wc Ml Wd Wf Wg Wh Wi Mm Wj Wk Wm Wn Wo Wp Wq Wt Wu Wv Ww Wx Wy Wz WA WC WD WE WG WH FF Mn WI WJ WL WM WN WQ WS WT WU WV WW WY WZ W0 W3 W4 FG Mo W6 yx W7 W8 W9 Xa Xb Xc Xd Xe Xg Xh Mp Xj Xk Xl Xm Xn Xp Xq Xr Xs Xt Xu Xv Xw Xy Xz XA XB XC XD XE XF XG XH XI XJ XK XL XM XN XO XP XQ XR XS XT XU XV XX XY XZ X0 X1 X2 X3 X5 X' Ya Yb Yd Ye ahH
inductive Expr|mk(op:Int)(nl:Bool)(args:List Expr)(var eL neg kind num:Int)(str:List Nat)
inductive ae|mk(op:Int)(nl:Bool)(args:List ae)(ty var scope span:Int)(cond:Expr)
abbrev bq:=List ae
def bP(a:Bool)(l:aq)(e n:Nat):DV:=match l with|[]=>bif a then .nl else .ay [] e n|l=>.ay l e n
mutual
def Expr.cells : Expr -> aq
  | .mk o l args v e n k num str => [.int .i64 o, bP l (Expr.bm args) 59 8, .int .i64 v, .int .i64 e, .int .i64 n, .int .i64 k, .int .i64 num, .str str]
def Expr.bm : List Expr -> aq
  | [] => []
  | e :: t => .agg e.cells :: Expr.bm t
end
mutual
def ae.cells : ae -> aq
  | .mk o n args t v s p c => [.int .i64 o, bP n (ae.bm args) 61 14, .int .i64 t, .int .i64 v, .int .i64 s, .int .i64 p] ++ c.cells
def ae.bm : bq -> aq
  | [] => []
  | e :: t => .agg e.cells :: ae.bm t
end
theorem Expr.J8:∀(l:List Expr)(i:Nat),(Expr.bm l)[i]?=(l[i]?).map λe=>.agg e.cells|[],i=>by simp[Expr.bm]|a::l,0=>by simp[Expr.bm]|a::l,i+1=>by simp[Expr.bm,Expr.J8 l i]
theorem ae.J8:∀(l:bq)(i:Nat),(ae.bm l)[i]?=(l[i]?).map λe=>.agg e.cells|[],i=>by simp[ae.bm]|a::l,0=>by simp[ae.bm]|a::l,i+1=>by simp[ae.bm,ae.J8 l i]
theorem LF{b:Bool}{n:Nat}:mQ (bP b l e n)=J l.length:=by
 rcases l with _|⟨a,l⟩;.cases b<;>rfl
 rfl
theorem azn{a:Bool}{n k:Nat}:wR k (bP a l e n)=J l:=by
 unfold bP;split;.cases a<;>simp_all[wR,PS]
 .rfl
theorem ME{b:Bool}{n:Nat}:(bP b l e n).aV=V:=by
 rcases l with _|⟨a,l⟩;.cases b<;>rfl
 rfl
theorem zy{b:Bool}{a:DV}{n:Nat}:bP b (a::l) e n=.ay (a::l) e n:=rfl
theorem Expr.dG:∀e:Expr,e.cells.length=8|.mk ..=>rfl
theorem ae.dG:∀e:ae,e.cells.length=14|.mk _ _ _ _ _ _ _ c=>by simp[ae.cells,Expr.dG c]
theorem Expr.qn:∀l:List Expr,(Expr.bm l).length=l.length|[]=>rfl|_::l=>by simp[Expr.bm,Expr.qn l]
theorem ae.qn:∀l:bq,(ae.bm l).length=l.length|[]=>rfl|_::l=>by simp[ae.bm,ae.qn l]
theorem awI:inL [] f=C:=rfl
theorem akA{d:Nat}:([]:aD).any (aw d)=C:=rfl
theorem amN:cf.qJ f=if f=181 then V else C:=by show aw f _=_;by_cases h:f=181<;>simp_all[kK]
def Fv(s:cT):aD->cT|[]=>[]|t::l=>match look s t with|some v=>(t,v)::Fv s l|none=>Fv s l
def Mb(a:dV)(l:aD):dV:=l.eraseDups.filterMap λs=>(look a s).map λb=>(s,b)
def FH:cT->aD|[]=>[]|(_,.lp s _)::l=>s::FH l|_::l=>FH l
theorem ahN:∀l:cT,l.flatMap (λx=>ahL x.2)=FH l|[]=>rfl|(a,v)::l=>by rw[B5,ahN l];cases v<;>rfl
theorem az8{l:aD}{f n:Nat}{a:cT}:mask l ⟨f,n,a,lb,g⟩=⟨f,n,Fv a l,Mb lb (FH (Fv a l)),g⟩:=by
 have e:l.filterMap (λs=>(look a s).map λv=>(s,v))=Fv a l:=by induction l<;>grind[Fv]
 unfold mask;simp only[e,ahN];rfl
theorem aEK:Mb lb []=[]:=rfl
attribute[go_sem]awI akA amN Fv aEK FH az8 DS Option.getD_none
attribute[go_sem↓]arc
theorem aKG{l:List aB}{d:Tmp}:Gb fk [] l d=Jk fk l d:=rfl
theorem aKF{l:List aB}{d a:Tmp}{t:aD}:Gb fk (a::t) l d=if d=a then .copy else Gb fk t l d:=by
 show(bif(aw d a||t.any _)then _ else _)=_;by_cases h:d=a;.simp_all
 .rw[if_neg h,kK h];rfl
theorem aKE{d:Tmp}:Jk fk [] d=.none:=rfl
theorem aKD{d:Tmp}{o:aB}{l:List aB}:Jk fk (o::l) d=iF.join (ZB fk d o.op) (Jk fk l d):=rfl
theorem axd{d t:Nat}:pV d (.tmp t)=if t=d then V else C:=by show aw t d=_;grind[pM,kK]
theorem axa{d:Nat}{v:aC}:pV d (.const v)=C:=rfl
theorem axc{d:Nat}{v:Nat}:pV d (.global v)=C:=rfl
theorem axb{d:Nat}{v:Nat}:pV d (.func v)=C:=rfl
section
variable{P:aG}{O:St}{u:iF}{t:an}{d:ah Tmp}{s I n:Nat}{D:aq}{own:List (Nat×aM)}
theorem azx:LH P t u O d (.lp s I)=(look O.lb s).bind λb=>(fD P u t b I).bind λr=>aH {O with lb:=put O.lb s r.2} d r.1:=(rfl)
theorem azq(h:AM.isAgg P t=J V):fD P u t ⟨D,[]⟩ I=(aZ P t).bind λn=>bif br (I+n) D.length then J (.dv (.agg ((D.drop I).take n)) .no,⟨D,[]⟩)else Z:=by grind[fD]
theorem azt(h:AM.isAgg P t=J C)(a:u≠.take):fD P u t ⟨D,[]⟩ I=(D[I]?).bind λd=>J (.dv d .no,⟨D,[]⟩):=by grind[fD,oP,ew,look]
end
attribute[go_sem↓]aKG aKF aKE aKD ZB CJ
attribute[go_sem]axd axa axc axb azx azq azt eJ y9 List.any_nil Nl vR Bool.or_false Bool.or_true ne_eq reduceCtorEq not_false_eq_true ctt ctf lC jF dE gE Nat.reduceAdd Nat.reduceLeDiff xp List.drop_succ_cons List.take_succ_cons List.take_zero List.getElem?_cons_zero AJ iZ Nat.reduceBEq nH
theorem R6{b:Nat}:cm a b=decide (a<b):=by grind[uP,cm,Nat.le_of_ble_eq_true]
theorem alB{b:Nat}:br a b=decide (a<=b):=by grind[nH,Nat.le_of_ble_eq_true]
theorem RZ{b:Nat}:aw a b=decide (a=b):=by grind[pM,kK]
theorem Hu{a:Type}{f:a->α->ah a}{b:a}:nL f [] b=J b:=rfl
theorem Ht{c:Type}{f:c->α->ah c}{b:c}{a:α}{l:List α}:nL f (a::l) b=(f b a).bind (nL f l):=rfl
theorem aHm:(DV.agg l).aV=C:=rfl
mutual
theorem Expr.pure : ∀ e : Expr, cA e.cells = V
  | .mk o l args v L n k num str => by
    have h := Expr.uB args
    simp only [Expr.cells, cA, DV.pure, xj, yV]
    unfold bP
    split
    · cases l <;> rfl
    · exact h
theorem Expr.uB : ∀ l : List Expr, cA (Expr.bm l) = V
  | [] => rfl
  | e :: l => by simp only [Expr.bm, cA, DV.pure, Expr.pure e, Expr.uB l, xj]
end
mutual
theorem ae.pure : ∀ e : ae, cA e.cells = V
  | .mk j a args t v s p ⟨o, g, S, c, d, w, f, A, K⟩ => by
    have h := ae.uB args
    have i := Expr.uB S
    have b : ∀ a l e n, cA l = V -> (bP a l e n).pure = V := by
      intro a l e n h; unfold bP; split
      · cases a <;> rfl
      · exact h
    simp only [ae.cells, Expr.cells, lC, jF, cA, DV.pure, xj, b _ _ _ _ h, b _ _ _ _ i]
theorem ae.uB : ∀ l : bq, cA (ae.bm l) = V
  | [] => rfl
  | e :: l => by simp only [ae.bm, cA, DV.pure, ae.pure e, ae.uB l, xj]
end
theorem pC{a:Bool}{n:Nat}(h:cA l=V):(bP a l e n).pure=V:=by
 unfold bP;split;.cases a<;>rfl
 .exact h
theorem aim{n:Int}:(DV.int k n).aV=V:=rfl
theorem ain{s:aD}:(DV.str s).aV=V:=rfl
attribute[go_sem]aim ain
attribute[go_sem]FU L' fS eG R9 Hu Ht R6 alB RZ dM kM List.replicate_succ List.replicate_zero iC aHm xj yV xk vU Nat.reduceMul gF pC ae.uB Expr.uB DV.pure cA SV.pure PR LF azn azo azp aGE aGI aGF aGG NF Bool.false_and Bool.and_false CA goN opsV GS amd amg aa0 qJ zp acT
def mR(P:aG)(c:bR)(b:Hd bF)(r:ah Nat):eB->ah bh|.fJ st=>kT (ev P c) b (mask (c.live st.fn (CJ b.get)) st) r|o=>J (.out o)
theorem aqz{c:bR}{b:bF}{t:Tg b}{s:St}{d:ah Nat}(h:exec P c (ev P c) d b s (mR P c (.mk b t) d)=J r):kT (ev P c) (.mk b t) s d=J r:=by apply Kh;refine Eq.trans ?_ h;rfl
theorem azO{c:bR}{b:bF}{t:Tg b}{r:ah Nat}{s:St}:mR P c (.mk b t) r (.fJ s)=kT (ev P c) (.mk b t) (mask (c.live s.fn (CJ b)) s) r:=(rfl)
theorem azN{c:bR}{b:Hd bF}{r:ah Nat}{i:Nat}{s:St}:mR P c b r (.ext i s)=J (.out (.ext i s)):=(rfl)
theorem azP{c:bR}{b:Hd bF}{r:ah Nat}{s:St}:mR P c b r (.rt s)=J (.out (.rt s)):=(rfl)
theorem aDX{k:eB->ah bh}{o:eB}:fF k (.out o)=k o:=(rfl)
theorem azW{b:Nat}:aA (.ofNat a) (.ofNat b)=decide (a<b):=R6
theorem uL{i:Nat}(h:i+1<9223372036854775808):dI .i64 (jP (di i) 1)=di (i+1):=by show(bif cm _ _ then di _ else _)=_;grind[uP]
attribute[go_sem↓]azO azN azP aDX
section
variable{P:aG}{t:an}{s u:aD}{O:St}{ao:Nat->ah aq}
theorem alh{a b:Int}:gG P .add t (.int k a) (.int k b)=J (.int k (dI k (jP a b))):=by show(if k=k then _ else Z)=_;rw[if_pos rfl];rfl
theorem aly{a b:Int}:gG P .sub t (.int k a) (.int k b)=J (.int k (dI k (Int.sub a b))):=by show(if k=k then _ else Z)=_;rw[if_pos rfl];rfl
theorem alj{a b:Int}:gG P .eql t (.int k a) (.int k b)=J (.bool (aj a b)):=by show(if k=k then _ else Z)=_;rw[if_pos rfl];rfl
theorem alu{a b:Int}:gG P .neq t (.int k a) (.int k b)=J (.bool (!aj a b)):=by show(if k=k then _ else Z)=_;rw[if_pos rfl];rfl
theorem alq{a b:Int}:gG P .lss t (.int k a) (.int k b)=J (.bool (aA a b)):=by show(if k=k then _ else Z)=_;rw[if_pos rfl];rfl
theorem alp{a b:Int}:gG P .leq t (.int k a) (.int k b)=J (.bool (!aA b a)):=by show(if k=k then _ else Z)=_;rw[if_pos rfl];rfl
theorem alm{a b:Int}:gG P .gtr t (.int k a) (.int k b)=J (.bool (aA b a)):=by show(if k=k then _ else Z)=_;rw[if_pos rfl];rfl
theorem alk{a b:Int}:gG P .geq t (.int k a) (.int k b)=J (.bool (!aA a b)):=by show(if k=k then _ else Z)=_;rw[if_pos rfl];rfl
theorem alQ:gG P .eql t (.str s) (.str u)=J (.bool (decide (s=u))):=by rw[<-xN];rfl
theorem alT:gG P .neq t (.str s) (.str u)=J (.bool (!decide (s=u))):=by rw[<-xN];rfl
theorem aaR(h:s.length+u.length<=1000000000):gG P .add t (.str s) (.str u)=J (.str (s++u)):=by show(bif br _ _ then J _ else Z).bind _=_;rw[dS,dS,kZ,nH ab];rfl
theorem aDH{l:List UInt8}:cR ao O (.const (.string ⟨⟨l⟩⟩))=J (.dv (.str (l.map ka)) .no):=rfl
theorem aDF:cR ao O (.const .nilFunc)=J (.dv .nilFunc .no):=rfl
end
attribute[go_sem]aDH aDF UInt8.reduceToNat alh aly alj alu alq alp alm alk alQ alT
attribute[go_sem]azW Option.or
section
variable{O:St}{x:aK}{d e t:Nat}{dd:DV}{u:iF}
theorem aAq:vq O x d .take (.dv dd (.ex e))=(aH O (J d) (.dv dd (.ex e))).bind λO=>J (aQ (λ_=>.sr d) O x):=by show Option.map _ _=_;grind[aH]
theorem aAp:vq O x d .take (.dv dd .any)=aH (aQ leave O x) (J d) (.dv dd .any):=(rfl)
theorem aAl:vq O x d .len (.dv dd (.ex e))=(mQ dd).bind λn=>aH O (J d) (.hd n):=(rfl)
theorem aAn:vq O (.tmp t) d .ref (.dv dd (.ex e))=aH O (J d) (.sr t):=(rfl)
theorem aAj:vq O x d .copy (.dv dd (.ex e))=aH (aQ share O x) (J d) (.dv dd .no):=(rfl)
theorem aAi(h:u≠.take):vq O x d u (.dv dd .any)=aH O (J d) (.dv dd .any):=by cases u<;>first|rfl|grind
theorem aAs(h:u≠.take):vq O x d u (.dv dd (.ty e))=aH (aQ share O x) (J d) (.dv dd .no):=by cases u<;>first|rfl|grind
end
attribute[go_sem]aAq aAp aAl aAn aAj aAi aAs Bool.and_false Bool.false_and iF.join
section
variable{P:aG}{O:St}{x:aK}{d:ah Tmp}{e n i:Nat}{t:an}{u:iF}{nl:Bool}{xs l new:aq}{dd:DV}
theorem awu(h:aZ P e=J n):Bp P O d x i (J (.slice e)) (.dv (bP nl xs e n) .no)=(xs[i]?).bind λv=>aH O d (.ev v):=by
 have e1:=pM n;have e2:=pM e;rcases xs with _|⟨a,xs⟩;.cases nl with|true=>rfl|false=>show(aZ P e).bind _=_;grind
 show(aZ P e).bind _=_;grind
theorem awy(h:aZ P e=J n):Bp P O d x i (J (.slice e)) (.dv (.ay xs e n) .no)=(xs[i]?).bind λv=>aH O d (.ev v):=by have e1:=pM n;have e2:=pM e;show(aZ P e).bind _=_;grind
theorem azw:LH P t u O d (.ev dd)=(AM.isAgg P t).bind λa=>bif a then(aZ P t).bind λn=>bif !dd.aV&&aw dd.flat.length n then aH O d (.dv dd .no)else Z else bif dd.aV then aH O d (.dv dd .no)else Z:=by show(match AM.isAgg P t with|some V=>_|some C=>_|none=>Z)=_;grind
theorem qg{b:Nat}(c:n≠0)(h:(l.length+new.length)*b<=bl)(a:l.length+new.length<=bl):fB e n b (.ay l e n) (.ex e) new=J (.ay (l++new) e n,.ex e):=by grind[fB,kK,pM,nH]
theorem azl:PS (.ay l e n)=J l:=rfl
end
theorem ae.J7:∀l:bq,((ae.bm l).all λy=>decide (y.flat.length=14))=V|[]=>rfl|q::l=>by show(decide (q.cells.length=14)&&(ae.bm l).all _)=V;rw[ae.dG,ae.J7 l];rfl
theorem Expr.J7:∀l:List Expr,((Expr.bm l).all λy=>decide (y.flat.length=8))=V|[]=>rfl|q::l=>by show(decide (q.cells.length=8)&&(Expr.bm l).all _)=V;rw[Expr.dG,Expr.J7 l];rfl
theorem ae.A3:∀l m:bq,ae.bm (l++m)=ae.bm l++ae.bm m|[],m=>rfl|q::l,m=>by simp[ae.bm,ae.A3 l m]
theorem Expr.A3:∀l m:List Expr,Expr.bm (l++m)=Expr.bm l++Expr.bm m|[],m=>rfl|q::l,m=>by simp[Expr.bm,Expr.A3 l m]
attribute[go_sem]awu awy azw azl ae.J7 Expr.J7 ae.J8 Expr.J8 ae.qn Expr.qn ae.dG Expr.dG ae.pure Expr.pure aaa RH
theorem aua{a:List aK}{t:Array an}:handsOn (.call ⟨.value x,⟨a⟩,t⟩)=x::a:=by simp[handsOn,eJ,Call.operands]
attribute[go_sem]aua
theorem flat_agg:(DV.agg l).flat=l:=rfl
theorem ar6{n:Int}:(DV.int k n).flat=[.int k n]:=rfl
theorem arZ{b:Bool}:(DV.bool b).flat=[.bool b]:=rfl
theorem asf{b:aD}:(DV.str b).flat=[.str b]:=rfl
theorem asb:DV.nl.flat=[.nl]:=rfl
theorem ar7{n:Nat}:(DV.ay l e n).flat=[.ay l e n]:=rfl
theorem ar4:(DV.func f l m).flat=[.func f l m]:=rfl
theorem asa:DV.nilFunc.flat=[.nilFunc]:=rfl
theorem ase{b:Nat}:(DV.ptr a b).flat=[.ptr a b]:=rfl
theorem ar0{a:Bool}{n:Nat}:(bP a l e n).flat=[bP a l e n]:=by
 unfold bP;split;.cases a<;>rfl
 rfl
attribute[go_sem]flat_agg ar6 arZ asf asb ar7 ar4 asa ase ar0
theorem aC3:di 0=0:=rfl
theorem aAy:Fb (.int k 0)=J 0:=rfl
theorem aAz:Fb (.int k 1)=J 1:=rfl
theorem aAA:Fb (.int k 2)=J 2:=rfl
theorem aAB{n:Nat}:Fb (.int k (.ofNat n))=J n:=rfl
attribute[go_sem]aC3 aAy aAz aAA aAB
section
variable{P:aG}{cf:bR}{rec:dR}{O:St}{gs cr:aD}{l:List aB}{d:ah Tmp}{ty:an}{pos:String}{af:Array Edge}{wh:ah (Nat×Bool)}{x y:aK}{t u:an}{ts:Array an}
def af0(s:St)(d:ah Tmp):DV->DV->ah St|.int k a,.int _ b=>aH s d (.dv (.int k (bif aA a b then b else a)) .no)|_,_=>Z
theorem ajQ:dH P cf rec gs cr l O ⟨d,.call ⟨.builtin .max,⟨[x,y]⟩,ts⟩,ty,pos,af,wh⟩=(bj cf.ao O x).bind λa=>(bj cf.ao O y).bind (af0 O d a):=by
 show((bj _ O x).bind λb=>((bj _ O y).bind _).bind _).bind _=_;rcases bj _ O x with _|a;.rfl
 rcases bj _ O y with _|b;.rfl
 cases a<;>cases b<;>rfl
theorem aAa{b:Nat}:(bif decide (a<b)then di b else di a)=di (max a b):=ai
def ae6(P:aG)(t:St)(d:ah Tmp)(i:Nat):ah TypeDesc->DV->ah St|some .string,.str s=>(s[i]?).bind λb=>aH t d (.dv (.int .u8 (.ofNat b)) .no)|_,_=>Z
theorem ajK{i:aK}:dH P cf rec gs cr l O ⟨d,.index t x i,ty,pos,af,wh⟩=(bj cf.ao O i).bind λv=>(Fb v).bind λa=>(bj cf.ao O x).bind (ae6 P O d a (P.underlying t)):=by show(match bj _ O i with|some (.int _ (.ofNat a))=>(match P.underlying t,bj _ O x with|some .string,J (.str s)=>(s[a]?).bind _|_,_=>Z)|_=>Z)=_;cases bj _ O i with|none=>rfl|some v=>cases v with
 |int k z=>
 rcases z with a|i;.show _=(bj _ O x).bind _;cases h:P.underlying t with|none=>cases bj _ O x<;>rfl|some w=>cases bj _ O x with|none=>grind|some q=>cases w with|string=>cases q<;>rfl|_=>rfl
 rfl|_=>rfl
def LM:ah TypeDesc->ah (an×an)|some (.map k e)=>J (k,e)|_=>Z
def E4:DV->ah Nat|.map r=>J r|_=>Z
def EY(g:GH)(r:Nat):ah (List kX×Nat):=match g.get r with|some (.map e c)=>J (e,c)|_=>Z
def afQ(P:aG)(s:St)(d:ah Tmp)(t:an):ah (Nat×kX)->ah St|some (_,e)=>aH s d (.dv e.2.1 .no)|none=>(cI P t).bind λz=>aH s d (.dv z .no)
theorem ajN{k:aK}:dH P cf rec gs cr l O ⟨d,.lookup t x k C,ty,pos,af,wh⟩=(LM (P.underlying t)).bind λq=>(bj cf.ao (cY O (Op.lookup t x k C).operands.toList) x).bind λv=>(E4 v).bind λr=>(EY (cY O (Op.lookup t x k C).operands.toList).g r).bind λm=>(bj cf.ao (cY O (Op.lookup t x k C).operands.toList) k).bind λa=>bif sC P q.1 a then(findD P q.1 a m.1 0).bind (afQ P (cY O (Op.lookup t x k C).operands.toList) d q.2)else Z:=by show(match P.underlying t,bj _ (cY O (Op.lookup t x k _).operands.toList) x with|some (.map b e),J (.map r)=>(match(cY O (Op.lookup t x k _).operands.toList).g.get r with|some (.map s _)=>(bj _ _ k).bind _|_=>Z)|_,_=>Z)=_;cases P.underlying t with|none=>rfl|some w=>cases w with
 |map b e=>cases bj _ _ x with|none=>rfl|some v=>cases v with
  |map r=>
  simp only[E4,EY,cQ];rcases(cY O _).g.get r with _|o;.rfl
  cases o<;>rfl|_=>rfl
 |_=>rfl
def UX(s:St)(d:ah Tmp)(r:Nat)(a:List kX)(c:Nat)(k x:DV):ah (Nat×kX)->ah St|some (i,e)=>bif k.aV then aH {s with sl:=cK s.sl,g:=s.g.set r (.map (a.take i++(e.1,x,e.2.2)::a.drop (i+1)) c)} d (.tp [])else Z|none=>aH {s with sl:=cK s.sl,g:=s.g.set r (.map (a++[(k,x,c)]) (c+1))} d (.tp [])
theorem ajP{m k:aK}:dH P cf rec gs cr l O ⟨d,.mapUpdate t m k x,ty,pos,af,wh⟩=(LM (P.underlying t)).bind λq=>(bj cf.ao (cY O (qS t m k x).operands.toList) m).bind λv=>(E4 v).bind λr=>(EY (cY O (qS t m k x).operands.toList).g r).bind λs=>(bj cf.ao (cY O (qS t m k x).operands.toList) k).bind λa=>(bj cf.ao (cY O (qS t m k x).operands.toList) x).bind λb=>bif sC P q.1 a then(findD P q.1 a s.1 0).bind (UX (cY O (qS t m k x).operands.toList) d r s.1 s.2 a b)else Z:=by show(match P.underlying t,bj cf.ao (cY O (qS t m k x).operands.toList) m with|some (.map f _),J (.map r)=>(match(cY O (qS t m k x).operands.toList).g.get r with|some (.map s c)=>(bj cf.ao (cY O (qS t m k x).operands.toList) k).bind λa=>(bj cf.ao (cY O (qS t m k x).operands.toList) x).bind λb=>bif sC P f a then(findD P f a s 0).bind λ|some (i,e)=>bif a.aV then aH {(cY O (qS t m k x).operands.toList)with sl:=cK (cY O (qS t m k x).operands.toList).sl,g:=(cY O (qS t m k x).operands.toList).g.set r (.map (s.take i++(e.1,b,e.2.2)::s.drop (i+1)) c)} d (.tp [])else Z|none=>aH {(cY O (qS t m k x).operands.toList)with sl:=cK (cY O (qS t m k x).operands.toList).sl,g:=(cY O (qS t m k x).operands.toList).g.set r (.map (s++[(a,b,c)]) (c+1))} d (.tp [])else Z|_=>Z)|_,_=>Z)=_;cases P.underlying t with|none=>rfl|some w=>cases w with
 |map f h=>show _=(bj cf.ao (cY O (qS t m k x).operands.toList) m).bind _;cases bj cf.ao (cY O (qS t m k x).operands.toList) m with|none=>rfl|some v=>cases v with
  |map r=>simp only[E4,EY,cQ];cases(cY O (qS t m k x).operands.toList).g.get r with|none=>rfl|some o=>cases o<;>rfl
  |_=>rfl
 |_=>rfl
theorem ajT:dH P cf rec gs cr l O ⟨d,.makeMap t Z,ty,pos,af,wh⟩=aH {O with g:=O.g.alloc (.map [] 0)} d (.dv (.map O.g.next) .no):=(rfl)
theorem ajS{f:bV}{a b:List aK}:dH P cf rec gs cr l O ⟨d,.makeFunc (.func f) ⟨a⟩ ⟨b⟩,ty,pos,af,wh⟩=(opsV cf.ao (cY O (Op.makeFunc (.func f) ⟨a⟩ ⟨b⟩).operands.toList) a).bind λc=>(opsV cf.ao (cY O (Op.makeFunc (.func f) ⟨a⟩ ⟨b⟩).operands.toList) b).bind λe=>aH (cY O (Op.makeFunc (.func f) ⟨a⟩ ⟨b⟩).operands.toList) d (.dv (.func f c e) .no):=by show(cu _ a).bind _=_;rw[Da,Da];rfl
def L5(a:Nat->ah aq)(s:St):ah aK->ah (ah DV)|none=>J Z|some x=>(bj a s x).bind λv=>J (J v)
theorem ajY{o h m:ah aK}:dH P cf rec gs cr l O ⟨d,.slice t x o h m,ty,pos,af,wh⟩=(bj cf.ao (cY O (Op.slice t x o h m).operands.toList) x).bind λv=>(L5 cf.ao (cY O (Op.slice t x o h m).operands.toList) o).bind λI=>(L5 cf.ao (cY O (Op.slice t x o h m).operands.toList) h).bind λc=>(L5 cf.ao (cY O (Op.slice t x o h m).operands.toList) m).bind λF=>(n8 P t v I c F).bind λr=>aH (cY O (Op.slice t x o h m).operands.toList) d (.dv r.1 r.2):=by
 have e:∀(O:St)(x:aK),(bj cf.ao O x).map J=(bj cf.ao O x).bind λv=>J (J v):=by intro O x;cases bj _ O x<;>rfl
 unfold dH dB;cases o<;>cases h<;>cases m<;>simp only[L5,cQ,e]<;>rfl
def abG(t:St)(d:ah Tmp)(P:aG):ah TypeDesc->ah TypeDesc->DV->ah St|some _,J (.int k),.int _ n=>aH t d (.dv (.int k (dI k n)) .no)|some .string,J (.slice e),.str s=>(match P.underlying e with|some (.int .u8)=>aH t d (.dv (.ay (s.map λb=>.int .u8 (.ofNat b)) e 1) .no)|_=>Z)|_,_,_=>Z
theorem ajG:dH P cf rec gs cr l O ⟨d,.convert t u x,ty,pos,af,wh⟩=(bj cf.ao (cY O [x]) x).bind (abG (cY O [x]) d P (P.underlying t) (P.underlying u)):=(rfl)
def NL(c:bR)(r:dR)(s:St)(o:Op)(x:aK)(a:List aK):DV->ah (St×SV)
 |.func h f b=>bif aw (c.fk h) 0 then(opsV c.ao (cY s (handsOn o)) a).bind λar=>kb c r h (f++ar++b) .no (cY s (handsOn o)).g λv g=>J ({cY s (handsOn o)with g:=g},v)else bif aw (c.fk h) 3&&c.eQ h then(GS c.ao s a).bind λar=>kb c r h (f++ar++b) .no s.g λv _=>bif v.plain then J (s,v)else Z else qh c r s o x a|.dT i=>(opsV c.ao (cY s (handsOn o)) a).bind λar=>(r (.dT i ar (cY s (handsOn o)).g)).bind λ|.val v g=>J ({cY s (handsOn o)with g:=g},v)|_=>Z
 |_=>Z
theorem ami{o:Op}{s:Nat}{a:List aK}:qh cf rec O o (.tmp s) a=(bj cf.ao O (.tmp s)).bind (NL cf rec O o (.tmp s) a):=by cases h:bj _ O _ with|none=>grind[qh]|some v=>cases v with|func f b c=>show _=(bif aw _ 0 then _ else bif aw _ 3&&cf.eQ f then _ else _);grind[qh,cY,Da,kK,RW]|dT i=>unfold qh;rw[h];rw[Da];rfl|_=>unfold qh;rw[h];rfl
theorem ama{o:Op}{a:List aK}{h:bV}{f c:aq}(e:cf.fk h=0):NL cf rec O o x a (.func h f c)=(opsV cf.ao (cY O (handsOn o)) a).bind λar=>kb cf rec h (f++ar++c) .no (cY O (handsOn o)).g λv g=>J ({cY O (handsOn o)with g:=g},v):=by show(bif aw _ 0 then _ else _)=_;simp_all
theorem amb{o:Op}{a:List aK}{h:bV}{f c:aq}(e:cf.fk h=3)(b:cf.eQ h=V):NL cf rec O o x a (.func h f c)=(GS cf.ao O a).bind λar=>kb cf rec h (f++ar++c) .no O.g λv _=>bif v.plain then J (O,v)else Z:=by show(bif aw _ 0 then _ else bif aw _ 3&&cf.eQ h then _ else _)=_;rw[e,b];rfl
theorem amj{f:bV}{a:aq}{k:SV->GH->ah α}(h:cf.eQ f=C):kb cf rec f a ow g k=(rec (.call f a ow g)).bind λ|.val v g=>k v g|_=>Z:=by grind[kb]
theorem aAk{v:aC}{d:Nat}{u:iF}{a:DV}:vq O (.const v) d u (.dv a .no)=aH O (J d) (.dv a .no):=by cases u<;>rfl
theorem amn{b:Builtin}{a:List aK}:(Call.mk (.builtin b) ⟨a⟩ ts).operands.toList=a:=by simp[Call.operands]
theorem amo{a:List aK}:(Call.mk (.value x) ⟨a⟩ ts).operands.toList=x::a:=by simp[Call.operands]
end
attribute[go_sem↓]ajQ ajK ajN ajP ajT ajS ajY ajG
attribute[go_sem]af0 aAa ae6 LM E4 EY afQ UX L5 abG ami ama amb amj aAk amn amo jQ SV.plain DV.plain Md
def st0:St:=⟨0,0,[],[],.empty⟩
def RY(o:List aB)(l:List (Nat×Kd))(j:Nat)(k:Kd):List (Nat×Nat):=l.filterMap λe=>bif Kd.apart e.2 k||qK o e.1 j then Z else J (e.1,j)
def JN(c:bR)(p:List aB):List aB->Nat->List (Nat×Kd)->List (Nat×Nat)|[],_,_=>[]|o::l,j,g=>RY p g j (kindOf c st0 o.op)++JN c p l (j+1) ((j,kindOf c st0 o.op)::g)
def Av(c:bR)(o:List aB):List (Nat×Nat):=JN c o o 0 []
def dm(c:bR)(o:List aB):Bool:=nk c st0 o&&(Av c o).isEmpty
def vj(b:List (Nat×Nat))(i j:Nat):Bool:=b.any λp=>aw p.1 i&&aw p.2 j
def Ef(b:List (Nat×Nat))(i:Nat):Bool:=b.any λp=>aw p.1 i
section
variable{P:aG}{cf:bR}{rec:dR}{gs cr:aD}
theorem UF{s:St}{o:Op}:(jy cf s o).kd=kindOf cf st0 o:=by unfold jy;cases o<;>first|rfl|(simp only;split<;>rfl)
def Kx.fr(a b:Kx):Bool:=Kx.xP a b||Kx.xP b a
def tG(P:aG)(c:bR)(r:dR)(s a:aD)(p:List aB)(b:List (Nat×Nat)):List aB->Nat->List (Nat×Kx)->(eB->ah bh)->St->ah bh|[],_,_,k,st=>k (.fJ st)|o::l,j,g,k,st=>(yR ⟨p⟩ st o).bind λw=>bif w then bif g.all λe=>!(vj b e.1 j)||Kx.fr e.2 (jy c st o.op)then(dH P c r s a l st o).bind (tG P c r s a p b l (j+1) (bif Ef b j then(j,jy c st o.op)::g else g) k)else Z else(aH st o.dst (.tp [])).bind (tG P c r s a p b l (j+1) g k)
theorem aGP{b:List (Nat×Nat)}{k:eB->ah bh}:∀(l:List aB)(j:Nat)(full:List (Nat×Kd))(g y:List (Nat×Kx))(st:St),(∀p,p∈JN cf ops l j full->p∈b)->(∀e,e∈g->(e.1,e.2.kd)∈full/\(Ef b e.1=V->e∈y))->tG P cf rec gs cr ops b l j y k st=J r->(jN P cf rec gs cr V ⟨ops⟩ l j g st).bind (λst=>k (.fJ st))=J r:=by intro l;induction l with|nil=>intro j full g y st _ _ h;exact h|cons o l i=>intro j full g y st f d h;unfold tG at h;obtain⟨w,q,h⟩:=aF h;unfold jN;rw[q];simp only[cQ];have u:∀p,p∈JN cf ops l (j+1) ((j,kindOf cf st0 o.op)::full)->p∈b:=λp n=>f p (RC _ n);cases w with
 |true=>
 simp only[aR]at h|-;rcases m:(y.all λe=>!(vj b e.1 j)||Kx.fr e.2 (jy cf st o.op))with _|_;.grind
 rw[m]at h;simp only[aR]at h;have A:Iy ops g j (jy cf st o.op)=V:=by unfold Iy;rw[AH];intro e a;obtain⟨c,t⟩:=d e a;cases v:Kd.apart e.2.kd (jy cf st o.op).kd||qK ops e.1 j with|true=>grind[Kx.apart,Kx.fr]|false=>
  have B:(e.1,j)∈b:=by refine f _ (Jz _ ?_);grind[RY,UF]
  have x:Ef b e.1=V:=by grind[Ef,pM]
  have z:vj b e.1 j=V:=by simp_all[vj]
  grind[Kx.apart,Kx.fr]
 obtain⟨s,c,h⟩:=aF h;have:=i (j+1) ((j,kindOf cf st0 o.op)::full) ((j,jy cf st o.op)::g) _ s u (λe a=>by grind[UF]) h;grind|false=>simp only[bS]at h|-;obtain⟨s,c,h⟩:=aF h;rw[c];simp only[cQ];exact i (j+1) ((j,kindOf cf st0 o.op)::full) g y s u (λe a=>⟨kG _ (d e a).1,(d e a).2⟩) h
theorem anK{f:ah Nat}{s:St}{k:eB->ah bh}{i:Nat}{b:List (Nat×Nat)}(h:nk cf st0 ops=V)(c:Av cf ops=b)(a:tG P cf rec (cf.s8 s.fn) (cf.zt s.fn) ops b ops 0 [] (E7 (cf.keep s.fn i) k) s=J r):exec P cf rec f (.region i ⟨ops⟩ V) s k=J r:=by show(bif !V||nk cf s _ then _ else Z)=_;have e:nk cf s _=nk cf st0 ops:=rfl;rw[e,h];subst c;exact aGP _ 0 [] [] [] s (λp d=>d) aT a
theorem aGQ:∀(l:List aB)(j:Nat)(full:List (Nat×Kd))(g:List (Nat×Kx))(st:St),(∀e,e∈g->(e.1,e.2.kd)∈full)->JN cf ops l j full=[]->jN P cf rec gs cr V ⟨ops⟩ l j g st=jN P cf rec gs cr C ⟨ops⟩ l j [] st:=by intro l;induction l with|nil=>intro j full g st _ _;rfl|cons o l i=>intro j full g st s h;obtain⟨p,O⟩:=List.append_eq_nil_iff.1 h;unfold jN;congr 1;funext w;grind[Iy,Kx.apart,RY,UF]
theorem ara{r:ah Nat}{s:St}{k:eB->ah bh}{i:Nat}(h:dm cf ops=V):exec P cf rec r (.region i ⟨ops⟩ V) s k=qI P cf rec (cf.s8 s.fn) (cf.zt s.fn) (.mk ops (.mk ops)) (.mk ops (.mk ops)) (E7 (cf.keep s.fn i) k) s:=by unfold dm at h;rw[gD]at h;show(bif !V||nk cf s _ then _ else Z)=_;have e:nk cf s _=nk cf st0 ops:=rfl;rw[e,h.1];rw[aGQ _ 0 [] [] s aT (List.isEmpty_iff.1 h.2)];rfl
end
def opsOf(d:Nat):bF->ah (List aB)|.region i ops _=>bif aw i d then J ops.toList else Z|.seq a b|.cond _ a b|.rangeFunc _ _ a b=>(opsOf d a).or (opsOf d b)|.block _ b|.loop b|.scope b=>opsOf d b|_=>Z
def bw(f:Func)(i:Nat):List aB:=((f.body).bind (opsOf i)).getD []
attribute[go_sem↓]ara
open Proofs.Tryz
theorem aI3:dm cf (bw f301 17)=V:=by rfl
theorem aI5:dm cf (bw f71 14)=V:=by rfl
theorem aIM:dm cf (bw f167 6)=V:=by rfl
theorem aIN:dm cf (bw f175 6)=V:=by rfl
theorem aIO:dm cf (bw f282 6)=V:=by rfl
theorem aIP:dm cf (bw f179 11)=V:=by rfl
theorem aIQ:dm cf (bw f215 3)=V:=by rfl
theorem aIR:dm cf (bw f217 4)=V:=by rfl
theorem aIS:dm cf (bw f217 6)=V:=by rfl
theorem aIT:dm cf (bw f217 7)=V:=by rfl
theorem aIU:dm cf (bw f180 10)=V:=by rfl
theorem aIV:dm cf (bw f267 10)=V:=by rfl
theorem aIY:dm cf (bw f223 9)=V:=aN
theorem aIX:dm cf (bw f223 11)=V:=aN
theorem aI1:dm cf (bw f338 10)=V:=aN
theorem aI2:dm cf (bw f341 5)=V:=by rfl
theorem aHl:Av cf (bw f71 17)=[(1,2)]:=by rfl
theorem aHA:nk cf st0 (bw f71 17)=V:=by rfl
theorem aHh:Av cf (bw f177 13)=[(7,8)]:=by rfl
theorem aHw:nk cf st0 (bw f177 13)=V:=by rfl
theorem aHi:Av cf (bw f177 18)=[(1,2)]:=by rfl
theorem aHx:nk cf st0 (bw f177 18)=V:=by rfl
theorem aHk:Av cf (bw f345 1)=[(1,4)]:=by rfl
theorem aHz:nk cf st0 (bw f345 1)=V:=by rfl
theorem Expr.Jb(e:Expr):List.take 8 e.cells=e.cells:=by grind[Expr.dG]
theorem ae.Jb(e:ae):List.take 14 e.cells=e.cells:=by grind[ae.dG]
attribute[go_sem]Expr.Jb ae.Jb
structure Sl(α:Type)where
 nl:Bool
 l:List α
abbrev iD(n:Int):DV:=.int .i64 n
def cL(s:Sl Int):DV:=bP s.nl (s.l.map iD) 3 1
structure Guard where
 scope:Int
 ty:Int
 var:Int
 cond:Expr
structure ko where
 scope:Int
 span:Int
structure Edge where
 src:Int
 dst:Int
 var:Int
 ty:Int
 cond:Expr
 opens:Sl Int
 lI:Sl Int
 jJ:Sl Expr
 jZ:Sl ko
 inside:Sl Int
abbrev fY:=List Edge
structure Stat where guards:Sl Guard
structure dK where
 vars:Int
 scopes:Int
 mr:Sl Stat
 oC:Sl Edge
structure kF where
 name:aD
 kind:Int
structure bY where
 name:aD
 fields:Sl kF
structure dW where
 name:aD
 ty:Int
structure cq where
 name:aD
 vars:Sl dW
 key:Sl Int
 pat:ae
 jB:Sl Expr
structure eH where
 types:Sl bY
 query:cq
 xC:dK
def ue(s:Sl Expr):DV:=bP s.nl (Expr.bm s.l) 59 8
def Guard.cells(g:Guard):aq:=[iD g.scope,iD g.ty,iD g.var]++g.cond.cells
def Guard.d(g:Guard):DV:=.agg g.cells
def ko.d(g:ko):DV:=.agg [iD g.scope,iD g.span]
def C4(s:Sl ko):DV:=bP s.nl (s.l.map ko.d) 394 2
def CB(s:Sl Guard):DV:=bP s.nl (s.l.map Guard.d) 281 11
def Edge.cells(e:Edge):aq:=[iD e.src,iD e.dst,iD e.var,iD e.ty]++e.cond.cells++[cL e.opens,cL e.lI,ue e.jJ,C4 e.jZ,cL e.inside]
def Edge.d(e:Edge):DV:=.agg e.cells
def Stat.d(s:Stat):DV:=.agg [CB s.guards]
def Aw(s:Sl Stat):DV:=bP s.nl (s.l.map Stat.d) 229 1
def zx(s:Sl Edge):DV:=bP s.nl (s.l.map Edge.d) 241 17
def dK.cells(a:dK):aq:=[iD a.vars,iD a.scopes,Aw a.mr,zx a.oC]
def kF.d(f:kF):DV:=.agg [.str f.name,iD f.kind]
def Cv(s:Sl kF):DV:=bP s.nl (s.l.map kF.d) 76 2
def bY.d(s:bY):DV:=.agg [.str s.name,Cv s.fields]
def cC(s:Sl bY):DV:=bP s.nl (s.l.map bY.d) 79 2
def dW.d(v:dW):DV:=.agg [.str v.name,iD v.ty]
def kn(s:Sl dW):DV:=bP s.nl (s.l.map dW.d) 81 2
def cq.cells(q:cq):aq:=[.str q.name,kn q.vars,cL q.key]++q.pat.cells++[ue q.jB]
def eH.cells(p:eH):aq:=[cC p.types]++p.query.cells++p.xC.cells
theorem Guard.dG(g:Guard):g.cells.length=11:=by simp[Guard.cells,Expr.dG]
theorem Edge.dG(e:Edge):e.cells.length=17:=by simp[Edge.cells,Expr.dG]
theorem cq.dG(q:cq):q.cells.length=18:=by simp[cq.cells,ae.dG]
theorem eH.dG(p:eH):p.cells.length=23:=by simp[eH.cells,cq.dG,dK.cells]
theorem BI:∀a b:aq,cA (a++b)=(cA a&&cA b)|[],b=>by simp[cA]|x::a,b=>by simp[cA,BI a b,Bool.and_assoc]
theorem iB{b:Type}{f:b->DV}(h:∀a,(f a).pure=V):∀l:List b,cA (l.map f)=V|[]=>rfl|a::l=>by simp[cA,h a,iB h l]
theorem PA(s:Sl Int):(cL s).pure=V:=pC (iB (λ_=>rfl) _)
theorem acO(s:Sl Expr):(ue s).pure=V:=pC (Expr.uB _)
theorem Guard.pure(g:Guard):g.d.pure=V:=by show cA _=V;simp[Guard.cells,cA,DV.pure,Expr.pure]
theorem atB(s:Sl Guard):(CB s).pure=V:=pC (iB Guard.pure _)
theorem azj(s:Sl ko):(C4 s).pure=V:=pC (iB (λ_=>rfl) _)
theorem Edge.pure(e:Edge):e.d.pure=V:=by show cA _=V;simp[Edge.cells,BI,cA,DV.pure,Expr.pure,PA,acO,azj]
theorem aoP(s:Sl Edge):(zx s).pure=V:=pC (iB Edge.pure _)
theorem Stat.pure(s:Stat):s.d.pure=V:=by show cA _=V;simp[cA,atB]
theorem aJk(s:Sl Stat):(Aw s).pure=V:=pC (iB Stat.pure _)
theorem dK.pure(a:dK):cA a.cells=V:=by simp[dK.cells,cA,DV.pure,aJk,aoP]
theorem arC(s:Sl kF):(Cv s).pure=V:=pC (iB (λ_=>rfl) _)
theorem bY.pure(s:bY):s.d.pure=V:=by show cA _=V;simp[cA,DV.pure,arC]
theorem YO(s:Sl bY):(cC s).pure=V:=pC (iB bY.pure _)
theorem aKL(s:Sl dW):(kn s).pure=V:=pC (iB (λ_=>rfl) _)
theorem cq.pure(q:cq):cA q.cells=V:=by simp[cq.cells,BI,cA,DV.pure,ae.pure,aKL,PA,acO]
theorem eH.pure(p:eH):cA p.cells=V:=by simp[eH.cells,BI,cA,YO,cq.pure,dK.pure]
theorem hZ{c:bR}{b:bF}{t:Tg b}{s:St}{d:ah Nat}{f:bh->ah bh}(h:(exec P c (ev P c) d b s (mR P c (.mk b t) d)).bind f=J R):(kT (ev P c) (.mk b t) s d).bind f=J R:=by obtain⟨r,hr,k⟩:=aF h;grind[aqz]
theorem vQ{i:Nat}(h:i<9223372036854775808):dI .i64 (di i)=di i:=by show(bif cm i _ then di i else _)=_;grind[uP]
theorem GN{b:Nat}:jP (di a) (di b)=di (a+b):=rfl
def IM:cT->Nat->SV->cT|[],n,x=>[(n,x)]|(m,y)::t,n,x=>bif aw m n then(n,x)::t else(m,y)::IM t n x
theorem aFu{n:Nat}{x:SV}:IM [] n x=[(n,x)]:=rfl
theorem aFt{m n:Nat}{x y:SV}{t:cT}:IM ((m,y)::t) n x=if m=n then(n,x)::t else(m,y)::IM t n x:=by show cond _ _ _=_;simp_all
def fp:cT->cT->cT|sl,[]=>sl|sl,(k,v)::t=>fp (IM sl k v) t
theorem aKB{s:cT}:fp s []=s:=rfl
theorem aKA{s:cT}{x:Nat×SV}{t:cT}:fp s (x::t)=fp (IM s x.1 x.2) t:=rfl
abbrev iS(i:Nat):SV:=.dv (.int .i64 (.ofNat i)) .no
abbrev zS(i:Int):SV:=.dv (.int .i64 i) .no
abbrev vI(i:Int):bh:=.val (.dv (.int .i64 i) .no) .empty
abbrev vB(b:Bool):bh:=.val (.dv (.bool b) .no) .empty
theorem PU{c:Type}{b:bF}{t:Tg b}{r:ah Nat}{k:eB->ah bh}{g:St}(a:List α)(f:c)(S:Nat->c->St)(G:Nat->List α->c->bh)(I:Nat->List α->c->Prop)(o:a.length<9223372036854775807)(e:S 0 f=g)(n:I 0 a f)(h:G 0 a f=R)(j:∀s,I a.length [] s->(exec PP cf (ev PP cf) r b (S a.length s) (mR PP cf (.mk b t) r)).bind (fF k)=J (G a.length [] s))(m:∀i x l s,(i<a.length)=True->a[i]?=J x->dI .i64 (jP (di i) 1)=di (i+1)->I i (x::l) s->(∀d,I (i+1) l d->(kT (ev PP cf) (.mk b t) (S (i+1) d) r).bind (fF k)=J (G (i+1) l d))->(exec PP cf (ev PP cf) r b (S i s) (mR PP cf (.mk b t) r)).bind (fF k)=J (G i (x::l) s)):(kT (ev PP cf) (.mk b t) g r).bind (fF k)=J R:=by
 have y:∀(l:List α)(i:Nat)(s:c),i+l.length=a.length->a.drop i=l->I i l s->(kT (ev PP cf) (.mk b t) (S i s) r).bind (fF k)=J (G i l s):=by intro l;induction l<;>grind[hZ,GB,uL,DO]
 grind
theorem rC{f:Type}{b:bF}{t:Tg b}{r:ah Nat}{k:eB->ah bh}{a:St}(c:List α)(d:f)(u:Nat->f->cT)(G:Nat->List α->f->bh)(I:Nat->List α->f->Prop)(o:c.length<9223372036854775807)(e:fp a.sl (u 0 d)=a.sl)(n:I 0 c d)(h:G 0 c d=R)(j:∀s,I c.length [] s->(exec PP cf (ev PP cf) r b ⟨a.fn,a.n,fp a.sl (u c.length s),a.lb,a.g⟩ (mR PP cf (.mk b t) r)).bind (fF k)=J (G c.length [] s))(m:∀i x l s,(i<c.length)=True->c[i]?=J x->dI .i64 (jP (di i) 1)=di (i+1)->I i (x::l) s->(∀g,I (i+1) l g->(kT (ev PP cf) (.mk b t) ⟨a.fn,a.n,fp a.sl (u (i+1) g),a.lb,a.g⟩ r).bind (fF k)=J (G (i+1) l g))->(exec PP cf (ev PP cf) r b ⟨a.fn,a.n,fp a.sl (u i s),a.lb,a.g⟩ (mR PP cf (.mk b t) r)).bind (fF k)=J (G i (x::l) s)):(kT (ev PP cf) (.mk b t) a r).bind (fF k)=J R:=PU c d (λi s=>⟨a.fn,a.n,fp a.sl (u i s),a.lb,a.g⟩) G I o aT n h j m
theorem gR{b:bF}{t:Tg b}{r:ah Nat}{k:eB->ah bh}{s:St}(a:List α)(u:Nat->cT)(G:Nat->List α->bh)(g:a.length<9223372036854775807)(e:fp s.sl (u 0)=s.sl)(c:G 0 a=R)(h:(exec PP cf (ev PP cf) r b ⟨s.fn,s.n,fp s.sl (u a.length),s.lb,s.g⟩ (mR PP cf (.mk b t) r)).bind (fF k)=J (G a.length []))(d:∀i x l,(i<a.length)=True->a[i]?=J x->dI .i64 (jP (di i) 1)=di (i+1)->(kT (ev PP cf) (.mk b t) ⟨s.fn,s.n,fp s.sl (u (i+1)),s.lb,s.g⟩ r).bind (fF k)=J (G (i+1) l)->(exec PP cf (ev PP cf) r b ⟨s.fn,s.n,fp s.sl (u i),s.lb,s.g⟩ (mR PP cf (.mk b t) r)).bind (fF k)=J (G i (x::l))):(kT (ev PP cf) (.mk b t) s r).bind (fF k)=J R:=rC a () (λi _=>u i) (λi l _=>G i l) (λ_ _ _=>True) g e trivial c (λ_ _=>h) λi x l _ f j w _ m=>d i x l f j w (m () trivial)
def rS(x:ah bh)(v:SV):Prop:=∃g,x=J (.val v g)
theorem Ni{w:SV}:rS (J (.val v g)) w=(v=w):=propext ⟨λ⟨_,h⟩=>ai,λh=>by subst h;exact⟨g,rfl⟩⟩
theorem vK{c:bR}{r:dR}{z:Bool}{A B:rV}(h:z=V->rS (jO P c r A) v)(a:z=C->rS (jO P c r B) v):rS (bif z then W P c r A else W P c r B) v:=by
 cases z;.exact a rfl
 .exact h rfl
theorem GQ{c:bR}{n:Nat}{b:Func}{d:bF}{r:List oy}{a:aq}(i:P.funcs[f]?=J b)(h:rS (exec P c (ev P c) Z d ⟨f,n,tX 0 ow a,[],g⟩ (BN P r)) v)(e:b.body=J d:=by rfl)(k:b.results=⟨r⟩:=by rfl)(t:b.ntmps=n:=by rfl)(p:c.iK f a=Z:=by rfl)(j:(yp (r.map vF)&&br a.length n&&!c.Ay f)=V:=by rfl):rS (ev P c (.call f a ow g)) v:=h.imp λ_ h=>aP i h e k t p j
theorem LK{d:Type}{b:bF}{t:Tg b}{r:ah Nat}{k:eB->ah bh}{g:St}{R:SV}(a:List α)(f:d)(S:Nat->d->St)(G:Nat->List α->d->SV)(I:Nat->List α->d->Prop)(w:a.length<9223372036854775807)(e:S 0 f=g)(v:I 0 a f)(u:G 0 a f=R)(m:∀s,I a.length [] s->rS ((exec PP cf (ev PP cf) r b (S a.length s) (mR PP cf (.mk b t) r)).bind (fF k)) (G a.length [] s))(n:∀i x l s,(i<a.length)=True->a[i]?=J x->dI .i64 (jP (di i) 1)=di (i+1)->I i (x::l) s->(∀c,I (i+1) l c->rS ((kT (ev PP cf) (.mk b t) (S (i+1) c) r).bind (fF k)) (G (i+1) l c))->rS ((exec PP cf (ev PP cf) r b (S i s) (mR PP cf (.mk b t) r)).bind (fF k)) (G i (x::l) s)):rS ((kT (ev PP cf) (.mk b t) g r).bind (fF k)) R:=by
 have y:∀(l:List α)(i:Nat)(s:d),i+l.length=a.length->a.drop i=l->I i l s->rS ((kT (ev PP cf) (.mk b t) (S i s) r).bind (fF k)) (G i l s):=by intro l;induction l with|nil=>intro i s o _ h;obtain rfl:i=a.length:=ab;exact(m s h).imp λ_ h=>hZ h|cons x l q=>
  intro i s o hd h;have E:i<a.length:=ai;have p:a[i]?=J x:=by grind[GB]
  refine(n i x l s (iT E) p (uL ab) h λc j=>q _ c ai ?_ j).imp λ_ h=>hZ h;grind[DO]
 grind
theorem aks{o:GO}:GH.empty.alloc o=⟨1,[(0,o)]⟩:=rfl
theorem aAO:GH.empty.next=0:=rfl
theorem akt{n:Nat}{l:List (Nat×GO)}{o:GO}:(GH.mk n l).alloc o=⟨n+1,put l n o⟩:=rfl
theorem atb{n i:Nat}{l:List (Nat×GO)}:(GH.mk n l).get i=look l i:=rfl
theorem aHV{n i:Nat}{l:List (Nat×GO)}{o:GO}:(GH.mk n l).set i o=⟨n,put l i o⟩:=rfl
theorem wg{n j:Nat}(h:l.length=n):(l++m)[n+j]?=m[j]?:=ai
theorem aaj{n:Nat}(h:l.length=n):(l++m).take n=l:=aT
section
variable{e:Expr}{p:ae}{q:cq}{m:aq}
theorem eg8:(e.cells++m)[8]?=m[0]?:=wg (j:=0) e.dG
theorem eg9:(e.cells++m)[9]?=m[1]?:=wg (j:=1) e.dG
theorem aoQ:(e.cells++m)[10]?=m[2]?:=wg (j:=2) e.dG
theorem aoR:(e.cells++m)[11]?=m[3]?:=wg (j:=3) e.dG
theorem aoS:(e.cells++m)[12]?=m[4]?:=wg (j:=4) e.dG
theorem et8:(e.cells++m).take 8=e.cells:=aaj e.dG
theorem aEH:(p.cells++m)[14]?=m[0]?:=wg (j:=0) p.dG
theorem aFi:(p.cells++m).take 14=p.cells:=aaj p.dG
end
theorem aHn{b:Bool}:(DV.bool b).aV=V:=rfl
theorem aHo{a b:aq}:(DV.func f a b).aV=V:=rfl
theorem aHq{n:Nat}:(DV.ay l e n).aV=V:=rfl
theorem aHs:DV.nl.aV=V:=rfl
theorem aHu{b:Nat}:(DV.ptr a b).aV=V:=rfl
theorem aKs{b:Bool}:Ji .not (.bool b)=J (.bool (!b)):=rfl
theorem aKr{n:Int}:Ji .neg (.int k n)=J (.int k (dI k (Int.sub 0 n))):=rfl
theorem aJo{a:St}{d:ah Tmp}{v:DV}{s:Nat}:Q5 P t a d x v ow (.lp s I)=(look a.lb s).bind λb=>(yK P t b I v ow).bind λb=>aH {aQ leave a x with sl:=cK (aQ leave a x).sl,lb:=put a.lb s b} d (.tp []):=(rfl)
theorem aJm{b:LB}{v:DV}{o:aM}:yK P t b I v o=(aZ P t).bind λn=>bif aw v.flat.length n&&br (I+n) b.cells.length then J ⟨km b.cells I v.flat,mn I v o++cW b.own I n⟩else Z:=(rfl)
theorem aEc{v:DV}:mn I v .no=[]:=by simp[mn]
theorem aD9{v:DV}:mn I v .any=[]:=by simp[mn]
theorem aEa{n:Nat}:mn I (.ay l e n) (.ex e)=[(I,.ex e)]:=rfl
theorem anN{n:Nat}:cW [] I n=[]:=rfl
theorem aEJ{l:aD}:Mb lb (a::l)=(match look lb a with|some b=>[(a,b)]|none=>[])++Mb lb (l.filter λb=>!(b==a)):=by grind[Mb]
theorem aAr{s:St}{d:Nat}{u:iF}{l:List (DV×aM)}:vq s x d u (.tp l)=aH (aQ leave s x) (J d) (.tp l):=(rfl)
theorem akv{x:DV×aM}{l:List (DV×aM)}:((x::l).all λx=>x.1.pure)=(x.1.pure&&l.all λx=>x.1.pure):=rfl
theorem akx{x:DV×aM}{l:List (DV×aM)}:((x::l).all λx=>x.1.plain)=(x.1.plain&&l.all λx=>x.1.plain):=rfl
theorem akw:(([]:List (DV×aM)).all λx=>x.1.pure)=V:=rfl
theorem aky:(([]:List (DV×aM)).all λx=>x.1.plain)=V:=rfl
def iL(P:aG)(t:an):ah (List (Nat×Nat)):=match P.underlying t with|some (.struct i)=>cu (λ(f:Field)=>(aZ P f.type).map λn=>(f.offset,n)) i.toList|_=>Z
theorem alW{s:St}{d:ah Tmp}{p:List (Nat×DV)}{z:DV}(h:(iL P t).isSome=V):Sa P t s d p z=(iL P t).bind λa=>(A7 (λi=>oM a i) p z.flat).bind λl=>aH s d (.dv (.agg l) .no):=by grind[iL,Sa]
theorem arE{p:Nat->ah (Nat×Nat)}:A7 p [] l=J l:=rfl
theorem arD{l:Nat->ah (Nat×Nat)}{p:Nat×DV}{t:List (Nat×DV)}{c:aq}:A7 l (p::t) c=(l p.1).bind λo=>bif aw p.2.flat.length o.2&&br (o.1+o.2) c.length then A7 l t (km c o.1 p.2.flat)else Z:=rfl
theorem aBE{a:α}{l:List α}:oM (a::l) 0=J a:=rfl
theorem aBF{a:α}{l:List α}{i:Nat}:oM (a::l) (i+1)=oM l i:=rfl
theorem Cs{f:bV}{a:aq}(h:cf.iK f a=J (J v))(b:(aw (cf.fk f) 2&&!vw ow)=C):ev PP cf (.call f a ow g)=J (.val v g):=by apply Kh;show(match cf.iK f _ with|some r=>bif aw _ 2&&!vw ow then Z else r.map _|none=>_)=_;grind
theorem apc{b:Nat}:aj (.ofNat a) (.ofNat b)=decide (a=b):=RZ
theorem fQ{a b:Int}:aA a b=decide (a<b):=by cases a<;>cases b<;>simp only[aA,R6,vY,Int.negSucc_eq]<;>first|exact decide_eq_decide.2 ab|exact(xK ab).symm|grind
theorem jU{a b:Int}:aj a b=decide (a=b):=by cases a<;>cases b<;>simp only[aj,RZ,vY,Int.negSucc_eq]<;>first|exact decide_eq_decide.2 ab|rfl
theorem apf{n:Nat}:aj (.ofNat (n+1)) 0=C:=rfl
section
variable{l:aq}
theorem aEq{l:List kF}:cA (l.map kF.d)=V:=iB (λ_=>rfl) _
theorem aEu{l:List bY}:cA (l.map bY.d)=V:=iB bY.pure _
theorem aEx{l:List dW}:cA (l.map dW.d)=V:=iB (λ_=>rfl) _
theorem ahh{l:cE}:cA (l.map iD)=V:=iB (λ_=>rfl) _
theorem aEs{l:List ko}:cA (l.map ko.d)=V:=iB (λ_=>rfl) _
theorem aEr{l:List Guard}:cA (l.map Guard.d)=V:=iB Guard.pure _
theorem aEo{l:fY}:cA (l.map Edge.d)=V:=iB Edge.pure _
theorem aEw{l:List Stat}:cA (l.map Stat.d)=V:=iB Stat.pure _
end
theorem aEF{c:aq}:kU P t c I=(AM.isAgg P t).bind λa=>bif a then(aZ P t).bind λn=>bif br (I+n) c.length then J (.agg ((c.drop I).take n))else Z else c[I]?:=by grind[kU]
theorem azZ{n:Nat}:decide (n<n)=C:=aT
attribute[go_sem]aFt aFu aAr akv akx akw aky alW arE arD aBE aBF aEq aEu aEx ahh aEs aEr aEo aEw Ni aks aAO akt atb aHV apc aEJ tN List.filter_nil Nat.reduceBNe aJo aJm aEc aD9 aEa anN km jF apf aKs aKr aim ain aHn aHo aHq aHs aHu eg8 eg9 aoQ aoR aoS et8 aEH aFi tM gJ iS zS vI vB iD cL ue C4 CB Guard.cells Guard.d Guard.dG ko.d Edge.d Edge.cells Edge.dG Stat.d Aw zx dK.cells kF.d Cv bY.d cC dW.d kn cq.dG ME aEF azZ fZ jo gF aKB aKA
theorem aI7:iL PP 212=J [(0,1)]:=aN
theorem aI9:iL PP 266=J [(0,1),(1,1),(2,1)]:=aN
theorem aJa:iL PP 307=J [(0,1),(1,1),(2,1)]:=aN
theorem aJb:iL PP 316=J [(0,1),(1,1)]:=aN
theorem aJf:iL PP 323=J [(0,1),(1,14)]:=aN
theorem aJc:iL PP 43=J [(0,1),(1,1),(2,1)]:=aN
theorem aJd:iL PP 59=J [(0,1),(1,1),(2,1),(3,1),(4,1),(5,3)]:=aN
theorem aJe:iL PP 61=J [(0,1),(1,1),(2,1),(3,1),(4,1),(5,1),(6,8)]:=aN
theorem aJg:iL PP 67=J [(0,1),(1,1),(2,1),(3,1)]:=aN
theorem aJh:iL PP 229=J [(0,1)]:=aN
theorem aJi:iL PP 241=J [(0,1),(1,1),(2,1),(3,1),(4,8),(12,1),(13,1),(14,1),(15,1),(16,1)]:=aN
theorem aJj:iL PP 281=J [(0,1),(1,1),(2,1),(3,8)]:=aN
theorem aI8:iL PP 394=J [(0,1),(1,1)]:=aN
attribute[go_sem]aI7 aI9 aJa aJb aJf aJc aJd aJe aJg aJh aJi aJj aI8
attribute[local congr]bz bA
set_option maxHeartbeats 4000000
mutual
def Expr.nn : Expr -> Nat
  | .mk _ _ args _ _ _ _ _ _ => Expr.bH args + 1
def Expr.bH : List Expr -> Nat
  | [] => 0
  | e :: l => e.nn + Expr.bH l
end
mutual
def Expr.mE (l : Nat) : Expr -> Nat
  | .mk _ _ args _ _ _ _ _ _ => Expr.pN l args 1
def Expr.pN (i : Nat) : List Expr -> Nat -> Nat
  | [], n => n
  | e :: l, n => if i < n then n else Expr.pN i l (n + e.mE i)
end
mutual
theorem Expr.J0 (l : Nat) : ∀ e : Expr, e.mE l <= e.nn
  | .mk _ _ args _ _ _ _ _ _ => by
    have := Expr.J1 l args 1
    simp only [Expr.mE, Expr.nn]; omega
theorem Expr.J1 (i : Nat) : ∀ (l : List Expr) (n : Nat), Expr.pN i l n <= n + Expr.bH l
  | [], n => by simp [Expr.pN, Expr.bH]
  | e :: l, n => by
    have h := Expr.J0 i e
    have a := Expr.J1 i l (n + e.mE i)
    simp only [Expr.pN, Expr.bH]
    split <;> omega
end
theorem Expr.mj:∀l:List Expr,l.length<=Expr.bH l|[]=>bJ _|.mk _ _ _ _ _ _ _ _ _::l=>by have:=Expr.mj l;simp only[Expr.bH,Expr.nn,dE];omega
theorem Expr.rH:∀(l:List Expr)p,p∈l->p.nn<=Expr.bH l
 |[],p,h=>by simp at h|e::l,p,h=>by
  simp only[Expr.bH];rcases List.mem_cons.1 h with rfl|h;.omega
  .have:=Expr.rH l p h;omega
theorem S5(m:Nat):∀e:Expr,e.nn<100000000->CC 137 [.agg e.cells,.int .i64 (.ofNat m)] (vI (.ofNat (e.mE m)))
 |.mk o f args v L g k num str,n=>by
  simp only[Expr.nn]at n;refine aP func137 ?_;simp only[go_sem,f137,Expr.cells,Expr.mE];refine rC args (1:Nat) (λi s=>[(6,iS i),(5,iS s)]) (λ_ l s=>vI (.ofNat (Expr.pN m l s))) (λ_ l s=>s+Expr.bH l<100000000) (by have:=Expr.mj args;omega) rfl ab rfl (λs _=>?_) (λi x l s a b w I c=>?_);.simp only[go_sem,Expr.pN]
  . simp only[Expr.bH]at I;have hr:=S5 m x ab;have d:=Expr.J0 m x;by_cases h:m<s;.simp only[go_sem,a,Expr.pN,h]
    .simp only[go_sem,a,b,w,hr,Expr.pN,h,GN,vQ (show s+x.mE m<9223372036854775808 by omega)];exact c _ ab termination_by e=>oW e decreasing_by simp_wf;have:=oU (dw b);omega
mutual
def ae.nn : ae -> Nat
  | .mk _ _ args _ _ _ _ _ => ae.bH args + 1
def ae.bH : bq -> Nat
  | [] => 0
  | e :: l => e.nn + ae.bH l
end
mutual
def ae.mE (l : Nat) : ae -> Nat
  | .mk _ _ args _ _ _ _ _ => ae.pN l args 1
def ae.pN (i : Nat) : bq -> Nat -> Nat
  | [], n => n
  | e :: l, n => if i < n then n else ae.pN i l (n + e.mE i)
end
mutual
theorem ae.J0 (l : Nat) : ∀ e : ae, e.mE l <= e.nn
  | .mk _ _ args _ _ _ _ _ => by
    have := ae.J1 l args 1
    simp only [ae.mE, ae.nn]; omega
theorem ae.J1 (i : Nat) : ∀ (l : bq) (n : Nat), ae.pN i l n <= n + ae.bH l
  | [], n => by simp [ae.pN, ae.bH]
  | e :: l, n => by
    have h := ae.J0 i e
    have a := ae.J1 i l (n + e.mE i)
    simp only [ae.pN, ae.bH]
    split <;> omega
end
theorem ae.mj:∀l:bq,l.length<=ae.bH l|[]=>bJ _|.mk _ _ _ _ _ _ _ _::l=>by have:=ae.mj l;simp only[ae.bH,ae.nn,dE];omega
theorem ae.rH:∀(l:bq)p,p∈l->p.nn<=ae.bH l
 |[],p,h=>by simp at h|e::l,p,h=>by
  simp only[ae.bH];rcases List.mem_cons.1 h with rfl|h;.omega
  .have:=ae.rH l p h;omega
theorem S3(m:Nat):∀e:ae,e.nn<100000000->CC 135 [.agg e.cells,.int .i64 (.ofNat m)] (vI (.ofNat (e.mE m)))
 |.mk j g args t v c p o,n=>by
  simp only[ae.nn]at n;refine aP func135 ?_;simp only[go_sem,f135,ae.cells,ae.mE];refine rC args (1:Nat) (λi s=>[(6,iS i),(5,iS s)]) (λ_ l s=>vI (.ofNat (ae.pN m l s))) (λ_ l s=>s+ae.bH l<100000000) (by have:=ae.mj args;omega) rfl ab rfl (λs _=>?_) (λi x l s a b w I d=>?_);.simp only[go_sem,ae.pN]
  . simp only[ae.bH]at I;have hr:=S3 m x ab;have f:=ae.J0 m x;by_cases h:m<s;.simp only[go_sem,a,ae.pN,h]
    .simp only[go_sem,a,b,w,hr,ae.pN,h,GN,vQ (show s+x.mE m<9223372036854775808 by omega)];exact d _ ab termination_by e=>oW e decreasing_by simp_wf;have:=oU (dw b);omega
mutual
def Expr.dep : Expr -> Nat
  | .mk _ _ args _ _ _ _ _ _ => Expr.nj args 0 + 1
def Expr.nj : List Expr -> Nat -> Nat
  | [], d => d
  | e :: l, d => Expr.nj l (max d e.dep)
end
mutual
theorem Expr.D5 : ∀ e : Expr, e.dep <= e.nn
  | .mk _ _ args _ _ _ _ _ _ => by
    have := Expr.A1 args 0
    simp only [Expr.dep, Expr.nn]; omega
theorem Expr.A1 : ∀ (l : List Expr) (d : Nat), Expr.nj l d <= d + Expr.bH l
  | [], d => by simp [Expr.nj, Expr.bH]
  | e :: l, d => by
    have h := Expr.D5 e
    have a := Expr.A1 l (max d e.dep)
    simp only [Expr.nj, Expr.bH]; omega
end
theorem acz:∀e:Expr,e.nn<100000000->CC 187 [.agg e.cells] (vI (.ofNat e.dep))
 |.mk o f args v L g k num str,n=>by
  simp only[Expr.nn]at n;refine aP func187 ?_;have hd:=Expr.A1 args 0;simp only[go_sem,f187,Expr.cells,Expr.dep];refine rC args (0:Nat) (λi s=>[(4,iS i),(3,iS s)]) (λ_ l s=>vI (.ofNat (Expr.nj l s+1))) (λ_ l s=>s+Expr.bH l<100000000) (by have:=Expr.mj args;omega) rfl ab rfl (λs h=>?_) (λi x l s b a w h c=>?_);.simp only[Expr.bH]at h;simp only[go_sem,Expr.nj,uL (show s+1<9223372036854775808 by omega)]
  .simp only[Expr.bH]at h;have hr:=acz x ab;have d:=Expr.D5 x;simp only[go_sem,b,a,w,hr,Expr.nj];exact c _ ab termination_by e=>oW e decreasing_by simp_wf;have:=oU (dw a);omega
mutual
def ae.dep : ae -> Nat
  | .mk _ _ args _ _ _ _ _ => ae.nj args 0 + 1
def ae.nj : bq -> Nat -> Nat
  | [], d => d
  | e :: l, d => ae.nj l (max d e.dep)
end
mutual
theorem ae.D5 : ∀ e : ae, e.dep <= e.nn
  | .mk _ _ args _ _ _ _ _ => by
    have := ae.A1 args 0
    simp only [ae.dep, ae.nn]; omega
theorem ae.A1 : ∀ (l : bq) (d : Nat), ae.nj l d <= d + ae.bH l
  | [], d => by simp [ae.nj, ae.bH]
  | e :: l, d => by
    have h := ae.D5 e
    have a := ae.A1 l (max d e.dep)
    simp only [ae.nj, ae.bH]; omega
end
theorem acE:∀e:ae,e.nn<100000000->CC 186 [.agg e.cells] (vI (.ofNat e.dep))
 |.mk j g args t v c p o,n=>by
  simp only[ae.nn]at n;refine aP func186 ?_;have hd:=ae.A1 args 0;simp only[go_sem,f186,ae.cells,ae.dep];refine rC args (0:Nat) (λi s=>[(4,iS i),(3,iS s)]) (λ_ l s=>vI (.ofNat (ae.nj l s+1))) (λ_ l s=>s+ae.bH l<100000000) (by have:=ae.mj args;omega) rfl ab rfl (λs h=>?_) (λi x l s b a w h d=>?_);.simp only[ae.bH]at h;simp only[go_sem,ae.nj,uL (show s+1<9223372036854775808 by omega)]
  .simp only[ae.bH]at h;have hr:=acE x ab;have f:=ae.D5 x;simp only[go_sem,b,a,w,hr,ae.nj];exact d _ ab termination_by e=>oW e decreasing_by simp_wf;have:=oU (dw a);omega
mutual
def nodes : ae -> bq
  | .mk o n args t v s p c => .mk o n args t v s p c :: eS args
def eS : bq -> bq
  | [] => []
  | q :: l => nodes q ++ eS l
end
theorem Ff:∀l:bq,(eS l).length=ae.bH l|[]=>rfl|.mk o n args t v s p c::l=>by simp only[eS,nodes,ae.bH,ae.nn,gJ,dE,Ff args,Ff l]
theorem S4:∀p:ae,p.nn<1200000->CC 136 [.agg p.cells] (.val (.dv (.ay (ae.bm (nodes p)) 61 14) (.ex 61)) .empty)
 |.mk q m args t r c a ⟨o,n,S,v,b,w,e,A,K⟩,g=>by
  simp only[ae.nn]at g;refine aP func136 ?_;simp only[go_sem,f136,ae.cells,Expr.cells];refine rC args [ae.mk q m args t r c a ⟨o,n,S,v,b,w,e,A,K⟩] (λi s=>[(4,iS i),(3,.dv (.ay (ae.bm s) 61 14) (.ex 61))]) (λ_ l s=>.val (.dv (.ay (ae.bm (s++eS l)) 61 14) (.ex 61)) .empty) (λ_ l s=>s.length+(eS l).length<1200000) (by have:=ae.mj args;omega) rfl (by have:=Ff args;simp only[dE,gE];omega) rfl (λs h=>?_) (λi x l s f d j h k=>?_);.simp only[go_sem,eS,jQ]
  . simp only[eS,gJ]at h;have u:(nodes x).length=x.nn:=by have:=Ff [x];simpa[eS,ae.bH]using this
    have hr:=S4 x ab;have B:fB 61 14 152 (.ay (ae.bm s) 61 14) (.ex 61) (ae.bm (nodes x))=J (.ay (ae.bm (s++nodes x)) 61 14,.ex 61):=by rw[qg eY (by simp only[ae.qn];show _<=bl;unfold bl;omega) (by simp only[ae.qn];unfold bl;omega),ae.A3]
    simp only[go_sem,f,d,j,hr,B,eS];rw[<-tM];exact k _ (by simp only[gJ];omega)termination_by p=>oW p decreasing_by simp_wf;have:=oU (dw d);omega
def Expr.Hr(e:Expr):Bool:=bif !(aA 200 (.ofNat (e.mE 200)))then !(aA 100 (.ofNat e.dep))else C
theorem Kc(e:Expr)(n:e.nn<100000000):CC 134 [.agg e.cells] (vB e.Hr):=by have a:ev PP cf (.call 137 [.agg _,.int _ 200] _ _)=_:=S5 _ e n;have b:=acz e n;refine aP func134 ?_;simp only[go_sem,f134,a,Expr.Hr];apply sp<;>intro h<;>simp only[h,go_sem,b]
def within(i n:Int):Bool:=bif !(aA i 0)then aA i n else C
theorem D'(i n:Int):CC 352 [.int .i64 i,.int .i64 n] (.val (.dv (.bool (within i n)) .no) .empty):=by refine aP func352 ?_;simp only[go_sem,f352,within];apply sp<;>intro h<;>simp only[h,go_sem]
def digit(b:Int):Bool:=bif !(aA b 48)then !(aA 57 b)else C
theorem acG(b:Int):CC 157 [.int .u8 b] (.val (.dv (.bool (digit b)) .no) .empty):=by refine aP func157 ?_;simp only[go_sem,f157,digit];apply sp<;>intro h<;>simp only[h,go_sem]
def letter(b:Int):Bool:=bif aj b 95 then V else bif(bif aA b 97 then C else !(aA 122 b))then V else bif aA b 65 then C else !(aA 90 b)
theorem apq(b:Int):CC 161 [.int .u8 b] (.val (.dv (.bool (letter b)) .no) .empty):=by refine aP func161 ?_;simp only[go_sem,f161,letter];repeat'(with_reducible apply sp<;>intro h<;>simp only[*,go_sem])
end Go.VM
