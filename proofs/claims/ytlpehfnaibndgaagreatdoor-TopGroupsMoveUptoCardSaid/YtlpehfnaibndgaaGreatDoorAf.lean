/- Proved: what functions of the program answer, within the sizes that each theorem names. -/
import Derived.Test.YtlpehfnaibndgaaGreatDoorAe
open Option renaming some->J,none->Z
open Bool renaming true->V,false->C
open Go renaming TypeId->an,Oper->aB,Program->aH,Operand->aK,Code->bM,FuncId->bW,IntKind->fR,ResultVar->oK
open Go.Lib renaming compact->tv
open Int renaming ofNat->dk,add->kh
open List renaming range->rq
open Nat renaming beq->aw,ble->bt,blt->ct
open Option renaming bind->sD
open SizeOf renaming sizeOf->pB
noncomputable section
set_option linter.all false
namespace Go.VM
open Go Go.AM Proofs.Tryz
variable{α:Type}{z:Bool}{v:DV}{g g':GH}{ps:List Tmp}{a e f fn k m I s t:Nat}{Q:SV->GH->Prop}{P:aH}{x:aK}{ow:aM}{p:ae}{l:ao}{r:bh}{rec:dR}{lb:dV}{u:iK}{ψ ω:sG}
attribute[local congr]bB bC
set_option maxRecDepth 100000
set_option maxHeartbeats 4000000
abbrev vT(l:List (DV×aM)):bh:=.val (.tp l) .empty
abbrev iO(n:Int):DV×aM:=(.int .i64 n,.no)
abbrev bO(b:Bool):DV×aM:=(.bool b,.no)
theorem ac9:∀e:Expr,e.nn<100000000->CC 243 [.agg e.cells] (vT [iO (.ofNat e.nn),iO (.ofNat e.dep)])
 |.mk o f args v M g k num str,n=>by
  simp only[Expr.nn]at n;refine aO func243 ?_;have hd:=Expr.Be args 0;simp only[go_sem,f243,Expr.cells,Expr.dep,Expr.nn];refine sV args ((1,0):Nat×Nat) (λi s=>[(13,iS i),(4,iS s.1),(5,iS s.2)]) (λ_ l s=>vT [iO (.ofNat (s.1+Expr.bN l)),iO (.ofNat (Expr.nD l s.2+1))]) (λ_ l s=>s.1+Expr.bN l<100000000/\s.2+Expr.bN l<100000000) (by have:=Expr.mH args;omega) rfl (by simp only;omega) (by simp only[Nat.add_comm]) (λs h=>?_) (λi x l s b a w h c=>?_);.simp only[Expr.bN]at h;simp only[go_sem,Expr.nD,Expr.bN,vk,vi (show s.2+1<9223372036854775808 by omega)]
  .simp only[Expr.bN]at h;have hr:=ac9 x ab;have d:=Expr.Ek x;simp only[go_sem,b,a,w,hr,Expr.nD,Expr.bN,Oa,AK (show s.1+x.nn<9223372036854775808 by omega),<-AY];exact c (s.1+x.nn,max s.2 x.dep) (by simp only;omega)termination_by e=>pB e decreasing_by simp_wf;have:=pr (du a);omega
mutual
def Expr.wg : Expr -> Int
  | .mk o l args v e n k num str => bif aj (Expr.iT (.mk o l args v e n k num str)) 0 then Expr.DQ args else Expr.iT (.mk o l args v e n k num str)
def Expr.DQ : List Expr -> Int
  | [] => 0
  | e :: l => bif aj e.wg 0 then Expr.DQ l else e.wg
end
theorem aKZ(o c a v e n k u s)(m:a.length<100000000)(W:∀x,x∈a->CC 244 [.agg x.cells,.func 245 [] []] (vI x.wg)):CC 244 [.agg (Expr.mk o c a v e n k u s).cells,.func 245 [] []] (vI (Expr.mk o c a v e n k u s).wg):=by
 have b:=aqI (.mk o c a v e n k u s);generalize j:Expr.iT _=z at b;simp only[Expr.cells]at b;refine aO func244 ?_;simp only[go_sem,f244,Expr.cells,Expr.wg,b,j];apply sp<;>intro h<;>simp only[h,go_sem];refine jn _ (λi=>[(18,iS i)]) (λ_ l=>vI (Expr.DQ l)) ab rfl rfl ?_ (λi x l f g w d=>?_);.simp only[go_sem,Expr.DQ]
 .have hr:=W x ai;simp only[go_sem,f,g,hr,Expr.DQ]at d|-;apply sp<;>intro h<;>simp only[h,w,d,go_sem]
theorem ada:∀e:Expr,e.nn<100000000->CC 244 [.agg e.cells,.func 245 [] []] (vI e.wg)|.mk o l args v M g k num str,n=>by simp only[Expr.nn]at n;exact aKZ _ _ _ _ _ _ _ _ _ (by have:=Expr.mH args;omega) λx h=>ada x (by have:=Expr.rV args _ h;omega)termination_by e=>pB e decreasing_by simp_wf;have:=pr h;omega
def Expr.nC(e:Expr):Int:=bif aA 64 (.ofNat e.nn)then 5 else bif aA 12 (.ofNat e.dep)then 12 else e.wg
theorem HE(e:Expr)(n:e.nn<100000000):CC 206 [.agg e.cells] (vI e.nC):=by refine aO func206 ?_;simp only[go_sem,f206,ac9 e n,Expr.nC];repeat'(with_reducible apply sp<;>intro h<;>simp only[h,ada e n,go_sem])
def fP:ao->Nat->Nat->SV|[],_,_=>.dv .nl .any|a::l,e,n=>.dv (.ay (a::l) e n) (.ex e)
theorem xG{n:Nat}:fP [] e n=.dv .nl .any:=rfl
theorem N8{a:DV}{n:Nat}:fP (a::l) e n=.dv (.ay (a::l) e n) (.ex e):=rfl
theorem alO{n b:Nat}{o:aM}(a:n≠0)(h:b<=1200000):fu e n b .nl o [v]=J (.ay [v] e n,.ex e):=by grind[fu,kS,bm,nw]
theorem alN{n b:Nat}(d:n≠0)(a:b<=1000)(c:l.length<1200000):fu e n b (.ay l e n) (.ex e) [v]=J (.ay (l++[v]) e n,.ex e):=by have h:(l.length+1)*b<=1200000*1000:=qz ab a;grind[p8,bm]
theorem aAj{n:Nat}:nd (.ay l e n)=J l.length:=(rfl)
theorem aAH{t:an}{l:ao}(h:AM.isAgg P t=J C):fF P .take t ⟨l,[]⟩ I=(l[I]?).bind λd=>J (.dv d (ua d),⟨l,[]⟩):=by
 unfold fF;rw[h];rcases e:l[I]? with _|c;.rfl
 unfold eu;rw[show(⟨_,[]⟩:LB).cells[I]?=J c from e];cases c<;>rfl
theorem aFw{k:fR}{n:Int}:ua (.int k n)=.no:=rfl
theorem aFy{s:aC}:ua (.str s)=.no:=rfl
theorem aFu{b:Bool}:ua (.bool b)=.no:=rfl
theorem aFt:ua (.agg l)=.no:=rfl
theorem aFv{a b:ao}:ua (.func f a b)=.no:=rfl
theorem atC:bF PP 321 0=J (22,0):=aL
theorem atD:bF PP 321 1=J (72,1):=aL
theorem atz:bF PP 265 0=J (22,0):=aL
theorem atA:bF PP 265 1=J (72,1):=aL
theorem atB:bF PP 265 2=J (3,2):=aL
def OW:SV->ah (ao×an×Nat)|.dv (.ay l e n) (.ex _)=>J (l,e,n)|_=>Z
theorem TP{n:Nat}{a:cX}:nF ⟨fn,n,a,lb,g⟩ s=(look a s).bind OW:=by show(match look a s with|some (.dv (.ay l e n) (.ex _))=>J _|_=>Z)=_;cases look a s with|none=>rfl|some v=>cases v with|dv d o=>cases d<;>cases o<;>rfl|_=>rfl
theorem arP{a n:Nat}:OW (.dv (.ay l e n) (.ex a))=J (l,e,n):=(rfl)
theorem aqj{n:Int}:aj n n=V:=by simp[iZ]
theorem als{a:α}{p:α->Bool}:[a].all p=p a:=aP
theorem aAK{t:an}{i:Nat}{l:cX}{d:ah Tmp}:Mh P t u ⟨fn,m,l,lb,g⟩ d (.se s i I)=((look l s).bind OW).bind λx=>(x.1[i]?).bind λv=>(jr P t v.flat I).bind λv=>aG ⟨fn,m,l,lb,g⟩ d (.dv v .no):=by show(nF _ s).bind _=_;rw[TP]
attribute[go_sem]aAK als aqj TP arP aAH aFw aFy aFu aFt aFv atC atD atz atA atB aAj xG N8 alO alN Nat.reduceLeDiff
def Sat(x:ah bh)(Q:SV->GH->Prop):Prop:=∃v g,x=J (.val v g)/\Q v g
theorem akZ{v:SV}:Sat (J (.val v g)) Q=Q v g:=propext ⟨λ⟨_,_,h,k⟩=>ai,λh=>⟨_,_,rfl,h⟩⟩
theorem gV{c:bU}(h:z=V->Sat (kg P c rec ψ) Q)(a:z=C->Sat (kg P c rec ω) Q):Sat (bif z then W P c rec ψ else W P c rec ω) Q:=by
 cases z;.exact a rfl
 .exact h rfl
theorem np{c:bU}{n:Nat}{b:Func}{d:bM}{r:List oK}{a:ao}(i:P.funcs[f]?=J b)(h:Sat (exec P c (ev P c) Z d ⟨f,n,uu 0 ow a,[],g⟩ (B6 P r)) Q)(e:b.body=J d:=by rfl)(k:b.results=⟨r⟩:=by rfl)(t:b.ntmps=n:=by rfl)(p:c.iU f a=Z:=by rfl)(j:(yx (r.map vY)&&bt a.length n&&!c.AI f)=V:=by rfl):Sat (ev P c (.call f a ow g)) Q:=by obtain⟨v,g',h,q⟩:=h;exact⟨v,g',aO i h e k t p j,q⟩
theorem lpQ{d:Type}{b:bM}{t:Tg b}{r:ah Nat}{k:eF->ah bh}{j:St}(a:List α)(f:d)(S:Nat->d->St)(I:Nat->List α->d->Prop)(A:a.length<9223372036854775807)(e:S 0 f=j)(z:I 0 a f)(n:∀s,I a.length [] s->Sat ((exec PP cf (ev PP cf) r b (S a.length s) (nh PP cf (.mk b t) r)).bind (fI k)) Q)(o:∀i x l s,(i<a.length)=True->a[i]?=J x->dN .i64 (kh (dk i) 1)=dk (i+1)->I i (x::l) s->(∀c,I (i+1) l c->Sat ((ld (ev PP cf) (.mk b t) (S (i+1) c) r).bind (fI k)) Q)->Sat ((exec PP cf (ev PP cf) r b (S i s) (nh PP cf (.mk b t) r)).bind (fI k)) Q):Sat ((ld (ev PP cf) (.mk b t) j r).bind (fI k)) Q:=by
 have y:∀(l:List α)(i:Nat)(s:d),i+l.length=a.length->a.drop i=l->I i l s->Sat ((ld (ev PP cf) (.mk b t) (S i s) r).bind (fI k)) Q:=by intro l;induction l with|nil=>intro i s p _ h;obtain rfl:i=a.length:=ab;obtain⟨v,g,h,q⟩:=n s h;grind[ik]|cons x l w=>
  intro i s p hd h;have E:i<a.length:=ai;have u:a[i]?=J x:=by grind[G1]
  obtain⟨v,g,h,q⟩:=o i x l s (ir E) u (vi ab) h λc m=>w (i+1) c ai (by grind[D5]) m;exact⟨v,g,ik h,q⟩
 grind
theorem Aj{f:Type}{b:bM}{t:Tg b}{r:ah Nat}{k:eF->ah bh}{a:St}(c:List α)(d:f)(u:Nat->f->cX)(g:f->GH)(I:Nat->List α->f->Prop)(o:c.length<9223372036854775807)(e:fo a.sl (u 0 d)=a.sl)(p:g d=a.g)(n:I 0 c d)(j:∀s,I c.length [] s->Sat ((exec PP cf (ev PP cf) r b ⟨a.fn,a.n,fo a.sl (u c.length s),a.lb,g s⟩ (nh PP cf (.mk b t) r)).bind (fI k)) Q)(m:∀i x l s,(i<c.length)=True->c[i]?=J x->dN .i64 (kh (dk i) 1)=dk (i+1)->I i (x::l) s->(∀h,I (i+1) l h->Sat ((ld (ev PP cf) (.mk b t) ⟨a.fn,a.n,fo a.sl (u (i+1) h),a.lb,g h⟩ r).bind (fI k)) Q)->Sat ((exec PP cf (ev PP cf) r b ⟨a.fn,a.n,fo a.sl (u i s),a.lb,g s⟩ (nh PP cf (.mk b t) r)).bind (fI k)) Q):Sat ((ld (ev PP cf) (.mk b t) a r).bind (fI k)) Q:=lpQ c d (λi s=>⟨a.fn,a.n,fo a.sl (u i s),a.lb,g s⟩) I o aT n j m
theorem VC{c:Type}(n:Nat)(x:c)(m:Nat):∀l:List (Nat×c),look (put l n x) m=if m=n then J x else look l m
 |[]=>by
  show(bif aw n m then J x else Z)=_;by_cases h:m=n;.rw[if_pos h,h,show aw n n=V from pw n];rfl
  .rw[if_neg h,kS (λe=>h e.symm)];rfl|(a,y)::t=>by
  show look (bif aw a n then(n,x)::t else(a,y)::put t n x) m=_;by_cases b:a=n
  . subst b;rw[show aw a a=V from pw a];show(bif aw a m then J x else look t m)=if m=a then J x else(bif aw a m then J y else look t m);by_cases h:m=a;.rw[if_pos h,h,show aw a a=V from pw a];rfl
    .rw[if_neg h,kS (λe=>h e.symm)];rfl
  . rw[kS b];show(bif aw a m then J y else look (put t n x) m)=if m=n then J x else(bif aw a m then J y else look t m);rw[VC n x m t];by_cases h:m=n;.rw[if_pos h,if_pos h,kS (λe=>b (e.trans h))];rfl
    .rw[if_neg h,if_neg h]
theorem dM{o:GO}:(g.alloc o).next=g.next+1:=rfl
theorem gO{i:Nat}{o:GO}:(g.set i o).next=g.next:=rfl
theorem km{o:GO}{i:Nat}:(g.alloc o).get i=if i=g.next then J o else g.get i:=VC _ _ _ _
theorem kU{o:GO}{i j:Nat}:(g.set j o).get i=if i=j then J o else g.get i:=VC _ _ _ _
def Hi(k:Nat)(g a:GH):Prop:=g.next<=a.next/\∀i,k<=i->i<g.next->a.get i=g.get i
def Lo(k:Nat)(g a:GH):Prop:=g.next<=a.next/\∀i,i<k->a.get i=g.get i
theorem Hi.refl:Hi k g g:=⟨bS _,λ_ _ _=>rfl⟩
def Hi.trans{a b c:GH}(h:Hi k a b)(d:Hi k b c):Hi k a c:=⟨gw h.1 d.1,λi e j=>(d.2 i e (gx j h.1)).trans (h.2 i e j)⟩
theorem Lo.refl:Lo k g g:=⟨bS _,λ_ _=>rfl⟩
def Lo.trans{a b c:GH}(h:Lo k a b)(d:Lo k b c):Lo k a c:=⟨gw h.1 d.1,λi e=>(d.2 i e).trans (h.2 i e)⟩
theorem Lo.mono{l:Nat}{a b:GH}(h:Lo k a b)(d:l<=k):Lo l a b:=⟨h.1,λi c=>h.2 i ab⟩
theorem Hi.mono{l:Nat}{a b:GH}(h:Hi k a b)(d:k<=l):Hi l a b:=⟨h.1,λi c j=>h.2 i ab j⟩
theorem Lo.alloc{o:GO}(h:k<=g.next):Lo k g (g.alloc o):=⟨by simp[dM],λi a=>by grind[km]⟩
theorem Hi.alloc{o:GO}:Hi k g (g.alloc o):=⟨by simp[dM],λi _ h=>by grind[km]⟩
theorem Lo.set{i:Nat}{o:GO}(h:k<=i):Lo k g (g.set i o):=⟨bS _,λj a=>by grind[kU]⟩
theorem Hi.set{i:Nat}{o:GO}(h:i<k):Hi k g (g.set i o):=⟨bS _,λj a _=>by grind[kU]⟩
def Hi.sa{o:GO}(h:Hi k g g'):Hi k g (g'.alloc o):=h.trans Hi.alloc
def Hi.sl{i:Nat}{o:GO}(a:i<k)(h:Hi k g g'):Hi k g (g'.set i o):=h.trans (Hi.set a)
theorem Hi.sg{i:Nat}{o:GO}(c:g.next<=i)(h:Hi k g g'):Hi k g (g'.set i o):=⟨h.1,λj a b=>by rw[kU,if_neg ab];exact h.2 j a b⟩
theorem oo(h:Hi k g g':=by repeat(first|exact Hi.refl|refine Hi.sa ?_|refine Hi.sl ab ?_|refine Hi.sg (by first|exact bS _|omega|(simp only[dM,gO];omega)) ?_)):Hi k g g':=h
theorem tE{z:Int}(h:aj z 0=V):z=0:=by grind[iZ]
section
variable{X σ:Type}
def cP(t:X->σ->ah bM×σ):List X->σ->ah bM×σ|[],s=>(Z,s)|x::l,s=>match(t x s).1 with|none=>cP t l (t x s).2|some c=>(J c,(t x s).2)
theorem xZ(t:X->σ->ah bM×σ):∀(a b:List X)(s:σ),cP t (a++b) s=match(cP t a s).1 with|none=>cP t b (cP t a s).2|some c=>(J c,(cP t a s).2)
 |[],_,_=>rfl|x::a,b,s=>by simp only[lS,cP];cases h:(t x s).1 with|none=>exact xZ t a b _|some c=>rfl
theorem vu(t:X->σ->ah bM×σ)(x:X)(l:List X)(s:σ):cP t (x::l) s=match(t x s).1 with|none=>cP t l (t x s).2|some c=>(J c,(t x s).2):=rfl
def tx(t:X->σ->ah bM×σ)(b:List X)(a:σ)(x:X)(s:σ):Prop:=∃pre post,b=pre++x::post/\cP t pre a=(Z,s)
theorem tx.mem{t:X->σ->ah bM×σ}{c:List X}{d s:σ}{x:X}(h:tx t c d x s):x∈c:=by obtain⟨a,b,rfl,_⟩:=h;simp
structure Cu(enc:X->ao)(ok:X->σ->Prop)(n k:Nat)(rel:ah bM->σ->GH->Prop)(step:X->σ->ah bM×σ):Prop where
 run:∀x s g,ok x s->rel Z s g->k<=g.next->∃g',ev PP cf (.dU n (enc x) g)=J (.val (.dv (.bool (step x s).1.isNone) .no) g')/\rel (step x s).1 (step x s).2 g'/\Hi k g g'
 stay:∀c s g g',rel c s g->Lo k g g'->rel c s g'
def wu(e:X->ao)(h:Nat)(f b:ao)(a:GH->Prop)(x:List X):Prop:=∀(n k:Nat)(σ:Type)(r:ah bM->σ->GH->Prop)(step:X->σ->ah bM×σ)(s:σ),Cu e (tx step x s) n k r step->(∀c s g,r c s g->a g)->∀g,r Z s g->k<=g.next->∃g',ev PP cf (.call h (f++[.dU n]++b) .no g)=J (.val (.tp []) g')/\r (cP step x s).1 (cP step x s).2 g'/\Hi k g g'
end
def tY(f n:Nat)(l:cX)(s:List Tmp)(a b:Hd bM)(t:LoopState)(p:ah bM):GO:=.loop ⟨t,p,f,n,l,s,a.get,b.get⟩
def HA(k:eF->ah bh)(s:St):ah bM->ah bh|none=>k (.fG s)|some .ret=>k (.rt s)|some (.exit id)=>k (.ext id s)|_=>Z
def Rh(P:aH)(f:bU)(e:dR)(d:ah Nat)(p:List Tmp)(a b:Hd bM)(s:St)(k:eF->ah bh):DV->ah bh
 |.func h first c=>bif(f.iU h (first++[.dU s.g.next]++c)).isSome||!(Au d s.g)then Z else(e (.call h (first++[.dU s.g.next]++c) .no (s.g.alloc (tY s.fn s.n (mf s.sl) p a b .ready Z)))).bind λ|.val _ g=>(match g.get s.g.next with|some (.loop r)=>(match r.state with|.busy=>Z|_=>HA k {s with sl:=cN s.sl,g:=g.set s.g.next (.loop {r with state:=.exhausted})} r.pending)|_=>Z)|_=>Z
 |_=>Z
theorem asw{d:bU}{r:ah Nat}{s:St}{k:eF->ah bh}{f:aK}{a b:bM}:exec P d rec r (.rangeFunc f ⟨ps⟩ a b) s k=(bj d.aq s f).bind (Rh P d rec r ps (.mk a (.mk a)) (.mk b (.mk b)) s k):=by show(match bj d.aq s f with|some (.func h first c)=>_|_=>Z)=_;cases bj d.aq s f with|none=>rfl|some v=>cases v with|func h first c=>show(bif _ then Z else sD _ _)=(bif _ then Z else sD _ _);congr 1|_=>rfl
def M7(l:Nat):eF->ah bh|.fG st=>wK l st Z|.rt st=>wK l st (J .ret)|.ext id st=>wK l st (J (.exit id))
def SH(P:aH)(c:bU)(r:dR)(l:Nat)(b:Hd bM):eF->ah bh|.fG st=>(match st.g.get l with|some (.loop r1)=>(match r1.state with|.ready=>exec P c r (J l) b.get {st with sl:=cN st.sl,g:=st.g.set l (.loop {r1 with state:=.busy})} (M7 l)|_=>Z)|_=>Z)|_=>Z
theorem arJ{l n:Nat}{s:ao}{c:cX}{a b:bM}{t:Tg a}{u:Tg b}(d:g.get l=J (tY fn n c ps (.mk a t) (.mk b u) .ready Z))(e:(aw s.length ps.length&&ps.all (λp=>ct p n))=V)(h:exec PP cf (ev PP cf) (J l) a ⟨fn,n,Cb ps s c,[],g⟩ (SH PP cf (ev PP cf) l (.mk b u))=J r):ev PP cf (.dU l s g)=J r:=by apply KQ;show(match g.get l with|some (.loop r)=>_|_=>Z)=_;rw[d];show(bif aw s.length ps.length&&ps.all (λp=>ct p n)then _ else Z)=_;rw[e];exact h
theorem Ay{l n:Nat}{r:ao}{s:cX}{a b:bM}{t:Tg a}{u:Tg b}(c:g.get l=J (tY fn n s ps (.mk a t) (.mk b u) .ready Z))(d:(aw r.length ps.length&&ps.all (λp=>ct p n))=V)(h:Sat (exec PP cf (ev PP cf) (J l) a ⟨fn,n,Cb ps r s,[],g⟩ (SH PP cf (ev PP cf) l (.mk b u))) Q):Sat (ev PP cf (.dU l r g)) Q:=by obtain⟨v,g',h,q⟩:=h;exact⟨v,g',arJ c d h,q⟩
section
variable{P:aH}{cf:bU}{rec:dR}{l f m fn n:Nat}{s sl:cX}{ps:List Tmp}{a c:Hd bM}{b:bM}{u:Tg b}{lb:dV}{g:GH}{sta:LoopState}{pd:ah bM}{k:eF->ah bh}{O:St}
def abl(P:aH)(c:bU)(r:dR)(l:Nat)(b:Hd bM)(s:St):GO->ah bh|.loop r1=>(match r1.state with|.ready=>exec P c r (J l) b.get {s with sl:=cN s.sl,g:=s.g.set l (.loop {r1 with state:=.busy})} (M7 l)|_=>Z)|_=>Z
theorem al3:SH P cf rec l (.mk b u) (.fG ⟨fn,n,sl,lb,g⟩)=(g.get l).bind (abl P cf rec l (.mk b u) ⟨fn,n,sl,lb,g⟩):=by
 show(match g.get l with|some (.loop r1)=>_|_=>Z)=_;rcases g.get l with _|o;.rfl
 cases o<;>rfl
theorem al2:abl P cf rec l (.mk b u) ⟨fn,n,sl,lb,g⟩ (tY f m s ps a c .ready pd)=exec P cf rec (J l) b ⟨fn,n,cN sl,lb,g.set l (tY f m s ps a c .busy pd)⟩ (M7 l):=(rfl)
def uD(l:Nat)(g:GH)(p:ah bM):GO->ah bh|.loop r=>J (.val (.dv (.bool p.isNone) .no) (g.set l (.loop {r with state:=(match p with|none=>.ready|some _=>.done),pending:=p})))|_=>Z
theorem adR{p:ah bM}:wK l ⟨fn,n,sl,lb,g⟩ p=(g.get l).bind (uD l g p):=by
 show(match g.get l with|some (.loop r)=>_|_=>Z)=_;rcases g.get l with _|o;.rfl
 cases o<;>rfl
theorem aHO:M7 l (.fG ⟨fn,n,sl,lb,g⟩)=(g.get l).bind (uD l g Z):=adR
theorem aHP:M7 l (.rt ⟨fn,n,sl,lb,g⟩)=(g.get l).bind (uD l g (J .ret)):=adR
theorem asT:uD l g Z (tY f m s ps a c sta pd)=J (.val (.dv (.bool V) .no) (g.set l (tY f m s ps a c .ready Z))):=(rfl)
theorem asU{p:bM}:uD l g (J p) (tY f m s ps a c sta pd)=J (.val (.dv (.bool C) .no) (g.set l (tY f m s ps a c .done (J p)))):=(rfl)
theorem set_set{l:Nat}{o a:GO}:(g.set l o).set l a=g.set l a:=by
 have:∀t:List (Nat×GO),put (put t l o) l a=put t l a:=by intro t;induction t<;>grind[pw,put]
 show(⟨g.next,put (put g.kb l o) l a⟩:GH)=⟨g.next,put g.kb l a⟩;grind
theorem ap4:HA k O Z=k (.fG O):=(rfl)
theorem ap5:HA k O (J .ret)=k (.rt O):=(rfl)
end
theorem aGa:mf []=[]:=rfl
theorem aGb{d:DV}{l:cX}:mf ((t,.dv d .no)::l)=(t,.dv d .no)::mf l:=rfl
theorem aF4{d:DV}{l:cX}:mf ((t,.dv d .any)::l)=(t,.dv d .any)::mf l:=rfl
theorem aF7{d:DV}{l:cX}:mf ((t,.ev d)::l)=(t,.ev d)::mf l:=rfl
theorem aF8{d:DV}{l:cX}:mf ((t,.dv d (.ex e))::l)=(t,.dd)::mf l:=rfl
theorem aF9{b:Nat}{l:cX}:mf ((t,.lp a b)::l)=(t,.dd)::mf l:=rfl
theorem aF5{l:cX}:mf ((t,.dd)::l)=(t,.dd)::mf l:=rfl
theorem aIZ{d:ao}{s:cX}:Cb [] d s=s:=by cases d<;>rfl
theorem aIY{p:Nat}{a:aC}{d:DV}{s:ao}{l:cX}:Cb (p::a) (d::s) l=Cb a s (put l p (.dv d .no)):=rfl
attribute[go_sem]al2 asT asU set_set al3 aHO aHP ap4 ap5 aGa aGb aF4 aF7 aF8 aF9 aF5 aIZ aIY asw akZ dM gO
attribute[go_sem]km kU
theorem ang{c:bU}{s:St}{o:Op}{a:List aK}{i:Nat}:Oj c rec s o x a (.dU i)=(opsV c.aq (cZ s (handsOn o)) a).bind λar=>(rec (.dU i ar (cZ s (handsOn o)).g)).bind λ|.val v g=>J ({cZ s (handsOn o)with g:=g},v)|_=>Z:=(rfl)
theorem aiA{c:Type}{n:Nat}{x:c}:∀{l:List (Nat×c)},look l n=J x->put l n x=l
 |[],h=>by cases h|(a,y)::t,h=>by
  show(bif aw a n then(n,x)::t else(a,y)::put t n x)=_;by_cases b:a=n
  . subst b;have:look ((a,y)::t) a=J y:=by show(bif aw a a then J y else look t a)=_;rw[show aw a a=V from pw a];rfl
    rw[this]at h;cases h;rw[show aw a a=V from pw a];rfl
  . have:look ((a,y)::t) n=look t n:=by show(bif aw a n then J y else look t n)=_;rw[kS b];rfl
    rw[this]at h;rw[kS b,aiA h];rfl
theorem ZE{i:Nat}{o:GO}(h:g.get i=J o):g.set i o=g:=by show(⟨g.next,put g.kb i o⟩:GH)=g;rw[aiA h]
def rQ(P:aH)(t:an)(u:iK)(s:St)(d:ah Tmp)(i o:Nat):GO->ah St|.box b=>(match u,eu b o,AM.isAgg P t with|.ref,.ex _,J C=>bif ct o b.cells.length then aG s d (.gr i o)else Z|_,_,_=>(fF P u t b o).bind λr=>aG {s with g:=s.g.set i (.box r.2)} d r.1)|_=>Z
theorem aAL{t:an}{n:Nat}{s:cX}{d:ah Tmp}{i:Nat}{o:aM}:Mh P t u ⟨fn,n,s,lb,g⟩ d (.dv (.ptr i I) o)=(g.get i).bind (rQ P t u ⟨fn,n,s,lb,g⟩ d i I):=by
 show(match g.get i with|some (.box b)=>_|_=>Z)=_;rcases g.get i with _|o;.rfl
 cases o<;>rfl
theorem aAG{t:an}{e:ao}:∀r,fF P u t ⟨e,[]⟩ I=J r->r.2=⟨e,[]⟩:=by
 intro r hr;unfold fF at hr;rcases b:AM.isAgg P t with _|a;.grind
 rw[b]at hr;cases a with|true=>cases s:aW P t<;>grind|false=>
 rcases h:e[I]? with _|c;.grind
 simp only[h,gJ,wx]at hr;rw[<-hr];unfold eu;simp only[h];cases c<;>cases u<;>rfl
theorem az7{t:an}{n:Nat}{s:cX}{d:ah Tmp}{i:Nat}{e:ao}:rQ P t u ⟨fn,n,s,lb,g⟩ d i I (.box ⟨e,[]⟩)=(fF P u t ⟨e,[]⟩ I).bind λr=>aG ⟨fn,n,s,lb,g.set i (.box ⟨e,[]⟩)⟩ d r.1:=by
 have h:(fF P u t ⟨e,[]⟩ I).bind (λr=>aG ⟨fn,n,s,lb,g.set i (.box r.2)⟩ d r.1)=(fF P u t ⟨e,[]⟩ I).bind λr=>aG ⟨fn,n,s,lb,g.set i (.box ⟨e,[]⟩)⟩ d r.1:=by grind[fF,aAG]
 refine Eq.trans ?_ h;have:eu ⟨e,[]⟩ I=.any\/eu ⟨e,[]⟩ I=.no:=by
  unfold eu;rcases(⟨e,[]⟩:LB).cells[I]? with _|c;.exact .inr rfl
  cases c<;>first|exact .inl rfl|exact .inr rfl
 show(match u,eu ⟨e,[]⟩ I,AM.isAgg P t with|.ref,.ex _,J C=>_|_,_,_=>_)=_;grind
def stK(P:aH)(t:an)(s:St)(d:ah Tmp)(x:aK)(v:DV)(w:aM)(i o:Nat):GO->ah St|.box b=>(yP P t b o v w).bind λb=>aG {aQ leave s x with sl:=cN (aQ leave s x).sl,g:=s.g.set i (.box b)} d (.tp [])|_=>Z
theorem aKG{t:an}{n:Nat}{s:cX}{d:ah Tmp}{o:aM}{i:Nat}:RF P t ⟨fn,n,s,lb,g⟩ d x v ow (.dv (.ptr i I) o)=(g.get i).bind (stK P t ⟨fn,n,s,lb,g⟩ d x v ow i I):=by
 show(match g.get i with|some (.box b)=>_|_=>Z)=_;rcases g.get i with _|o;.rfl
 cases o<;>rfl
theorem aKm{t:an}{n:Nat}{s:cX}{d:ah Tmp}{i:Nat}{b:LB}:stK P t ⟨fn,n,s,lb,g⟩ d x v ow i I (.box b)=(yP P t b I v ow).bind λb=>aG {aQ leave ⟨fn,n,s,lb,g⟩ x with sl:=cN (aQ leave ⟨fn,n,s,lb,g⟩ x).sl,g:=g.set i (.box b)} d (.tp []):=(rfl)
theorem aCd{n:Nat}{l:List (Nat×GO)}:(GH.mk n l).next=n:=rfl
theorem al1{a b:List α}:((⟨a⟩:Array α)++(⟨b⟩:Array α)).toList=a++b:=aP
def SY(P:aH)(s:St)(a t i o:Nat):GO->ah ((DV×aM)×St)|.box b=>(fF P .take t b o).bind λr=>(aG {s with g:=s.g.set i (.box r.2)} (J a) r.1).bind λs=>u7 s a|_=>Z
def SZ(P:aH)(c:St)(a t:Nat):SV->ah ((DV×aM)×St)|.lp s I=>(look c.lb s).bind λb=>(fF P .take t b I).bind λr=>(aG {c with lb:=put c.lb s r.2} (J a) r.1).bind λc=>u7 c a|.dv (.ptr id I) _=>(c.g.get id).bind (SY P c a t id I)|_=>Z
theorem aHz{c:St}:Jg P c (.cell a t)=(look c.sl a).bind (SZ P c a t):=by show(match look c.sl a with|some (.lp s I)=>_|some (.dv (.ptr id I) _)=>_|_=>Z)=_;cases look c.sl a with|none=>rfl|some v=>cases v with
 |dv d o=>cases d with
  |ptr id I=>
  show(match c.g.get id with|some (.box b)=>_|_=>Z)=(c.g.get id).bind _;rcases c.g.get id with _|o;.rfl
  cases o<;>rfl|_=>rfl
 |_=>rfl
theorem anH{c:St}:SZ P c a t (.lp s I)=(look c.lb s).bind λb=>(fF P .take t b I).bind λr=>(aG {c with lb:=put c.lb s r.2} (J a) r.1).bind λc=>u7 c a:=(rfl)
theorem anI{s:St}{i:Nat}{o:aM}:SZ P s a t (.dv (.ptr i I) o)=(s.g.get i).bind (SY P s a t i I):=(rfl)
theorem anG{s:St}{i:Nat}{b:LB}:SY P s a t i I (.box b)=(fF P .take t b I).bind λr=>(aG {s with g:=s.g.set i (.box r.2)} (J a) r.1).bind λs=>u7 s a:=(rfl)
attribute[go_sem]aCd al1 aHz anH anI anG ang aAL az7 aKG aKm ZE
def ldS:ah bM->LoopState|none=>.ready|some _=>.done
theorem Av{X j:Type}{i:X->ao}{h:Nat}{y o:ao}{w:GH->Prop}{f:List X}(D:wu i h y o w f){F:ah Nat}{a b:bM}{t:Tg a}{u:Tg b}{n:Nat}{l:cX}{k:eF->ah bh}(p:X->j->ah bM×j)(R:ah bM->j->GH->Prop)(d:j)(I:∀m,cf.iU h (y++[.dU m]++o)=Z)(N:Au F g=V)(B:R Z d g)(L:∀c s g',R c s g'->w g')(U:∀c s g1 g2,R c s g1->Lo g.next g1 g2->R c s g2)(M:∀x s g1,tx p f d x s->R Z s g1->g.next<g1.next->g1.get g.next=J (tY fn n (mf l) ps (.mk a t) (.mk b u) .ready Z)->Sat (ev PP cf (.dU g.next (i x) g1)) λv g2=>v=.dv (.bool (p x s).1.isNone) .no/\R (p x s).1 (p x s).2 g2/\Hi (g.next+1) g1 g2/\g2.get g.next=J (tY fn n (mf l) ps (.mk a t) (.mk b u) (ldS (p x s).1) (p x s).1))(O:∀g1,R (cP p f d).1 (cP p f d).2 g1->g.next<g1.next->Sat (HA k ⟨fn,n,cN l,lb,g1⟩ (cP p f d).1) Q):Sat (Rh PP cf (ev PP cf) F ps (.mk a t) (.mk b u) ⟨fn,n,l,lb,g⟩ k (.func h y o)) Q:=by
 let A:ah bM->j->GH->Prop:=λc s g1=>R c s g1/\g.next<g1.next/\g1.get g.next=J (tY fn n (mf l) ps (.mk a t) (.mk b u) (ldS c) c);have H:Cu i (tx p f d) g.next (g.next+1) A p:=by
  constructor;.intro x s g1 K hr _;obtain⟨_,g2,e,rfl,r,G,z⟩:=M x s g1 K hr.1 hr.2.1 hr.2.2;exact⟨g2,e,⟨r,gx hr.2.1 G.1,z⟩,G⟩
  .intro c s g1 g2 hr z;exact⟨U _ _ _ _ hr.1 (z.mono (J4 _)),gx hr.2.1 z.1,(z.2 _ (G7 _)).trans hr.2.2⟩
 obtain⟨g1,e,hr,_⟩:=D g.next (g.next+1) j A p d H (λc s g' h=>L c s g' h.1) (g.alloc (tY fn n (mf l) ps (.mk a t) (.mk b u) .ready Z)) ⟨U _ _ _ _ B (Lo.alloc (bS _)),G7 _,by rw[km,if_pos rfl];rfl⟩ (bS _);have E:=hr.2.2;obtain⟨v,g3,e3,q⟩:=O (g1.set g.next (tY fn n (mf l) ps (.mk a t) (.mk b u) .exhausted (cP p f d).1)) (U _ _ _ _ hr.1 (Lo.set (bS _))) hr.2.1;refine⟨v,g3,?_,q⟩;refine Eq.trans ?_ e3;show(bif(cf.iU h (y++[.dU g.next]++o)).isSome||!(Au F g)then Z else(ev PP cf (.call h (y++[.dU g.next]++o) .no (g.alloc (tY fn n (mf l) ps (.mk a t) (.mk b u) .ready Z)))).bind _)=_;rw[I,N,e];show(match g1.get g.next with|some (.loop r)=>_|_=>Z)=_;rw[E];cases(cP p f d).1<;>rfl
section
variable{P:aH}{cf:bU}{rec:dR}{O:St}{gs cr:aC}{l:List aB}{d:ah Tmp}{ty:an}{pos:String}{af:Array Go.Edge}{wh:ah (Nat×Bool)}{x y:aK}{t u:an}{ts:Array an}
def agW(s:St)(d:ah Tmp):DV->DV->ah St|.int k a,.int _ b=>aG s d (.dv (.int k (bif aA b a then b else a)) .no)|_,_=>Z
theorem akP:dG P cf rec gs cr l O ⟨d,.call ⟨.builtin .min,⟨[x,y]⟩,ts⟩,ty,pos,af,wh⟩=(bj cf.aq O x).bind λa=>(bj cf.aq O y).bind (agW O d a):=by
 show((bj _ O x).bind λb=>((bj _ O y).bind _).bind _).bind _=_;rcases bj _ O x with _|a;.rfl
 rcases bj _ O y with _|b;.rfl
 cases a<;>cases b<;>rfl
theorem aBr{k c:fR}{a b:Int}:agW O d (.int k a) (.int c b)=aG O d (.dv (.int k (bif aA b a then b else a)) .no):=rfl
end
attribute[go_sem↓]akP
attribute[go_sem]aBr
theorem ag9:AM.isAgg PP 126=J V/\AM.isAgg PP 118=J V/\AM.isAgg PP 120=J V/\AM.isAgg PP 29=J V/\AM.isAgg PP 59=J V/\AM.isAgg PP 116=J C/\AM.isAgg PP 26=J C/\AM.isAgg PP 42=J C:=by and_intros<;>kernel_rfl
theorem st9:ia PP 126=J [(0,1),(1,1)]/\ia PP 118=J [(0,1),(1,1),(2,1),(3,1)]/\ia PP 120=J [(0,1),(1,1),(2,4)]/\ia PP 29=J [(0,1),(1,1),(2,1)]:=by and_intros<;>kernel_rfl
theorem sz9:aW PP 126=J 2/\aW PP 118=J 4/\aW PP 120=J 6/\aW PP 29=J 3/\aW PP 59=J 3/\aW PP 116=J 1/\aW PP 26=J 1/\aW PP 42=J 1:=by and_intros<;>kernel_rfl
theorem ia9:dL PP 126=J (2,16)/\dL PP 118=J (4,64)/\dL PP 120=J (6,80)/\dL PP 29=J (3,56)/\dL PP 59=J (3,24):=by and_intros<;>kernel_rfl
theorem zd9:cu PP 126=J (.agg [.int .i64 0,.int .i64 0])/\cu PP 118=J (.agg [.int .i64 0,.nl,.nl,.int .i64 0])/\cu PP 120=J (.agg [.int .i64 0,.int .i64 0,.int .i64 0,.nl,.nl,.int .i64 0])/\cu PP 29=J (.agg [.int .i64 0,.nl,.nl])/\cu PP 59=J (.agg [.int .i64 0,.int .i64 0,.int .i64 0])/\cu PP 116=J .nl/\cu PP 26=J .nl/\cu PP 42=J .nl:=by and_intros<;>kernel_rfl
theorem fp9:bF PP 126 0=J (3,0)/\bF PP 126 1=J (3,1)/\bF PP 118 0=J (3,0)/\bF PP 118 1=J (32,1)/\bF PP 118 2=J (116,2)/\bF PP 118 3=J (3,3)/\bF PP 120 0=J (3,0)/\bF PP 120 1=J (3,1)/\bF PP 120 2=J (118,2)/\bF PP 29 0=J (3,0)/\bF PP 29 1=J (26,1)/\bF PP 29 2=J (27,2):=by and_intros<;>kernel_rfl
attribute[go_sem]ag9 st9 sz9 ia9 zd9 fp9 Proofs.Tryz.underlying126 Proofs.Tryz.underlying118 Proofs.Tryz.underlying120 Proofs.Tryz.underlying29 Proofs.Tryz.underlying116 Proofs.Tryz.underlying26 Proofs.Tryz.underlying42 Proofs.Tryz.underlying59
set_option maxHeartbeats 1000000
structure cM where
 k:Int
 n:Int
 s:aC
structure aN where
 src:Int
 seq:Int
 ty:Int
 tm:Int
 lR:Sl cM
structure eD where
 v:Int
 a:Int
 b:Int
 c:Int
structure fK where
 sc:Int
 tm:Int
structure br where
 st:Int
 bs:Sl eD
 ss:Sl fK
structure ew where
 mark:Int
 wait:Sl aN
 runs:Sl br
 held:Sl aN
structure aF where
 q:Int
 key:cM
 e:ew
structure bG where
 marks:Sl Int
 keys:Sl aF
def cM.cells(v:cM):ao:=[iD v.k,iD v.n,.str v.s]
def cM.d(v:cM):DV:=.agg v.cells
def yV(s:Sl cM):DV:=bw s.nl (s.l.map cM.d) 46 3
def aN.cells(e:aN):ao:=[iD e.src,iD e.seq,iD e.ty,iD e.tm,yV e.lR]
def aN.d(e:aN):DV:=.agg e.cells
def de(s:Sl aN):DV:=bw s.nl (s.l.map aN.d) 80 5
def eD.cells(b:eD):ao:=[iD b.v,iD b.a,iD b.b,iD b.c]
def eD.d(b:eD):DV:=.agg b.cells
def ij(s:Sl eD):DV:=bw s.nl (s.l.map eD.d) 184 4
def fK.cells(b:fK):ao:=[iD b.sc,iD b.tm]
def fK.d(b:fK):DV:=.agg b.cells
def jQ(s:Sl fK):DV:=bw s.nl (s.l.map fK.d) 187 2
def br.cells(c:br):ao:=[iD c.st,ij c.bs,jQ c.ss]
def br.d(c:br):DV:=.agg c.cells
def mQ(s:Sl br):DV:=bw s.nl (s.l.map br.d) 178 3
def ew.cells(e:ew):ao:=[iD e.mark,de e.wait,mQ e.runs,de e.held]
def ew.d(e:ew):DV:=.agg e.cells
def aF.cells(k:aF):ao:=[iD k.q,iD k.key.k,iD k.key.n,.str k.key.s,iD k.e.mark,de k.e.wait,mQ k.e.runs,de k.e.held]
def aF.d(k:aF):DV:=.agg k.cells
def kx(s:Sl aF):DV:=bw s.nl (s.l.map aF.d) 52 8
def bG.cells(o:bG):ao:=[cE o.marks,kx o.keys]
def bG.d(o:bG):DV:=.agg o.cells
theorem aj3(s:Sl cM):(yV s).pure=V:=nN (gT (λ_=>rfl) _)
theorem aN.pure(e:aN):e.d.pure=V:=by simp[aN.d,aN.cells,DV.pure,cg,aj3]
theorem HG(s:Sl aN):(de s).pure=V:=nN (gT aN.pure _)
theorem abq(s:Sl eD):(ij s).pure=V:=nN (gT (λ_=>rfl) _)
theorem ajv(s:Sl fK):(jQ s).pure=V:=nN (gT (λ_=>rfl) _)
theorem br.pure(c:br):c.d.pure=V:=by simp[br.d,br.cells,DV.pure,cg,abq,ajv]
theorem Ks(s:Sl br):(mQ s).pure=V:=nN (gT br.pure _)
theorem ew.pure(e:ew):e.d.pure=V:=by simp[ew.d,ew.cells,DV.pure,cg,HG,Ks]
theorem aF.pure(e:aF):e.d.pure=V:=by simp[aF.d,aF.cells,DV.pure,cg,HG,Ks]
theorem agn(s:Sl aF):(kx s).pure=V:=nN (gT aF.pure _)
theorem bG.pure(e:bG):e.d.pure=V:=by simp[bG.d,bG.cells,DV.pure,cg,LX,agn]
theorem cM.qp(x:cM):x.d.aU=C:=rfl
theorem cM.pE(x:cM):x.d.flat=x.cells:=rfl
theorem cM.pD(x:cM):x.cells.length=3:=rfl
theorem aN.qp(x:aN):x.d.aU=C:=rfl
theorem aN.pE(x:aN):x.d.flat=x.cells:=rfl
theorem aN.pD(x:aN):x.cells.length=5:=rfl
theorem eD.qp(x:eD):x.d.aU=C:=rfl
theorem eD.pE(x:eD):x.d.flat=x.cells:=rfl
theorem eD.pD(x:eD):x.cells.length=4:=rfl
theorem fK.qp(x:fK):x.d.aU=C:=rfl
theorem fK.pE(x:fK):x.d.flat=x.cells:=rfl
theorem fK.pD(x:fK):x.cells.length=2:=rfl
theorem br.qp(x:br):x.d.aU=C:=rfl
theorem br.pE(x:br):x.d.flat=x.cells:=rfl
theorem br.pD(x:br):x.cells.length=3:=rfl
theorem ew.qp(x:ew):x.d.aU=C:=rfl
theorem ew.pE(x:ew):x.d.flat=x.cells:=rfl
theorem ew.pD(x:ew):x.cells.length=4:=rfl
theorem aF.qp(x:aF):x.d.aU=C:=rfl
theorem aF.pE(x:aF):x.d.flat=x.cells:=rfl
theorem aF.pD(x:aF):x.cells.length=8:=rfl
theorem bG.qp(x:bG):x.d.aU=C:=rfl
theorem bG.pE(x:bG):x.d.flat=x.cells:=rfl
theorem bG.pD(x:bG):x.cells.length=2:=rfl
attribute[go_sem]cM.qp cM.pE cM.pD aN.qp aN.pE aN.pD eD.qp eD.pE eD.pD fK.qp fK.pE fK.pD br.qp br.pE br.pD ew.qp ew.pE ew.pD aF.qp aF.pE aF.pD bG.qp bG.pE bG.pD
attribute[go_sem]aj3 aN.pure HG abq ajv br.pure Ks ew.pure aF.pure agn bG.pure
theorem Gm{c:bU}{r:ah bh}(a:z=V)(h:kg P c rec ψ=r):(bif z then W P c rec ψ else W P c rec ω)=r:=by subst a;exact h
theorem Jy{c:bU}{r:ah bh}(a:z=C)(h:kg P c rec ω=r):(bif z then W P c rec ψ else W P c rec ω)=r:=by subst a;exact h
def iB(a b:Int):Int:=bif aA a b then-1 else bif aA b a then 1 else 0
def cW(p:bh->Prop)(x:ah bh):Prop:=∃r,x=J r/\p r
section
variable{p:bh->Prop}
def cW.mk{x:ah bh}(e:x=J r)(h:p r):cW p x:=⟨r,e,h⟩
def bz:cW p (J r)=p r:=propext ⟨λ⟨_,h,k⟩=>bE h▸k,λh=>⟨r,rfl,h⟩⟩
theorem cW.mono{q:bh->Prop}{x:ah bh}(h:cW p x)(k:∀r,p r->q r):cW q x:=let⟨r,a,b⟩:=h;⟨r,a,k r b⟩
theorem cV{c:bU}(h:z=V->cW p (kg P c rec ψ))(a:z=C->cW p (kg P c rec ω)):cW p (bif z then W P c rec ψ else W P c rec ω):=by
 cases z;.exact a rfl
 .exact h rfl
theorem fY{c:bU}{n:Nat}{d:Func}{i:bM}{e:List oK}{s:ao}(k:P.funcs[f]?=J d)(h:cW p (exec P c (ev P c) Z i ⟨f,n,uu 0 ow s,[],g⟩ (B6 P e)))(j:d.body=J i:=by rfl)(o:d.results=⟨e⟩:=by rfl)(t:d.ntmps=n:=by rfl)(m:c.iU f s=Z:=by rfl)(l:(yx (e.map vY)&&bt s.length n&&!c.AI f)=V:=by rfl):cW p (ev P c (.call f s ow g)):=let⟨r,a,b⟩:=h;⟨r,aO k a j o t m l,b⟩
theorem ni{g:Type}{b:bM}{t:Tg b}{d:ah Nat}{k:eF->ah bh}{m:St}(c:List α)(j:g)(S:Nat->g->St)(I:Nat->List α->g->Prop)(A:c.length<9223372036854775807)(e:S 0 j=m)(z:I 0 c j)(o:∀s,I c.length [] s->cW p ((exec PP cf (ev PP cf) d b (S c.length s) (nh PP cf (.mk b t) d)).bind (fI k)))(q:∀i x l s,(i<c.length)=True->c[i]?=J x->dN .i64 (kh (dk i) 1)=dk (i+1)->I i (x::l) s->(∀f,I (i+1) l f->cW p ((ld (ev PP cf) (.mk b t) (S (i+1) f) d).bind (fI k)))->cW p ((exec PP cf (ev PP cf) d b (S i s) (nh PP cf (.mk b t) d)).bind (fI k))):cW p ((ld (ev PP cf) (.mk b t) m d).bind (fI k)):=by
 have y:∀(l:List α)(i:Nat)(s:g),i+l.length=c.length->c.drop i=l->I i l s->cW p ((ld (ev PP cf) (.mk b t) (S i s) d).bind (fI k)):=by intro l;induction l with|nil=>intro i s u _ h;obtain rfl:i=c.length:=ab;obtain⟨r,a,b⟩:=o s h;grind[ik]|cons x l w=>
  intro i s u hd h;have E:i<c.length:=ai;have v:c[i]?=J x:=by grind[G1]
  obtain⟨r,a,b⟩:=q i x l s (ir E) v (vi ab) h λf n=>w _ f ai (by grind[D5]) n;exact⟨r,ik a,b⟩
 grind
theorem tX{b:bM}{t:Tg b}{r:ah Nat}{k:eF->ah bh}{s:St}(a:List α)(u:Nat->cX)(f:a.length<9223372036854775807)(e:fo s.sl (u 0)=s.sl)(h:cW p ((exec PP cf (ev PP cf) r b ⟨s.fn,s.n,fo s.sl (u a.length),s.lb,s.g⟩ (nh PP cf (.mk b t) r)).bind (fI k)))(c:∀i x,(i<a.length)=True->a[i]?=J x->dN .i64 (kh (dk i) 1)=dk (i+1)->cW p ((ld (ev PP cf) (.mk b t) ⟨s.fn,s.n,fo s.sl (u (i+1)),s.lb,s.g⟩ r).bind (fI k))->cW p ((exec PP cf (ev PP cf) r b ⟨s.fn,s.n,fo s.sl (u i),s.lb,s.g⟩ (nh PP cf (.mk b t) r)).bind (fI k))):cW p ((ld (ev PP cf) (.mk b t) s r).bind (fI k)):=ni a () (λi _=>⟨s.fn,s.n,fo s.sl (u i),s.lb,s.g⟩) (λ_ _ _=>True) f aT trivial (λ_ _=>h) λi x l _ d g w _ j=>c i x d g w (j () trivial)
theorem Ml{b:bM}{t:Tg b}{r:ah Nat}{k:eF->ah bh}{s:St}(a:List α)(u:Nat->cX)(I:Nat->Prop)(j:a.length<9223372036854775807)(e:fo s.sl (u 0)=s.sl)(f:I 0)(c:I a.length->cW p ((exec PP cf (ev PP cf) r b ⟨s.fn,s.n,fo s.sl (u a.length),s.lb,s.g⟩ (nh PP cf (.mk b t) r)).bind (fI k)))(d:∀i x,(i<a.length)=True->a[i]?=J x->dN .i64 (kh (dk i) 1)=dk (i+1)->I i->(I (i+1)->cW p ((ld (ev PP cf) (.mk b t) ⟨s.fn,s.n,fo s.sl (u (i+1)),s.lb,s.g⟩ r).bind (fI k)))->cW p ((exec PP cf (ev PP cf) r b ⟨s.fn,s.n,fo s.sl (u i),s.lb,s.g⟩ (nh PP cf (.mk b t) r)).bind (fI k))):cW p ((ld (ev PP cf) (.mk b t) s r).bind (fI k)):=ni a () (λi _=>⟨s.fn,s.n,fo s.sl (u i),s.lb,s.g⟩) (λi _ _=>I i) j aT f (λ_ h=>c h) λi x l _ g m w h n=>d i x g m w h (λk=>n () k)
end
def BI(r:bh):Prop:=∃n,r=vI n
def Di(r:bh):Prop:=∃b,r=vB b
def qN{n:Int}:BI (vI n)=True:=ir ⟨n,rfl⟩
def uP{b:Bool}:Di (vB b)=True:=ir ⟨b,rfl⟩
section
variable{aq:Nat->ah ao}{O:St}{P:aH}{t:an}{a b c d:Nat}
theorem aEU:cU aq O (.const (.pointer Z))=J (.dv .eN .no):=rfl
theorem aIJ:DV.eN.aU=V:=rfl
theorem ath:(DV.map a).flat=[.map a]:=rfl
theorem ate:(DV.dY a b c d t).flat=[.dY a b c d t]:=rfl
theorem aIF:(DV.dY a b c d t).aU=V:=rfl
theorem aIH:(DV.map a).aU=V:=rfl
theorem atk:DV.eN.flat=[.eN]:=rfl
end
attribute[go_sem]aEU aIJ atk ath ate aIF aIH
section
variable{P:aH}{cf:bU}{rec:dR}{O:St}{gs cr:aC}{l:List aB}{d:ah Tmp}{ty t:an}{pos:String}{af:Array Go.Edge}{wh:ah (Nat×Bool)}{x k:aK}
def agJ(P:aH)(s:St)(d:ah Tmp)(t:an):ah (Nat×lq)->ah St|some (_,e)=>aG s d (.tp [(e.2.1,.no),(.bool V,.no)])|none=>(cu P t).bind λz=>aG s d (.tp [(z,.no),(.bool C,.no)])
theorem akM:dG P cf rec gs cr l O ⟨d,.lookup t x k V,ty,pos,af,wh⟩=(Mp (P.underlying t)).bind λq=>(bj cf.aq (cZ O (Op.lookup t x k V).operands.toList) x).bind λv=>(Fx v).bind λr=>(Fu (cZ O (Op.lookup t x k V).operands.toList).g r).bind λm=>(bj cf.aq (cZ O (Op.lookup t x k V).operands.toList) k).bind λa=>bif sU P q.1 a then(findD P q.1 a m.1 0).bind (agJ P (cZ O (Op.lookup t x k V).operands.toList) d q.2)else Z:=by show(match P.underlying t,bj _ (cZ O (Op.lookup t x k _).operands.toList) x with|some (.map b e),J (.map r)=>(match(cZ O (Op.lookup t x k _).operands.toList).g.get r with|some (.map s _)=>(bj _ _ k).bind _|_=>Z)|_,_=>Z)=_;cases P.underlying t with|none=>rfl|some w=>cases w with
 |map b e=>cases bj _ _ x with|none=>rfl|some v=>cases v with
  |map r=>
  simp only[Fx,Fu,Mp,cR];rcases(cZ O _).g.get r with _|o;.rfl
  cases o<;>rfl|_=>rfl
 |_=>rfl
end
attribute[go_sem↓]akM
attribute[go_sem]agJ
theorem RB{p:bh->Prop}{c:bU}(a:z=V)(h:cW p (kg P c rec ψ)):cW p (bif z then W P c rec ψ else W P c rec ω):=by subst a;exact h
theorem DJ{p:bh->Prop}{c:bU}(a:z=C)(h:cW p (kg P c rec ω)):cW p (bif z then W P c rec ψ else W P c rec ω):=by subst a;exact h
theorem ama(s:Sl eD):(ij s).aU=V:=Nf
theorem aJY(s:Sl fK):(jQ s).aU=V:=Nf
theorem arM(s:Sl aN):(de s).aU=V:=Nf
theorem abX(s:Sl br):(mQ s).aU=V:=Nf
theorem Hz{a:Bool}{n:Nat}:(bw a l e n).flat=[bw a l e n]:=by
 unfold bw;split;.cases a<;>rfl
 rfl
theorem al8(s:Sl eD):(ij s).flat=[ij s]:=Hz
theorem aJX(s:Sl fK):(jQ s).flat=[jQ s]:=Hz
theorem arL(s:Sl aN):(de s).flat=[de s]:=Hz
theorem abW(s:Sl br):(mQ s).flat=[mQ s]:=Hz
theorem aMn(s:Sl cM):(yV s).flat=[yV s]:=Hz
attribute[go_sem]al8 aJX arL abW aMn
attribute[go_sem]ama aJY arM abX
theorem aFD{l:List aN}:cg (l.map aN.d)=V:=gT aN.pure _
theorem aFA{l:List eD}:cg (l.map eD.d)=V:=gT (λ_=>rfl) _
theorem aFK{l:List fK}:cg (l.map fK.d)=V:=gT (λ_=>rfl) _
theorem aFB{l:List br}:cg (l.map br.d)=V:=gT br.pure _
theorem Wk{l:List aF}:cg (l.map aF.d)=V:=gT aF.pure _
theorem Wl{l:List bG}:cg (l.map bG.d)=V:=gT bG.pure _
attribute[go_sem]aFD aFA aFK aFB Wk Wl
set_option maxHeartbeats 4000000
theorem adn:∀e:ae,e.nn<100000000->CC 220 [.agg e.cells] (vT [iO (.ofNat e.nn),iO (.ofNat e.dep)])
 |.mk j g args t v c p o,n=>by
  simp only[ae.nn]at n;refine aO func220 ?_;have hd:=ae.Be args 0;simp only[go_sem,f220,ae.cells,ae.dep,ae.nn];refine sV args ((1,0):Nat×Nat) (λi s=>[(13,iS i),(4,iS s.1),(5,iS s.2)]) (λ_ l s=>vT [iO (.ofNat (s.1+ae.bN l)),iO (.ofNat (ae.nD l s.2+1))]) (λ_ l s=>s.1+ae.bN l<100000000/\s.2+ae.bN l<100000000) (by have:=ae.mH args;omega) rfl (by simp only;omega) (by simp only[Nat.add_comm]) (λs h=>?_) (λi x l s b a w h d=>?_);.simp only[ae.bN]at h;simp only[go_sem,ae.nD,ae.bN,vk,vi (show s.2+1<9223372036854775808 by omega)]
  .simp only[ae.bN]at h;have hr:=adn x ab;have f:=ae.Ek x;simp only[go_sem,b,a,w,hr,ae.nD,ae.bN,Oa,AK (show s.1+x.nn<9223372036854775808 by omega),<-AY];exact d (s.1+x.nn,max s.2 x.dep) (by simp only;omega)termination_by e=>pB e decreasing_by simp_wf;have:=pr (du a);omega
abbrev OG:ae->ao:=λq=>[.agg q.cells]
section
variable{σ:Type}{n k:Nat}{ok:ae->σ->Prop}{rel:ah bM->σ->GH->Prop}{step:ae->σ->ah bM×σ}
def aat(k:Nat)(g:GH)(e:ah bM->σ->GH->Prop)(r:ah bM×σ)(v:SV)(a:GH):Prop:=v=.dv (.bool r.1.isNone) .no/\e r.1 r.2 a/\Hi k g a
theorem aK4(U:Cu OG ok n k rel step)(j h r t e o p d)(P:r.length<1100000)(s:σ)(X:∀q f,tx step (nodes (.mk j h r t e o p d)) s q f->ok q f)(W:∀x,x∈r->∀s g,(∀q f,tx step (nodes x) s q f->ok q f)->rel Z s g->k<=g.next->Sat (ev PP cf (.call 260 [.agg x.cells,.dU n] .no g)) (aat k g rel (cP step (nodes x) s)))(g:GH)(K:rel Z s g)(H:k<=g.next):Sat (ev PP cf (.call 260 [.agg (ae.mk j h r t e o p d).cells,.dU n] .no g)) (aat k g rel (cP step (nodes (.mk j h r t e o p d)) s)):=by obtain⟨g1,e1,r1,E⟩:=U.run _ s g (X _ _ ⟨[],eS r,by rfl,rfl⟩) K H;refine np func260 ?_;have O:∀pre,cP step (.mk j h r t e o p d::pre) s=match(step (.mk j h r t e o p d) s).1 with|none=>cP step pre (step (.mk j h r t e o p d) s).2|some c=>(J c,(step (.mk j h r t e o p d) s).2):=λpre=>vu _ _ _ _;rw[nodes]at X|-;rw[vu];generalize step (.mk j h r t e o p d) s=z at*;simp only[OG,ae.cells,go_sem]at e1;obtain⟨c,m⟩:=z;cases c with|some c=>simp only[sE]at e1;simp only[go_sem,f260,ae.cells,e1];exact⟨rfl,r1,E⟩|none=>
 simp only[rz]at e1;simp only[go_sem,f260,ae.cells,e1];refine Aj r (m,g1) (λi _=>[(14,iS i)]) (λs=>s.2) (λ_ l f=>rel Z f.1 f.2/\Hi k g f.2/\cP step (eS l) f.1=cP step (eS r) m/\∃done,eS r=done++eS l/\cP step done m=(Z,f.1)) ab rfl rfl ⟨r1,E,rfl,[],rfl,rfl⟩ (λf I=>?_) (λi x l f G w L I M=>?_);.simp only[go_sem];obtain⟨a,b,c,_⟩:=I;rw[<-c];exact⟨rfl,a,b⟩
 . obtain⟨a,b,c,u,d1,d2⟩:=I;obtain⟨v,g2,e2,rfl,r2,F⟩:=W x (du w) f.1 f.2 (by rintro q B⟨pre,post,Q,R⟩;refine X q B ⟨.mk j h r t e o p d::(u++pre),post++eS l,?_,?_⟩;all_goals grind[eS,xZ]) a (gw H b.1);rw[eS,xZ]at c;have d3:cP step (u++nodes x) m=cP step (nodes x) f.1:=by grind[xZ]
   generalize cP step (nodes x) f.1=y at*;obtain⟨D,N⟩:=y;cases D with|none=>have A:=M (N,g2) ⟨r2,b.trans F,c,u++nodes x,by grind[eS],d3⟩;simp only[rz]at e2;simp only[go_sem,G,w,L,e2]at A|-;omega|some D=>simp only[sE]at e2;simp only[go_sem,G,w,e2];rw[<-c];exact⟨rfl,r2,b.trans F⟩
theorem ae.Mx:∀(l:bq)(x:ae),x∈l->∀q,q∈nodes x->q∈eS l
 |[],_,h,_,_=>by simp at h|y::l,x,h,q,a=>by
  rw[eS,Co];rcases Cp.1 h with rfl|h;.exact .inl a
  .exact .inr (ae.Mx l x h q a)
theorem adr(U:Cu OG ok n k rel step):∀p:ae,p.nn<1100000->∀s g,(∀q a,tx step (nodes p) s q a->ok q a)->rel Z s g->k<=g.next->Sat (ev PP cf (.call 260 [.agg p.cells,.dU n] .no g)) (aat k g rel (cP step (nodes p) s))|.mk i l args t v c b o,f,s,g,d,hr,e=>by simp only[ae.nn]at f;exact aK4 U _ _ _ _ _ _ _ _ (by have:=ae.mH args;omega) s d (λx h=>adr U x (by have:=ae.rV args _ h;omega)) g hr e termination_by p=>pB p decreasing_by simp_wf;have:=pr h;omega
end
def abG(g:GH)(b:Nat)(p:ae):Prop:=g.get b=J (.box ⟨p.cells,[]⟩)
theorem Qg(b:Nat)(p:ae)(e:p.nn<1100000):wu OG 259 [] [.ptr b 0] (abG . b p) (nodes p):=by intro n k i r step s U j g hr d;have c:g.get b=J _:=j _ _ _ hr;obtain⟨v,g2,e2,rfl,r2,a⟩:=adr U p e s g (λq f h=>h) hr d;refine⟨g2,?_,r2,a⟩;refine aO func259 ?_;simp only[go_sem,f259,c,e2]
mutual
def Expr.same : Expr -> Expr -> Bool
  | .mk op _ args var e n k num str, .mk A _ x r K M L y N => aj op A && (aj var r && (aj e K && (aj n M && (yJ k num str L y N && Expr.Ax args x))))
def Expr.Ax : List Expr -> List Expr -> Bool
  | [], [] => V
  | x :: s, y :: a => x.same y && Expr.Ax s a
  | _, _ => C
end
theorem Expr.Jt:∀s a:List Expr,Expr.Ax s a=lx Expr.same s a|[],[]=>rfl|x::s,y::a=>by simp only[Expr.Ax,lx,Expr.Jt s a];cases x.same y<;>rfl|[],_::_=>rfl|_::_,[]=>rfl
theorem Expr.rH:∀l:List Expr,Expr.bn l=l.map λe=>.agg e.cells|[]=>rfl|e::l=>by simp[Expr.bn,Expr.rH l]
theorem ae.rH:∀l:bq,ae.bn l=l.map λe=>.agg e.cells|[]=>rfl|e::l=>by simp[ae.bn,ae.rH l]
theorem aKY(q o a v g n k u s A f c r K M L y N)(S:a.length<1000000000)(W:∀x,x∈a->∀d:Expr,CC 255 [.agg x.cells,.agg d.cells] (vB (x.same d))):CC 255 [.agg (Expr.mk q o a v g n k u s).cells,.agg (Expr.mk A f c r K M L y N).cells] (vB ((Expr.mk q o a v g n k u s).same (.mk A f c r K M L y N))):=by
 refine aO func255 ?_;have hd:=aJ3;simp only[bH,opsOf,f255,go_sem]at hd;by_cases e:a.length=c.length
 . simp only[go_sem,f255,Expr.cells,Expr.same,Expr.Jt,Kf _ _ e];repeat'(with_reducible apply sp<;>intro h<;>simp only[h,e,go_sem])
   refine jn (a.zip c) (λi=>[(51,iS i)]) (λi l=>vB (l.all λp=>p.1.same p.2)) ai rfl rfl ?_ (λi x l j b w m=>?_);.simp only[go_sem,DZ e,nU,e]
   .obtain⟨b,t⟩:=R8 b;rw[DZ e,e]at j;have hr:=W x.1 (du b) x.2;simp only[go_sem,hd,j,b,t,hr,oJ]at m|-;apply sp<;>intro h<;>simp only[h,w,m,go_sem]
 .simp only[go_sem,f255,Expr.cells,Expr.same,Expr.Jt,Ke _ _ e];repeat'(with_reducible apply sp<;>intro h<;>simp only[h,e,go_sem])
theorem Es:∀e d:Expr,e.nn<100000000->CC 255 [.agg e.cells,.agg d.cells] (vB (e.same d))|.mk o l args v a g k num str,.mk A u b r K M L y N,n=>by simp only[Expr.nn]at n;exact aKY _ _ _ _ _ _ _ _ _ _ _ _ _ _ _ _ _ _ (by have:=Expr.mH args;omega) λx h d=>Es x d (by have:=Expr.rV args _ h;omega)termination_by e=>pB e decreasing_by simp_wf;have:=pr h;omega
set_option maxHeartbeats 1000000
def oY(o:Int):Bool:=aj o 5||aj o 9
def mi(o:Int):Bool:=aj o 0||oY o
def Gl(o:Int):Bool:=aj o 6||aj o 10
def Az(o:Int):Bool:=oY o||Gl o
def CI(o:Int):Bool:=mi o||aj o 7
def Qo(o:Int):Int:=bif aj o 0 then 0 else bif aj o 1||(aj o 2||(aj o 3||aj o 8))then 2 else 1
def QC(o:Int):Int:=bif aj o 0 then 0 else bif aj o 1||(aj o 2||aj o 3)then 64 else bif aj o 8 then 2 else 1
theorem aum:cf.aq 0=J O':=(rfl)
theorem aun:cf.aq 1=J Pb:=(rfl)
theorem aA5(m:Nat):aA (.ofNat m) 0=C:=by rfl
theorem agR(m:Nat):aA (.negSucc m) 0=V:=rfl
theorem axA{s:St}{d:ah Tmp}(h:aA (.ofNat m) 11=V):BG PP s d (.global 1) m (J (.array 11 338)) (.ev (.agg Pb))=aG s d (.ev (.agg [iD (Qo (.ofNat m)),iD (QC (.ofNat m)),.bool (mi (.ofNat m)),.bool (CI (.ofNat m)),.bool (Az (.ofNat m)),.bool (Gl (.ofNat m))])):=by
 have:m<11:=by grind[gL]
 match m,this with|0,_|1,_|2,_|3,_|4,_|5,_|6,_|7,_|8,_|9,_|10,_=>rfl
def keB(o:Int):Bool:=!(aj o 2||aj o 4)
def tb(o:Int):Bool:=aj o 0||(aj o 5||aj o 7)
theorem axz{s:St}{d:ah Tmp}(h:aA (.ofNat m) 8=V):BG PP s d (.global 0) m (J (.array 8 313)) (.ev (.agg O'))=aG s d (.ev (.agg [.bool (keB (.ofNat m)),.bool (tb (.ofNat m))])):=by
 have:m<8:=by grind[gL]
 match m,this with|0,_|1,_|2,_|3,_|4,_|5,_|6,_|7,_=>rfl
attribute[go_sem]aum aun axA axz aA5 agR AQ
def tU(u:Bool)(n m:Int):Bool:=bif u then !aA n 0&&!aA m n else V
theorem arb(u:Bool)(n m:Int):CC 261 [.bool u,iD n,iD m] (vB (tU u n m)):=by refine aO func261 ?_;cases u<;>simp only[go_sem,f261,tU];repeat'(with_reducible apply sp<;>intro h<;>simp only[h,go_sem])
def yS(u:Bool)(n:Int):Bool:=bif u then V else aj n 0
theorem arc(u:Bool)(n:Int):CC 262 [.bool u,iD n] (vB (yS u n)):=by refine aO func262 ?_;cases u<;>simp only[go_sem,f262,yS]
def JU:Expr:=.mk 0 V [] 0 0 0 0 0 []
def aMT(c:Expr)(h:c.nn<100000000):CC 255 [.agg c.cells,.agg [iD 0,.nl,iD 0,iD 0,iD 0,iD 0,iD 0,.str []]] (vB (c.same JU)):=Es c JU h
def FT(o:Int)(n:Nat)(t v s p e:Int)(m:Bool):Int:=bif aA o 0||!aA o 11 then 1 else bif aA (.ofNat n) (Qo o)||aA (QC o) (.ofNat n)then 15 else bif tU (mi o) t 15&&(tU (mi o) v 15&&(tU (Az o) s 63&&tU (Gl o) p 1099511627776))then bif CI o&&!aj e 0 then e else bif(CI o||m)&&(yS (mi o) t&&(yS (mi o) v&&(yS (Az o) s&&yS (Gl o) p)))then 0 else 3 else 2
def ae.iT:ae->Int|.mk op _ args ty var scope s cond=>FT op args.length ty var scope s cond.nC (cond.same JU)
theorem aq5(o n a t v s p)(c:Expr)(f:c.nn<1100000):CC 221 [.agg (ae.mk o n a t v s p c).cells] (vI (ae.mk o n a t v s p c).iT):=by have d:=HE c ab;have e:=aMT c ab;refine aO func221 ?_;cases o with|negSucc m=>simp only[go_sem,f221,ae.cells,ae.iT,FT]|ofNat m=>cases b:aA (.ofNat m) 11 with|false=>simp only[go_sem,f221,ae.cells,b,ae.iT,FT]|true=>simp only[go_sem,f221,ae.cells,b,ae.iT,FT];repeat'(with_reducible apply sp<;>intro h<;>simp only[h,d,e,arb,arc,go_sem])
def ae.cond:ae->Expr|.mk _ _ _ _ _ _ _ cond=>cond
def ae.op:ae->Int|.mk op _ _ _ _ _ _ _=>op
def ae.var:ae->Int|.mk _ _ _ _ var _ _ _=>var
def ae.scope:ae->Int|.mk _ _ _ _ _ scope _ _=>scope
structure lV(p:ae):Prop where
 a:p.nn<1100000
 b:∀q∈nodes p,q.cond.nn<1100000
def Bl:bq->Int|[]=>0|q::l=>bif aj q.iT 0 then Bl l else q.iT
def ae.uy(p:ae):Int:=bif aA 64 (.ofNat p.nn)then 5 else bif aA 12 (.ofNat p.dep)then 12 else Bl (nodes p)
def RH(q:ae)(s:Int):ah bM×Int:=bif aj q.iT 0 then(Z,s)else(J .ret,q.iT)
theorem OP(p:ae)(g:GH):ev PP cf (.call 218 [.agg p.cells] .no g)=J (.val (.dv (.func 259 [] [.ptr g.next 0]) .no) (g.alloc (.box ⟨p.cells,[]⟩))):=by refine aO func218 ?_;simp only[go_sem,f218]
theorem aec:∀(l:bq),cP RH l 0=(bif aj (Bl l) 0 then Z else J .ret,Bl l)|[]=>rfl|q::l=>by simp only[cP,RH,Bl];cases h:aj q.iT 0 with|true=>simpa using aec l|false=>simp[h]
theorem aq6(q:ae)(h:q.cond.nn<1100000):CC 221 [.agg q.cells] (vI q.iT):=by obtain⟨op,nl,args,ty,var,scope,s,cond⟩:=q;exact aq5 _ _ _ _ _ _ _ _ h
theorem OO(p:ae)(b:lV p):Sat (ev PP cf (.call 159 [.agg p.cells] .no .empty)) λv _=>v=zS p.uy:=by
 refine np func159 ?_;simp only[go_sem,f159,adn p (by have:=b.a;omega),ae.uy];apply gV<;>intro h<;>simp only[h,go_sem];apply gV<;>intro h<;>simp only[h,go_sem,OP];refine Av (Qg 2 p b.a) RH (λc s g'=>g'.get 1=J (.box ⟨[iD s],[]⟩)/\g'.get 2=J _) 0 (λm=>rfl) rfl ⟨rfl,rfl⟩ (λc s g' h=>h.2) (λc s g1 g2 h l=>⟨(l.2 1 ai).trans h.1,(l.2 2 ai).trans h.2⟩) (λx s g1 d R hN L=>?_) (λg1 R hN=>?_);.refine Ay L rfl ?_;have a:=aq6 x (b.b x d.mem);simp only at hN L;have n:∀i,i<=3->(i=g1.next)=False:=λi h=>cH ab;have e:∀i,i<=3->(g1.next=i)=False:=λi h=>cH ab;simp only[go_sem,a,L,n,e,RH];apply gV<;>intro h<;>simp only[h,go_sem,R.1,R.2,L,n]<;>exact⟨rfl,⟨trivial,trivial⟩,oo,rfl⟩
 .rw[aec]at R|-;have a:=R.1;cases h:aj (Bl (nodes p)) 0<;>simp only[a,go_sem];rw[tE h]
def ae.GA(p:ae):Int:=bif aj p.uy 0 then(bif(nodes p).any (λq=>!aA q.op 8)then 1 else 0)else p.uy
def RI(q:ae)(s:Int):ah bM×Int:=bif aA q.op 8 then(Z,s)else(J .ret,1)
theorem aed:∀(l:bq),cP RI l 0=bif l.any (λq=>!aA q.op 8)then(J .ret,1)else(Z,0)|[]=>rfl|q::l=>by simp only[cP,RI,zm];cases h:aA q.op 8 with|true=>simpa using aed l|false=>simp
theorem aqY(p:ae)(b:lV p):Sat (ev PP cf (.call 210 [.agg p.cells] .no .empty)) λv _=>v=zS p.GA:=by
 obtain⟨_,g0,e,rfl⟩:=OO p b;refine np func210 ?_;simp only[go_sem,f210,e,ae.GA];apply gV<;>intro h<;>simp only[h,go_sem,OP];refine Av (Qg 2 p b.a) RI (λc s g'=>g'.get 1=J (.box ⟨[iD s],[]⟩)/\g'.get 2=J _) 0 (λm=>rfl) rfl ⟨rfl,rfl⟩ (λc s g' h=>h.2) (λc s g1 g2 h l=>⟨(l.2 1 ai).trans h.1,(l.2 2 ai).trans h.2⟩) (λx s g1 g R hN L=>?_) (λg1 R hN=>?_);.refine Ay L rfl ?_;simp only at hN L;have n:∀i,i<=3->(i=g1.next)=False:=λi h=>cH ab;have f:∀i,i<=3->(g1.next=i)=False:=λi h=>cH ab;obtain⟨op,nl,args,ty,var,scope,d,cond⟩:=x;simp only[go_sem,L,n,f,RI,ae.op,ae.cells];apply gV<;>intro h<;>simp only[h,go_sem,R.1,R.2,L,n]<;>exact⟨rfl,aT,oo,rfl⟩
 .rw[aed]at R|-;have a:=R.1;cases h:(nodes p).any _<;>rw[h]at a<;>simp only[aR,bX]at a<;>simp only[a,go_sem]
def NQ(z:Int):Int:=dN .i64 (kh z 1)
def vq(s:Int×Int×Bool)(q:ae):Int×Int×Bool:=let t:=bif mi q.op then(NQ s.1,s.2.1,s.2.2&&aj q.var s.1)else s
 bif Az q.op then(t.1,NQ t.2.1,t.2.2&&aj q.scope t.2.1)else t
def zD(l:bq):Int×Int×Bool:=l.foldl vq (0,0,V)
def RG(q:ae)(s:Int×Int×Bool):ah bM×(Int×Int×Bool):=(Z,vq s q)
theorem aeb:∀(l:bq)(s:Int×Int×Bool),cP RG l s=(Z,l.foldl vq s)|[],_=>rfl|q::l,s=>by simp only[cP,RG,AX];exact aeb l _
theorem KW:∀{l:bq},Bl l=0->∀q∈l,q.iT=0|a::l,h,q,m=>by simp only[Bl]at h;cases b:aj a.iT 0 with
 |true=>
 rw[b]at h;rcases Cp.1 m with rfl|m;.exact tE b
 .exact KW h q m|false=>rw[b]at h;rw[show a.iT=0 from h]at b;simp[aj]at b
theorem Ov(h:p.uy=0):Bl (nodes p)=0/\p.nn<=64/\p.dep<=12:=by grind[ae.uy,gL]
theorem ahq{q:ae}(h:q.iT=0):∃m:Nat,q.op=.ofNat m/\aA (.ofNat m) 11=V:=by obtain⟨op,nl,args,ty,var,scope,s,cond⟩:=q;simp only[ae.iT,FT]at h;cases a:aA op 0 with|true=>grind|false=>
 rcases b:aA op 11 with _|_;.grind
 simp only[gL,CJ,jV]at a b;exact⟨op.toNat,by grind[ae.op],ai⟩
theorem adf(p:ae)(j:p.nn<1100000)(w:∀q∈nodes p,q.iT=0):Sat (ev PP cf (.call 155 [.agg p.cells] .no .empty)) λv _=>v=.tp [iO (zD (nodes p)).1,iO (zD (nodes p)).2.1,bO (zD (nodes p)).2.2]:=by
 have hd:=aJ4;simp only[bH,opsOf,f155,go_sem]at hd;refine np func155 ?_;simp only[go_sem,f155,OP];refine Av (Qg 4 p j) RG (λc s g'=>g'.get 1=J (.box ⟨[iD s.1],[]⟩)/\g'.get 2=J (.box ⟨[iD s.2.1],[]⟩)/\g'.get 3=J (.box ⟨[.bool s.2.2],[]⟩)/\g'.get 4=J (.box ⟨p.cells,[]⟩)) (0,0,V) (λm=>rfl) rfl ⟨rfl,rfl,rfl,rfl⟩ (λc s g' h=>h.2.2.2) (λc s g1 g2 h l=>⟨(l.2 1 aT).trans h.1,(l.2 2 aT).trans h.2.1,(l.2 3 aT).trans h.2.2.1,(l.2 4 aT).trans h.2.2.2⟩) (λx s g1 k R hN L=>?_) (λg1 R hN=>?_)
 . refine Ay L rfl ?_;simp only at hN L;have n:∀i,i<=5->(i=g1.next)=False:=λi h=>cH ab;have o:∀i,i<=5->(i=g1.next+1)=False:=λi h=>cH ab;have b:∀i,i<=5->(g1.next=i)=False:=λi h=>cH ab;have d:∀i,i<=5->(g1.next+1=i)=False:=λi h=>cH ab;have e:(g1.next+1=g1.next)=False:=cH ab;have t:(g1.next=g1.next+1)=False:=cH ab;obtain⟨m,a,l⟩:=ahq (w x k.mem);obtain⟨op,nl,args,ty,var,scope,g,cond⟩:=x;obtain⟨z,y,u⟩:=s;obtain⟨r1,r2,r,f⟩:=R;simp only[ae.op]at a;subst a;simp only[go_sem,L,l,n,b,d,e,RG,vq,ae.op,ae.var,ae.scope,ae.cells];cases u<;>repeat'(with_reducible apply gV<;>intro h<;>simp only[h,go_sem,r1,r2,r,f,L,n,o,b,d,e,t,NQ])
   all_goals exact⟨rfl,⟨trivial,trivial,trivial,trivial⟩,oo,rfl⟩
 .rw[aeb]at R|-;obtain⟨r1,r2,r,f⟩:=R;simp only[r1,r2,r,hd,go_sem,zD]
def ae.jx(p:ae):Int:=bif aj p.GA 0 then(bif(zD (nodes p)).2.2 then 0 else 14)else p.GA
theorem RV(h:p.GA=0):p.uy=0/\((nodes p).any λq=>!aA q.op 8)=C:=by
 unfold ae.GA at h;rcases a:aj p.uy 0 with _|_;.simp_all[aj]
 grind[tE]
theorem Ou(h:p.jx=0):p.GA=0:=by grind[ae.jx,tE]
theorem OM(p:ae)(a:lV p):CC 152 [.agg p.cells] (vI p.jx):=by obtain⟨_,g0,b,rfl⟩:=aqY p a;refine aO func152 ?_;simp only[go_sem,f152,b,ae.jx];apply sp<;>intro h<;>simp only[h,go_sem];obtain⟨_,g1,c,rfl⟩:=adf p a.a (KW (Ov (RV (tE h)).1).1);simp only[go_sem,c];apply sp<;>intro h<;>simp only[h,go_sem]
def kG(p:ae):Int×Int×Int:=bif aj p.jx 0 then((zD (nodes p)).1,(zD (nodes p)).2.1,0)else(0,0,p.jx)
theorem ac3(p:ae)(a:lV p):CC 101 [.agg p.cells] (vT [iO (kG p).1,iO (kG p).2.1,iO (kG p).2.2]):=by have b:=OM p a;refine aO func101 ?_;simp only[go_sem,f101,b,kG];apply sp<;>intro h<;>simp only[h,go_sem];obtain⟨_,g1,c,rfl⟩:=adf p a.a (KW (Ov (RV (Ou (tE h))).1).1);simp only[go_sem,c]
section
variable(op:Int)(nl:Bool)(U:bq)(ty var scope span:Int)(cond:Expr)
def ur(o:Int)(n:Nat):Bool:=bif aj o 0 then aj (.ofNat n) 0 else bif aj o 1||(aj o 2||aj o 3)then !aA (.ofNat n) 2 else bif aj o 8 then aj (.ofNat n) 2 else aj (.ofNat n) 1
theorem abh(o:Int)(n:Nat)(h:n<=64):(aA (.ofNat n) (Qo o)||aA (QC o) (.ofNat n))=!ur o n:=by grind[Qo,QC,ur,gL,iZ]
end
theorem axG{i:Nat}{l:cX}{d:ah Tmp}:BG P ⟨fn,m,l,lb,g⟩ d x i (J (.slice e)) (.sr s)=((look l s).bind OW).bind λy=>(aW P e).bind λn=>bif aw n y.2.2&&(aw y.2.1 e&&ct i y.1.length)then aG ⟨fn,m,l,lb,g⟩ d (.se s i 0)else Z:=by show(nF _ s).bind _=_;rw[TP]
theorem ctW{c:bU}{b:ah bh}:cond V (W P c rec ψ) b=kg P c rec ψ:=(rfl)
theorem cfW{c:bU}{b:ah bh}:cond C b (W P c rec ψ)=kg P c rec ψ:=(rfl)
theorem aqh:aj 1 0=C/\aj 2 0=C/\aj 3 0=C/\aj 4 0=C/\aj 5 0=C/\aj 6 0=C/\aj 7 0=C/\aj 8 0=C/\aj 9 0=C/\aj 10 0=C/\aj 11 0=C/\aj 12 0=C/\aj 13 0=C/\aj 14 0=C/\aj 15 0=C/\aj 16 0=C/\aj 17 0=C/\aj 18 0=C/\aj 19 0=C/\aj 20 0=C/\aj 21 0=C/\aj 22 0=C/\aj 23 0=C:=fD
attribute[go_sem]aqh
attribute[go_sem 1100]ctW cfW
attribute[go_sem]axG
mutual
theorem ae.VW : ∀ (p q : ae), q ∈ nodes p -> q.nn <= p.nn
  | .mk o n args t v s a c, q, h => by
    rw [nodes] at h
    rcases Cp.1 h with rfl | h
    · exact bS _
    · have := ae.ahu args q h
      simp only [ae.nn]; omega
theorem ae.ahu : ∀ (l : bq) (q : ae), q ∈ eS l -> q.nn <= ae.bN l
  | [], _, h => by simp [eS] at h
  | p :: l, q, h => by
    rw [eS, Co] at h
    simp only [ae.bN]
    rcases h with h | h
    · have := ae.VW p q h; omega
    · have := ae.ahu l q h; omega
end
theorem QO(p:ae):(nodes p).length=p.nn:=by have:=FI [p];grind[eS,ae.bN]
theorem S3:∀(l:bq)(a b:Int),(l.foldl vq (a,b,C)).2.2=C
 |[],_,_=>rfl|q::l,a,b=>by
  have e:∃c d,vq (a,b,C) q=(c,d,C):=by unfold vq;cases mi q.op<;>cases Az q.op<;>simp
  obtain⟨c,d,e⟩:=e;rw[AX,e];exact S3 l c d
def lG(l:cF)(v:Int):Bool:=l.any λx=>aj x v
theorem TB(a b:Int):aj a b=aj b a:=by grind[iZ]
theorem aqV(s:Sl Int)(v:Int)(d:s.l.length<1200000):CC 284 [cE s,iD v] (vI (gk (λx=>aj x v) s.l 0)):=by
 refine aO func284 ?_;simp only[go_sem,f284];refine jn _ (λi=>[(8,iS i)]) (λi l=>vI (gk _ l i)) ab rfl rfl ?_ (λi x l b c w a=>?_);.simp only[go_sem,gk]
 .simp only[go_sem,b,c,gk,TB v x]at a|-;apply sp<;>intro h<;>simp only[h,w,a,go_sem]
theorem TG(s:Sl Int)(v:Int)(l:s.l.length<1200000):CC 242 [cE s,iD v] (vB (lG s.l v)):=by have h:=aqV s v l;simp only[go_sem]at h;refine aO func242 ?_;simp only[go_sem,f242,h,ym,lG]
structure qA where
 us:Sl Int
 si:Sl Int
 fb:Int
def qA.d(p:qA):DV:=.agg [cE p.us,cE p.si,iD p.fb]
def T6(p:qA)(o v:Int):Int:=bif aj o 1||aj o 2 then(bif lG p.us.l v then(bif lG p.si.l v then 0 else 11)else 10)else bif aj o 3||aj o 4 then(bif lG p.us.l v then(bif aj v p.fb then 11 else 0)else 10)else 0
mutual
def Expr.Bm (p : qA) : Expr -> Int
  | .mk op _ args var _ _ _ _ _ => bif aj (T6 p op var) 0 then Expr.HO p args else T6 p op var
def Expr.HO (p : qA) : List Expr -> Int
  | [] => 0
  | e :: l => bif aj (e.Bm p) 0 then Expr.HO p l else e.Bm p
end
theorem ato(o:Int):(aj o 1=V/\aj o 2=C/\aj o 3=C/\aj o 4=C/\aA o 1=C/\aA 4 o=C)\/(aj o 1=C/\aj o 2=V/\aj o 3=C/\aj o 4=C/\aA o 1=C/\aA 4 o=C)\/(aj o 1=C/\aj o 2=C/\aj o 3=V/\aj o 4=C/\aA o 1=C/\aA 4 o=C)\/(aj o 1=C/\aj o 2=C/\aj o 3=C/\aj o 4=V/\aA o 1=C/\aA 4 o=C)\/(aj o 1=C/\aj o 2=C/\aj o 3=C/\aj o 4=C/\aA o 1=V/\aA 4 o=C)\/(aj o 1=C/\aj o 2=C/\aj o 3=C/\aj o 4=C/\aA o 1=C/\aA 4 o=V):=by simp only[iZ,gL,jV,CJ];omega
theorem sxf{n:Nat}(N:n=204)(p:qA)(y:p.us.l.length<1200000)(z:p.si.l.length<1200000)(o t r v M g k u s)(A:r.length<1100000)(W:∀x,x∈r->CC n [.agg x.cells,p.d] (vI (x.Bm p))):CC n [.agg (Expr.mk o t r v M g k u s).cells,p.d] (vI ((Expr.mk o t r v M g k u s).Bm p)):=by
 have e3:=TG p.us v y;have e4:=TG p.si v z;simp only[go_sem]at e3 e4;subst N;refine aO func204 ?_;rcases ato o with⟨a,b,c,d,e,f⟩|⟨a,b,c,d,e,f⟩|⟨a,b,c,d,e,f⟩|⟨a,b,c,d,e,f⟩|⟨a,b,c,d,e,f⟩|⟨a,b,c,d,e,f⟩;all_goals simp only[go_sem,f204,Expr.cells,qA.d,Expr.Bm,T6,a,b,c,d,e,f,e3];repeat'(with_reducible apply sp<;>intro h<;>simp only[h,e4,go_sem])
 all_goals
 first|refine jn r (λi=>[(54,iS i)]) (λ_ l=>vI (Expr.HO p l)) ab rfl rfl ?_ (λi x l q j w m=>?_)|refine jn r (λi=>[(7,iS i)]) (λ_ l=>vI (Expr.HO p l)) ab rfl rfl ?_ (λi x l q j w m=>?_)
 .simp only[go_sem,Expr.HO]
 .have hr:=W x (du j);simp only[go_sem,qA.d]at hr;simp only[go_sem,q,j,hr,Expr.HO]at m|-;apply sp<;>intro h<;>simp only[h,w,m,go_sem]
theorem TH(p:qA)(h:p.us.l.length<1200000)(a:p.si.l.length<1200000):∀e:Expr,e.nn<1100000->CC 204 [.agg e.cells,p.d] (vI (e.Bm p))|.mk o l args v M g k num str,n=>by simp only[Expr.nn]at n;exact sxf rfl p h a _ _ _ _ _ _ _ _ _ (by have:=Expr.mH args;omega) λx m=>TH p h a x (by have:=Expr.rV args _ m;omega)termination_by e=>pB e decreasing_by simp_wf;have:=pr m;omega
def Jx(l:cF):cF:=l.mergeSort λx y=>decide (x<=y)
def Ky(l:cF):cF:=tv l
theorem ajW(l:cF):(l.map iD).map oG=l:=by rw[List.map_map];exact List.map_id l
theorem aJM(l:cF):mh (l.map iD)=(Jx l).map iD:=by unfold mh;rw[ajW];rfl
theorem aoe(l:cF):xR (l.map iD)=(Ky l).map iD:=by unfold xR;rw[ajW];rfl
theorem aJN(l:cF):(Jx l).Pairwise (.<=.)/\∀z,z∈Jx l↔z∈l:=by refine⟨(List.pairwise_mergeSort ai ai l).imp λh=>uU h,λz=>List.mem_mergeSort⟩<;>grind
theorem acF(d:Array Int)(z:Int):∀m,z∈Lib.compactUpTo d m↔∃j,j<m/\d[j]! =z:=by intro m;induction m<;>grind[Lib.compactUpTo,Lib.keeps]
theorem aoB(d:Array Int)(h:∀i j,i<=j->j<d.size->d[i]!<=d[j]!):∀m,m<=d.size->(Lib.compactUpTo d m).Pairwise (.<.):=by intro m;induction m with|zero=>simp[Lib.compactUpTo]|succ m o=>
 intro n;rw[Lib.compactUpTo_succ,List.pairwise_append];refine⟨ai,by split<;>simp,λa c b k=>?_⟩;cases l:Lib.keeps d m;.grind
 .obtain⟨j,e,rfl⟩:=(acF d a m).1 c;have f:=h j (m-1) ab ab;have g:=h (m-1) m ab ab;grind[Lib.keeps]
theorem aep(l:cF)(j:Nat)(h:j<l.length):l.toArray[j]! =l[j]:=aT
theorem acv(l:cF)(z:Int):z∈Ky l↔z∈l:=by unfold Ky tv;rw[acF,List.mem_iff_getElem];exact⟨λ⟨j,h,e⟩=>⟨j,h,ai⟩,λ⟨j,h,e⟩=>⟨j,h,ai⟩⟩
theorem aof(l:cF)(h:l.Pairwise (.<=.)):(Ky l).Pairwise (.<.):=by
 refine aoB _ (λi j k a=>?_) _ aT;have I:j<l.length:=a;rw[aep l j I,aep l i ab];by_cases e:i=j;.grind
 .exact List.pairwise_iff_getElem.1 h i j _ _ ab
theorem ajp:∀(a b:cF),a.Pairwise (.<.)->b.Pairwise (.<.)->(∀z,z∈a↔z∈b)->a=b
 |[],[],_,_,_=>rfl|[],y::b,_,_,h=>by have:=(h y).2 (gv ..);simp at this|x::a,[],_,_,h=>by have:=(h x).1 (gv ..);simp at this|x::a,y::b,d,f,h=>by
  have w:=be.1 d;have u:=be.1 f;have e:x=y:=by
    rcases Cp.1 ((h x).1 (gv ..))with e|g;.exact e
    . rcases Cp.1 ((h y).2 (gv ..))with e|i;.exact e.symm
      .have:=u.1 x g;have:=w.1 y i;omega
  subst e;rw[ajp a b w.2 u.2 λz=>?_];have:=h z;simp only[Cp]at this;constructor
  . intro c;rcases this.1 (.inr c)with e|e;.have:=w.1 z c;omega
    .exact e
  . intro c;rcases this.2 (.inr c)with e|e;.have:=u.1 z c;omega
    .exact e
def u16:cF:=(rq 16).map dk
def yn(l:cF):Prop:=∀z∈l,0<=z/\z<16
def wD(l:cF):cF:=u16.filter (lG l)
theorem avk(l:cF)(v:Int):lG l v=V↔v∈l:=by simp[lG,iZ]
theorem ajV(z:Int):z∈u16↔0<=z/\z<16:=by
 unfold u16;rw[au];constructor;.grind
 .intro h;exact⟨z.toNat,aT,ai⟩
theorem aL1:u16.Pairwise (.<.):=fD
theorem anA{l:cF}(h:yn l)(z:Int):z∈wD l↔z∈l:=by unfold wD;rw[bl,avk,ajV];exact⟨λh=>h.2,λa=>⟨h z a,a⟩⟩
def abQ(l:cF):yn (wD l):=λz h=>(ajV z).1 (bl.1 h).1
theorem anB(l:cF):(wD l).Pairwise (.<.):=aL1.sublist List.filter_sublist
theorem anz{l:cF}(h:yn l):Ky (Jx l)=wD l:=by grind[ajp,aof,aJN,anB,acv,anA]
def pX(a b:cF):cF:=wD (a++b)
theorem Ol(l:cF):(wD l).length<=16:=Sh _ _
theorem aBt{n:Nat}:rR l e n=bw V l e n:=by cases l<;>rfl
def IK:DV->Nat->SV|.jk,_=>.dv .jk .no|d,e=>.dv d (.ex e)
section
variable{cf:bU}{rec:dR}{fn n f:Nat}{sl:cX}{lb:dV}{g:GH}{o:Op}{x:aK}{xs:List aK}{az:ao}{O:St}
def Fc(c:bU)(t:St)(f:bW)(a:ao)(s:Nat):SV->ah (St×SV)|.dv d (.ex e)=>(c.qh f d a).map λr=>({t with sl:=put (iu t.sl s) s (IK r.1 e)},r.2)|_=>Z
def P'(c:bU)(s:St)(f:bW)(a:ao)(i o:Nat):GO->ah (St×SV)|.box b=>(match b.cells[o]?,eu b o with|some d,.ex _=>(c.qh f d a).map λr=>({s with g:=s.g.set i (.box {cells:=iH b.cells o r.1,own:=(match r.1 with|.jk=>cY b.own o 1|_=>b.own)})},r.2)|_,_=>Z)|_=>Z
def IF(c:bU)(t:St)(f:bW)(x:aK)(a:ao):SV->ah (St×SV)|.dv .nl _=>(c.qh f .nl a).map λr=>(t,r.2)|.dv _ (.ex _)=>(match x with|.tmp s=>(look t.sl s).bind (Fc c t f a s)|_=>Z)|.sr s=>(look t.sl s).bind (Fc c t f a s)|.gr id I=>(t.g.get id).bind (P' c t f a id I)|_=>Z
theorem af2:Qb cf O f x az=(cU cf.aq O x).bind (IF cf O f x az):=by
 unfold Qb;congr 1;funext v;have a:∀s,(match look O.sl s with|some (.dv d (.ex e))=>(cf.qh f d az).map λr=>({O with sl:=put (iu O.sl s) s (match r.1 with|.jk=>.dv .jk .no|d=>.dv d (.ex e))},r.2)|_=>Z)=(look O.sl s).bind (Fc cf O f az s):=by intro s;cases look _ s with|none=>rfl|some v=>cases v with
 |dv d o=>cases o with|ex e=>show(cf.qh f d az).map _=(cf.qh f d az).map _;congr 1;funext r;obtain⟨r1,r2⟩:=r;cases r1<;>rfl|_=>rfl
 |_=>rfl
 cases v with
 |dv d o=>cases d<;>first|rfl|(cases o<;>first|rfl|(cases x<;>first|rfl|exact a _))
 |sr s=>exact a s|gr id I=>
 show(match O.g.get id with|some (.box b)=>_|_=>Z)=(O.g.get id).bind _;rcases O.g.get id with _|o;.rfl
 cases o<;>rfl|_=>rfl
theorem ani(h:cf.fk f=1):qC cf rec O o (.func f) (x::xs)=(opsV cf.aq (cZ O xs) xs).bind λaz=>(cU cf.aq (cZ O xs) x).bind (IF cf (cZ O xs) f x az):=by show(bif aw _ 1 then(cw _ xs).bind _ else _)=_;rw[h];simp only[af2];rw[Du];rfl
theorem ax1{w:aM}:IF cf O f x az (.dv .nl w)=(cf.qh f .nl az).map λr=>(O,r.2):=(rfl)
theorem ax2:IF cf ⟨fn,n,sl,lb,g⟩ f x az (.sr s)=(look sl s).bind (Fc cf ⟨fn,n,sl,lb,g⟩ f az s):=(rfl)
theorem ax0{i:Nat}:IF cf ⟨fn,n,sl,lb,g⟩ f x az (.gr i I)=(g.get i).bind (P' cf ⟨fn,n,sl,lb,g⟩ f az i I):=(rfl)
theorem axY{d:DV}:Fc cf ⟨fn,n,sl,lb,g⟩ f az s (.dv d (.ex e))=(cf.qh f d az).map λr=>(⟨fn,n,put (iu sl s) s (IK r.1 e),lb,g⟩,r.2):=(rfl)
theorem ayw{b:Nat}:IK (.ay l a b) e=.dv (.ay l a b) (.ex e):=(rfl)
end
section
variable{P:aH}{cf:bU}{t fn n id a b e f:Nat}{sl:cX}{lb:dV}{g:GH}{d:ah Tmp}{l az:ao}
theorem az5(h:AM.isAgg P t=J C):rQ P t .take ⟨fn,n,sl,lb,g⟩ d id 0 (.box ⟨[.ay l a b],[(0,.ex e)]⟩)=aG ⟨fn,n,sl,lb,g.set id (.box ⟨[.jk],[]⟩)⟩ d (.dv (.ay l a b) (.ex e)):=by show(fF P _ t _ 0).bind _=_;unfold fF;rw[h];rfl
theorem az4(h:AM.isAgg P t=J C):rQ P t .ref ⟨fn,n,sl,lb,g⟩ d id 0 (.box ⟨[.ay l a b],[(0,.ex e)]⟩)=aG ⟨fn,n,sl,lb,g⟩ d (.gr id 0):=by show(match iK.ref,aM.ex e,AM.isAgg P t with|.ref,.ex _,J C=>_|_,_,_=>_)=_;rw[h];rfl
theorem axZ:P' cf ⟨fn,n,sl,lb,g⟩ f az id 0 (.box ⟨[.ay l a b],[(0,.ex e)]⟩)=(cf.qh f (.ay l a b) az).map λr=>(⟨fn,n,sl,lb,g.set id (.box ⟨[r.1],match r.1 with|.jk=>[]|_=>[(0,.ex e)]⟩)⟩,r.2):=by rfl
end
attribute[go_sem]az5 az4 axZ
theorem aAk:nd .nl=J 0:=(rfl)
theorem al0{a b:List α}:(⟨a⟩:Array α)++(⟨b⟩:Array α)=⟨a++b⟩:=aP
theorem aE8:(Z:ah α).toArray=⟨[]⟩:=rfl
theorem aE9{a:α}:(J a).toArray=⟨[a]⟩:=rfl
theorem aA7:aA 0 0=C:=rfl
attribute[go_sem]aA7 aAk al0 aE8 aE9
theorem af7:cf.qh 248 .nl []=J (.nl,.tp []):=(rfl)
theorem ayc{x:DV}(h:(x::l).all uO=V)(a:sw (x::l).length=V):cf.qh 248 (.ay (x::l) 3 1) []=J (rR (mh (x::l)) 3 1,.tp []):=by show(bif(x::l).all _&&sw _ then _ else Z)=_;grind
theorem aom:acy .nl=[]:=rfl
theorem aol{b:Nat}:acy (.ay l a b)=l:=rfl
attribute[go_sem]ani ax1 ax2 ax0 axY ayw af7 aom aol
section
variable{cf:bU}{rec:dR}{O:St}{o:Op}{x:aK}{xs:List aK}{f:bW}
def abN(c:bU)(r:dR)(s:St)(o:Op)(f:bW)(x:aK)(b:List aK):SV->ah (St×SV)|.dv d ow=>(opsV c.aq (cZ (aQ leave s x) (handsOn o)) b).bind λa=>jv c r f (d::a) ow (cZ (aQ leave s x) (handsOn o)).g λv g=>J ({cZ (aQ leave s x) (handsOn o)with g:=g},v)|_=>Z
theorem anj(h:cf.fk f=2):qC cf rec O o (.func f) (x::xs)=(cU cf.aq O x).bind (abN cf rec O o f x xs):=by show(bif aw _ 1 then _ else bif aw _ 2 then _ else _)=_;rw[h];show(match cU _ O x with|some (.dv d ow)=>_|_=>Z)=_;cases cU _ O x with|none=>rfl|some v=>cases v with|dv d ow=>show(cw _ xs).bind _=(opsV _ _ xs).bind _;rw[Du];congr 1;funext a;rw[kD];rfl|_=>rfl
theorem ana{d:DV}:abN cf rec O o f x xs (.dv d ow)=(opsV cf.aq (cZ (aQ leave O x) (handsOn o)) xs).bind λa=>jv cf rec f (d::a) ow (cZ (aQ leave O x) (handsOn o)).g λv g=>J ({cZ (aQ leave O x) (handsOn o)with g:=g},v):=(rfl)
attribute[go_sem]anj ana
end
theorem ajE{b:Nat}(h:a+b<1000000000):dN .i64 (kh 0 (.ofNat a))=.ofNat a/\dN .i64 (kh (.ofNat a) (.ofNat b))=.ofNat (a+b):=by
 refine⟨?_,?_⟩;.grind[AK]
 .exact AK ab
theorem aew{b n:Nat}(d:cf.iU f [.nl,.int .i64 (.ofNat n)]=J (CU e s b [.nl,.int .i64 (.ofNat n)]))(a:(aw (cf.fk f) 2&&!vU .no)=C)(g:n<1000000000)(c:b<=1000):CC f [.nl,.int .i64 (.ofNat n)] (.val (bif aw n 0 then .dv .nl .any else .dv (.ay [] e s) (.ex e)) .empty):=by refine CN ?_ a;rw[d];have h:n*b<=1000000000*1000:=qz ab c;show J (bif bt _ _&&bt n _ then _ else Z)=_;grind[nw,bm]
theorem aa8{n b:Nat}{o:aM}(h:n≠0):fu e n b .nl o []=J (.nl,.any):=by grind[fu,kS,bt]
theorem cw1:dN .i64 (kh 0 1)=1:=rfl
theorem cw2:dN .i64 (kh 1 1)=2:=rfl
theorem cl0:aA 0 (.ofNat 2)=V:=rfl
theorem cl1:aA 1 (.ofNat 2)=V:=rfl
theorem cl2:aA 2 (.ofNat 2)=C:=rfl
attribute[local go_sem]cw1 cw2 cl0 cl1 cl2
theorem Hs{d:α->DV}{i r:Nat}(f:(i,e,s,m,k,r)=(283,3,1,8,334,32)\/(i,e,s,m,k,r)=(351,373,2,16,400,255)\/(i,e,s,m,k,r)=(296,64,8,88,350,62))(v:∀x,(d x).flat.length=s)(a c:List α)(o p:Bool)(h:a.length+c.length<1000000000):CC i [.ay [bw o (a.map d) e s,bw p (c.map d) e s] r 1] (.val (fP ((a++c).map d) e s) .empty):=by
 obtain⟨A,B⟩:=ajE h;have j:∀l:List α,((l.map d).all λy=>decide (y.flat.length=s))=V:=λl=>by simp[v]
 have l1:∀{e s},nd (bw o (a.map d) e s)=J a.length:=by simp[Mf]
 have l2:∀{e s},nd (bw p (c.map d) e s)=J c.length:=by simp[Mf]
 have x0:aA (.ofNat a.length) 0=C:=rfl;have x1:aA (.ofNat (a.length+c.length)) 0=C:=rfl;have q:s≠0/\a.length+c.length<=bm/\(a.length+c.length)*m<=bm:=by grind[bm]
 have t:fu e s m (.ay [] e s) (.ex e) (a.map d)=J (.ay (a.map d) e s,.ex e):=by grind[p8]
 have u:fu e s m (.ay (a.map d) e s) (.ex e) (c.map d)=J (.ay ((a.map d)++(c.map d)) e s,.ex e):=by grind[p8]
 have z:=λh=>@aa8 e s m .any h;have g:ev PP cf (.call k [.nl,.int .i64 (.ofNat (a.length+c.length))] .no .empty)=_:=aew (e:=e) (s:=s) (b:=m) (n:=a.length+c.length) (by rcases f with h|h|h<;>cases h<;>rfl) (by rcases f with h|h|h<;>cases h<;>rfl) h ai;rcases f with h|h|h<;>cases h<;>first|refine aO func283 ?_|refine aO func351 ?_|refine aO func296 ?_
 all_goals
 simp only[go_sem,f283,f351,f296];refine ik ?_;simp only[go_sem,l1,A,x0];refine ik ?_;simp only[go_sem,l2,B,x1];refine ik ?_;by_cases f:a.length+c.length=0;.obtain rfl:a=[]:=bf.1 ab;obtain rfl:c=[]:=bf.1 ab;replace g:CC _ [.nl,.int .i64 0] (.val (.dv .nl .any) .empty):=g;simp only[go_sem,g,gX];refine ik ?_;simp only[go_sem,z ab];refine ik ?_;simp only[go_sem,z ab];refine ik ?_;simp only[go_sem]
 . rw[kS f]at g;simp only[bX]at g;simp only[go_sem,g];refine ik ?_;simp only[go_sem,t,j];refine ik ?_;simp only[go_sem,u,j];refine ik ?_;simp only[go_sem];rw[pZ];have w:((a.map d)++(c.map d)).length=a.length+c.length:=ai;generalize(a.map d)++(c.map d)=L at w;rcases L with _|⟨x,l⟩;.grind
   rfl
theorem anF(a b:List Expr)(n c:Bool)(h:a.length+b.length<1000000000):CC 296 [.ay [bw n (Expr.bn a) 64 8,bw c (Expr.bn b) 64 8] 62 1] (.val (fP (Expr.bn (a++b)) 64 8) .empty):=by have:=Hs (d:=λe=>.agg (Expr.cells e)) (.inr (.inr rfl)) Expr.dE a b n c h;simp only[Expr.rH];exact this
def mD(l:cF):Prop:=yn l/\l.length<=100000
theorem Hp(l:cF):mD (wD l):=⟨abQ l,gw (Ol l) ab⟩
theorem axR{v:Int}(h:yn [v]):mD [v]:=⟨h,aP⟩
theorem Vj:mD []:=⟨λ_ h=>ai,aP⟩
theorem aaY(l:cF):(l.map iD).all uO=V:=AW.2 λx h=>by obtain⟨y,_,rfl⟩:=au.1 h;rfl
theorem ajo{x:Int}{l:cF}(h:yn (x::l))(b:(x::l).length<1000000000):∃(y:Int)(t:cF),cf.qh 248 (.ay (iD x::l.map iD) 3 1) []=J (.ay (iD y::t.map iD) 3 1,.tp [])/\ev PP cf (.call 249 [.ay (iD y::t.map iD) 3 1] (.ex 3) .empty)=J (.val (.dv (bw V ((wD (x::l)).map iD) 3 1) .no) .empty):=by
 have a:(Jx _).length=(x::l).length:=List.length_mergeSort _;have c:=anz h;have s:∀n,n<1000000000->sw n=V:=λn a=>by simp_all[sw]
 rcases z:Jx (x::l)with _|⟨y,t⟩;.grind
 refine⟨y,t,?_,CN ?_ rfl⟩;.rw[ayc (aaY (x::l)) ai,<-fO,aJM,z];rfl
 .show(bif((y::t).map iD).all _&&sw _ then J _ else J _)=_;grind[aaY,aoe,aBt]
def adm:ev PP cf (.call 249 [.nl] .any .empty)=J (.val (.dv .nl .no) .empty):=CN rfl rfl
theorem TJ(a b:Sl Int)(e:mD a.l)(f:mD b.l):CC 241 [cE a,cE b] (.val (.dv (bw V ((pX a.l b.l).map iD) 3 1) .no) .empty):=by
 have k:=e.2;have m:=f.2;have h:=Hs (d:=iD) (.inl rfl) (λ_=>rfl) a.l b.l a.nl b.nl ab;have i:yn _:=λz j=>by rcases Co.1 j with h|h;exact e.1 z h;exact f.1 z h
 have g:(a.l++b.l).length<1000000000:=ai;unfold pX;refine aO func241 ?_;generalize a.l++b.l=c at*;rcases c with _|⟨x,l⟩;.simp only[go_sem,f241,h,adm];rfl
 obtain⟨y,t,e1,e2⟩:=ajo i g;simp only[go_sem,f241,h,e1,e2]
mutual
def ae.nM : ae -> cF
  | .mk op _ args _ var _ _ _ => bif aj op 0 then [var] else bif aj op 2 || aj op 4 then [] else ae.FM args []
def ae.FM : bq -> cF -> cF
  | [], s => s
  | q :: l, s => ae.FM l (pX s q.nM)
end
def vM(l:cF)(o:aM):SV:=.dv (bw V (l.map iD) 3 1) o
def FN:ah cF->SV|none=>.dv .nl .any|some l=>.dv (bw V (l.map iD) 3 1) .no
def I7:ah cF->cF|none=>[]|some l=>l
structure Cs(p:ae):Prop where
 a:p.nn<1100000
 b:∀q∈nodes p,∃m:Nat,q.op=.ofNat m/\aA (.ofNat m) 8=V
 c:∀q∈nodes p,0<=q.var/\q.var<16
mutual
theorem ae.aEK : ∀ p : ae, (∀ q ∈ nodes p, 0 <= q.var /\ q.var < 16) -> yn p.nM
  | .mk o l args t v s n c, h => by
    simp only [ae.nM]
    cases aj o 0 with
    | true => intro z a; rw [aR, Cq] at a; subst a; exact h _ (by rw [nodes]; exact gv ..)
    | false =>
      cases aj o 2 || aj o 4 with
      | true => intro z a; simp at a
      | false => exact ae.ahZ args [] (λ z a => by simp at a)
theorem ae.ahZ : ∀ (l : bq) (s : cF), yn s -> yn (ae.FM l s)
  | [], s, h => h
  | q :: l, s, _ => ae.ahZ l _ (abQ _)
end
theorem Cs.arg{o n a t v s p c}(h:Cs (.mk o n a t v s p c)){x:ae}(d:x∈a):Cs x:=by
 have m:∀q∈nodes x,q∈nodes (.mk o n a t v s p c):=λq b=>by grind[nodes,ae.Mx]
 exact⟨by have:=h.a;have:=ae.rV _ x d;grind[ae.nn],λq b=>h.b q (m q b),λq b=>h.c q (m q b)⟩
def zK{n:Nat}:bw V [] e n=.nl:=rfl
theorem ah0:∀(l:bq)(s:cF),s.length<=16->(ae.FM l s).length<=16|[],_,h=>h|q::l,s,_=>ah0 l _ (Ol _)
theorem ahY:∀p:ae,p.nM.length<=16
 |.mk o n args t v s a c=>by
  simp only[ae.nM];cases aj o 0
  . cases aj o 2||aj o 4;.exact ah0 args [] fD
    .exact mn _
  .show 1<=16;decide
theorem Wc(p:ae)(h:∀q∈nodes p,0<=q.var/\q.var<16):mD p.nM:=⟨ae.aEK p h,gw (ahY p) ab⟩
theorem aK1(k b a t r c p n)(h:Cs (.mk k b a t r c p n))(W:∀x,x∈a->∃o,CC 209 [.agg x.cells] (.val (vM x.nM o) .empty)):∃o,CC 209 [.agg (ae.mk k b a t r c p n).cells] (.val (vM (ae.mk k b a t r c p n).nM o) .empty):=by
 obtain⟨m,y,B⟩:=h.b _ (by rw[nodes];exact gv ..);simp only[ae.op]at y;subst y;suffices S:Sat (ev PP cf (.call 209 [.agg (ae.mk (.ofNat m) b a t r c p n).cells] .no .empty)) λv g=>g=.empty/\∃o,v=vM (ae.mk (.ofNat m) b a t r c p n).nM o by obtain⟨v,g,e,rfl,o,rfl⟩:=S;grind
 refine np func209 ?_;simp only[go_sem,f209,ae.cells,ae.nM,B,keB];have f:(aj (.ofNat m) 2||aj (.ofNat m) 4)=V->aj (.ofNat m) 0=C:=by grind[iZ]
 apply gV<;>intro q<;>simp only[q,go_sem];.simp only[f q,go_sem];exact⟨trivial,.any,rfl⟩
 apply gV<;>intro A<;>simp only[A,go_sem];.exact⟨trivial,.ex 3,rfl⟩
 refine Aj a (Z:ah cF) (λi s=>[(21,iS i),(3,FN s)]) (λ_=>.empty) (λ_ l s=>mD (I7 s)/\ae.FM l (I7 s)=ae.FM a []) (by have:=ae.mH a;have:=h.a;grind[ae.nn]) rfl rfl ⟨Vj,rfl⟩ (λs I=>?_) (λi x l s w j z I D=>?_);.simp only[ae.FM]at I;rw[<-I.2];cases s with|none=>simp only[go_sem,FN];exact⟨trivial,.any,rfl⟩|some s=>simp only[go_sem,FN];exact⟨trivial,.no,rfl⟩
 .have N:=du j;obtain⟨o,hr⟩:=W x N;have u:=TJ ⟨V,I7 s⟩ ⟨V,x.nM⟩ I.1 (Wc x (h.arg N).c);have d:=D (J (pX (I7 s) x.nM)) ⟨Hp _,I.2⟩;simp only[vM]at hr;cases s with|none=>simp only[go_sem,FN,I7,cE,eG,zK]at u d;simp only[go_sem,FN,w,j,z,hr,u,d]|some s=>simp only[go_sem,FN,I7,cE]at u d;simp only[go_sem,FN,w,j,z,hr,u,d]
theorem ON:∀p:ae,Cs p->∃o,CC 209 [.agg p.cells] (.val (vM p.nM o) .empty)|.mk b n args t v s a c,h=>aK1 _ _ _ _ _ _ _ _ h λx m=>ON x (h.arg m)termination_by p=>pB p decreasing_by simp_wf;have:=pr m;omega
theorem aHW{g:aC}{d:ah Tmp}{o:aM}:rb g d .nl o l=C:=by unfold rb;split<;>simp_all
attribute[go_sem]aHW
def uv(l:bq):cF:=(l.filter λq=>aj q.op 0).map ae.var
def rE:cF->LB|[]=>⟨[.nl],[]⟩|a::l=>⟨[.ay (iD a::l.map iD) 3 1],[(0,.ex 3)]⟩
def Jz(q:ae)(s:cF):ah bM×cF:=(Z,bif aj q.op 0 then s++[q.var]else s)
theorem T7:∀(l:bq)(s:cF),cP Jz l s=(Z,s++uv l)|[],s=>by simp[cP,uv]|q::l,s=>by simp only[cP,Jz];have:=T7 l (bif aj q.op 0 then s++[q.var]else s);rw[this];simp only[uv,D4];cases aj q.op 0<;>simp
theorem amL{x:ae}{s:cF}(h:tx Jz (nodes p) [] x s):s.length<=p.nn:=by obtain⟨pre,post,a,b⟩:=h;grind[T7,uv,QO]
theorem amK{l:bq}(h:∀q∈l,0<=q.var/\q.var<16):yn (uv l):=by intro z a;grind[uv]
theorem TI(p:ae)(b:Cs p):Sat (ev PP cf (.call 208 [.agg p.cells] .no .empty)) λv _=>v=vM (wD (uv (nodes p))) .no:=by
 refine np func208 ?_;simp only[go_sem,f208,OP];refine Av (Qg 2 p b.a) Jz (λc s g'=>g'.get 1=J (.box (rE s))/\g'.get 2=J (.box ⟨p.cells,[]⟩)) [] (λm=>rfl) rfl ⟨rfl,rfl⟩ (λc s g' h=>h.2) (λc s g1 g2 h a=>⟨(a.2 1 ai).trans h.1,(a.2 2 ai).trans h.2⟩) (λx s g1 j R hN L=>?_) (λg1 R hN=>?_)
 . refine Ay L rfl ?_;simp only at hN L;have n:∀i,i<=3->(i=g1.next)=False:=λi h=>cH ab;have d:∀i,i<=3->(g1.next=i)=False:=λi h=>cH ab;obtain⟨op,nl,args,ty,var,scope,e,cond⟩:=x;have dY:=amL j;have P:=b.a;obtain⟨r1,r2⟩:=R;rcases s with _|⟨y,t⟩;.simp only[rE]at r1;simp only[go_sem,L,n,d,Jz,ae.op,ae.var,ae.cells];apply gV<;>intro h<;>simp only[h,go_sem,r1,r2,L,n,d,rE,eG]<;>exact⟨rfl,⟨trivial,trivial⟩,oo,rfl⟩
   have f:(t.length+1<1200000)=True:=ir ai;simp only[rE]at r1;simp only[go_sem,L,n,d,Jz,ae.op,ae.var,ae.cells];apply gV<;>intro h<;>simp only[h,go_sem,r1,r2,L,n,d,rE,f,pZ,fO,eG,lS,fZ]<;>exact⟨rfl,⟨trivial,trivial⟩,oo,rfl⟩
 . rw[T7,jJ]at R|-;obtain⟨r1,r2⟩:=R;have g:=amK b.c;have a:(uv (nodes p)).length<1000000000:=by
    have k:(uv (nodes p)).length<=(nodes p).length:=by grind[uv]
    have q:=QO p;have r:=b.a;omega
   generalize uv (nodes p)=l at*;cases l with|nil=>simp only[rE]at r1;have o:ua .nl=.any:=rfl;simp only[r1,o,go_sem,af7,adm];rfl|cons x l=>obtain⟨y,t,e1,e2⟩:=ajo g a;simp only[rE]at r1;simp only[r1,e1,e2,go_sem,vM]
theorem CA{x:ah bh}{k a:eF->ah bh}:(x.bind (fI k)).bind (fI a)=x.bind (fI λo=>(k o).bind (fI a)):=by
 rcases x with _|r;.rfl
 cases r<;>rfl
theorem aJy:oD PP 32 .nl Z (J (iD 0)) (J (iD 0))=J (.nl,.any):=by rfl
theorem aJz:oD PP 32 .nl (J (iD 0)) Z Z=J (.nl,.any):=by rfl
theorem alL{n b:Nat}{o:aM}(d:n≠0)(a:b<=1000)(c:l.length<1200000):fu e n b (.ay l e n) o []=J (.ay l e n,o):=by have h:(l.length+0)*b<=1200000*1000:=qz ab a;grind[fu,kS,bm,pw,nw]
theorem alr{p:α->Bool}:[].all p=V:=rfl
attribute[go_sem]alr aJy aJz alL
abbrev LR:=cF×cF
def oL(p:ae):cF:=wD (uv (nodes p))
def Ki:ae->ae|.mk _ _ (q::_) _ _ _ _ _=>q|p=>p
def Dw(p:ae)(L:LR):qA:=bif aj p.op 0 then⟨⟨V,pX L.1 [p.var]⟩,⟨V,pX L.2 [p.var]⟩,-1⟩else bif aj p.op 5 then⟨⟨V,pX (pX L.1 (oL (Ki p))) [p.var]⟩,⟨V,pX L.2 [p.var]⟩,p.var⟩else⟨⟨V,pX L.1 (oL (Ki p))⟩,⟨V,pX L.2 (Ki p).nM⟩,-1⟩
abbrev sY(L:LR)(f:Int):DV:=.agg [bw V (L.1.map iD) 3 1,bw V (L.2.map iD) 3 1,iD f]
def RS(a b:cF)(h:mD a)(c:mD b):CC 241 [bw V (a.map iD) 3 1,bw V (b.map iD) 3 1] (.val (.dv (bw V ((pX a b).map iD) 3 1) .no) .empty):=TJ ⟨V,a⟩ ⟨V,b⟩ h c
def aak(a:cF)(v:Int)(h:mD a)(b:mD [v]):CC 241 [bw V (a.map iD) 3 1,.ay [iD v] 3 1] (.val (.dv (bw V ((pX a [v]).map iD) 3 1) .no) .empty):=TJ ⟨V,a⟩ ⟨V,[v]⟩ h b
theorem aqO(b n a t v s p c)(L:LR)(y:Int)(r:Cs (.mk b n a t v s p c))(j:mD L.1)(k:mD L.2)(A:aj b 0=C->∃q l,a=q::l):CC 205 [.agg (ae.mk b n a t v s p c).cells,sY L y] (.val (.dv (Dw (.mk b n a t v s p c) L).d .no) .empty):=by
 have f:mD [v]:=axR λz w=>by rw[Cq]at w;subst w;exact r.c _ (by exact gv ..)
 have x:=aak L.1 v j f;have u:=aak L.2 v k f;have d1:=aJ6;have d2:=aJ7;have d3:=aJ8;simp only[bH,opsOf,f205,go_sem]at d1 d2 d3;simp only[go_sem]at x u;refine aO func205 ?_;cases h:aj b 0 with|true=>simp only[go_sem,f205,ae.cells,sY,h,Dw,ae.op,ae.var,qA.d,x,u,d1]|false=>obtain⟨q,l,rfl⟩:=A h;have e:=r.arg (gv ..);obtain⟨_,g1,d,rfl⟩:=TI q e;obtain⟨o,i⟩:=ON q e;have B:mD (oL q):=Hp _;have u3:=RS L.1 (oL q) j B;have g:=aak (pX L.1 (oL q)) v (Hp _) f;have u5:=RS L.2 q.nM k (Wc q e.c);simp only[vM]at d i;unfold oL at u3 g;simp only[go_sem]at u3 g u5;cases m:aj b 5 with|true=>simp only[go_sem,f205,ae.cells,sY,h,m,Dw,ae.op,ae.var,qA.d,Ki,d,u,u3,g,d2,ae.bn,oL]|false=>simp only[go_sem,f205,ae.cells,sY,h,m,Dw,ae.op,ae.var,qA.d,Ki,d,i,u3,u5,d3,ae.bn,oL]
theorem aL8(a b:cF):(pX a b).length<1200000:=by grind[Ol,pX]
theorem tF{z k:Int}(h:aj z k=V):z=k:=by grind[iZ]
def ae.args:ae->bq|.mk _ _ args _ _ _ _ _=>args
structure zp(p:ae):Prop extends Cs p where
 d:∀q∈nodes p,q.cond.nn<1100000
 e:∀q∈nodes p,tb q.op=V->aj q.op 0=C->∃x,q.args=[x]
theorem zp.arg{o n a t v s p c}(h:zp (.mk o n a t v s p c)){x:ae}(d:x∈a):zp x:=by
 have m:∀q∈nodes x,q∈nodes (.mk o n a t v s p c):=λq b=>by grind[nodes,ae.Mx]
 exact⟨h.toCs.arg d,λq b=>h.d q (m q b),λq b=>h.e q (m q b)⟩
abbrev bI(n:Int):GO:=.box ⟨[iD n],[]⟩
def kA(n f z:Int):GH:=⟨5,[(0,bI n),(1,bI f),(2,.box ⟨[.func 203 [] [.ptr 1 0,.ptr 0 0]],[]⟩),(3,bI z),(4,.box ⟨[.func 240 [] [.ptr 3 0,.ptr 2 0,.ptr 4 0]],[]⟩)]⟩
def CS(q:ae)(L:LR):Int:=q.cond.Bm (Dw q L)
theorem aFz(q:ae)(L:LR):(Dw q L).us.l.length<1200000/\(Dw q L).si.l.length<1200000:=by grind[Dw,aL8]
theorem qA.pure(p:qA):p.d.pure=V:=by show cg _=V;simp[cg,LX,DV.pure]
attribute[go_sem]qA.pure
theorem aqN(i f z:Int)(q:ae)(L:LR)(a:zp q)(e:mD L.1)(g:mD L.2):ev PP cf (.call 203 [iD i,.agg q.cells,sY L f,.ptr 1 0,.ptr 0 0] .no (kA 0 0 z))=J (bif tb q.op&&!aj (CS q L) 0 then .val (.dv (.bool C) .no) (kA i (CS q L) z)else .val (.dv (.bool V) .no) (kA 0 0 z)):=by
 obtain⟨d,n,args,t,v,s,p,c⟩:=q;have hr:ae.mk d n args t v s p c∈nodes (.mk d n args t v s p c):=by simp[nodes]
 obtain⟨m,j,l⟩:=a.b _ hr;subst j;have d1:=aJ5;simp only[bH,opsOf,f203,go_sem]at d1;refine aO func203 ?_;rcases b:tb (.ofNat m)with _|_;.simp only[go_sem,f203,ae.cells,sY,l,b,ae.op,kA]
 have e1:=aqO _ n _ t _ _ _ _ L f a.toCs e g (λh=>by obtain⟨x,k⟩:=a.e _ hr b h;exact⟨x,[],k⟩);have o:=aFz (.mk (.ofNat m) n args t v s p c) L;have e2:=TH _ o.1 o.2 c (a.d _ hr);simp only[go_sem,ae.cells]at e1;simp only[go_sem,f203,ae.cells,sY,l,b,ae.op,kA,d1,e1,e2,CS,ae.cond];apply sp<;>intro h<;>simp only[h,go_sem];grind[tE]
mutual
def yq : ae -> LR -> List (ae × LR)
  | .mk o n args t v s p c, L => (.mk o n args t v s p c, L) :: Fp o args L
def Fp (o : Int) : bq -> LR -> List (ae × LR)
  | [], _ => []
  | q :: l, L => yq q L ++ Fp o l (bif aj o 1 then (pX L.1 (oL q), pX L.2 q.nM) else L)
end
def qq:List (ae×LR)->Nat->ah (Nat×Int)|[],_=>Z|x::l,i=>bif tb x.1.op&&!aj (CS x.1 x.2) 0 then J (i,CS x.1 x.2)else qq l (i+1)
theorem aje:∀(a b:List (ae×LR))(i:Nat),qq (a++b) i=match qq a i with|none=>qq b (i+a.length)|some r=>J r
 |[],_,_=>rfl|x::a,b,i=>by simp only[lS,qq];cases tb x.1.op&&!aj (CS x.1 x.2) 0 with|true=>rfl|false=>rw[bX,bX,aje a b (i+1),dH,AY,Nat.add_comm 1]
def pz(i:Nat):Int:=Int.sub (.ofNat i) 1
theorem aGR(i:Nat):pz (i+1)=.ofNat i:=by show dk _-1=_;grind
theorem aGQ(i:Nat)(h:i<100000000):dN .i64 (kh (pz i) 1)=.ofNat i:=by grind[pz,AK]
def yK(r:ah (Nat×Int))(i:Nat):bh:=match r with|none=>.val (.dv (.bool V) .no) (kA 0 0 (pz i))|some (j,e)=>.val (.dv (.bool C) .no) (kA (.ofNat j) e (.ofNat j))
theorem aAh:∀(p:ae)(L:LR),(yq p L).length=p.nn:=by
 have k:(∀(p:ae)(L:LR),(yq p L).length=p.nn):=by intro p;exact ae.rec (motive_2:=λl=>∀(op:Int)(L:LR),(Fp op l L).length=ae.bN l) (λop nl args ty var scope s cond i L=>by grind[yq,ae.nn]) (λop L=>rfl) (λq l h a op L=>by grind[Fp,ae.bN]) p
 omega
theorem aK3(e f g t v p d n)(N:zp (.mk e f g t v p d n))(L:LR)(h:Int)(i:Nat)(T:i+(ae.mk e f g t v p d n).nn<1100000)(G:mD L.1)(H:mD L.2)(W:∀x,x∈g->∀(L:LR)(h:Int)(i:Nat),i+x.nn<1100000->mD L.1->mD L.2->ev PP cf (.call 240 [.agg x.cells,sY L h,.ptr 3 0,.ptr 2 0,.ptr 4 0] .no (kA 0 0 (pz i)))=J (yK (qq (yq x L) i) (i+x.nn))):ev PP cf (.call 240 [.agg (ae.mk e f g t v p d n).cells,sY L h,.ptr 3 0,.ptr 2 0,.ptr 4 0] .no (kA 0 0 (pz i)))=J (yK (qq (yq (.mk e f g t v p d n) L) i) (i+(ae.mk e f g t v p d n).nn)):=by have e1:=aqN (.ofNat i) h (.ofNat i) _ L N G H;have F:=aGQ i ab;have d1:=aKa;simp only[bH,opsOf,f240,go_sem]at d1;refine aO func240 ?_;rw[yq,qq];simp only[ae.cells,go_sem,kA]at e1;cases w:tb e&&!aj (CS (.mk e f g t v p d n) L) 0 with|true=>simp only[ae.op,w,go_sem]at e1;simp only[go_sem,f240,ae.cells,sY,kA,F,e1,w,ae.op,yK]|false=>
 simp only[ae.op,w,go_sem]at e1;simp only[go_sem,f240,ae.cells,sY,kA,F,e1,w,ae.op];rw[<-aGR i];refine Qu g ((L,h,i+1):LR×Int×Nat) (λk s=>⟨240,45,[(21,iS k),(6,.lp 6 0),(5,.lp 5 0),(4,.dv (.ptr 4 0) .no),(19,.dv (bw f (ae.bn g) 75 14) .no),(20,.dv (.int .i64 (.ofNat g.length)) .no)],[(6,⟨[bw V (s.1.1.map iD) 3 1,bw V (s.1.2.map iD) 3 1,iD s.2.1],[]⟩),(5,⟨.int .i64 e::bw f (ae.bn g) 75 14::.int .i64 t::.int .i64 v::.int .i64 p::.int .i64 d::n.cells,[]⟩)],kA 0 0 (pz s.2.2)⟩) (λ_ l s=>yK (qq (Fp e l s.1) s.2.2) (i+(ae.mk e f g t v p d n).nn)) (λ_ l s=>s.2.2+ae.bN l=i+(ae.mk e f g t v p d n).nn/\mD s.1.1/\mD s.1.2) (by grind[ae.mH,ae.nn]) rfl ⟨by grind[ae.nn],G,H⟩ rfl (λs I=>?_) (λk x l s z y O I P=>?_);.obtain⟨a,_,_⟩:=I;simp only[ae.bN,vk]at a;simp only[go_sem,Fp,qq,yK,kA,a]
 .obtain⟨⟨m,q⟩,h,j⟩:=s;obtain⟨a,b,c⟩:=I;simp only[ae.bN]at a;have Q:=du y;have A:=N.arg Q;have hr:=W x Q (m,q) h j ab b c;obtain⟨_,g1,D,rfl⟩:=TI x A.toCs;obtain⟨o,E⟩:=ON x A.toCs;have B:=RS m (oL x) b (Hp _);have R:=RS q x.nM c (Wc x A.c);simp only[vM]at D E;unfold oL at B;simp only[Fp];rw[aje,aAh];cases K:qq (yq x (m,q)) j with|some r=>obtain⟨U,S⟩:=r;rw[K]at hr;simp only[go_sem,sY,kA,yK]at hr;simp only[go_sem,kA,z,y,hr,yK]|none=>rw[K]at hr;simp only[go_sem,sY,kA,yK]at hr;cases M:aj e 1 with
 |true=>
 have u:=P ((pX m (oL x),pX q x.nM),-1,j+x.nn) ⟨ai,Hp _,Hp _⟩;simp only[go_sem,kA,oL]at u;try simp only[go_sem]at B R
 simp only[go_sem,kA,z,y,O,hr,M,D,E,B,R,d1,u,oL]|false=>have u:=P ((m,q),h,j+x.nn) ⟨ai,b,c⟩;simp only[go_sem,kA]at u;simp only[go_sem,kA,z,y,O,hr,M,u]
theorem adl:∀p:ae,zp p->∀(L:LR)(f:Int)(i:Nat),i+p.nn<1100000->mD L.1->mD L.2->ev PP cf (.call 240 [.agg p.cells,sY L f,.ptr 3 0,.ptr 2 0,.ptr 4 0] .no (kA 0 0 (pz i)))=J (yK (qq (yq p L) i) (i+p.nn))|.mk o l args t v s n c,a,L,f,i,e,b,d=>aK3 _ _ _ _ _ _ _ _ a L f i e b d λx h=>adl x (a.arg h)termination_by p=>pB p decreasing_by simp_wf;have:=pr h;omega
def Gh(p:ae):Int×Int:=bif aj p.jx 0 then(match qq (yq p ([],[])) 0 with|none=>(0,0)|some (j,e)=>(.ofNat j,e))else(0,p.jx)
theorem aqM(p:ae)(a:zp p):∃z,ev PP cf (.call 202 [.agg p.cells,.func 203 [] [.ptr 1 0,.ptr 0 0]] .no ⟨2,[(0,bI 0),(1,bI 0)]⟩)=J (.val (.tp []) (match qq (yq p ([],[])) 0 with|none=>kA 0 0 z|some (j,e)=>kA (.ofNat j) e z)):=by
 have e1:=adl p a ([],[]) (-1) 0 (by have:=a.a;omega) Vj Vj;rw[show pz 0=-1 from rfl]at e1;rcases h:qq _ 0 with _|r;.rw[h]at e1;refine⟨pz (0+p.nn),?_⟩;simp only[go_sem,sY,kA,yK,eG,zK]at e1;refine aO func202 ?_;simp only[go_sem,f202,e1,kA]
 obtain⟨j,e⟩:=r;rw[h]at e1;refine⟨.ofNat j,?_⟩;simp only[go_sem,sY,kA,yK,eG,zK]at e1;refine aO func202 ?_;simp only[go_sem,f202,e1,kA]
theorem aqx(p:ae)(b:p.jx=0->zp p)(q:lV p):Sat (ev PP cf (.call 143 [.agg p.cells] .no .empty)) λv _=>v=.tp [iO (Gh p).1,iO (Gh p).2]:=by
 have a:=OM p q;have d1:=aJ1;simp only[bH,opsOf,f143,go_sem]at d1;refine np func143 ?_;simp only[go_sem,f143,a,Gh];apply gV<;>intro h<;>simp only[h,go_sem];obtain⟨z,e1⟩:=aqM p (b (tE h));rcases f:qq _ 0 with _|r;.rw[f]at e1;simp only[kA]at e1;simp only[go_sem,e1,d1]
 rw[f]at e1;simp only[kA]at e1;simp only[go_sem,e1,d1]
set_option maxHeartbeats 4000000
def Wb(o a k:Int):Bool:=bif aj o 5||(aj o 6||(aj o 7||aj o 8))then aj k 0 else bif aj o 10||(aj o 11||aj o 12)then aj k 1 else bif aj o 9 then aj k a else V
def QT(o:Int)(k:cF):Int:=bif k.all (Wb o (k.headD 0))then 0 else 9
theorem aq0(o k:Int)(s:cF)(d:s.length<1200000):CC 247 [iD o,DV.ay (iD k::s.map iD) 3 1] (vI (QT o (k::s))):=by
 refine aO func247 ?_;simp only[go_sem,f247,QT,List.headD_cons];refine jn (k::s) (λi=>[(10,iS i)]) (λ_ l=>vI (bif l.all (Wb o k)then 0 else 9)) ai rfl rfl ?_ (λi x l a b w c=>?_);.simp only[go_sem,nU]
 .simp only[dH]at a;replace b:(iD k::s.map iD)[i]?=J (iD x):=ai;simp only[go_sem,a,b,Wb,oJ]at c|-;repeat'(with_reducible apply sp<;>intro h<;>simp only[h,w,c,go_sem])
def aiN(o:Int):Int:=bif aj o 5||aj o 6 then 0 else 1
def T4(t:List b9)(b:List eA)(a:Int):List lr:=match b[a.toNat]? with|some v=>(match t[v.ty.toNat]? with|some s=>s.fields.l|none=>[])|none=>[]
def BL(t:List b9)(s:List eA)(o v e n k:Int):Int×Int:=bif aj o 0 then(k,0)else bif aA v (.ofNat s.length)then bif aj o 2||aj o 3 then(0,0)else match(T4 t s v)[e.toNat]? with|some f=>bif aj o 4&&(!aj f.kind k||!RM n f.kind)then(0,9)else(f.kind,0)|none=>(0,6)else(0,6)
def RQ(s:Sl b9)(a:Sl eA):Prop:=∀v∈a.l,∃t:Nat,v.ty=.ofNat t/\t<s.l.length
theorem abm{l:List α}{n:Nat}(h:n<l.length):∃x,l[n]?=J x:=aT
theorem Qv{l:List α}{n:Nat}{x:α}(h:l[n]?=J x):(n<l.length)=True:=ai
theorem Uf{l:List α}{n:Nat}(h:l[n]?=Z):(n<l.length)=False:=aT
def tn(m:Nat):(dk m).toNat=m:=rfl
theorem aKb:dz cf (bH f246 7)=V:=by rfl
theorem aqZ(d:Sl b9)(b:Sl eA)(o B r v M e k u l)(A:RQ d b)(y:aj o 0=C->∃n:Nat,v=.ofNat n)(p:(aj o 0||(aj o 2||aj o 3))=C->∃n:Nat,M=.ofNat n):CC 246 [.agg [cB d,kB b],.agg (Expr.mk o B r v M e k u l).cells] (vT [iO (BL d.l b.l o v M e k).1,iO (BL d.l b.l o v M e k).2]):=by refine aO func246 ?_;have hd:=aKb;simp only[bH,opsOf,f246,go_sem]at hd;cases a:aj o 0 with|true=>simp only[go_sem,f246,Expr.cells,BL,a]|false=>obtain⟨n,rfl⟩:=y a;rw[a,y7]at p;cases c:b.l[n]? with|none=>have e1:=Uf c;simp only[go_sem,f246,Expr.cells,BL,a,e1]|some x=>
 have e1:=Qv c;obtain⟨t,w,z⟩:=A x (du c);obtain⟨s,q⟩:=abm z;have e2:T4 d.l b.l (.ofNat n)=s.fields.l:=by grind[T4]
 cases g:aj o 2 with|true=>simp only[go_sem,f246,Expr.cells,BL,a,e1,g]|false=>cases j:aj o 3 with|true=>simp only[go_sem,f246,Expr.cells,BL,a,e1,g,j]|false=>obtain⟨m,rfl⟩:=p aT;cases i:s.fields.l[m]? with|none=>have e3:=Uf i;simp only[go_sem,f246,Expr.cells,BL,a,e1,g,j,c,w,q,e2,e3,i,hd,tn]|some f=>have e3:=Qv i;simp only[go_sem,f246,Expr.cells,BL,a,e1,g,j,c,w,q,e2,e3,i,hd,tn];repeat'(with_reducible apply sp<;>intro h<;>simp only[h,adq,go_sem])
def aao(t:Sl b9)(s:Sl eA):Int:=bif aA 16 (.ofNat s.l.length)then 5 else bif s.l.all (λv=>!aA v.ty 0&&aA v.ty (.ofNat t.l.length))then 0 else 6
def Dj(o:Int)(r:Int×cF):Int×Int:=bif aj r.1 0 then(bif aj (QT o r.2) 0 then(aiN o,0)else(0,QT o r.2))else(0,r.1)
mutual
def Expr.tV (t : List b9) (v : List eA) : Expr -> Int × Int
  | .mk op _ args var e n k _ _ => bif args.isEmpty then BL t v op var e n k else Dj op (Expr.Fi t v args [])
def Expr.Fi (t : List b9) (v : List eA) : List Expr -> cF -> Int × cF
  | [], k => (0, k)
  | e :: l, k => bif aj (e.tV t v).2 0 then Expr.Fi t v l (k ++ [(e.tV t v).1]) else ((e.tV t v).2, [])
end
theorem Expr.aj5:∀(l:List Expr),Expr.DQ l=0->∀e∈l,e.wg=0
 |[],_,e,h=>by simp at h|a::l,h,e,m=>by
  simp only[Expr.DQ,iZ]at h;by_cases b:a.wg=0
  . simp[b]at h;rcases Cp.1 m with rfl|m;.exact b
    .exact Expr.aj5 l h e m
  .simp[b]at h
theorem Expr.aj4{o l a v e n k u s}(h:(Expr.mk o l a v e n k u s).wg=0):VM.iT o (.ofNat a.length) v e n k u s=0/\Expr.DQ a=0:=by grind[Expr.wg,Expr.iT,iZ]
theorem aAc{o v M e k u:Int}{s:aC}(h:iT o 0 v M e k u s=0):(aj o 0=C->∃n:Nat,v=.ofNat n)/\((aj o 0||(aj o 2||aj o 3))=C->∃n:Nat,M=.ofNat n)/\(aj o 4=V->aj e 0=C):=by have a:∀z:Int,¬z<0->∃n:Nat,z=.ofNat n:=λz d=>⟨z.toNat,ai⟩;all_goals
 simp only[iT,arity,yU,yT,gL,iZ]at h;refine⟨λ_=>a _ λc=>?_,?_,?_⟩;.grind
 .first|(intro b;simp[aj]at b;done)|(intro _;refine a _ λc=>?_;grind)
 grind[iZ]
theorem aK0(t:Sl b9)(v:Sl eA)(o j a c M n k u r)(y:a.length<1100000)(D:a.isEmpty=C)(W:∀x,x∈a->CC 207 [.agg [cB t,kB v],.agg x.cells] (vT [iO (x.tV t.l v.l).1,iO (x.tV t.l v.l).2])):CC 207 [.agg [cB t,kB v],.agg (Expr.mk o j a c M n k u r).cells] (vT [iO ((Expr.mk o j a c M n k u r).tV t.l v.l).1,iO ((Expr.mk o j a c M n k u r).tV t.l v.l).2]):=by
 refine aO func207 ?_;have q:a.length≠0:=ai;have H:aj (.ofNat a.length) 0=C:=by grind[iZ]
 simp only[go_sem,f207,Expr.cells,Expr.tV,D,H];refine sV a ([]:cF) (λi s=>[(24,iS i),(6,fP (s.map iD) 3 1)]) (λ_ l s=>vT [iO (Dj o (Expr.Fi t.l v.l l s)).1,iO (Dj o (Expr.Fi t.l v.l l s)).2]) (λi _ s=>s.length=i) ab rfl rfl rfl (λs I=>?_) (λi x l s d f w I p=>?_);.cases s with|nil=>grind|cons k0 g=>have e:=aq0 o k0 g ai;simp only[go_sem]at e;simp only[go_sem,Expr.Fi,Dj,aiN,e];repeat'(with_reducible apply sp<;>intro h<;>simp only[h,go_sem])
 .have hr:=W x (du f);simp only[go_sem]at hr;simp only[eq_iff_iff,iff_true]at d;have b:=p (s++[(x.tV t.l v.l).1]) aT;have d:=ir d;cases s with|nil=>simp only[go_sem,jJ]at b;simp only[go_sem,d,f,hr,Expr.Fi,Dj];apply sp<;>intro h<;>simp only[h,w,b,Dj,go_sem]|cons k0 g=>have m:(g.length+1<1200000)=True:=ai;simp only[go_sem,pZ,lS]at b;simp only[go_sem,d,f,hr,Expr.Fi,Dj];apply sp<;>intro h<;>simp only[h,w,b,m,Dj,go_sem,fZ,lS]
theorem aK7(t:Sl b9)(a:Sl eA)(c:RQ t a)(o l v M n k u s)(w:iT o 0 v M n k u s=0):CC 207 [.agg [cB t,kB a],.agg (Expr.mk o l [] v M n k u s).cells] (vT [iO ((Expr.mk o l [] v M n k u s).tV t.l a.l).1,iO ((Expr.mk o l [] v M n k u s).tV t.l a.l).2]):=by obtain⟨h,b,d⟩:=aAc w;have e:=aqZ t a o l [] _ _ n k u s c h b;simp only[Expr.cells,cB,kB]at e;refine aO func207 ?_;simp only[go_sem,f207,Expr.cells,Expr.tV,List.isEmpty_nil,e]
theorem adg(t:Sl b9)(v:Sl eA)(b:RQ t v):∀e:Expr,e.nn<1100000->e.wg=0->CC 207 [.agg [cB t,kB v],.agg e.cells] (vT [iO (e.tV t.l v.l).1,iO (e.tV t.l v.l).2])|.mk o l [] r M n k num str,_,w=>aK7 t v b _ _ _ _ _ _ _ _ (Expr.aj4 w).1|.mk o l (a::args) r M n k num str,c,w=>by simp only[Expr.nn,Expr.bN]at c;exact aK0 _ _ _ _ _ _ _ _ _ _ _ (by have:=Expr.mH args;simp only[dH];omega) rfl λx h=>adg t v b x (by have:=Expr.rV (a::args) _ h;simp only[Expr.bN]at this;omega) (Expr.aj5 _ (Expr.aj4 w).2 x h)termination_by e=>pB e decreasing_by simp_wf;have:=pr h;simp only[List.cons.sizeOf_spec]at this|-;omega
theorem aLZ{t:Sl b9}{s:Sl eA}(h:s.l.all (λv=>!aA v.ty 0&&aA v.ty (.ofNat t.l.length))=V):RQ t s:=by intro v a;have:=AW.1 h v a;simp only[gL,gu,NW,CJ,jV,JZ]at this;exact⟨v.ty.toNat,ai,ab⟩
theorem Expr.anX{e:Expr}(h:aj e.nC 0=V):e.wg=0:=by grind[Expr.nC,iZ]
def IN(t:Sl b9)(v:Sl eA)(e:Expr):Int×Int:=bif aj e.nC 0 then e.tV t.l v.l else(0,e.nC)
def Ah(t:Sl b9)(v:Sl eA)(e:Expr):Int×Int:=bif aj (v8 t.l) 0 then bif aj (aao t v) 0 then IN t v e else(0,aao t v)else(0,v8 t.l)
structure lX(ts:Sl b9):Prop where
 a:∀s,s∈ts.l->s.ok
 b:ts.l.length<1200000
theorem ac5(t:Sl b9)(s:Sl eA)(e:Expr)(n:lX t)(u:s.l.length<1200000)(p:e.nn<1100000):CC 149 [cB t,kB s,.agg e.cells] (vT [iO (Ah t s e).1,iO (Ah t s e).2]):=by
 obtain⟨g1,j⟩:=KN t n.a n.b;have k:=HE e ab;have m:=λh o=>adg t s (aLZ h) e p (Expr.anX o);simp only[go_sem]at j k m;refine aO func149 ?_;simp only[go_sem,f149,j,Ah,aao];apply sp<;>intro h<;>simp only[h,go_sem];apply sp<;>intro h<;>simp only[h,go_sem];all_goals try rfl
 have z:∀l:List eA,(bif aj (bif l.all (λv=>!aA v.ty 0&&aA v.ty (.ofNat t.l.length))then 0 else 6) 0 then IN t s e else(0,bif l.all (λv=>!aA v.ty 0&&aA v.ty (.ofNat t.l.length))then 0 else 6))=bif l.all (λv=>!aA v.ty 0&&aA v.ty (.ofNat t.l.length))then IN t s e else(0,6):=by intro l;cases l.all (λv=>!aA v.ty 0&&aA v.ty (.ofNat t.l.length))<;>rfl
 rw[z];refine sV s.l () (λi _=>[(22,iS i)]) (λ_ l _=>vT [iO (bif l.all (λv=>!aA v.ty 0&&aA v.ty (.ofNat t.l.length))then IN t s e else(0,6)).1,iO (bif l.all (λv=>!aA v.ty 0&&aA v.ty (.ofNat t.l.length))then IN t s e else(0,6)).2]) (λi _ _=>(s.l.take i).all (λv=>!aA v.ty 0&&aA v.ty (.ofNat t.l.length))=V) ab rfl rfl rfl (λ_ a=>?_) (λi x l _ g c w a r=>?_);.rw[D6]at a;simp only[go_sem,nU,k,IN];apply sp<;>intro h<;>simp only[h,m a,go_sem]
 . have I:=λq:(!aA x.ty 0&&aA x.ty (.ofNat t.l.length))=V=>r () (by rw[ZP c,List.all_append,a,oJ,q];rfl);simp only[go_sem]at I;cases b:aA x.ty 0
   . cases f:aA x.ty (.ofNat t.l.length);.simp only[go_sem,g,c,b,f,oJ]
     .have d:=I (by rw[b,f];rfl);simp only[go_sem,g,c,w,b,f,oJ,d]
   .simp only[go_sem,g,c,b,oJ]
def Ti(t:Sl b9)(v:Sl eA)(e:Expr):Int:=bif aj (Ah t v e).2 0 then(bif aj (Ah t v e).1 1 then 0 else 9)else(Ah t v e).2
theorem aqL(t:Sl b9)(v:Sl eA)(e:Expr)(b:lX t)(c:v.l.length<1200000)(n:e.nn<1100000):CC 201 [cB t,kB v,.agg e.cells] (vI (Ti t v e)):=by have a:=ac5 t v e b c n;simp only[go_sem]at a;refine aO func201 ?_;simp only[go_sem,f201,a,Ti];repeat'(with_reducible apply sp<;>intro h<;>simp only[h,go_sem])
end Go.VM
