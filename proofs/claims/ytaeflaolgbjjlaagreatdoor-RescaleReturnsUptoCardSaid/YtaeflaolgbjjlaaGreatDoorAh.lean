/- Proved: what functions of the program answer (a part of the proof of RescaleReturnsUptoCardSaid, whose theorem stands in the last text), within the sizes that each theorem names. -/
import Derived.Test.YtaeflaolgbjjlaaGreatDoorAg
open Option renaming some->J,none->Z
open Bool renaming true->V,false->C
open Go renaming Program->aG,Operand->aK,Code->bF,FuncId->bV
open Go.Lib renaming compact->sR
open Int renaming ofNat->di,add->jP
open List renaming range->tO
open Nat renaming beq->aw,ble->br,blt->cm
open SizeOf renaming sizeOf->oW
noncomputable section
set_option linter.all false
namespace Go.VM
open Go Go.AM
variable{α:Type}{a e s:Nat}{P:aG}{x:ae}{l:aq}
theorem awz{f m i:Nat}{l:cT}{b:dV}{g:GH}{d:ah Tmp}{x:aK}:Bp P ⟨f,m,l,b,g⟩ d x i (J (.slice e)) (.sr s)=((look l s).bind Ol).bind λy=>(aZ P e).bind λn=>bif aw n y.2.2&&(aw y.2.1 e&&cm i y.1.length)then aH ⟨f,m,l,b,g⟩ d (.se s i 0)else Z:=by show(np _ s).bind _=_;rw[S']
theorem ctW{c:bR}{r:dR}{A:rV}{b:ah bh}:cond V (W P c r A) b=jO P c r A:=(rfl)
theorem cfW{c:bR}{r:dR}{A:rV}{b:ah bh}:cond C b (W P c r A)=jO P c r A:=(rfl)
theorem apb:aj 1 0=C/\aj 2 0=C/\aj 3 0=C/\aj 4 0=C/\aj 5 0=C/\aj 6 0=C/\aj 7 0=C/\aj 8 0=C/\aj 9 0=C/\aj 10 0=C/\aj 11 0=C/\aj 12 0=C/\aj 13 0=C/\aj 14 0=C/\aj 15 0=C/\aj 16 0=C/\aj 17 0=C/\aj 18 0=C/\aj 19 0=C/\aj 20 0=C/\aj 21 0=C/\aj 22 0=C/\aj 23 0=C:=eY
attribute[go_sem]apb
attribute[go_sem 1100]ctW cfW
attribute[go_sem]awz
open Proofs.Tryz
attribute[local congr]bz bA
set_option maxRecDepth 100000
set_option maxHeartbeats 1000000
mutual
theorem ae.U' : ∀ (p q : ae), q ∈ nodes p -> q.nn <= p.nn
  | .mk o n args t v s a c, q, h => by
    rw [nodes] at h
    rcases List.mem_cons.1 h with rfl | h
    · exact bJ _
    · have := ae.agv args q h
      simp only [ae.nn]; omega
theorem ae.agv : ∀ (l : bq) (q : ae), q ∈ eS l -> q.nn <= ae.bH l
  | [], _, h => by simp [eS] at h
  | p :: l, q, h => by
    rw [eS, AK] at h
    simp only [ae.bH]
    rcases h with h | h
    · have := ae.U' p q h; omega
    · have := ae.agv l q h; omega
end
theorem Qc(p:ae):(nodes p).length=p.nn:=by have:=Ff [p];grind[eS,ae.bH]
theorem Sp:∀(l:bq)(a b:Int),(l.foldl uQ (a,b,C)).2.2=C
 |[],_,_=>rfl|q::l,a,b=>by
  have e:∃c d,uQ (a,b,C) q=(c,d,C):=by unfold uQ;cases lT q.op<;>cases Ap q.op<;>simp
  obtain⟨c,d,e⟩:=e;rw[AI,e];exact Sp l c d
def lq(l:cE)(v:Int):Bool:=l.any λx=>aj x v
theorem SS(a b:Int):aj a b=aj b a:=by grind[jU]
theorem apP(s:Sl Int)(v:Int)(d:s.l.length<1200000):CC 332 [cL s,iD v] (vI (gP (λx=>aj x v) s.l 0)):=by
 refine aP func332 ?_;simp only[go_sem,f332];refine gR _ (λi=>[(8,iS i)]) (λi l=>vI (gP _ l i)) ab rfl rfl ?_ (λi x l b c w a=>?_);.simp only[go_sem,gP]
 .simp only[go_sem,b,c,gP,SS v x]at a|-;apply sp<;>intro h<;>simp only[h,w,a,go_sem]
theorem SZ(s:Sl Int)(v:Int)(l:s.l.length<1200000):CC 269 [cL s,iD v] (vB (lq s.l v)):=by have h:=apP s v l;simp only[go_sem]at h;refine aP func269 ?_;simp only[go_sem,f269,h,CX,lq]
structure qd where
 us:Sl Int
 si:Sl Int
 fb:Int
def qd.d(p:qd):DV:=.agg [cL p.us,cL p.si,iD p.fb]
def Tq(p:qd)(o v:Int):Int:=bif aj o 1||aj o 2 then(bif lq p.us.l v then(bif lq p.si.l v then 0 else 11)else 10)else bif aj o 3||aj o 4 then(bif lq p.us.l v then(bif aj v p.fb then 11 else 0)else 10)else 0
mutual
def Expr.A9 (p : qd) : Expr -> Int
  | .mk op _ args var _ _ _ _ _ => bif aj (Tq p op var) 0 then Expr.Hv p args else Tq p op var
def Expr.Hv (p : qd) : List Expr -> Int
  | [] => 0
  | e :: l => bif aj (e.A9 p) 0 then Expr.Hv p l else e.A9 p
end
theorem asi(o:Int):(aj o 1=V/\aj o 2=C/\aj o 3=C/\aj o 4=C/\aA o 1=C/\aA 4 o=C)\/(aj o 1=C/\aj o 2=V/\aj o 3=C/\aj o 4=C/\aA o 1=C/\aA 4 o=C)\/(aj o 1=C/\aj o 2=C/\aj o 3=V/\aj o 4=C/\aA o 1=C/\aA 4 o=C)\/(aj o 1=C/\aj o 2=C/\aj o 3=C/\aj o 4=V/\aA o 1=C/\aA 4 o=C)\/(aj o 1=C/\aj o 2=C/\aj o 3=C/\aj o 4=C/\aA o 1=V/\aA 4 o=C)\/(aj o 1=C/\aj o 2=C/\aj o 3=C/\aj o 4=C/\aA o 1=C/\aA 4 o=V):=by simp only[jU,fQ,gZ,qj];omega
theorem sxf{n:Nat}(N:n=216)(p:qd)(y:p.us.l.length<1200000)(z:p.si.l.length<1200000)(o t r v L g k u s)(A:r.length<1100000)(W:∀x,x∈r->CC n [.agg x.cells,p.d] (vI (x.A9 p))):CC n [.agg (Expr.mk o t r v L g k u s).cells,p.d] (vI ((Expr.mk o t r v L g k u s).A9 p)):=by
 have e3:=SZ p.us v y;have e4:=SZ p.si v z;simp only[go_sem]at e3 e4;subst N;refine aP func216 ?_;rcases asi o with⟨a,b,c,d,e,f⟩|⟨a,b,c,d,e,f⟩|⟨a,b,c,d,e,f⟩|⟨a,b,c,d,e,f⟩|⟨a,b,c,d,e,f⟩|⟨a,b,c,d,e,f⟩;all_goals simp only[go_sem,f216,Expr.cells,qd.d,Expr.A9,Tq,a,b,c,d,e,f,e3];repeat'(with_reducible apply sp<;>intro h<;>simp only[h,e4,go_sem])
 all_goals
 first|refine gR r (λi=>[(54,iS i)]) (λ_ l=>vI (Expr.Hv p l)) ab rfl rfl ?_ (λi x l q j w m=>?_)|refine gR r (λi=>[(7,iS i)]) (λ_ l=>vI (Expr.Hv p l)) ab rfl rfl ?_ (λi x l q j w m=>?_)
 .simp only[go_sem,Expr.Hv]
 .have hr:=W x (dw j);simp only[go_sem,qd.d]at hr;simp only[go_sem,q,j,hr,Expr.Hv]at m|-;apply sp<;>intro h<;>simp only[h,w,m,go_sem]
theorem S0(p:qd)(h:p.us.l.length<1200000)(a:p.si.l.length<1200000):∀e:Expr,e.nn<1100000->CC 216 [.agg e.cells,p.d] (vI (e.A9 p))|.mk o l args v L g k num str,n=>by simp only[Expr.nn]at n;exact sxf rfl p h a _ _ _ _ _ _ _ _ _ (by have:=Expr.mj args;omega) λx m=>S0 p h a x (by have:=Expr.rH args _ m;omega)termination_by e=>oW e decreasing_by simp_wf;have:=oU m;omega
def I9(l:cE):cE:=l.mergeSort λx y=>decide (x<=y)
def J2(l:cE):cE:=sR l
theorem ai2(l:cE):(l.map iD).map oj=l:=by rw[List.map_map];exact List.map_id l
theorem aIw(l:cE):lS (l.map iD)=(I9 l).map iD:=by unfold lS;rw[ai2];rfl
theorem am6(l:cE):xJ (l.map iD)=(J2 l).map iD:=by unfold xJ;rw[ai2];rfl
theorem aIx(l:cE):(I9 l).Pairwise (.<=.)/\∀z,z∈I9 l↔z∈l:=by refine⟨(List.pairwise_mergeSort ai ai l).imp λh=>vu h,λz=>List.mem_mergeSort⟩<;>grind
theorem abN(d:Array Int)(z:Int):∀m,z∈Lib.compactUpTo d m↔∃j,j<m/\d[j]! =z:=by intro m;induction m<;>grind[Lib.compactUpTo,Lib.keeps]
theorem anu(d:Array Int)(h:∀i j,i<=j->j<d.size->d[i]!<=d[j]!):∀m,m<=d.size->(Lib.compactUpTo d m).Pairwise (.<.):=by intro m;induction m with|zero=>simp[Lib.compactUpTo]|succ m o=>
 intro n;rw[Lib.compactUpTo_succ,List.pairwise_append];refine⟨ai,by split<;>simp,λa c b k=>?_⟩;cases l:Lib.keeps d m;.grind
 .obtain⟨j,e,rfl⟩:=(abN d a m).1 c;have f:=h j (m-1) ab ab;have g:=h (m-1) m ab ab;grind[Lib.keeps]
theorem adx(l:cE)(j:Nat)(h:j<l.length):l.toArray[j]! =l[j]:=aT
theorem abC(l:cE)(z:Int):z∈J2 l↔z∈l:=by unfold J2 sR;rw[abN,List.mem_iff_getElem];exact⟨λ⟨j,h,e⟩=>⟨j,h,ai⟩,λ⟨j,h,e⟩=>⟨j,h,ai⟩⟩
theorem am7(l:cE)(h:l.Pairwise (.<=.)):(J2 l).Pairwise (.<.):=by
 refine anu _ (λi j k a=>?_) _ aT;have H:j<l.length:=a;rw[adx l j H,adx l i ab];by_cases e:i=j;.grind
 .exact List.pairwise_iff_getElem.1 h i j _ _ ab
theorem aiv:∀(a b:cE),a.Pairwise (.<.)->b.Pairwise (.<.)->(∀z,z∈a↔z∈b)->a=b
 |[],[],_,_,_=>rfl|[],y::b,_,_,h=>by have:=(h y).2 (gK ..);simp at this|x::a,[],_,_,h=>by have:=(h x).1 (gK ..);simp at this|x::a,y::b,d,f,h=>by
  have w:=List.pairwise_cons.1 d;have u:=List.pairwise_cons.1 f;have e:x=y:=by
    rcases List.mem_cons.1 ((h x).1 (gK ..))with e|g;.exact e
    . rcases List.mem_cons.1 ((h y).2 (gK ..))with e|i;.exact e.symm
      .have:=u.1 x g;have:=w.1 y i;omega
  subst e;rw[aiv a b w.2 u.2 λz=>?_];have:=h z;simp only[Nq]at this;constructor
  . intro c;rcases this.1 (.inr c)with e|e;.have:=w.1 z c;omega
    .exact e
  . intro c;rcases this.2 (.inr c)with e|e;.have:=u.1 z c;omega
    .exact e
def u16:cE:=(tO 16).map di
def yf(l:cE):Prop:=∀z∈l,0<=z/\z<16
def wo(l:cE):cE:=u16.filter (lq l)
theorem aub(l:cE)(v:Int):lq l v=V↔v∈l:=by simp[lq,jU]
theorem ai1(z:Int):z∈u16↔0<=z/\z<16:=by
 unfold u16;rw[List.mem_map];constructor;.grind
 .intro h;exact⟨z.toNat,aT,ai⟩
theorem aKn:u16.Pairwise (.<.):=eY
theorem amu{l:cE}(h:yf l)(z:Int):z∈wo l↔z∈l:=by unfold wo;rw[List.mem_filter,aub,ai1];exact⟨λh=>h.2,λa=>⟨h z a,a⟩⟩
theorem aa1(l:cE):yf (wo l):=λz h=>(ai1 z).1 (List.mem_filter.1 h).1
theorem amv(l:cE):(wo l).Pairwise (.<.):=aKn.sublist List.filter_sublist
theorem amt{l:cE}(h:yf l):J2 (I9 l)=wo l:=by grind[aiv,am7,aIx,amv,abC,amu]
def pK(a b:cE):cE:=wo (a++b)
theorem NM(l:cE):(wo l).length<=16:=Np _ _
theorem aAg{n:Nat}:rD l e n=bP V l e n:=by cases l<;>rfl
def Ir:DV->Nat->SV|.jk,_=>.dv .jk .no|d,e=>.dv d (.ex e)
section
variable{cf:bR}{rec:dR}{fn n f:Nat}{sl:cT}{lb:dV}{g:GH}{o:Op}{x:aK}{xs:List aK}{az:aq}{O:St}
def EO(c:bR)(t:St)(f:bV)(a:aq)(s:Nat):SV->ah (St×SV)|.dv d (.ex e)=>(c.pU f d a).map λr=>({t with sl:=put (ij t.sl s) s (Ir r.1 e)},r.2)|_=>Z
def Pw(c:bR)(s:St)(f:bV)(a:aq)(i o:Nat):GO->ah (St×SV)|.box b=>(match b.cells[o]?,ew b o with|some d,.ex _=>(c.pU f d a).map λr=>({s with g:=s.g.set i (.box {cells:=iC b.cells o r.1,own:=(match r.1 with|.jk=>cW b.own o 1|_=>b.own)})},r.2)|_,_=>Z)|_=>Z
def Ik(c:bR)(t:St)(f:bV)(x:aK)(a:aq):SV->ah (St×SV)|.dv .nl _=>(c.pU f .nl a).map λr=>(t,r.2)|.dv _ (.ex _)=>(match x with|.tmp s=>(look t.sl s).bind (EO c t f a s)|_=>Z)|.sr s=>(look t.sl s).bind (EO c t f a s)|.gr id o=>(t.g.get id).bind (Pw c t f a id o)|_=>Z
theorem afb:Py cf O f x az=(cR cf.ao O x).bind (Ik cf O f x az):=by
 unfold Py;congr 1;funext v;have a:∀s,(match look O.sl s with|some (.dv d (.ex e))=>(cf.pU f d az).map λr=>({O with sl:=put (ij O.sl s) s (match r.1 with|.jk=>.dv .jk .no|d=>.dv d (.ex e))},r.2)|_=>Z)=(look O.sl s).bind (EO cf O f az s):=by intro s;cases look _ s with|none=>rfl|some v=>cases v with
 |dv d o=>cases o with|ex e=>show(cf.pU f d az).map _=(cf.pU f d az).map _;congr 1;funext r;obtain⟨r1,r2⟩:=r;cases r1<;>rfl|_=>rfl
 |_=>rfl
 cases v with
 |dv d o=>cases d<;>first|rfl|(cases o<;>first|rfl|(cases x<;>first|rfl|exact a _))
 |sr s=>exact a s|gr id c=>
 show(match O.g.get id with|some (.box b)=>_|_=>Z)=(O.g.get id).bind _;rcases O.g.get id with _|o;.rfl
 cases o<;>rfl|_=>rfl
theorem ame(h:cf.fk f=1):qh cf rec O o (.func f) (x::xs)=(opsV cf.ao (cY O xs) xs).bind λaz=>(cR cf.ao (cY O xs) x).bind (Ik cf (cY O xs) f x az):=by show(bif aw _ 1 then(cu _ xs).bind _ else _)=_;rw[h];simp only[afb];rw[Da];rfl
theorem awU{w:aM}:Ik cf O f x az (.dv .nl w)=(cf.pU f .nl az).map λr=>(O,r.2):=(rfl)
theorem awV:Ik cf ⟨fn,n,sl,lb,g⟩ f x az (.sr s)=(look sl s).bind (EO cf ⟨fn,n,sl,lb,g⟩ f az s):=(rfl)
theorem awT{i o:Nat}:Ik cf ⟨fn,n,sl,lb,g⟩ f x az (.gr i o)=(g.get i).bind (Pw cf ⟨fn,n,sl,lb,g⟩ f az i o):=(rfl)
theorem awR{d:DV}:EO cf ⟨fn,n,sl,lb,g⟩ f az s (.dv d (.ex e))=(cf.pU f d az).map λr=>(⟨fn,n,put (ij sl s) s (Ir r.1 e),lb,g⟩,r.2):=(rfl)
theorem axp{b:Nat}:Ir (.ay l a b) e=.dv (.ay l a b) (.ex e):=(rfl)
end
section
variable{P:aG}{cf:bR}{t fn n id a b e f:Nat}{sl:cT}{lb:dV}{g:GH}{d:ah Tmp}{l az:aq}
theorem ayS(h:AM.isAgg P t=J C):rB P t .take ⟨fn,n,sl,lb,g⟩ d id 0 (.box ⟨[.ay l a b],[(0,.ex e)]⟩)=aH ⟨fn,n,sl,lb,g.set id (.box ⟨[.jk],[]⟩)⟩ d (.dv (.ay l a b) (.ex e)):=by show(fD P _ t _ 0).bind _=_;unfold fD;rw[h];rfl
theorem ayR(h:AM.isAgg P t=J C):rB P t .ref ⟨fn,n,sl,lb,g⟩ d id 0 (.box ⟨[.ay l a b],[(0,.ex e)]⟩)=aH ⟨fn,n,sl,lb,g⟩ d (.gr id 0):=by show(match iF.ref,aM.ex e,AM.isAgg P t with|.ref,.ex _,J C=>_|_,_,_=>_)=_;rw[h];rfl
theorem awS:Pw cf ⟨fn,n,sl,lb,g⟩ f az id 0 (.box ⟨[.ay l a b],[(0,.ex e)]⟩)=(cf.pU f (.ay l a b) az).map λr=>(⟨fn,n,sl,lb,g.set id (.box ⟨[r.1],match r.1 with|.jk=>[]|_=>[(0,.ex e)]⟩)⟩,r.2):=by rfl
end
attribute[go_sem]ayS ayR awS
theorem ay8:mQ .nl=J 0:=(rfl)
theorem akY{a b:List α}:(⟨a⟩:Array α)++(⟨b⟩:Array α)=⟨a++b⟩:=aO
theorem aDU:(Z:ah α).toArray=⟨[]⟩:=rfl
theorem aDV{a:α}:(J a).toArray=⟨[a]⟩:=rfl
theorem azU:aA 0 0=C:=rfl
attribute[go_sem]azU ay8 akY aDU aDV
theorem afg:cf.pU 275 .nl []=J (.nl,.tp []):=(rfl)
theorem aw5{x:DV}(h:(x::l).all uu=V)(a:rP (x::l).length=V):cf.pU 275 (.ay (x::l) 3 1) []=J (rD (lS (x::l)) 3 1,.tp []):=by show(bif(x::l).all _&&rP _ then _ else Z)=_;grind
theorem ang:abF .nl=[]:=rfl
theorem anf{b:Nat}:abF (.ay l a b)=l:=rfl
attribute[go_sem]ame awU awV awT awR axp afg ang anf
section
variable{cf:bR}{rec:dR}{O:St}{o:Op}{x:aK}{xs:List aK}{f:bV}
def aaY(c:bR)(r:dR)(s:St)(o:Op)(f:bV)(x:aK)(b:List aK):SV->ah (St×SV)|.dv d w=>(opsV c.ao (cY (aQ leave s x) (handsOn o)) b).bind λa=>kb c r f (d::a) w (cY (aQ leave s x) (handsOn o)).g λv g=>J ({cY (aQ leave s x) (handsOn o)with g:=g},v)|_=>Z
theorem amf(h:cf.fk f=2):qh cf rec O o (.func f) (x::xs)=(cR cf.ao O x).bind (aaY cf rec O o f x xs):=by show(bif aw _ 1 then _ else bif aw _ 2 then _ else _)=_;rw[h];show(match cR _ O x with|some (.dv d w)=>_|_=>Z)=_;cases cR _ O x with|none=>rfl|some v=>cases v with|dv d w=>show(cu _ xs).bind _=(opsV _ _ xs).bind _;rw[Da];congr 1;funext a;rw[jQ];rfl|_=>rfl
theorem al8{d:DV}{w:aM}:aaY cf rec O o f x xs (.dv d w)=(opsV cf.ao (cY (aQ leave O x) (handsOn o)) xs).bind λa=>kb cf rec f (d::a) w (cY (aQ leave O x) (handsOn o)).g λv g=>J ({cY (aQ leave O x) (handsOn o)with g:=g},v):=(rfl)
attribute[go_sem]amf al8
end
theorem aiK{b:Nat}(h:a+b<1000000000):dI .i64 (jP 0 (.ofNat a))=.ofNat a/\dI .i64 (jP (.ofNat a) (.ofNat b))=.ofNat (a+b):=by
 refine⟨?_,?_⟩;.grind[vQ]
 .exact vQ ab
theorem adE{f b n:Nat}(d:cf.iK f [.nl,.int .i64 (.ofNat n)]=J (Cz e s b [.nl,.int .i64 (.ofNat n)]))(a:(aw (cf.fk f) 2&&!vw .no)=C)(g:n<1000000000)(c:b<=1000):CC f [.nl,.int .i64 (.ofNat n)] (.val (bif aw n 0 then .dv .nl .any else .dv (.ay [] e s) (.ex e)) .empty):=by refine Cs ?_ a;rw[d];have h:n*b<=1000000000*1000:=qR ab c;show J (bif br _ _&&br n _ then _ else Z)=_;grind[nH,bl]
theorem aaf{n b:Nat}{o:aM}(h:n≠0):fB e n b .nl o []=J (.nl,.any):=by grind[fB,kK,br]
theorem cw1:dI .i64 (jP 0 1)=1:=rfl
theorem cw2:dI .i64 (jP 1 1)=2:=rfl
theorem cl0:aA 0 (.ofNat 2)=V:=rfl
theorem cl1:aA 1 (.ofNat 2)=V:=rfl
theorem cl2:aA 2 (.ofNat 2)=C:=rfl
attribute[local go_sem]cw1 cw2 cl0 cl1 cl2
theorem G1{d:α->DV}{i m k r:Nat}(f:(i,e,s,m,k,r)=(331,3,1,8,388,26)\/(i,e,s,m,k,r)=(403,394,2,16,464,239)\/(i,e,s,m,k,r)=(343,59,8,88,402,57))(v:∀x,(d x).flat.length=s)(a c:List α)(o p:Bool)(h:a.length+c.length<1000000000):CC i [.ay [bP o (a.map d) e s,bP p (c.map d) e s] r 1] (.val (fU ((a++c).map d) e s) .empty):=by
 obtain⟨A,B⟩:=aiK h;have j:∀l:List α,((l.map d).all λy=>decide (y.flat.length=s))=V:=λl=>by simp[v]
 have l1:∀{e s},mQ (bP o (a.map d) e s)=J a.length:=by simp[LF]
 have l2:∀{e s},mQ (bP p (c.map d) e s)=J c.length:=by simp[LF]
 have x0:aA (.ofNat a.length) 0=C:=rfl;have x1:aA (.ofNat (a.length+c.length)) 0=C:=rfl;have q:s≠0/\a.length+c.length<=bl/\(a.length+c.length)*m<=bl:=by grind[bl]
 have t:fB e s m (.ay [] e s) (.ex e) (a.map d)=J (.ay (a.map d) e s,.ex e):=by grind[qg]
 have u:fB e s m (.ay (a.map d) e s) (.ex e) (c.map d)=J (.ay ((a.map d)++(c.map d)) e s,.ex e):=by grind[qg]
 have z:=λh=>@aaf e s m .any h;have g:ev PP cf (.call k [.nl,.int .i64 (.ofNat (a.length+c.length))] .no .empty)=_:=adE (e:=e) (s:=s) (b:=m) (n:=a.length+c.length) (by rcases f with h|h|h<;>cases h<;>rfl) (by rcases f with h|h|h<;>cases h<;>rfl) h ai;rcases f with h|h|h<;>cases h<;>first|refine aP func331 ?_|refine aP func403 ?_|refine aP func343 ?_
 all_goals
 simp only[go_sem,f331,f403,f343];refine hZ ?_;simp only[go_sem,l1,A,x0];refine hZ ?_;simp only[go_sem,l2,B,x1];refine hZ ?_;by_cases f:a.length+c.length=0;.obtain rfl:a=[]:=List.length_eq_zero_iff.1 ab;obtain rfl:c=[]:=List.length_eq_zero_iff.1 ab;replace g:CC _ [.nl,.int .i64 0] (.val (.dv .nl .any) .empty):=g;simp only[go_sem,g,gE];refine hZ ?_;simp only[go_sem,z ab];refine hZ ?_;simp only[go_sem,z ab];refine hZ ?_;simp only[go_sem]
 . rw[kK f]at g;simp only[bS]at g;simp only[go_sem,g];refine hZ ?_;simp only[go_sem,t,j];refine hZ ?_;simp only[go_sem,u,j];refine hZ ?_;simp only[go_sem];rw[qb];have w:((a.map d)++(c.map d)).length=a.length+c.length:=ai;generalize(a.map d)++(c.map d)=L at w;rcases L with _|⟨x,l⟩;.grind
   rfl
theorem amz(a b:List Expr)(n c:Bool)(h:a.length+b.length<1000000000):CC 343 [.ay [bP n (Expr.bm a) 59 8,bP c (Expr.bm b) 59 8] 57 1] (.val (fU (Expr.bm (a++b)) 59 8) .empty):=by have:=G1 (d:=λe=>.agg (Expr.cells e)) (.inr (.inr rfl)) Expr.dG a b n c h;simp only[Expr.rh];exact this
def mh(l:cE):Prop:=yf l/\l.length<=100000
theorem GZ(l:cE):mh (wo l):=⟨aa1 l,fX (NM l) ab⟩
theorem awK{v:Int}(h:yf [v]):mh [v]:=⟨h,aO⟩
theorem UA:mh []:=⟨λ_ h=>ai,aO⟩
theorem Z6(l:cE):(l.map iD).all uu=V:=List.all_eq_true.2 λx h=>by obtain⟨y,_,rfl⟩:=List.mem_map.1 h;rfl
theorem aiu{x:Int}{l:cE}(h:yf (x::l))(b:(x::l).length<1000000000):∃(y:Int)(t:cE),cf.pU 275 (.ay (iD x::l.map iD) 3 1) []=J (.ay (iD y::t.map iD) 3 1,.tp [])/\ev PP cf (.call 276 [.ay (iD y::t.map iD) 3 1] (.ex 3) .empty)=J (.val (.dv (bP V ((wo (x::l)).map iD) 3 1) .no) .empty):=by
 have a:(I9 _).length=(x::l).length:=List.length_mergeSort _;have c:=amt h;have s:∀n,n<1000000000->rP n=V:=λn a=>by simp_all[rP]
 rcases z:I9 (x::l)with _|⟨y,t⟩;.grind
 refine⟨y,t,?_,Cs ?_ rfl⟩;.rw[aw5 (Z6 (x::l)) ai,<-fS,aIw,z];rfl
 .show(bif((y::t).map iD).all _&&rP _ then J _ else J _)=_;grind[Z6,am6,aAg]
theorem acr:ev PP cf (.call 276 [.nl] .any .empty)=J (.val (.dv .nl .no) .empty):=Cs rfl rfl
theorem S2(a b:Sl Int)(e:mh a.l)(f:mh b.l):CC 268 [cL a,cL b] (.val (.dv (bP V ((pK a.l b.l).map iD) 3 1) .no) .empty):=by
 have k:=e.2;have m:=f.2;have h:=G1 (d:=iD) (.inl rfl) (λ_=>rfl) a.l b.l a.nl b.nl ab;have i:yf _:=λz j=>by rcases List.mem_append.1 j with h|h;exact e.1 z h;exact f.1 z h
 have g:(a.l++b.l).length<1000000000:=ai;unfold pK;refine aP func268 ?_;generalize a.l++b.l=c at*;rcases c with _|⟨x,l⟩;.simp only[go_sem,f268,h,acr];rfl
 obtain⟨y,t,e1,e2⟩:=aiu i g;simp only[go_sem,f268,h,e1,e2]
mutual
def ae.nA : ae -> cE
  | .mk op _ args _ var _ _ _ => bif aj op 0 then [var] else bif aj op 2 || aj op 4 then [] else ae.Fj args []
def ae.Fj : bq -> cE -> cE
  | [], s => s
  | q :: l, s => ae.Fj l (pK s q.nA)
end
def vm(l:cE)(o:aM):SV:=.dv (bP V (l.map iD) 3 1) o
def Fo:ah cE->SV|none=>.dv .nl .any|some l=>.dv (bP V (l.map iD) 3 1) .no
def IH:ah cE->cE|none=>[]|some l=>l
structure B9(p:ae):Prop where
 a:p.nn<1100000
 b:∀q∈nodes p,∃m:Nat,q.op=.ofNat m/\aA (.ofNat m) 8=V
 c:∀q∈nodes p,0<=q.var/\q.var<16
mutual
theorem ae.aDw : ∀ p : ae, (∀ q ∈ nodes p, 0 <= q.var /\ q.var < 16) -> yf p.nA
  | .mk o l args t v s n c, h => by
    simp only [ae.nA]
    cases aj o 0 with
    | true => intro z a; rw [aR, B6] at a; subst a; exact h _ (by rw [nodes]; exact gK ..)
    | false =>
      cases aj o 2 || aj o 4 with
      | true => intro z a; simp at a
      | false => exact ae.ag4 args [] (λ z a => by simp at a)
theorem ae.ag4 : ∀ (l : bq) (s : cE), yf s -> yf (ae.Fj l s)
  | [], s, h => h
  | q :: l, s, _ => ae.ag4 l _ (aa1 _)
end
theorem B9.arg{o n a t v s p c}(h:B9 (.mk o n a t v s p c))(d:x∈a):B9 x:=by
 have m:∀q∈nodes x,q∈nodes (.mk o n a t v s p c):=λq b=>by grind[nodes,ae.LW]
 exact⟨by have:=h.a;have:=ae.rH _ x d;grind[ae.nn],λq b=>h.b q (m q b),λq b=>h.c q (m q b)⟩
theorem zB{n:Nat}:bP V [] e n=.nl:=rfl
theorem ag5:∀(l:bq)(s:cE),s.length<=16->(ae.Fj l s).length<=16|[],_,h=>h|q::l,s,_=>ag5 l _ (NM _)
theorem ag3:∀p:ae,p.nA.length<=16
 |.mk o n args t v s a c=>by
  simp only[ae.nA];cases aj o 0
  . cases aj o 2||aj o 4;.exact ag5 args [] eY
    .exact lX _
  .show 1<=16;decide
theorem Vp(p:ae)(h:∀q∈nodes p,0<=q.var/\q.var<16):mh p.nA:=⟨ae.aDw p h,fX (ag3 p) ab⟩
theorem aJL(k b a t r c p n)(h:B9 (.mk k b a t r c p n))(W:∀x,x∈a->∃o,CC 221 [.agg x.cells] (.val (vm x.nA o) .empty)):∃o,CC 221 [.agg (ae.mk k b a t r c p n).cells] (.val (vm (ae.mk k b a t r c p n).nA o) .empty):=by
 obtain⟨m,y,D⟩:=h.b _ (by rw[nodes];exact gK ..);simp only[ae.op]at y;subst y;suffices S:Sat (ev PP cf (.call 221 [.agg (ae.mk (.ofNat m) b a t r c p n).cells] .no .empty)) λv g=>g=.empty/\∃o,v=vm (ae.mk (.ofNat m) b a t r c p n).nA o by obtain⟨v,g,e,rfl,o,rfl⟩:=S;grind
 refine mV func221 ?_;simp only[go_sem,f221,ae.cells,ae.nA,D,keB];have f:(aj (.ofNat m) 2||aj (.ofNat m) 4)=V->aj (.ofNat m) 0=C:=by grind[jU]
 apply gU<;>intro q<;>simp only[q,go_sem];.simp only[f q,go_sem];exact⟨trivial,.any,rfl⟩
 apply gU<;>intro B<;>simp only[B,go_sem];.exact⟨trivial,.ex 3,rfl⟩
 refine Ab a (Z:ah cE) (λi s=>[(21,iS i),(3,Fo s)]) (λ_=>.empty) (λ_ l s=>mh (IH s)/\ae.Fj l (IH s)=ae.Fj a []) (by have:=ae.mj a;have:=h.a;grind[ae.nn]) rfl rfl ⟨UA,rfl⟩ (λs I=>?_) (λi x l s w j z I E=>?_);.simp only[ae.Fj]at I;rw[<-I.2];cases s with|none=>simp only[go_sem,Fo];exact⟨trivial,.any,rfl⟩|some s=>simp only[go_sem,Fo];exact⟨trivial,.no,rfl⟩
 .have A:=dw j;obtain⟨o,hr⟩:=W x A;have u:=S2 ⟨V,IH s⟩ ⟨V,x.nA⟩ I.1 (Vp x (h.arg A).c);have d:=E (J (pK (IH s) x.nA)) ⟨GZ _,I.2⟩;simp only[vm]at hr;cases s with|none=>simp only[go_sem,Fo,IH,cL,eG,zB]at u d;simp only[go_sem,Fo,w,j,z,hr,u,d]|some s=>simp only[go_sem,Fo,IH,cL]at u d;simp only[go_sem,Fo,w,j,z,hr,u,d]
theorem Ob:∀p:ae,B9 p->∃o,CC 221 [.agg p.cells] (.val (vm p.nA o) .empty)|.mk b n args t v s a c,h=>aJL _ _ _ _ _ _ _ _ h λx m=>Ob x (h.arg m)termination_by p=>oW p decreasing_by simp_wf;have:=oU m;omega
theorem aGH{g:aD}{d:ah Tmp}{o:aM}:qH g d .nl o l=C:=by unfold qH;split<;>simp_all
attribute[go_sem]aGH
def tY(l:bq):cE:=(l.filter λq=>aj q.op 0).map ae.var
def qZ:cE->LB|[]=>⟨[.nl],[]⟩|a::l=>⟨[.ay (iD a::l.map iD) 3 1],[(0,.ex 3)]⟩
def Ja(q:ae)(s:cE):ah bF×cE:=(Z,bif aj q.op 0 then s++[q.var]else s)
theorem Ts:∀(l:bq)(s:cE),cO Ja l s=(Z,s++tY l)|[],s=>by simp[cO,tY]|q::l,s=>by simp only[cO,Ja];have:=Ts l (bif aj q.op 0 then s++[q.var]else s);rw[this];simp only[tY,tN];cases aj q.op 0<;>simp
theorem alI{p:ae}{s:cE}(h:sU Ja (nodes p) [] x s):s.length<=p.nn:=by obtain⟨pre,post,a,b⟩:=h;grind[Ts,tY,Qc]
theorem alH{l:bq}(h:∀q∈l,0<=q.var/\q.var<16):yf (tY l):=by intro z a;grind[tY]
theorem S1(p:ae)(b:B9 p):Sat (ev PP cf (.call 220 [.agg p.cells] .no .empty)) λv _=>v=vm (wo (tY (nodes p))) .no:=by
 refine mV func220 ?_;simp only[go_sem,f220,Od];refine Al (PE 2 p b.a) Ja (λc s g=>g.get 1=J (.box (qZ s))/\g.get 2=J (.box ⟨p.cells,[]⟩)) [] (λm=>rfl) rfl ⟨rfl,rfl⟩ (λc s g h=>h.2) (λc s g1 g2 h a=>⟨(a.2 1 ai).trans h.1,(a.2 2 ai).trans h.2⟩) (λx s g1 k R hN L=>?_) (λg1 R hN=>?_)
 . refine Ao L rfl ?_;simp only at hN L;have n:∀i,i<=3->(i=g1.next)=False:=λi h=>cF ab;have d:∀i,i<=3->(g1.next=i)=False:=λi h=>cF ab;obtain⟨op,nl,args,ty,var,scope,e,cond⟩:=x;have cV:=alI k;have j:=b.a;obtain⟨r1,r2⟩:=R;rcases s with _|⟨y,t⟩;.simp only[qZ]at r1;simp only[go_sem,L,n,d,Ja,ae.op,ae.var,ae.cells];apply gU<;>intro h<;>simp only[h,go_sem,r1,r2,L,n,d,qZ,eG]<;>exact⟨rfl,⟨trivial,trivial⟩,nQ,rfl⟩
   have M:(t.length+1<1200000)=True:=iT ai;simp only[qZ]at r1;simp only[go_sem,L,n,d,Ja,ae.op,ae.var,ae.cells];apply gU<;>intro h<;>simp only[h,go_sem,r1,r2,L,n,d,qZ,M,qb,fS,eG,lC,fZ]<;>exact⟨rfl,⟨trivial,trivial⟩,nQ,rfl⟩
 . rw[Ts,List.nil_append]at R|-;obtain⟨r1,r2⟩:=R;have f:=alH b.c;have a:(tY (nodes p)).length<1000000000:=by
    have q:(tY (nodes p)).length<=(nodes p).length:=by grind[tY]
    have r:=Qc p;have u:=b.a;omega
   generalize tY (nodes p)=l at*;cases l with|nil=>simp only[qZ]at r1;have o:tC .nl=.any:=rfl;simp only[r1,o,go_sem,afg,acr];rfl|cons x l=>obtain⟨y,t,e1,e2⟩:=aiu f a;simp only[qZ]at r1;simp only[r1,e1,e2,go_sem,vm]
theorem Cf{x:ah bh}{k a:eB->ah bh}:(x.bind (fF k)).bind (fF a)=x.bind (fF λo=>(k o).bind (fF a)):=by
 rcases x with _|r;.rfl
 cases r<;>rfl
theorem aIi:n8 PP 26 .nl Z (J (iD 0)) (J (iD 0))=J (.nl,.any):=by rfl
theorem aIj:n8 PP 26 .nl (J (iD 0)) Z Z=J (.nl,.any):=by rfl
theorem akJ{n b:Nat}{o:aM}(d:n≠0)(a:b<=1000)(c:l.length<1200000):fB e n b (.ay l e n) o []=J (.ay l e n,o):=by have h:(l.length+0)*b<=1200000*1000:=qR ab a;grind[fB,kK,bl,pM,nH]
theorem akq{p:α->Bool}:[].all p=V:=rfl
attribute[go_sem]akq aIi aIj akJ
abbrev LR:=cE×cE
def oA(p:ae):cE:=wo (tY (nodes p))
def JL:ae->ae|.mk _ _ (q::_) _ _ _ _ _=>q|p=>p
def Dc(p:ae)(L:LR):qd:=bif aj p.op 0 then⟨⟨V,pK L.1 [p.var]⟩,⟨V,pK L.2 [p.var]⟩,-1⟩else bif aj p.op 5 then⟨⟨V,pK (pK L.1 (oA (JL p))) [p.var]⟩,⟨V,pK L.2 [p.var]⟩,p.var⟩else⟨⟨V,pK L.1 (oA (JL p))⟩,⟨V,pK L.2 (JL p).nA⟩,-1⟩
abbrev sG(L:LR)(f:Int):DV:=.agg [bP V (L.1.map iD) 3 1,bP V (L.2.map iD) 3 1,iD f]
theorem Ri(a b:cE)(h:mh a)(c:mh b):CC 268 [bP V (a.map iD) 3 1,bP V (b.map iD) 3 1] (.val (.dv (bP V ((pK a b).map iD) 3 1) .no) .empty):=S2 ⟨V,a⟩ ⟨V,b⟩ h c
theorem Zx(a:cE)(v:Int)(h:mh a)(b:mh [v]):CC 268 [bP V (a.map iD) 3 1,.ay [iD v] 3 1] (.val (.dv (bP V ((pK a [v]).map iD) 3 1) .no) .empty):=S2 ⟨V,a⟩ ⟨V,[v]⟩ h b
theorem apI(b n a t v s p c)(L:LR)(y:Int)(r:B9 (.mk b n a t v s p c))(j:mh L.1)(k:mh L.2)(A:aj b 0=C->∃q l,a=q::l):CC 217 [.agg (ae.mk b n a t v s p c).cells,sG L y] (.val (.dv (Dc (.mk b n a t v s p c) L).d .no) .empty):=by
 have f:mh [v]:=awK λz w=>by rw[B6]at w;subst w;exact r.c _ (by exact gK ..)
 have x:=Zx L.1 v j f;have u:=Zx L.2 v k f;have d1:=aIR;have d2:=aIS;have d3:=aIT;simp only[bw,opsOf,f217,go_sem]at d1 d2 d3;simp only[go_sem]at x u;refine aP func217 ?_;cases h:aj b 0 with|true=>simp only[go_sem,f217,ae.cells,sG,h,Dc,ae.op,ae.var,qd.d,x,u,d1]|false=>obtain⟨q,l,rfl⟩:=A h;have e:=r.arg (gK ..);obtain⟨_,g1,d,rfl⟩:=S1 q e;obtain⟨o,i⟩:=Ob q e;have B:mh (oA q):=GZ _;have u3:=Ri L.1 (oA q) j B;have g:=Zx (pK L.1 (oA q)) v (GZ _) f;have u5:=Ri L.2 q.nA k (Vp q e.c);simp only[vm]at d i;unfold oA at u3 g;simp only[go_sem]at u3 g u5;cases m:aj b 5 with|true=>simp only[go_sem,f217,ae.cells,sG,h,m,Dc,ae.op,ae.var,qd.d,JL,d,u,u3,g,d2,ae.bm,oA]|false=>simp only[go_sem,f217,ae.cells,sG,h,m,Dc,ae.op,ae.var,qd.d,JL,d,i,u3,u5,d3,ae.bm,oA]
theorem aKu(a b:cE):(pK a b).length<1200000:=by grind[NM,pK]
theorem uR{z k:Int}(h:aj z k=V):z=k:=by grind[jU]
def ae.args:ae->bq|.mk _ _ args _ _ _ _ _=>args
structure ze(p:ae):Prop extends B9 p where
 d:∀q∈nodes p,q.cond.nn<1100000
 e:∀q∈nodes p,sM q.op=V->aj q.op 0=C->∃x,q.args=[x]
theorem ze.arg{o n a t v s p c}(h:ze (.mk o n a t v s p c))(d:x∈a):ze x:=by
 have m:∀q∈nodes x,q∈nodes (.mk o n a t v s p c):=λq b=>by grind[nodes,ae.LW]
 exact⟨h.toB9.arg d,λq b=>h.d q (m q b),λq b=>h.e q (m q b)⟩
abbrev bI(n:Int):GO:=.box ⟨[iD n],[]⟩
def kj(n f z:Int):GH:=⟨5,[(0,bI n),(1,bI f),(2,.box ⟨[.func 215 [] [.ptr 1 0,.ptr 0 0]],[]⟩),(3,bI z),(4,.box ⟨[.func 267 [] [.ptr 3 0,.ptr 2 0,.ptr 4 0]],[]⟩)]⟩
def Cx(q:ae)(L:LR):Int:=q.cond.A9 (Dc q L)
theorem aEl(q:ae)(L:LR):(Dc q L).us.l.length<1200000/\(Dc q L).si.l.length<1200000:=by grind[Dc,aKu]
theorem qd.pure(p:qd):p.d.pure=V:=by show cA _=V;simp[cA,PA,DV.pure]
attribute[go_sem]qd.pure
theorem apH(i f z:Int)(q:ae)(L:LR)(a:ze q)(e:mh L.1)(g:mh L.2):ev PP cf (.call 215 [iD i,.agg q.cells,sG L f,.ptr 1 0,.ptr 0 0] .no (kj 0 0 z))=J (bif sM q.op&&!aj (Cx q L) 0 then .val (.dv (.bool C) .no) (kj i (Cx q L) z)else .val (.dv (.bool V) .no) (kj 0 0 z)):=by
 obtain⟨d,n,args,t,v,s,p,c⟩:=q;have hr:ae.mk d n args t v s p c∈nodes (.mk d n args t v s p c):=by simp[nodes]
 obtain⟨m,j,l⟩:=a.b _ hr;subst j;have d1:=aIQ;simp only[bw,opsOf,f215,go_sem]at d1;refine aP func215 ?_;rcases b:sM (.ofNat m)with _|_;.simp only[go_sem,f215,ae.cells,sG,l,b,ae.op,kj]
 have e1:=apI _ n _ t _ _ _ _ L f a.toB9 e g (λh=>by obtain⟨x,k⟩:=a.e _ hr b h;exact⟨x,[],k⟩);have o:=aEl (.mk (.ofNat m) n args t v s p c) L;have e2:=S0 _ o.1 o.2 c (a.d _ hr);simp only[go_sem,ae.cells]at e1;simp only[go_sem,f215,ae.cells,sG,l,b,ae.op,kj,d1,e1,e2,Cx,ae.cond];apply sp<;>intro h<;>simp only[h,go_sem];grind[sY]
mutual
def yi : ae -> LR -> List (ae × LR)
  | .mk o n args t v s p c, L => (.mk o n args t v s p c, L) :: EV o args L
def EV (o : Int) : bq -> LR -> List (ae × LR)
  | [], _ => []
  | q :: l, L => yi q L ++ EV o l (bif aj o 1 then (pK L.1 (oA q), pK L.2 q.nA) else L)
end
def pZ:List (ae×LR)->Nat->ah (Nat×Int)|[],_=>Z|x::l,i=>bif sM x.1.op&&!aj (Cx x.1 x.2) 0 then J (i,Cx x.1 x.2)else pZ l (i+1)
theorem aik:∀(a b:List (ae×LR))(i:Nat),pZ (a++b) i=match pZ a i with|none=>pZ b (i+a.length)|some r=>J r
 |[],_,_=>rfl|x::a,b,i=>by simp only[lC,pZ];cases sM x.1.op&&!aj (Cx x.1 x.2) 0 with|true=>rfl|false=>rw[bS,bS,aik a b (i+1),dE,xr,Nat.add_comm 1]
def pz(i:Nat):Int:=Int.sub (.ofNat i) 1
theorem aFC(i:Nat):pz (i+1)=.ofNat i:=by show di _-1=_;grind
theorem aFB(i:Nat)(h:i<100000000):dI .i64 (jP (pz i) 1)=.ofNat i:=by grind[pz,vQ]
def yF(r:ah (Nat×Int))(i:Nat):bh:=match r with|none=>.val (.dv (.bool V) .no) (kj 0 0 (pz i))|some (j,e)=>.val (.dv (.bool C) .no) (kj (.ofNat j) e (.ofNat j))
theorem ay5:∀(p:ae)(L:LR),(yi p L).length=p.nn:=by
 have k:(∀(p:ae)(L:LR),(yi p L).length=p.nn):=by intro p;exact ae.rec (motive_2:=λl=>∀(op:Int)(L:LR),(EV op l L).length=ae.bH l) (λop nl args ty var scope s cond i L=>by grind[yi,ae.nn]) (λop L=>rfl) (λq l h a op L=>by grind[EV,ae.bH]) p
 omega
theorem aJN(e f g t v p d n)(N:ze (.mk e f g t v p d n))(L:LR)(h:Int)(i:Nat)(T:i+(ae.mk e f g t v p d n).nn<1100000)(F:mh L.1)(G:mh L.2)(W:∀x,x∈g->∀(L:LR)(h:Int)(i:Nat),i+x.nn<1100000->mh L.1->mh L.2->ev PP cf (.call 267 [.agg x.cells,sG L h,.ptr 3 0,.ptr 2 0,.ptr 4 0] .no (kj 0 0 (pz i)))=J (yF (pZ (yi x L) i) (i+x.nn))):ev PP cf (.call 267 [.agg (ae.mk e f g t v p d n).cells,sG L h,.ptr 3 0,.ptr 2 0,.ptr 4 0] .no (kj 0 0 (pz i)))=J (yF (pZ (yi (.mk e f g t v p d n) L) i) (i+(ae.mk e f g t v p d n).nn)):=by have e1:=apH (.ofNat i) h (.ofNat i) _ L N F G;have E:=aFB i ab;have d1:=aIV;simp only[bw,opsOf,f267,go_sem]at d1;refine aP func267 ?_;rw[yi,pZ];simp only[ae.cells,go_sem,kj]at e1;cases w:sM e&&!aj (Cx (.mk e f g t v p d n) L) 0 with|true=>simp only[ae.op,w,go_sem]at e1;simp only[go_sem,f267,ae.cells,sG,kj,E,e1,w,ae.op,yF]|false=>
 simp only[ae.op,w,go_sem]at e1;simp only[go_sem,f267,ae.cells,sG,kj,E,e1,w,ae.op];rw[<-aFC i];refine PU g ((L,h,i+1):LR×Int×Nat) (λk s=>⟨267,45,[(21,iS k),(6,.lp 6 0),(5,.lp 5 0),(4,.dv (.ptr 4 0) .no),(19,.dv (bP f (ae.bm g) 61 14) .no),(20,.dv (.int .i64 (.ofNat g.length)) .no)],[(6,⟨[bP V (s.1.1.map iD) 3 1,bP V (s.1.2.map iD) 3 1,iD s.2.1],[]⟩),(5,⟨.int .i64 e::bP f (ae.bm g) 61 14::.int .i64 t::.int .i64 v::.int .i64 p::.int .i64 d::n.cells,[]⟩)],kj 0 0 (pz s.2.2)⟩) (λ_ l s=>yF (pZ (EV e l s.1) s.2.2) (i+(ae.mk e f g t v p d n).nn)) (λ_ l s=>s.2.2+ae.bH l=i+(ae.mk e f g t v p d n).nn/\mh s.1.1/\mh s.1.2) (by grind[ae.mj,ae.nn]) rfl ⟨by grind[ae.nn],F,G⟩ rfl (λs I=>?_) (λk x l s z y O I P=>?_);.obtain⟨a,_,_⟩:=I;simp only[ae.bH,tQ]at a;simp only[go_sem,EV,pZ,yF,kj,a]
 .obtain⟨⟨m,q⟩,h,j⟩:=s;obtain⟨a,b,c⟩:=I;simp only[ae.bH]at a;have R:=dw y;have M:=N.arg R;have hr:=W x R (m,q) h j ab b c;obtain⟨_,g1,B,rfl⟩:=S1 x M.toB9;obtain⟨o,D⟩:=Ob x M.toB9;have A:=Ri m (oA x) b (GZ _);have Q:=Ri q x.nA c (Vp x M.c);simp only[vm]at B D;unfold oA at A;simp only[EV];rw[aik,ay5];cases H:pZ (yi x (m,q)) j with|some r=>obtain⟨U,S⟩:=r;rw[H]at hr;simp only[go_sem,sG,kj,yF]at hr;simp only[go_sem,kj,z,y,hr,yF]|none=>rw[H]at hr;simp only[go_sem,sG,kj,yF]at hr;cases K:aj e 1 with
 |true=>
 have u:=P ((pK m (oA x),pK q x.nA),-1,j+x.nn) ⟨ai,GZ _,GZ _⟩;simp only[go_sem,kj,oA]at u;try simp only[go_sem]at A Q
 simp only[go_sem,kj,z,y,O,hr,K,B,D,A,Q,d1,u,oA]|false=>have u:=P ((m,q),h,j+x.nn) ⟨ai,b,c⟩;simp only[go_sem,kj]at u;simp only[go_sem,kj,z,y,O,hr,K,u]
theorem acq:∀p:ae,ze p->∀(L:LR)(f:Int)(i:Nat),i+p.nn<1100000->mh L.1->mh L.2->ev PP cf (.call 267 [.agg p.cells,sG L f,.ptr 3 0,.ptr 2 0,.ptr 4 0] .no (kj 0 0 (pz i)))=J (yF (pZ (yi p L) i) (i+p.nn))|.mk o l args t v s n c,a,L,f,i,e,b,d=>aJN _ _ _ _ _ _ _ _ a L f i e b d λx h=>acq x (a.arg h)termination_by p=>oW p decreasing_by simp_wf;have:=oU h;omega
def FP(p:ae):Int×Int:=bif aj p.jc 0 then(match pZ (yi p ([],[])) 0 with|none=>(0,0)|some (j,e)=>(.ofNat j,e))else(0,p.jc)
theorem apG(p:ae)(a:ze p):∃z,ev PP cf (.call 214 [.agg p.cells,.func 215 [] [.ptr 1 0,.ptr 0 0]] .no ⟨2,[(0,bI 0),(1,bI 0)]⟩)=J (.val (.tp []) (match pZ (yi p ([],[])) 0 with|none=>kj 0 0 z|some (j,e)=>kj (.ofNat j) e z)):=by
 have e1:=acq p a ([],[]) (-1) 0 (by have:=a.a;omega) UA UA;rw[show pz 0=-1 from rfl]at e1;rcases h:pZ _ 0 with _|r;.rw[h]at e1;refine⟨pz (0+p.nn),?_⟩;simp only[go_sem,sG,kj,yF,eG,zB]at e1;refine aP func214 ?_;simp only[go_sem,f214,e1,kj]
 obtain⟨j,e⟩:=r;rw[h]at e1;refine⟨.ofNat j,?_⟩;simp only[go_sem,sG,kj,yF,eG,zB]at e1;refine aP func214 ?_;simp only[go_sem,f214,e1,kj]
theorem apr(p:ae)(b:p.jc=0->ze p)(q:lE p):Sat (ev PP cf (.call 167 [.agg p.cells] .no .empty)) λv _=>v=.tp [iO (FP p).1,iO (FP p).2]:=by
 have a:=Oa p q;have d1:=aIM;simp only[bw,opsOf,f167,go_sem]at d1;refine mV func167 ?_;simp only[go_sem,f167,a,FP];apply gU<;>intro h<;>simp only[h,go_sem];obtain⟨z,e1⟩:=apG p (b (sY h));rcases f:pZ _ 0 with _|r;.rw[f]at e1;simp only[kj]at e1;simp only[go_sem,e1,d1]
 rw[f]at e1;simp only[kj]at e1;simp only[go_sem,e1,d1]
set_option maxHeartbeats 4000000
def Vo(o a k:Int):Bool:=bif aj o 5||(aj o 6||(aj o 7||aj o 8))then aj k 0 else bif aj o 10||(aj o 11||aj o 12)then aj k 1 else bif aj o 9 then aj k a else V
def Qh(o:Int)(k:cE):Int:=bif k.all (Vo o (k.headD 0))then 0 else 9
theorem apV(o k:Int)(s:cE)(d:s.length<1200000):CC 274 [iD o,DV.ay (iD k::s.map iD) 3 1] (vI (Qh o (k::s))):=by
 refine aP func274 ?_;simp only[go_sem,f274,Qh,List.headD_cons];refine gR (k::s) (λi=>[(10,iS i)]) (λ_ l=>vI (bif l.all (Vo o k)then 0 else 9)) ai rfl rfl ?_ (λi x l a b w c=>?_);.simp only[go_sem,nG]
 .simp only[dE]at a;replace b:(iD k::s.map iD)[i]?=J (iD x):=ai;simp only[go_sem,a,b,Vo,oT]at c|-;repeat'(with_reducible apply sp<;>intro h<;>simp only[h,w,c,go_sem])
def ahS(o:Int):Int:=bif aj o 5||aj o 6 then 0 else 1
def To(t:List bY)(b:List dW)(a:Int):List kF:=match b[a.toNat]? with|some v=>(match t[v.ty.toNat]? with|some s=>s.fields.l|none=>[])|none=>[]
def Bt(t:List bY)(s:List dW)(o v e n k:Int):Int×Int:=bif aj o 0 then(k,0)else bif aA v (.ofNat s.length)then bif aj o 2||aj o 3 then(0,0)else match(To t s v)[e.toNat]? with|some f=>bif aj o 4&&(!aj f.kind k||!Ra n f.kind)then(0,9)else(f.kind,0)|none=>(0,6)else(0,6)
def Rg(s:Sl bY)(a:Sl dW):Prop:=∀v∈a.l,∃t:Nat,v.ty=.ofNat t/\t<s.l.length
theorem aau{l:List α}{n:Nat}(h:n<l.length):∃x,l[n]?=J x:=aT
theorem PV{l:List α}{n:Nat}{x:α}(h:l[n]?=J x):(n<l.length)=True:=ai
theorem TA{l:List α}{n:Nat}(h:l[n]?=Z):(n<l.length)=False:=aT
theorem tn(m:Nat):(di m).toNat=m:=rfl
theorem aIW:dm cf (bw f273 7)=V:=by rfl
theorem apU(d:Sl bY)(b:Sl dW)(o B r v L e k u l)(A:Rg d b)(y:aj o 0=C->∃n:Nat,v=.ofNat n)(p:(aj o 0||(aj o 2||aj o 3))=C->∃n:Nat,L=.ofNat n):CC 273 [.agg [cC d,kn b],.agg (Expr.mk o B r v L e k u l).cells] (vT [iO (Bt d.l b.l o v L e k).1,iO (Bt d.l b.l o v L e k).2]):=by refine aP func273 ?_;have hd:=aIW;simp only[bw,opsOf,f273,go_sem]at hd;cases a:aj o 0 with|true=>simp only[go_sem,f273,Expr.cells,Bt,a]|false=>obtain⟨n,rfl⟩:=y a;rw[a,vR]at p;cases c:b.l[n]? with|none=>have e1:=TA c;simp only[go_sem,f273,Expr.cells,Bt,a,e1]|some x=>
 have e1:=PV c;obtain⟨t,w,z⟩:=A x (dw c);obtain⟨s,q⟩:=aau z;have e2:To d.l b.l (.ofNat n)=s.fields.l:=by grind[To]
 cases g:aj o 2 with|true=>simp only[go_sem,f273,Expr.cells,Bt,a,e1,g]|false=>cases j:aj o 3 with|true=>simp only[go_sem,f273,Expr.cells,Bt,a,e1,g,j]|false=>obtain⟨m,rfl⟩:=p aT;cases i:s.fields.l[m]? with|none=>have e3:=TA i;simp only[go_sem,f273,Expr.cells,Bt,a,e1,g,j,c,w,q,e2,e3,i,hd,tn]|some f=>have e3:=PV i;simp only[go_sem,f273,Expr.cells,Bt,a,e1,g,j,c,w,q,e2,e3,i,hd,tn];repeat'(with_reducible apply sp<;>intro h<;>simp only[h,acw,go_sem])
def ZC(t:Sl bY)(s:Sl dW):Int:=bif aA 16 (.ofNat s.l.length)then 5 else bif s.l.all (λv=>!aA v.ty 0&&aA v.ty (.ofNat t.l.length))then 0 else 6
def C2(o:Int)(r:Int×cE):Int×Int:=bif aj r.1 0 then(bif aj (Qh o r.2) 0 then(ahS o,0)else(0,Qh o r.2))else(0,r.1)
mutual
def Expr.tv (t : List bY) (v : List dW) : Expr -> Int × Int
  | .mk op _ args var e n k _ _ => bif args.isEmpty then Bt t v op var e n k else C2 op (Expr.ES t v args [])
def Expr.ES (t : List bY) (v : List dW) : List Expr -> cE -> Int × cE
  | [], k => (0, k)
  | e :: l, k => bif aj (e.tv t v).2 0 then Expr.ES t v l (k ++ [(e.tv t v).1]) else ((e.tv t v).2, [])
end
theorem Expr.aja:∀(l:List Expr),Expr.Dz l=0->∀e∈l,e.vO=0
 |[],_,e,h=>by simp at h|a::l,h,e,m=>by
  simp only[Expr.Dz,jU]at h;by_cases b:a.vO=0
  . simp[b]at h;rcases List.mem_cons.1 m with rfl|m;.exact b
    .exact Expr.aja l h e m
  .simp[b]at h
theorem Expr.ai9{o l a v e n k u s}(h:(Expr.mk o l a v e n k u s).vO=0):VM.iJ o (.ofNat a.length) v e n k u s=0/\Expr.Dz a=0:=by grind[Expr.vO,Expr.iJ,jU]
theorem ay0{o v L e k u:Int}{s:aD}(h:iJ o 0 v L e k u s=0):(aj o 0=C->∃n:Nat,v=.ofNat n)/\((aj o 0||(aj o 2||aj o 3))=C->∃n:Nat,L=.ofNat n)/\(aj o 4=V->aj e 0=C):=by have a:∀z:Int,¬z<0->∃n:Nat,z=.ofNat n:=λz d=>⟨z.toNat,ai⟩;all_goals
 simp only[iJ,arity,yP,yO,fQ,jU]at h;refine⟨λ_=>a _ λc=>?_,?_,?_⟩;.grind
 .first|(intro b;simp[aj]at b;done)|(intro _;refine a _ λc=>?_;grind)
 grind[jU]
theorem aJK(t:Sl bY)(v:Sl dW)(o j a c L n k u r)(q:a.length<1100000)(B:a.isEmpty=C)(W:∀x,x∈a->CC 219 [.agg [cC t,kn v],.agg x.cells] (vT [iO (x.tv t.l v.l).1,iO (x.tv t.l v.l).2])):CC 219 [.agg [cC t,kn v],.agg (Expr.mk o j a c L n k u r).cells] (vT [iO ((Expr.mk o j a c L n k u r).tv t.l v.l).1,iO ((Expr.mk o j a c L n k u r).tv t.l v.l).2]):=by
 refine aP func219 ?_;have p:a.length≠0:=ai;have H:aj (.ofNat a.length) 0=C:=by grind[jU]
 simp only[go_sem,f219,Expr.cells,Expr.tv,B,H];refine rC a ([]:cE) (λi s=>[(24,iS i),(6,fU (s.map iD) 3 1)]) (λ_ l s=>vT [iO (C2 o (Expr.ES t.l v.l l s)).1,iO (C2 o (Expr.ES t.l v.l l s)).2]) (λi _ s=>s.length=i) ab rfl rfl rfl (λs I=>?_) (λi x l s d f w I m=>?_);.cases s with|nil=>grind|cons k0 g=>have e:=apV o k0 g ai;simp only[go_sem]at e;simp only[go_sem,Expr.ES,C2,ahS,e];repeat'(with_reducible apply sp<;>intro h<;>simp only[h,go_sem])
 .have hr:=W x (dw f);simp only[go_sem]at hr;simp only[eq_iff_iff,iff_true]at d;have b:=m (s++[(x.tv t.l v.l).1]) aT;have d:=iT d;cases s with|nil=>simp only[go_sem,jF]at b;simp only[go_sem,d,f,hr,Expr.ES,C2];apply sp<;>intro h<;>simp only[h,w,b,C2,go_sem]|cons k0 g=>have M:(g.length+1<1200000)=True:=ai;simp only[go_sem,qb,lC]at b;simp only[go_sem,d,f,hr,Expr.ES,C2];apply sp<;>intro h<;>simp only[h,w,b,M,C2,go_sem,fZ,lC]
theorem aJR(t:Sl bY)(a:Sl dW)(c:Rg t a)(o l v L n k u s)(w:iJ o 0 v L n k u s=0):CC 219 [.agg [cC t,kn a],.agg (Expr.mk o l [] v L n k u s).cells] (vT [iO ((Expr.mk o l [] v L n k u s).tv t.l a.l).1,iO ((Expr.mk o l [] v L n k u s).tv t.l a.l).2]):=by obtain⟨h,b,d⟩:=ay0 w;have e:=apU t a o l [] _ _ n k u s c h b;simp only[Expr.cells,cC,kn]at e;refine aP func219 ?_;simp only[go_sem,f219,Expr.cells,Expr.tv,List.isEmpty_nil,e]
theorem ack(t:Sl bY)(v:Sl dW)(b:Rg t v):∀e:Expr,e.nn<1100000->e.vO=0->CC 219 [.agg [cC t,kn v],.agg e.cells] (vT [iO (e.tv t.l v.l).1,iO (e.tv t.l v.l).2])|.mk o l [] r L n k num str,_,w=>aJR t v b _ _ _ _ _ _ _ _ (Expr.ai9 w).1|.mk o l (a::args) r L n k num str,c,w=>by simp only[Expr.nn,Expr.bH]at c;exact aJK _ _ _ _ _ _ _ _ _ _ _ (by have:=Expr.mj args;simp only[dE];omega) rfl λx h=>ack t v b x (by have:=Expr.rH (a::args) _ h;simp only[Expr.bH]at this;omega) (Expr.aja _ (Expr.ai9 w).2 x h)termination_by e=>oW e decreasing_by simp_wf;have:=oU h;simp only[List.cons.sizeOf_spec]at this|-;omega
theorem aKl{t:Sl bY}{s:Sl dW}(h:s.l.all (λv=>!aA v.ty 0&&aA v.ty (.ofNat t.l.length))=V):Rg t s:=by intro v a;have:=List.all_eq_true.1 h v a;simp only[fQ,gD,Nj,qj,gZ,vY]at this;exact⟨v.ty.toNat,ai,ab⟩
theorem Expr.amR{e:Expr}(h:aj e.ni 0=V):e.vO=0:=by grind[Expr.ni,jU]
def Iv(t:Sl bY)(v:Sl dW)(e:Expr):Int×Int:=bif aj e.ni 0 then e.tv t.l v.l else(0,e.ni)
def z'(t:Sl bY)(v:Sl dW)(e:Expr):Int×Int:=bif aj (vJ t.l) 0 then bif aj (ZC t v) 0 then Iv t v e else(0,ZC t v)else(0,vJ t.l)
structure lF(ts:Sl bY):Prop where
 a:∀s,s∈ts.l->s.ok
 b:ts.l.length<1200000
theorem aca(t:Sl bY)(s:Sl dW)(e:Expr)(n:lF t)(u:s.l.length<1200000)(p:e.nn<1100000):CC 173 [cC t,kn s,.agg e.cells] (vT [iO (z' t s e).1,iO (z' t s e).2]):=by
 obtain⟨g1,j⟩:=Kf t n.a n.b;have k:=Hg e ab;have m:=λh o=>ack t s (aKl h) e p (Expr.amR o);simp only[go_sem]at j k m;refine aP func173 ?_;simp only[go_sem,f173,j,z',ZC];apply sp<;>intro h<;>simp only[h,go_sem];apply sp<;>intro h<;>simp only[h,go_sem]
 have z:∀l:List dW,(bif aj (bif l.all (λv=>!aA v.ty 0&&aA v.ty (.ofNat t.l.length))then 0 else 6) 0 then Iv t s e else(0,bif l.all (λv=>!aA v.ty 0&&aA v.ty (.ofNat t.l.length))then 0 else 6))=bif l.all (λv=>!aA v.ty 0&&aA v.ty (.ofNat t.l.length))then Iv t s e else(0,6):=by intro l;cases l.all (λv=>!aA v.ty 0&&aA v.ty (.ofNat t.l.length))<;>rfl
 rw[z];refine rC s.l () (λi _=>[(22,iS i)]) (λ_ l _=>vT [iO (bif l.all (λv=>!aA v.ty 0&&aA v.ty (.ofNat t.l.length))then Iv t s e else(0,6)).1,iO (bif l.all (λv=>!aA v.ty 0&&aA v.ty (.ofNat t.l.length))then Iv t s e else(0,6)).2]) (λi _ _=>(s.l.take i).all (λv=>!aA v.ty 0&&aA v.ty (.ofNat t.l.length))=V) ab rfl rfl rfl (λ_ a=>?_) (λi x l _ g c w a r=>?_);.rw[AL]at a;simp only[go_sem,nG,k,Iv];apply sp<;>intro h<;>simp only[h,m a,go_sem]
 . have I:=λq:(!aA x.ty 0&&aA x.ty (.ofNat t.l.length))=V=>r () (by rw[Y5 c,List.all_append,a,List.all_cons,q];rfl);simp only[go_sem]at I;cases b:aA x.ty 0
   . cases f:aA x.ty (.ofNat t.l.length);.simp only[go_sem,g,c,b,f,oT]
     .have d:=I (by rw[b,f];rfl);simp only[go_sem,g,c,w,b,f,oT,d]
   .simp only[go_sem,g,c,b,oT]
def SF(t:Sl bY)(v:Sl dW)(e:Expr):Int:=bif aj (z' t v e).2 0 then(bif aj (z' t v e).1 1 then 0 else 9)else(z' t v e).2
theorem apF(t:Sl bY)(v:Sl dW)(e:Expr)(b:lF t)(c:v.l.length<1200000)(n:e.nn<1100000):CC 213 [cC t,kn v,.agg e.cells] (vI (SF t v e)):=by have a:=aca t v e b c n;simp only[go_sem]at a;refine aP func213 ?_;simp only[go_sem,f213,a,SF];repeat'(with_reducible apply sp<;>intro h<;>simp only[h,go_sem])
set_option maxHeartbeats 1000000
def Ry(p:ae):Prop:=(tY (nodes p)).Pairwise (.<.)
theorem agw:∀(l:bq)(x:ae),x∈l->(nodes x).Sublist (eS l)
 |[],_,h=>by simp at h|y::l,x,h=>by
  rw[eS];rcases List.mem_cons.1 h with rfl|h;.exact List.sublist_append_left _ _
  .exact(agw l x h).trans (List.sublist_append_right _ _)
theorem Ry.arg{o n a t v s p c}(h:Ry (.mk o n a t v s p c))(b:x∈a):Ry x:=by refine h.sublist ?_;rw[nodes];exact(((agw _ x b).trans aT).filter _).map _
def IY(p:qd):List Expr->Nat->Int×Int|[],_=>(0,0)|e::l,i=>bif aj e.ni 0 then(bif aj (e.A9 p) 0 then IY p l (i+1)else(.ofNat i,e.A9 p))else(.ofNat i,e.ni)
def FM(p:ae)(l:List Expr):Int×Int:=bif aj p.jc 0 then(bif aA 256 (.ofNat l.length)then(0,5)else IY ⟨⟨V,oA p⟩,⟨V,p.nA⟩,-1⟩ l 0)else(0,p.jc)
theorem apu(p:ae)(r:Sl Expr)(k:p.jc=0->ze p)(q:lE p)(m:r.l.length<1100000)(n:∀e∈r.l,e.nn<1100000):CC 175 [.agg p.cells,ue r] (vT [iO (FM p r.l).1,iO (FM p r.l).2]):=by
 have f:=Oa p q;have d1:=aIN;simp only[bw,opsOf,f175,go_sem]at d1;refine aP func175 ?_;simp only[go_sem,f175,f,FM];apply sp<;>intro h<;>simp only[h,go_sem];apply sp<;>intro g<;>simp only[g,go_sem];have w:=k (sY h);obtain⟨_,g1,b,rfl⟩:=S1 p w.toB9;obtain⟨o,a⟩:=Ob p w.toB9;have k1:(oA p).length<1200000:=by grind[NM,oA]
 have k2:p.nA.length<1200000:=by grind[ag3]
 simp only[vm]at b a;rw[show wo (tY (nodes p))=oA p from rfl]at b;simp only[go_sem,b,a,d1];refine gR r.l (λi=>[(26,iS i)]) (λi l=>vT [iO (IY ⟨⟨V,oA p⟩,⟨V,p.nA⟩,-1⟩ l i).1,iO (IY ⟨⟨V,oA p⟩,⟨V,p.nA⟩,-1⟩ l i).2]) ab rfl rfl ?_ (λi x l j c w d=>?_);.simp only[go_sem,IY]
 .have u:=dw c;have e1:=Hg x ai;have e2:=S0 ⟨⟨V,oA p⟩,⟨V,p.nA⟩,-1⟩ k1 k2 x (n x u);simp only[qd.d,go_sem]at e2;simp only[go_sem,j,c,e1,IY]at d|-;repeat'(with_reducible apply sp<;>intro h<;>simp only[h,w,e2,d,go_sem])
def C6(s:aD):Int:=bif Bz s then bif Lv s then 8 else 0 else 8
def M5(n:Nat):List aD->List dW->Int|_,[]=>0|b,v::l=>bif aj (C6 v.name) 0 then bif b.any (λm=>decide (v.name=m))then 7 else bif !aA v.ty 0&&aA v.ty (.ofNat n)then M5 n (b++[v.name]) l else 6 else C6 v.name
def Jm(t:Sl bY)(v:Sl dW):Int:=bif aA 16 (.ofNat v.l.length)then 5 else M5 t.l.length [] v.l
theorem apE(t:Sl bY)(a:Sl dW)(o:∀v,v∈a.l->v.name.length<1200000)(r:a.l.length<1200000):rS (ev PP cf (.call 212 [cC t,kn a] .no .empty)) (zS (Jm t a)):=by
 refine GQ func212 ?_;simp only[go_sem,f212,Jm];apply vK<;>intro h<;>simp only[h,go_sem];refine LK a.l ([]:List aD) (λi b=>⟨212,43,[(15,iS i),(0,.dv (cC t) .no),(5,.dv (.map 0) .no),(13,.dv (kn a) .no),(14,iS a.l.length)],[],⟨1,[(0,.map (pO b) b.length)]⟩⟩) (λ_ l b=>zS (M5 t.l.length b l)) (λ_ _ _=>True) ab rfl trivial rfl (λs _=>?_) (λi x l b p n w _ d=>?_);.simp only[go_sem,M5]
 .have d:=d (b++[x.name]) trivial;have q:=o x (dw n);have hr:=acC x.name q;simp only[N7,gJ,dE,gE,go_sem]at d;rw[show(bif Bz x.name then bif Lv x.name then 8 else 0 else 8:Int)=C6 x.name from rfl]at hr;simp only[go_sem,p,n,hr,M5];apply vK<;>intro h<;>simp only[h,go_sem];cases g:b.any λm=>decide (x.name=m)with|true=>obtain⟨k,c,m,e⟩:=Km b 0 0 g;simp only[go_sem,pO,e]|false=>have e:=Kl b 0 0 g;simp only[pO]at d;cases f:aA x.ty 0 with|true=>simp only[go_sem,pO,e,f]|false=>cases j:aA x.ty (.ofNat t.l.length)with|true=>simp only[go_sem,pO,e,f,j,w];omega|false=>simp only[go_sem,pO,e,f,j]
end Go.VM
