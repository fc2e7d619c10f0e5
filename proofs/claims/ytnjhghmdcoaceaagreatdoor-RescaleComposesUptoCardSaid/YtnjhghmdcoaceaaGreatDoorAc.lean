/- Proved: operations of the value machine answer as the abstract machine does. -/
import Derived.Test.YtnjhghmdcoaceaaGreatDoorAb
open Option renaming some->J,none->Z
open Bool renaming true->V,false->C
open Go renaming TypeId->an,Oper->aB,Value->aD,Program->aH,Operand->aK,World->aT,Code->bM,FuncId->bY,Frame->dm,lone->fh,IntKind->fT,ResultVar->oS
open Go.Op renaming operands->eO
open Go.Region renaming binds->uy
open Go.stepG renaming exec->uo
open List renaming replicate->mr,range->qm,range'->vp
open Nat renaming beq->aw,ble->bz,blt->cw,succ->fj,mul->fA
noncomputable section
set_option linter.all false
namespace Go.VM
open Go Go.AM
variable{a:AV}{pn:Bool}{el' k v z:DV}{g:GH}{es fs:List eL}{esz j I r:Nat}{q:Nat->Bool}{p:Pk}{sv:SV}{ωo:aI}{cl m m' nc vs:aJ}{s x y:aK}{ow:aN}{lv:ah Nat}{dst:ah Tmp}{hi mx:ah aK}{e e' elem t:an}{L l new:ao}{lb:ew}{fl fl':fS}
section
variable{P:aH}{ak:ct}{rec:Rec}{cf:bV}{K K':aY}{Y A:cu}{B ω':aI}{H H':Heap}{S:Nat->Prop}
variable{aq:Nat->ah ao}{gs cr:aE}{fk:bY->Nat}{later:List aB}{st0 O st':St}{tm:Tr AV}{o:aB}
theorem aBC{i:Nat}(b:o.op=.load t x)(c:AM.bJ P tm x=J (.ptr i I))(h:AM.loadVar P H t i I=J a):dY P ak tm H o=J (.val a H):=by simp_all[dY,G1,fc]
theorem yk{S:ao}{c:aJ}{base:Nat}{d:DV}(s:∀(j:Nat)(y:DV)(a:AV),S[j]?=J y->c[base+j]?=J a->DR K Y y a)(b:base+S.length<=c.length)(u:∀y,y∈S->y.aV=V)(h:jt P t S I=J d){i r f e}(m:H.get i=J (.cells c r f e))(l:(H.br r).1<=i):∃a,AM.loadVar P H t i (base+I)=J a/\DR K Y d a:=by
 unfold jt at h;split at h
 . rename_i p;obtain⟨n,o,h⟩:=aF h;rw[dp]at h;by_cases k:I+n<=S.length;.simp only[k,dX,aR]at h;cases h;refine⟨_,HJ m l p o ab,?_⟩;refine bF.agg ⟨ai,λj y a q g=>?_⟩ λy q=>u y ai;grind
   grind
 .obtain⟨G,_⟩:=am.1 h;have g:c[base+I]?=J _:=dC ab;grind[VT]
 grind
theorem aGQ{d:DV}(h:(∃n,bN P t=J V/\aW P t=J n/\d.aV=C/\d.flat.length=n)\/(bN P t=J C/\d.aV=V)):jt P t d.flat 0=J d:=by
 unfold jt;rcases h with⟨n,a,b,e,c⟩|⟨a,b⟩;.rw[a];simp only[b,cU];rw[dp];simp only[c,kG,bT,dX,aR,xH];rw[<-c,A8];cases d<;>first|rfl|simp[DV.aV]at e
 .rw[a];cases d<;>first|rfl|grind[DV.aV]
theorem aBB(S:dB P K Y aq)(v:HR K Y B H O.lb O.g)(A:cg K Y B H tm O.sl)(X:o.op=.load t x)(h:dF P aq fk gs cr later O o=J st'):eT P ak rec cf K Y B H st0 O st' tm o:=by unfold dF at h;rw[X]at h;simp only at h;cases N:cZ aq O x with|none=>grind|some sv=>
 rw[N]at h;obtain⟨a,a1,a2,E⟩:=ri (P:=P) S A N;have fin:∀{i I:Nat}{b:AV}{f:St}{w:SV},a=.ptr i I->AM.loadVar P H t i I=J b->fR K Y B H st' (gX tm o.dst b) H->aG f o.dst w=J st'->f.n=O.n->f.fn=O.fn->eT P ak rec cf K Y B H st0 O st' tm o:=by intro i I b f w e1 e2 e3 e4 e5 e6;subst e1;obtain⟨f1,f2,f3,_⟩:=nU e4;exact⟨b,H,by unfold fF;rw[aBC X a1 e2];rfl,λd hd=>ai,e3,ab,ai,a43 _ _ _⟩
 have q:∀(u:iM)(y:Loc)(b:LB)(I:Nat)(r:SV×LB),O.at y=J b->(∀i,B y.top=J (i,V)->(∀id,y=.g id->Y id=J i)->a=.ptr i I)->fI P u t b I=J r->aG (O.setAt y r.2) o.dst r.1=J st'->eT P ak rec cf K Y B H st0 O st' tm o:=by intro u y b I r z hp U jG;obtain⟨i,M,i2,i3⟩:=v.at z;grind[H0,Z5]
 cases sv with
 |lp s I=>
  simp only at h;obtain⟨b,z,h⟩:=aF h;obtain⟨r,hr,h⟩:=aF h;refine q _ (.l s) b I r z (λi hi _=>?_) hr h;rcases E with⟨t',_,_,_,p⟩|⟨_,⟨_,e,_⟩|⟨_,_,_,_,e,_⟩|⟨_,_,_,_,e,_⟩⟩;.exact p i V hi
  all_goals grind|ev d=>
  simp only at h;have uM:∃id I cells e,a=.ptr id I/\K id=J (cells,e)/\I+d.flat.length<=cells.length/\(∀y,y∈d.flat->y.aV=V)/\bF K Y d.flat ((cells.drop I).take d.flat.length):=by
    rcases E with⟨t',_,_,_,p⟩|⟨_,⟨_,e,_⟩|⟨_,_,_,_,e,_⟩|⟨g,l,cells,e,e1,e2,p,h5,h6⟩⟩;.exact p
    all_goals grind[DV.flat,bF]
  obtain⟨id,I,cells,e,e1,e2,e3,e4,e5⟩:=uM;obtain⟨r,fl,g1,g2⟩:=v.dy _ _ _ e2;have jG:aG O o.dst (.dv d .no)=J st'/\jt P t d.flat 0=J d:=by grind[aF,bQ,aGQ]
  obtain⟨b,G,b2⟩:=yk (base:=I) (λj y c k R=>e5.2 j y c k (by grind)) e3 e4 jG.2 g1 g2;grind[Bh]|se s i I=>
  simp only at h;obtain⟨y,k,h⟩:=aF h;obtain⟨d,hd,h⟩:=aF h;obtain⟨d',hp,pU⟩:=aF h;have LX:∃id D len c esz,tm.get s=J (.sl id D len c esz)/\a=.ptr id (D+i*esz+I):=by
    rcases E with⟨t',_,_,_,p⟩|⟨_,⟨_,e,_⟩|⟨_,_,_,_,e,_⟩|⟨_,_,_,_,e,_⟩⟩;.exact p
    all_goals grind
  obtain⟨id,D,len,c,esz,e1,e2⟩:=LX;unfold nK at k;split at k
  . rename_i l e n e' U;cases k;obtain⟨b0,G,_,b3⟩:=A s _ U;rw[e1]at G;cases G;rcases b3 with⟨x1,_⟩|⟨r,_,b4⟩;.simp_all
    . obtain⟨l',qq,qY,dJ,c',cells,fl,g1,g2,g3,g4,g5,g6,g7,g8⟩:=b4.ex;obtain⟨rfl,rfl,rfl⟩:=DV.ay.inj g1;obtain⟨rfl,rfl,rfl,rfl,rfl⟩:=AV.sl.inj g2;have gN:=(am.1 hd).1;obtain⟨k1,k2⟩:=g7.2.2.1 i d hd;have W:i*esz+esz<=l.length*esz:=by have:(i+1)*esz<=l.length*esz:=lW _ gN;grind
      have z:=g7.2.1;obtain⟨b,x1,x2⟩:=yk (base:=D+i*esz) (I:=I) (λj y c k R=>g7.2.2.2 i d j y c hd k R) ab k2 hp g3 g5;grind[Bh]
  simp_all|dv d0 ow0=>cases d0 with
  |ptr id I=>
    simp only at h;have F:∃i,Y id=J i/\a=.ptr i I:=by
      have gW:DR (s8 H) Y (.ptr id I) a:=by obtain⟨a',x1,_,x3⟩:=oH (P:=P) S v A (x:=x) (d:=.ptr id I) (by unfold bj;rw[N];rfl);simp_all
      cases gW<;>simp_all
    obtain⟨i0,M,i2⟩:=F;cases kY:O.g.get id with|none=>simp_all|some ob=>rw[kY]at h;cases ob with
      |box b=>
      simp only at h;have rU:O.at (.g id)=J b:=by grind[St.at]
      have aOk:∀(u:iM),((fI P u t b I).bind λr=>aG {O with g:=O.g.set id (.box r.2)} o.dst r.1)=J st'->eT P ak rec cf K Y B H st0 O st' tm o:=by intro u h;obtain⟨r,hr,h⟩:=aF h;exact q u (.g id) b I r rU (λi _ hi=>aU) hr h
      split at h
      . rename_i e gI ht;obtain⟨j,j1,j2,j3⟩:=v.at rU;have T:=j3 id rfl;rw[M]at T;cases T;obtain⟨m,fl,e',g1,g2,g3,g4,g5,g6⟩:=j2;rw[eP]at h;have Q:I<b.cells.length:=by grind
        simp only[Q,dX,aR]at h;have L:m[I]?=J m[I]:=dC ab;have cW:=(g6 I _ _ (dC Q) L).2;refine fin i2 (VT g1 g3 ht L) (xO v A h cW.rh λ_ _ _=>?_) h rfl rfl;exact⟨i0,m,i0,fl,e',M,g1,L⟩
      grind|_=>simp_all
  |_=>simp at h
 |_=>simp_all
theorem rl(f:HR K Y B H O.lb O.g)(s:cg K Y B H tm O.sl)(g:dY P ak tm H o=J (.val a H))(h:aG O o.dst sv=J st')(t:a≠.top)(v:∀d,o.dst=J d->Gn d sv=C->mB K Y B H (tm.ins d a) d sv a):eT P ak rec cf K Y B H st0 O st' tm o:=by obtain⟨b,c,e,_⟩:=nU h;exact⟨a,H,by grind[fF],b,xO f s h t v,c,e,a43 _ _ _⟩
theorem Ko(u:dB P K Y aq)(j:HR K Y B H O.lb O.g)(v:cg K Y B H tm O.sl)(w:cZ aq O x=J sv):∃a,AM.bJ P tm x=J a/\a≠.top/\(match sv with|.lp s I=>∀i b,B (.lb s)=J (i,b)->a=.ptr i I|.ev d=>∃id I cells e,a=.ptr id I/\K id=J (cells,e)/\I+d.flat.length<=cells.length/\(∀y,y∈d.flat->y.aV=V)/\bF K Y d.flat ((cells.drop I).take d.flat.length)|.se s i I=>∃id k len c esz,tm.get s=J (.sl id k len c esz)/\a=.ptr id (k+i*esz+I)|.sr s=>tm.get s=J a|.dv d o=>DR (s8 H) Y d a|.hd n=>nO a=J n|.gr id I=>∃i m root fl e,Y id=J i/\H.get i=J (.cells m root fl e)/\m[I]?=J a|_=>True):=by
 obtain⟨a,p,q,r⟩:=ri u v w;refine⟨a,p,q,?_⟩;rcases r with⟨t,_,_,_,h⟩|⟨_,⟨d,rfl,h⟩|⟨d,f,_,_,rfl,h⟩|⟨g,l,cells,e,rfl,rfl,h,z,A⟩⟩;.cases sv with|dv d o=>exact a57 j h|tp l=>grind|dd=>grind|_=>exact h
 .exact h.mono j.sub (a00 _)
 .exact h.mono j.sub (a00 _)
 grind[DV.flat,bF]
theorem yn{c:ao}{d:DV}(h:jt P t c I=J d)(s:∀y,y∈c->y.aV=V):∃_:I+d.flat.length<=c.length,(∀y,y∈d.flat->y.aV=V)/\d.flat=(c.drop I).take d.flat.length:=by
 unfold jt at h;split at h
 . obtain⟨n,i,h⟩:=aF h;rw[dp]at h;by_cases e:I+n<=c.length;.simp only[e,dX,aR]at h;cases h;have l:((c.drop I).take n).length=n:=ai;exact⟨by show I+((c.drop I).take n).length<=_;omega,λy f=>s y (SA (SB f)),by show(c.drop I).take n=(c.drop I).take ((c.drop I).take n).length;grind⟩
   grind
 . obtain⟨a,b⟩:=am.1 h;have u:=s d (b▸Hj a);have g:d.flat=[d]:=by cases d<;>first|rfl|grind[DV.aV]
   grind[Ei]
 grind
theorem atw(D:dB P K Y aq)(g:HR K Y B H O.lb O.g)(j:cg K Y B H tm O.sl){s:an}{f:Nat}(r:o.op=.fieldAddr s x f)(h:dF P aq fk gs cr later O o=J st'):eT P ak rec cf K Y B H st0 O st' tm o:=by unfold dF at h;rw[r]at h;simp only at h;cases F:P.underlying s with|none=>simp_all|some u=>rw[F]at h;cases u with
 |struct q=>simp only at h;obtain⟨p,A,h⟩:=aF h;obtain⟨n,U,h⟩:=aF h;cases n with|zero=>simp_all|succ n=>cases v:cZ aq O x with|none=>simp_all|some sv=>
  rw[v]at h;obtain⟨a,N,Q,m⟩:=Ko (P:=P) D g j v;have ex:∀{i I:Nat},a=.ptr i I->dY P ak tm H o=J (.val (.ptr i (I+p.offset)) H):=by intro i I e;subst e;unfold dY;rw[r];simp only[D9];grind[fc]
  cases sv with
  |lp b I=>simp only at h;obtain⟨w,z,h⟩:=aF h;obtain⟨i,hi,_⟩:=g.box b w z;exact rl g j (ex (m i V hi)) h aP λd _ _=>λW R S=>aU|dv d0 ow=>cases d0 with
   |ptr id I=>simp only at h;cases m with|ptr _ _ i hi=>exact rl g j (ex rfl) h aP λd _ _=>DR.ptr id _ i hi
   |_=>simp at h
  |se t i I=>simp only at h;obtain⟨id,G,len,c,esz,e1,e2⟩:=m;refine rl g j (ex e2) h aP λd _ hr=>⟨id,G,len,c,esz,?_,ai⟩;rw[a11 _ _ (λe=>DQ hr t (.inr ⟨_,_,rfl⟩) e.symm)];omega|ev d0=>cases d0 with
   |agg l=>
   simp only at h;obtain⟨d1,E,h⟩:=aF h;obtain⟨id,I,cells,e,e1,e2,e3,e4,e5⟩:=m;obtain⟨k,M,L⟩:=yn E (by simpa[DV.flat]using e4);refine rl g j (ex e1) h aP λd _ _=>⟨id,I+p.offset,cells,e,rfl,e2,?_,M,?_⟩;.have:p.offset+d1.flat.length<=l.length:=k;have y:I+l.length<=cells.length:=e3;omega
   .have T:bF K Y l ((cells.drop I).take l.length):=e5;have:=(T.drop p.offset).take d1.flat.length;rw[List.drop_take,Eh,List.take_take,Nat.min_eq_left ab,<-L]at this;exact this|_=>simp at h
  |_=>simp at h
 |_=>simp at h
theorem C5{b:Builtin}{c:Call}{a:aJ}{v:AV}(f:o.op=.call c)(e:c.callee=.builtin b)(d:b≠.recover/\b≠.panic)(h:cB (AM.bJ P tm) c.args.toList=J a)(g:iC P H b c.argTypes a=J (v,H')):dY P ak tm H o=J (.val v H'):=by simp_all[dY,Cy,yK,uU]
theorem aBc(N:dB P K Y aq)(g:HR K Y B H O.lb O.g)(k:cg K Y B H tm O.sl){c:Call}(A:o.op=.call c)(v:c.callee=.builtin .len)(E:c.args.toList=[x])(h:dF P aq fk gs cr later O o=J st'):eT P ak rec cf K Y B H st0 O st' tm o:=by
 unfold dF at h;rw[A]at h;simp only[v,E]at h;obtain⟨sv,W,h⟩:=aF h;obtain⟨a,a1,a2,f⟩:=Ko (P:=P) N g k W;have R:cB (AM.bJ P tm) c.args.toList=J [a]:=by rw[E];show((AM.bJ P tm x).bind λb=>(J []:ah aJ).bind λt=>J (b::t))=_;simp_all
 have fin:∀(n:Nat),iC P H .len c.argTypes [a]=J (ia n,H)->aG O o.dst (.dv (goN n) .no)=J st'->eT P ak rec cf K Y B H st0 O st' tm o:=λn L M=>sF g k (C5 A v ⟨aP,aP⟩ R L) M (.int _ _);cases S:c.argTypes[0]?.bind P.underlying with|none=>simp_all|some u=>
 rw[S]at h;have RQ:∀(e:an)(n:Nat),u=.slice e->nO a=J n->iC P H .len c.argTypes [a]=J (ia n,H):=by simp_all[iC]
 cases u with
 |array n e=>cases sv with|dv d ow=>exact fin n (by simp_all[iC]) h|_=>simp_all
 |string=>cases sv with
  |dv d ow=>cases d with|str s=>cases f;exact fin s.length (by simp_all[iC,dZ]) h|_=>simp at h
  |_=>simp_all
 |slice e=>cases sv with
  |dv d ow=>obtain⟨n,z,h⟩:=aF h;grind[Mu]|hd n=>grind|sr s=>
  obtain⟨y,q,h⟩:=aF h;unfold nK at q;split at q;.rename_i l e' n e2 Q;obtain rfl:=bE q;obtain⟨b0,r,_,F⟩:=k s _ Q;have f:tm.get s=J a:=f;rw[f]at r;obtain rfl:=bE r;exact fin l.length (RQ e _ rfl (Mu (K:=s8 H) (Y:=Y) (x:=.ay l e' n) rfl (a57 g (p:=.sl s) (o:=.ex e2) F))) h
  simp_all|gr id I=>obtain⟨d,hd,h⟩:=aF h;obtain⟨n,z,pU⟩:=aF h;obtain⟨i,m,root,fl,e2,g1,g2,g3⟩:=f;unfold EI at hd;cases D:O.g.get id with|none=>simp_all|some X=>rw[D]at hd;cases X with
   |box b=>
   simp only at hd;have rU:O.at (.g id)=J b:=by unfold St.at;simp only[D]
   obtain⟨j,j1,T,U⟩:=g.at rU;have w:=U id rfl;rw[g1]at w;obtain rfl:=bE w;obtain⟨m',fl',e',k1,k2,k3,k4,k5,k6⟩:=T;rw[g2]at k1;obtain⟨rfl,_⟩:=cq.cells.inj (bE k1);split at hd;.rename_i G e3 yl gI;obtain rfl:=bE hd;exact fin n (RQ e _ rfl (Mu z (a57 g (k6 I G a yl g3).2))) pU
   .simp at hd|_=>simp at hd
  |_=>simp at h
 |_=>cases sv<;>simp at h
theorem aGX(g:dB P K Y aq)(e:HR K Y B H O.lb O.g)(s:cg K Y B H tm O.sl){c:aK}(k:o.op=.pick c x y)(n:jP O x)(l:jP O y)(h:dF P aq fk gs cr later O o=J st'):eT P ak rec cf K Y B H st0 O st' tm o:=by
 unfold dF at h;rw[k]at h;simp only at h;split at h;.rename_i b j;obtain⟨p,m,_,c3⟩:=oH g e s j;cases c3;cases b with|true=>obtain⟨v,f,h⟩:=aF h;obtain⟨a,i,_,d⟩:=te g s n f;refine sF e s ?_ h d;simp_all[dY,CB,fc]|false=>obtain⟨v,f,h⟩:=aF h;obtain⟨a,i,_,d⟩:=te g s l f;refine sF e s ?_ h d;simp_all[dY,CB,fc]
 grind
theorem VB{k:fT}{i d l n:Nat}{c:ah Nat}(a:o.op=.indexAddr t x y)(e:AM.bJ P tm y=J (.int k (.ofNat i)))(b:AM.bJ P tm x=J (.sl d I l c esz))(u:P.underlying t=J (.slice elem))(h:aW P elem=J n)(f:n=esz)(g:i<l):dY P ak tm H o=J (.val (.ptr d (I+i*esz)) H):=by unfold dY;rw[a];simp only[Cz];have:(cw i l&&aw n esz)=V:=aU;simp only[e,b,u,h,cU,this,aR,fc,gM];rfl
theorem agr{k:fT}{i d l n:Nat}(a:o.op=.indexAddr t x y)(c:AM.bJ P tm y=J (.int k (.ofNat i)))(b:AM.bJ P tm x=J (.ptr d I))(u:P.underlying t=J (.array l elem))(h:aW P elem=J n)(e:i<l):dY P ak tm H o=J (.val (.ptr d (I+i*n)) H):=by unfold dY;rw[a];simp only[Cz];have:cw i l=V:=aU;simp only[c,b,u,h,cU,this,aR,fc,gM];rfl
theorem ayE(Q:dB P K Y aq)(m:HR K Y B H O.lb O.g)(f:cg K Y B H tm O.sl)(A:o.op=.indexAddr t x y)(h:dF P aq fk gs cr later O o=J st'):eT P ak rec cf K Y B H st0 O st' tm o:=by
 unfold dF at h;rw[A]at h;simp only at h;split at h;.rename_i kk i hi;obtain⟨iv,L,_,i3⟩:=oH (P:=P) Q m f hi;cases i3;cases D:P.underlying t with|none=>grind|some u=>rw[D]at h;cases S:cZ aq O x with|none=>grind|some sv=>rw[S]at h;have iH:=ri (P:=P) Q f S;obtain⟨a,q,a2,v⟩:=Ko (P:=P) Q m f S;cases u with
 |slice elem=>cases sv with
  |dv d ow=>cases d with
   |ay l e esz=>simp only at h;obtain⟨n,p,h⟩:=aF h;cases b:(aw n esz&&aw e elem)with|false=>grind|true=>rw[b]at h;simp only[gD,bQ,jB,aR]at b h;obtain⟨cI,_⟩:=b;cases v with|ay _ _ _ id I c cells q1 q2 q3 q4 q5 q6=>
     have E:i<l.length->dY P ak tm H o=J (.val (.ptr id (I+i*esz)) H):=λg=>VB A L q D p cI g;have aOw:((l[i]?).bind λd=>aG O o.dst (.ev d))=J st'->DR K Y (.ay l e esz) (.sl id I l.length c esz)->eT P ak rec cf K Y B H st0 O st' tm o:=by intro h gW;obtain⟨d,hd,h⟩:=aF h;have g:=(am.1 hd).1;refine rl m f (E g) h aP λ_ _ _=>?_;cases gW with|ay _ _ _ _ _ _ M w1 w2 w3 w4 w5 w6=>
      have hm:i*esz+esz<=l.length*esz:=by have:(i+1)*esz<=l.length*esz:=lW _ g;grind
      refine⟨id,I+i*esz,M,e,rfl,w1,ai,(w5 i d hd).2,⟨ai,λj z a hz ha=>?_⟩⟩;grind
     have aPW:∀s,x=.tmp s->(bif cw i l.length then aG O o.dst (.se s i 0)else Z)=J st'->eT P ak rec cf K Y B H st0 O st' tm o:=by
      intro s W h;rw[eP]at h;by_cases g:i<l.length
      . simp only[g,dX,aR]at h;obtain⟨a',F,h2,N⟩:=iH;rw[q]at F;cases F;rcases N with⟨s',e1,_,eG,_⟩|⟨Vd,_⟩;.rw[W]at e1;obtain rfl:=Operand.tmp.inj e1;refine rl m f (E g) h aP λd _ hr=>⟨id,I,l.length,c,esz,?_,rfl⟩;rw[a11 _ _ (λe=>DQ hr s (.inr ⟨_,_,rfl⟩) e.symm)];omega
        grind
      grind
     have plain:(∀e',ow≠.ex e')\/(∀s,x≠.tmp s)->DR K Y (.ay l e esz) (.sl id I l.length c esz):=by
      intro G;obtain⟨a',F,h2,N⟩:=iH;rw[q]at F;cases F;rcases N with⟨s,W,_,_,w⟩|⟨_,⟨d,e1,w⟩|⟨_,_,_,_,e1,w⟩|⟨_,_,_,_,e1,_⟩⟩
      . rcases G with G|G;.cases ow with|no=>exact w|any=>have:=w.1;grind|full e'=>exact w.1|ty e'=>exact w.1|ex e'=>grind
        grind
      all_goals grind
     grind|cY id I len e esz=>simp only at h;obtain⟨n,p,h⟩:=aF h;cases b:(aw n esz&&aw e elem&&cw i len)with|false=>grind|true=>rw[b]at h;simp only[gD,bQ,eP,jB,aR]at b h;cases v with|cY _ _ _ _ _ j c R kf=>exact rl m f (VB A L q D p b.1.1 b.2) h aP λ_ _ _=>.ptr _ _ _ R
   |_=>simp at h
  |sr s=>
   simp only at h;obtain⟨y2,T,h⟩:=aF h;obtain⟨n,p,U⟩:=aF h;unfold nK at T;split at T;.rename_i l e n2 e2 hl;cases T;cases b:(aw n n2&&(aw e elem&&cw i l.length))with|false=>simp_all|true=>
     rw[b]at U;simp only[gD,bQ,eP,jB,aR]at b U;obtain⟨b0,X,_,b3⟩:=f s _ hl;have v:tm.get s=J a:=v;rw[v]at X;cases X;rcases b3 with⟨x1,_⟩|⟨r,_,b4⟩;.simp_all
     .obtain⟨l',qq,qY,dJ,c',cells,fl,g1,g2,_⟩:=b4.ex;obtain⟨rfl,rfl,rfl⟩:=DV.ay.inj g1;subst g2;refine rl m f (VB A L q D p b.1 b.2.2) U aP λd _ hr=>⟨qY,dJ,l.length,c',n2,?_,rfl⟩;grind[Tr.jC,DQ]
   grind|_=>simp_all
 |array len elem=>cases sv with
  |ev d0=>cases d0 with
   |agg l=>
   simp only at h;obtain⟨n,p,h⟩:=aF h;rw[eP]at h;by_cases g:i<len
   . simp only[g,dX,aR]at h;obtain⟨d1,G,h⟩:=aF h;obtain⟨id,I,cells,e,e1,e2,e3,e4,e5⟩:=v;subst e1;obtain⟨k,yr,tP⟩:=yn G (by grind[DV.flat]);refine rl m f (agr A L q D p g) h aP λd _ _=>⟨id,I+i*n,cells,e,rfl,e2,?_,yr,?_⟩;.have:i*n+d1.flat.length<=l.length:=k;have e3':I+l.length<=cells.length:=e3;omega
     .have TR:bF K Y l ((cells.drop I).take l.length):=e5;have:=(TR.drop (i*n)).take d1.flat.length;grind[List.drop_take,Eh]
   simp_all|_=>simp at h
  |lp s I=>
   simp only at h;obtain⟨n,p,h⟩:=aF h;rw[eP]at h;by_cases g:i<len;.simp only[g,dX,aR]at h;obtain⟨bx,hb,h⟩:=aF h;obtain⟨j,R,_⟩:=m.box s bx hb;have e1:=v j V R;subst e1;exact rl m f (agr A L q D p g) h aP λd _ _=>λi' c' cN=>aU
   simp_all|dv d ow=>simp_all|_=>simp_all
 |_=>cases sv<;>simp at h
 grind
theorem akl(g:dB P K Y aq)(e:HR K Y B H O.lb O.g)(s:cg K Y B H tm O.sl){l:List aK}{x y:DV}(h:cB (bj aq O) l=J [x,y]):∃a b,cB (AM.bJ P tm) l=J [a,b]/\DR (s8 H) Y x a/\DR (s8 H) Y y b:=by cases l with|nil=>grind[cB]|cons p l=>have c:((bj aq O p).bind λb=>(cB (bj aq O) l).bind λt=>J (b::t))=J [x,y]:=h;obtain⟨d,hd,c⟩:=aF c;obtain⟨t,j,c⟩:=aF c;obtain⟨rfl,rfl⟩:=List.cons.inj (bE c);cases l with|nil=>grind[cB]|cons q l=>have F:((bj aq O q).bind λb=>(cB (bj aq O) l).bind λt=>J (b::t))=J [y]:=j;obtain⟨d2,m,F⟩:=aF F;obtain⟨t2,k,F⟩:=aF F;obtain⟨rfl,rfl⟩:=List.cons.inj (bE F);cases l with|nil=>obtain⟨a,n,_,f⟩:=oH (P:=P) g e s hd;obtain⟨b,o,_,i⟩:=oH (P:=P) g e s m;refine⟨a,b,?_,f,i⟩;show((AM.bJ P tm p).bind λb=>(((AM.bJ P tm q).bind λb=>(J []:ah aJ).bind λt=>J (b::t))).bind λt=>J (b::t))=_;simp_all|cons r l=>have Q:((bj aq O r).bind λb=>(cB (bj aq O) l).bind λt=>J (b::t))=J []:=k;obtain⟨_,_,Q⟩:=aF Q;obtain⟨_,_,Q⟩:=aF Q;simp_all
theorem aCd(g:dB P K Y aq)(b:HR K Y B H O.lb O.g)(s:cg K Y B H tm O.sl){c:Call}(d:o.op=.call c)(a:c.callee=.builtin .max)(h:dF P aq fk gs cr later O o=J st'):eT P ak rec cf K Y B H st0 O st' tm o:=by
 unfold dF at h;rw[d]at h;simp only[a]at h;obtain⟨l,e,h⟩:=aF h;split at h;.obtain⟨x,y,m,f,i⟩:=akl g b s e;cases f;cases i;refine sF b s (C5 d a ⟨aP,aP⟩ m ?_) h (.int _ _);rfl
 grind
theorem aCi(g:dB P K Y aq)(b:HR K Y B H O.lb O.g)(s:cg K Y B H tm O.sl){c:Call}(d:o.op=.call c)(a:c.callee=.builtin .min)(h:dF P aq fk gs cr later O o=J st'):eT P ak rec cf K Y B H st0 O st' tm o:=by
 unfold dF at h;rw[d]at h;simp only[a]at h;obtain⟨l,e,h⟩:=aF h;split at h;.obtain⟨x,y,m,f,i⟩:=akl g b s e;cases f;cases i;refine sF b s (C5 d a ⟨aP,aP⟩ m ?_) h (.int _ _);rfl
 grind
theorem QY{i:Nat}(a:o.op=.nilCheck x)(h:AM.bJ P tm x=J (.ptr i I)):dY P ak tm H o=J (.val (.ptr i I) H):=by simp_all[dY,Ec,fc]
theorem aC3(n:dB P K Y aq)(b:HR K Y B H O.lb O.g)(j:cg K Y B H tm O.sl)(g:o.op=.nilCheck x)(h:dF P aq fk gs cr later O o=J st'):eT P ak rec cf K Y B H st0 O st' tm o:=by unfold dF at h;rw[g]at h;obtain⟨sv,q,h⟩:=aF h;obtain⟨a,k,r,f⟩:=Ko n b j q;cases sv with
 |lp s I=>obtain⟨l,m,h⟩:=aF h;obtain⟨i,hi,_⟩:=b.box s l m;have e:=f i _ hi;subst e;exact rl b j (QY g k) h aP λd _ _=>f|ev d=>obtain⟨id,I,cells,e,e1,e2⟩:=f;subst e1;exact rl b j (QY g k) h aP λ_ _ _=>⟨id,_,_,e,rfl,e2⟩|se s i I=>obtain⟨id,p,len,c,esz,e1,e2⟩:=f;subst e2;refine rl b j (QY g k) h aP λd _ hr=>⟨id,p,len,c,_,?_,rfl⟩;rw[a11 _ _ (λe=>DQ hr s aU e.symm)];omega|dv d0 ow=>cases d0 with
  |ptr id I=>cases f with|ptr _ _ i hi=>exact rl b j (QY g k) h aP λd _ _=>DR.ptr id _ i hi
  |_=>simp at h
 |_=>grind
theorem QW(a:HR K Y B H lb g):K H.next=Z/\HR (K.add H.next (m,e)) Y B (H.cT m fl e) lb g:=by
 have o:K H.next=Z:=by
   rcases d:K _ with _|x;.rfl
   obtain⟨r,fl',g1,_⟩:=a.dy _ _ _ d;have:=a.inv.get _ _ g1;omega
 have X:bo K (K.add _ (m,e)):=aY.Bg o;have d:bU (λ_=>False) H (H.cT m fl e):=kh H _ _;have N:bg (H.cT m fl e):=wC a.inv _ aU;have G:(H.cT m fl e).get _=J _:=mF H _;refine⟨o,N,?_,a.inj,?_,?_,?_,?_,a.mZ,NV a.inv a.hQ _ aU⟩
 . intro id cells e' h;unfold aY.add at h;by_cases x:id=H.next;.rw[if_pos x]at h;obtain⟨rfl,rfl⟩:=jf (bE h);subst x;refine⟨_,fl,G,?_⟩;show(H.br _).1<=H.next;rw[Bv a.inv ab];omega
   .rw[if_neg x]at h;obtain⟨r,fl',g1,g2⟩:=a.dy id _ e' h;exact⟨r,_,by rw[d.get id (a.inv.get _ _ g1) (λh=>h)];omega,g2⟩
 . intro p r id x f j;have hr:=a.cF _ _ _ f;unfold aY.add at j;by_cases y:id=H.next;.grind[lS]
   . rw[if_neg y]at j;obtain⟨cells,e'⟩:=x;obtain⟨w,fl',g1,_⟩:=a.dy id _ e' j;have hid:=a.inv.get _ _ g1;have:rootOf (H.cT m fl e) id=rootOf H id:=by unfold rootOf;rw[d.get id hid (λh=>h)]
     rw[this];exact a.clean p r id _ f j
 .intro p r b f;have:=a.cF _ _ _ f;have Q:(H.cT m fl e).next=H.next+1:=rfl;omega
 .intro s b t;obtain⟨i,l,n⟩:=a.box s b t;exact⟨i,l,n.keep a.inv d X (a00 _) id λI r c x=>⟨x,id⟩⟩
 .intro k v u;obtain⟨i,l,n,q⟩:=a.jm k v u;exact⟨i,l,n,q.keep a.inv d X (a00 _) id λI r c x=>⟨x,id⟩⟩
theorem abg{x:DV}(d:HR K Y B H O.lb O.g)(y:cg K Y B H tm O.sl)(h:aG O dst (.dv x ow)=J st')(f:DR (K.add H.next (m,e)) Y x a)(I:ow=.no\/UU a/\∃t,ow=.full t:=by first|exact .inl rfl|skip)(n:a≠.top:=by simp):fR K Y B H st' (gX tm dst a) (H.cT m fl e):=by
 obtain⟨v,o⟩:=QW d;have k:bo K (K.add _ (m,e)):=aY.Bg v;have z:cg _ Y B (H.cT m fl e) tm _:=λt sv u=>by obtain⟨g,c,i,l⟩:=y t sv u;exact⟨g,c,i,l.keep d.inv (kh H _ _) k (a00 _) (λ_ _ _ _ h=>⟨h,id⟩) aU aU aU⟩
 exact a19 d.inv k (λj x s=>by obtain⟨cells,t⟩:=x;obtain⟨r,fl',c,_⟩:=o.dy j _ t s;refine⟨o.inv.get _ _ c,?_⟩;grind[aY.add,lS,mF]) (a00 _) (kh H _ _) (λp r b w=>.inl ⟨p,b,w⟩) (xO o z h n λ_ _ _=>by
 rcases I with rfl|⟨q,t,rfl⟩;.exact f
 .exact⟨f,q⟩)
theorem anB{s:aE}{c:Nat}(K:aY)(l:cu):DR (K.add c (s.map λb=>AV.int .u8 (.ofNat b),e)) l (.ay (s.map λb=>.int .u8 (.ofNat b)) e 1) (.sl c 0 (s.map λb=>DV.int .u8 (.ofNat b)).length Z 1):=by
 refine .ay _ e 1 c 0 _ (s.map λb=>AV.int .u8 (.ofNat b)) (by simp[aY.add]) ab aP aU ?_ ?_;.intro i x h;rw[jZ]at h;obtain⟨b,_,rfl⟩:=iK.mp h;exact⟨rfl,λy g=>by simp[DV.flat]at g;subst g;rfl⟩
 . intro i x j d a h hd f;rw[jZ]at h;obtain⟨b,k,rfl⟩:=iK.mp h;rcases j with _|j;.cases hd;rw[show 0+i*1+0=i by omega,jZ,k]at f;cases f;exact .int _ _
   grind[DV.flat]
theorem aoQ(j:dB P K Y aq)(c:HR K Y B H O.lb O.g)(f:cg K Y B H tm O.sl){r d:an}(i:o.op=.convert r d x)(h:dF P aq fk gs cr later O o=J st'):eT P ak rec cf K Y B H st0 O st' tm o:=by
 unfold dF at h;rw[i]at h;simp only at h;obtain⟨v,m,h⟩:=aF h;obtain⟨a,p,_,g⟩:=oH (P:=P) j c f m;split at h;.rename_i u k t n l hd;cases g;refine sF c f ?_ h (.int _ _);simp_all[dY,GZ,fc]
 . rename_i e s l hd;cases g;split at h;.rename_i q;obtain⟨f1,f2,f3,_⟩:=nU h;refine⟨.sl H.next 0 (s.map λb=>DV.int .u8 (.ofNat b)).length Z 1,H.cT (s.map λb=>AV.int .u8 (.ofNat b)) .ro e,?_,f1,abg c f h (anB K Y),f2,f3,FE _ _ _ _⟩;unfold fF dY;rw[i];simp only[GZ];grind[Aq,dZ]
   simp_all
 simp_all
theorem ayG(g:dB P K Y aq)(c:HR K Y B H O.lb O.g)(d:cg K Y B H tm O.sl)(f:o.op=.index t x y)(h:dF P aq fk gs cr later O o=J st'):eT P ak rec cf K Y B H st0 O st' tm o:=by
 unfold dF at h;rw[f]at h;simp only at h;split at h
 . rename_i p i hi;obtain⟨v,n,_,k⟩:=oH g c d hi;cases k;split at h;.rename_i s u j;obtain⟨b,m,h⟩:=aF h;obtain⟨a,l,_,e⟩:=oH g c d j;cases e;refine sF c d ?_ h (.int _ _);simp_all[dY,D',xa,fc]
   grind
 grind
theorem aB2(a:HR K Y B H O.lb O.g)(z:cg K Y B H tm O.sl)(w:o.op=.makeMap t Z)(h:dF P aq fk gs cr later O o=J st'):eT P ak rec cf K Y B H st0 O st' tm o:=by
 unfold dF at h;rw[w]at h;obtain⟨f1,f2,f3,_⟩:=nU h;have G:(H.alloc (.map [] 0)).get H.next=J (.map [] 0):=mF H _;have N:bg (H.alloc (.map [] 0)):=wC a.inv _ (λl r fl e' g=>ai);obtain⟨d,ω',f,m,n,s,F,u⟩:=QV (y:=.map [] 0) a N (by grind[rootOf]) λd ω' A D=>⟨[],G,rfl,λk x y e=>ai⟩;have E:cg K _ _ (H.alloc (.map [] 0)) tm _:=λt sv v=>by obtain⟨i,g1,g2,g3⟩:=z t sv v;refine⟨i,g1,g2,g3.keep a.inv (kh H _ _) (a01 _) f (λp r b c x=>⟨s p r b ?_ x,id⟩) aU aU aU⟩;rcases c with rfl|⟨j,rfl⟩<;>trivial
 refine⟨.map H.next,H.alloc (.map [] 0),?_,f1,?_,f2,f3,FE _ _ _ _⟩;.simp_all[fF,dY,G3]
 .exact a19 a.inv (a01 _) (a.gi (kh H _ (λ_=>False))) f (kh H _ _) (λp r b c=>by
 rcases u p r b c with⟨q,h⟩|rfl;.exact .inl ⟨q,b,h⟩
 omega) (Bh (O:={O with g:=O.g.alloc _}) n E h (DR.map _ _ m))
end
section
variable{P:aH}{K:aY}{Y:cu}
theorem aeh(o:DR K Y k a):∀(es:List lr)(fs:List eL)(i:Nat)(r:ah (Nat×lr)),es.length=fs.length->(∀(j:Nat)(x:lr)(y:eL),es[j]?=J x->fs[j]?=J y->wx K Y x y)->findD P t k es i=J r->(r=Z/\oY P t a fs i=J Z)\/∃j x y,r=J (j,x)/\oY P t a fs i=J (J (j,y))/\wx K Y x y/\i<=j/\es[j-i]?=J x/\fs[j-i]?=J y:=by intro es;induction es with
 |nil=>intro fs i r p _ h;cases fs with|nil=>exact .inl ⟨(bE h).symm,rfl⟩|cons f fs=>grind
 |cons e es q=>intro fs i r p hr h;cases fs with|nil=>grind|cons f fs=>have c:((gw P 50 t k e.1).bind λb=>bif b then J (J (i,e))else findD P t k es (i+1))=J r:=h;obtain⟨b,l,c⟩:=aF c;have m:=hr 0 e f rfl rfl;have d:=TU (P:=P) 50 t _ _ b _ _ l o m.1;have n:oY P t a (f::fs) i=(lD P 50 t a f.1).bind λb=>bif b then J (J (i,f))else oY P t a fs (fj i):=rfl;rw[n,d];cases b with|true=>grind|false=>
 rcases q fs (i+1) r ai (λj x y a b=>hr (j+1) x y a b) c with⟨rfl,g⟩|⟨j,x,y,rfl,g1,g2,g3,g4,g5⟩;.grind
 .refine .inr ⟨j,x,y,rfl,g1,g2,ab,?_,?_⟩;all_goals grind
end
section
variable{P:aH}{ak:ct}{rec:Rec}{cf:bV}{K K':aY}{Y A:cu}{B ω':aI}{H H':Heap}{S:Nat->Prop}
variable{aq:Nat->ah ao}{gs cr:aE}{fk:bY->Nat}{later:List aB}{st0 O st':St}{tm:Tr AV}{o:aB}
theorem Fs9(n:Nat)(h:Fy P t k=V)(b:DR K Y k a):I5 P (n+1) t a=V:=by
 unfold Fy at h;split at h;iterate 3·cases b;show BU P _ t _=V;simp_all[BU]
 grind
theorem FP(h:ta P t k=V)(c:DR K Y k a):qB P t a=V:=by
 unfold ta at h;split at h
 . rename_i fs s u;obtain⟨m,rfl,r,sm⟩:=c.tF;show BU P (I5 P 4) t _=V;unfold BU;rw[u];simp only[qN,A0,AW]at h|-;intro f e;have:=h f e;split at this;.rename_i v g;obtain⟨b,d,hr⟩:=MS g r sm;rw[d];exact .inr (Fs9 3 this hr)
   grind
 .exact Fs9 4 h c
theorem gB{t:Nat}{d e:DV}{b:AV}(f:DR K Y d a)(g:DR K Y e b):mB K Y B H tm t (.tp [(d,.no),(e,.no)]) (.cO [a,b]):=by refine⟨_,rfl,rfl,λj x y h c=>?_⟩;match j with|0=>cases h;cases c;exact f|1=>cases h;cases c;exact g|j+2=>simp at h
theorem aBN(v:dB P K Y aq)(d:HR K Y B H O.lb O.g)(s:cg K Y B H tm O.sl){k:aK}{l:Bool}(w:o.op=.lookup t x k l)(h:dF P aq fk gs cr later O o=J st'):eT P ak rec cf K Y B H st0 O st' tm o:=by
 have q:=d.sub;unfold dF at h;rw[w]at h;simp only at h;split at h;.rename_i D N r R S;obtain⟨a,F,_,G⟩:=oH (P:=P) v d s S;cases G with|map _ i hi=>
  split at h
  . rename_i es c L;obtain⟨U,I,h⟩:=aF h;obtain⟨b,M,_,n⟩:=oH (P:=P) v d s I;obtain⟨T,q1,_,q2⟩:=d.jm _ _ L;obtain rfl:i=T:=bE (hi.symm.trans q1);obtain⟨fs,W,X,p⟩:=q2;have Q:H.jU i=J (fs,c):=by unfold Heap.jU;rw[W]
    by_cases A:ta P D U=V
    . simp only[A,aR]at h;obtain⟨rr,pX,h⟩:=aF h;have E:=FP A n;have m:dY P ak tm H o=(oY P D b fs 0).bind λ|some (_,e)=>fc H (J (bif l then .cO [e.2.1,.bool V]else e.2.1))|none=>(zd P N).bind λz=>fc H (J (bif l then .cO [z,.bool C]else z)):=by unfold dY;rw[w];simp only[CA];simp only[R,F,Q,M,E,gM,cU,aR]<;>rfl
      rcases aeh n es fs 0 rr X (λj x y e1 e2=>⟨(p j x y e1 e2).1.mono q (a00 _),(p j x y e1 e2).2.1.mono q (a00 _),(p j x y e1 e2).2.2⟩) pX with⟨rfl,g⟩|⟨j,x,y,rfl,g1,_,_,g4,g5⟩;.simp only at h;obtain⟨z,f,h⟩:=aF h;unfold cE at f;obtain⟨az,u,f⟩:=aF f;cases l with|false=>exact sF d s (by rw[m,g];simp only[cU,u,fc,gM,ch]) h (CQ f)|true=>exact rl d s (by rw[m,g];simp only[cU,u,fc,gM,aR]) h aP λ_ _ _=>gB (CQ f) (.bool _)
      .cases l with|false=>exact sF d s (by rw[m,g1];simp only[cU,fc,gM,ch]) h (p _ x y g4 g5).2.1|true=>exact rl d s (by rw[m,g1];simp only[cU,fc,gM,aR]) h aP λ_ _ _=>gB (p _ x y g4 g5).2.1 (.bool _)
    .simp[A]at h
  .simp at h
 .simp at h
end
section
variable{P:aH}{K K':aY}{Y A:cu}{B ω':aI}{H H':Heap}{S:Nat->Prop}{tm:Tr AV}{O:St}
theorem Rp(b:bg H){i:Nat}(g:H.get i=J (.cells m r fl e))(n:(H.br r).2=i):bg (H.dM i r (.cells m' r fl' e')):=by
 have hid:=b.get i _ g;have U:=b.root _ _ _ _ _ g;have s:((H.dM i r (.cells m' r fl' e')).br r).2=i:=by grind[EL,Pg]
 refine⟨λj o h=>?_,λj l a Y e1 h=>?_,λj l a Y e1 h=>?_,λa f h=>?_,by rw[Cu,w9];exact b.bA⟩
 . rw[w9];by_cases c:j=i;.omega
   .rw[nM H r _ c]at h;exact b.get j o h
 . by_cases c:j=i;.grind[oq]
   .rw[nM H r _ c]at h;obtain⟨p,q⟩:=b.root j l a _ e1 h;grind[H9]
 . have back:∀a,(∃k fl' e',H.get a=J (.cells k a fl' e'))->∃l2 y e2,(H.dM i r (.cells m' r fl' e')).get a=J (.cells l2 a y e2):=by grind[oq,nM]
   by_cases c:j=i;.subst c;rw[oq]at h;obtain⟨_,rfl,_,_⟩:=cq.cells.inj (bE h);exact back r (b.oK _ _ _ _ _ g)
   .rw[nM H r _ c]at h;exact back a (b.oK j l a _ e1 h)
 . rw[w9];unfold Heap.dM at h;rw[bQ]at h;by_cases d:r=i;.simp only[d,dX,aR]at h;exact b.dz a f h
   . simp only[d,lC,ch]at h;by_cases e1:a=r;.grind[Tr.lG]
     .rw[a11 _ _ (Ne.symm e1)]at h;exact b.dz a f h
theorem GM(u:pN H){i:Nat}(g:H.get i=J (.cells m r fl e)):pN (H.dM i r (.cells m' r fl' e)):=λj l a Y e1 h=>by
 have back:∀{a e1},(∃c fl',H.get a=J (.cells c a fl' e1))->∃l2 y,(H.dM i r (.cells m' r fl' e)).get a=J (.cells l2 a y e1):=by grind[oq,nM]
 by_cases b:j=i;.subst b;rw[oq]at h;obtain⟨_,rfl,_,rfl⟩:=cq.cells.inj (bE h);exact back (u _ _ _ _ _ g)
 .rw[nM H r _ b]at h;exact back (u j l a _ e1 h)
theorem WM{i:Nat}(h:H.get i=J (.cells m r fl e))(j:Nat):rootOf (H.dM i r (.cells m' r fl' e')) j=rootOf H j:=by grind[oq,rootOf,nM]
theorem yH{i:Nat}(g:H.get i=J (.cells m r fl e)):bU (λx=>x=r) H (H.dM i r (.cells m' r fl' e'))where
 next:=by rw[w9];exact bT _
 get:=λj _ h=>nM H r _ (λx=>h (by rw[x,lS g]))
 dz:=λa _ h=>H9 H i r _ h
 root:=λj _=>WM g j
def bU.xx(i:bg H){T:Nat->Prop}(k:bU S H H')(h:∀r,r<H.next->S r->T r):bU T H H' where
 next:=k.next
 get:=λid hid n=>k.get id hid λx=>n (h _ (rq i hid) x)
 dz:=λr hr n=>k.dz r hr λx=>n (h r hr x)
 root:=k.root
theorem Rs(a:HR K Y B H lb g){i:Nat}(o:B p=J (r,V))(n:H.get i=J (.cells m r fl e))(l:(H.br r).2=i){src:Pk->ah Pk}(s:∀p q y,src p=J y->src q=J y->p=q):bg (H.dM i r (.cells m' r fl' e'))/\(∀j cells e1,K j=J (cells,e1)->∃root f,(H.dM i r (.cells m' r fl' e')).get j=J (.cells cells root f e1)/\((H.dM i r (.cells m' r fl' e')).br root).1<=j)/\(∀p q r1 b c,B.of src p=J (r1,b)->B.of src q=J (r1,c)->p=q)/\(∀p r1 j x,B.of src p=J (r1,V)->K j=J x->rootOf (H.dM i r (.cells m' r fl' e')) j≠r1)/\∀p r1 b,B.of src p=J (r1,b)->r1<(H.dM i r (.cells m' r fl' e')).next:=by obtain⟨k,c3,t⟩:=Wt a s;refine⟨Rp a.inv n l,λj cells e1 d=>?_,k,λp r1 j x u v=>by grind[WM],λp r1 b h=>by grind[w9]⟩;obtain⟨root,f,g1,g2⟩:=a.dy j _ e1 d;have I:=a.clean p r j _ o d;grind[lS,nM,H9]
theorem xk{l:db}(u:bg H)(z:cg K Y B H tm l)(k:bU S H H')(q:bo K K')(c:aX Y A)(y:∀p r b,p.slot->B p=J (r,b)->ω' p=J (r,b)/\¬S r)(D:∀s i b,ω' (.lb s)=J (i,b)->B (.lb s)=J (i,b)):cg K' A ω' H' tm (cP l):=by
 intro t sv h;unfold cP at h;rw[rf l _]at h;rcases f:look l t with _|o;.grind
 rw[f]at h;cases h;obtain⟨d,g,m,n⟩:=z t _ f;have gen:(∀id I,o≠.gr id _)->∃a,tm.get t=J a/\(o≠.dd->a≠.top)/\mB K' A _ H' tm t _ a:=λv=>⟨d,g,m,n.keep u k q c (λp r b w=>y p r b (by rcases w with rfl|⟨j,rfl⟩<;>trivial)) aU aU (λid I i e _=>absurd e (v id I))⟩;cases o with|gr id I=>exact⟨d,g,λx=>absurd rfl x,trivial⟩|_=>exact gen aU
theorem aad{l:db}{c:Nat}(v:bg H)(D:cg K Y B H tm l)(k:bU S H H')(u:bo K K')(d:aX Y A)(z:∀p r b,p.slot->(∀j,p≠.tp c j)->p≠.sl c->B p=J (r,b)->ω' p=J (r,b)/\¬S r)(F:∀s i b,ω' (.lb s)=J (i,b)->B (.lb s)=J (i,b))(E:tm.get c=J a)(L:sv≠.dd->a≠.top)(M:mB K' A ω' H' tm c sv a):cg K' A ω' H' tm (put (cP l) c sv):=by
 intro t G h;rw[me]at h;by_cases e:t=c;.grind
 . rw[if_neg e]at h;unfold cP at h;rw[rf l _]at h;rcases g:look l t with _|o;.grind
   rw[g]at h;cases h;obtain⟨f,m,n,q⟩:=D t _ g;have gen:(∀id I,o≠.gr id _)->∃a,tm.get t=J a/\(o≠.dd->a≠.top)/\mB K' A _ H' tm t _ a:=λw=>⟨f,m,n,q.keep v k u d (λp r b y=>z p r b (by rcases y with rfl|⟨j,rfl⟩<;>trivial) ai ai) aU aU (λid I i e _=>absurd e (w id I))⟩;cases o with|gr id I=>exact⟨f,m,λx=>absurd rfl x,trivial⟩|_=>exact gen aU
theorem AV.aoa(h:a.aV=V)(t:a≠.top):a.cells=J [a]:=by cases a<;>first|rfl|exact absurd rfl t|grind[AV.aV]
theorem NH(l:ao)(o:Nat)(v:ao):lj l o v=fZ l o v:=by rw[D1];rfl
end
section
variable{P:aH}{ak:ct}{rec:Rec}{cf:bV}{K K':aY}{Y A:cu}{B ω':aI}{H H':Heap}{S:Nat->Prop}
variable{aq:Nat->ah ao}{gs cr:aE}{fk:bY->Nat}{later:List aB}{st0 O st':St}{tm:Tr AV}{o:aB}
theorem cQ.cells{d:DV}(h:cQ K Y B H p d a ow):∃vs,a.cells=J vs/\d.flat.length=vs.length/\(∀y,y∈d.flat->y.aV=V)/\((d.flat=[d]/\vs=[a]/\d.aV=V)\/(d.aV=C/\bF K Y d.flat vs)):=by
 have dr:DR K Y d a->∃vs,a.cells=J vs/\d.flat.length=vs.length/\(∀y,y∈d.flat->y.aV=V)/\((d.flat=[d]/\vs=[a]/\d.aV=V)\/(d.aV=C/\bF K Y d.flat vs)):=by intro h;obtain⟨vs,f,b,g⟩:=h.cells;refine⟨vs,f,b.1,g,?_⟩;cases hd:d.aV with|true=>refine .inl ⟨by cases d<;>first|rfl|simp[DV.aV]at hd,?_,rfl⟩;rw[AV.aoa (h.aV hd) h.rh]at f;exact(bE f).symm|false=>exact .inr ⟨rfl,b⟩
 cases ow with|no=>exact dr h|any=>obtain⟨rfl,rfl⟩:=h;exact dr .nl|full e=>exact dr h.1|ty e=>exact dr h.1|ex e=>
 rcases h with⟨rfl,rfl⟩|⟨r,_,b⟩;.exact dr .nl
 .obtain⟨l,esz,id,I,c,cells,fl,rfl,rfl,_⟩:=b.ex;exact⟨_,rfl,rfl,by simp[DV.flat,DV.aV],.inl ⟨rfl,rfl,rfl⟩⟩
open Classical in def qd(x:Loc)(o n:Nat)(l:ah Nat):Pk->ah Pk:=λp=>if p=x.pk o/\0<n then l.map .sl else if∃j,o<=j/\j<o+n/\p=x.pk j then Z else if∃t,l=J t/\(p=.sl t\/∃j,p=.tp t j)then Z else J p
theorem nQ{x:Loc}{n:Nat}:∀p q y,qd x I n lv p=J y->qd x I n lv q=J y->p=q:=by
 intro p q y a h;have k:∀(p q:Pk),(p=x.pk I/\0<n)->lv.map Pk.sl=J y->qd x I n lv q=J y->p=q:=by
   intro p q a f h;unfold qd at h;by_cases b:q=x.pk I/\0<n;.grind
   . rw[if_neg b]at h;split at h;.grind
     . split at h;.grind
       .rename_i e;cases h;exfalso;cases lv<;>simp_all
 by_cases b:p=x.pk I/\0<n;.have F:=a;unfold qd at F;rw[if_pos b]at F;exact k p q b F h
 . by_cases d:q=x.pk I/\0<n;.have c:=h;unfold qd at c;rw[if_pos d]at c;exact(k q p d c a).symm
   . unfold qd at a h;rw[if_neg b]at a;rw[if_neg d]at h;split at a;.grind
     . split at a;.grind
       .split at h;all_goals simp_all
theorem xl{x:Loc}{n:Nat}(h:∀j,I<=j->j<I+n->p≠x.pk j)(a:∀t,lv=J t->p≠.sl t/\∀j,p≠.tp t j):qd x I n lv p=J p:=by grind[qd]
theorem aK4{x:Loc}{n:Nat}(h:0<n):qd x I n lv (x.pk I)=lv.map .sl:=by grind[qd]
theorem ahd(l:List (Nat×aN)){n k:Nat}(h:k<I\/I+n<=k):look (dg l I n) k=look l k:=by refine ahe l (λk=>cw k _||bz _ k) ?_;simp_all
theorem VW(l:List (Nat×aN)){n k:Nat}(h:I<=k)(a:k<I+n):look (dg l I n) k=Z:=by induction l<;>grind[dg,look,eP,dp,bQ]
theorem oZ{n i:Nat}(d:aW P t=J n)(v:a.cells=J vs)(l:vs.length=n)(g:H.get i=J (.cells m r fl e))(w:fl.wr=V)(h:(H.br r).1<=i)(b:(H.br r).2=i)(c:I+n<=m.length):AM.storeVar P H t i I a=J (H.dM i r (.cells (fZ m I vs) r fl e)):=by grind[AM.storeVar,dZ,bQ,Heap.store,dp]
theorem y5{d:DV}(h:d.aV=V):mM I d ow=(match ow with|.ty e=>[(I,aN.ty e)]|.ex e=>[(I,.ex e)]|_=>[]):=by split<;>simp_all[mM]
theorem aiz{d:DV}(h:d.aV=C):mM I d ow=[]:=by grind[mM]
theorem aGm{n:Nat}{d:DV}{l:List (Nat×aN)}{k:Nat}(h:(k,aN.full t)∈mM I d ow++dg l I n):(k,aN.full t)∈l:=by
 rcases CH.1 h with h|h;.unfold mM at h;split at h<;>simp_all
 .exact(bl.1 h).1
theorem aLN{f:Loc}{b R:LB}{i:Nat}{d:DV}{pv:Pk}(q:HR K Y B H O.lb O.g)(o:O.at f=J b)(T:B f.top=J (i,V))(lL:pF K Y B H f.pk b i)(A:yU P t b I d ow=J R)(W:cQ K Y B H pv d a ow)(m8:(∃g,lv=J g/\pv=.sl g)\/(lv=Z/\(ow=.no\/ow=.any))):∃H' n,AM.storeVar P H t i I a=J H'/\bU (λr=>r=i) H H'/\H'.bA=H.bA/\H'.cL=H.cL/\H'.bX=Heap.note H.bA i H.bX/\HR K Y (B.of (qd f I n lv)) H' (O.setAt f R).lb (O.setAt f R).g:=by
 obtain⟨m,fl,e,z,h2,h3,h4,h5,h6⟩:=lL;obtain⟨vs,v1,v2,v3,v4⟩:=W.cells;unfold yU at A;obtain⟨n,hn,A⟩:=aF A;rw[bQ,dp]at A;by_cases iG:d.flat.length=n
 . by_cases kf:I+n<=b.cells.length
   . simp only[iG,kf,dX,xz,aR]at A;cases A;have qX:vs.length=n:=ab;have E8:I+n<=m.length:=ab;refine⟨_,n,oZ hn v1 qX z h2.1 h3 h4 E8,yH z,Cu ..,yj ..,xy ..,?_⟩;obtain⟨q1,q2,q3,q4,q5⟩:=Rs (m':=fZ m I vs) (fl':=fl) (e':=e) q T z h4 (nQ (x:=f) (I:=I) (n:=n) (lv:=lv));have Vc:∀(y:Loc)(j:Nat)(g:Nat),y.pk j≠.sl g/\∀k,y.pk j≠.tp g k:=λy j g=>⟨λe=>a47 y j (e▸trivial),λk e=>a47 y j (e▸trivial)⟩;have G:=yH (m':=fZ m I vs) (fl':=fl) (e':=e) z;have L:∀p r b,B p=J (r,b)->p≠f.top->¬r=i:=λp r b h w e=>by subst e;exact w (q.inj _ _ _ _ _ h T)
     refine HR.Gy (S:=λr=>r=i) q o T (a01 _) G q1 (GM q.hQ z) q2 q3 q4 q5 (λs=>?_) (λid=>?_) ?_ (λp r b _ w h=>L p r b h w) ?_;.grind[aI.of,xl,Loc.Ce]
     .grind[aI.of,xl,Loc.MW]
     . intro y c d1 F o1 hy hp;refine hp.keep q.inv G (a01 _) (a00 _) λr b o=>⟨?_,L _ r b o ?_⟩;.unfold aI.of;rw[xl (λj _ _ e=>hy (a55 e).1) (λt _=>Vc y c t)];grind
       .cases f<;>cases y<;>simp[Loc.pk,Loc.top]
     . refine⟨fZ m I vs,fl,e,oq _ _ _ _,h2.sub (λk t hm=>(aGm hm)),by grind[EL],by grind[EL],?_,λc d1 F u v=>?_⟩;.grind[NH,yT]
       . have u:(lj b.cells I d.flat)[c]?=J d1:=u;have U:=u;rw[NH,yS _ _ _ ab,iG]at u;rw[yS _ _ _ ab,qX]at v;by_cases M:I<=c/\c<I+n
         . rw[if_pos M]at u v;rcases v4 with⟨X,w2,w3⟩|⟨X,w2⟩
           . have nN:n=1:=ai;have ho:c=I:=ab;subst ho;rw[X,Nat.sub_self]at u;rw[w2,Nat.sub_self]at v;obtain rfl:d=d1:=bE u;obtain rfl:a=F:=bE v;refine⟨w3,?_⟩;have aOW:∀g,lv=J g->(B.of (qd f c n lv)) (f.pk c)=B (.sl g):=by grind[aI.of,aK4]
             have D:cQ K Y (B.of (qd f c n lv)) (H.dM i i (.cells (fZ m c vs) i fl e)) (f.pk c) d a ow:=by
              rcases m8 with⟨g,Ag,rfl⟩|⟨_,rfl|rfl⟩;.exact W.keep q.inv G (a01 _) (a00 _) λr b o=>⟨ai,L _ r b o (by cases f<;>simp[Loc.top])⟩
              .exact W
              .exact W
             unfold eB;show cQ _ _ _ _ _ _ _ (match(lj b.cells c d.flat)[c]? with|some .nl=>aN.any|_=>(look (mM c d ow++dg b.own c n) c).getD .no);rw[U];have N:=VW b.own (I:=c) (n:=n) (k:=c) (bT _) ab;have Q:d=.nl->cQ K Y (B.of (qd f c n lv)) (H.dM i i (.cells (fZ m c vs) i fl e)) (f.pk c) d a .any:=by intro hd;subst hd;refine⟨rfl,?_⟩;have E:=W;cases ow with|no=>cases E;rfl|any=>exact E.2|full e=>have:=E.1;cases this;rfl|ty e=>have:=E.1;cases this;rfl|ex e=>
              rcases E with⟨_,h⟩|⟨r,_,h⟩;.omega
              .obtain⟨l,_,_,_,_,_,_,h,_⟩:=h.ex;grind
             rw[y5 w3];cases ow with
             |no=>grind|any=>obtain⟨rfl,_⟩:=D;grind|full e=>simp only[jO,N];cases d<;>first|exact Q rfl|exact D.1
             |ty e=>grind[look,bQ]|ex e=>grind[look,bQ]
           .have tN:d1.aV=V:=v3 d1 (dw u);refine⟨tN,?_⟩;have gW:=w2.2 _ d1 F u v;unfold eB;show cQ _ _ _ _ _ _ _ (match(lj b.cells I d.flat)[c]? with|some .nl=>aN.any|_=>(look (mM I d ow++dg b.own I n) c).getD .no);rw[U,aiz X];have N:=VW b.own (I:=I) (n:=n) (k:=c) M.1 M.2;simp only[jO,N];cases d1<;>first|exact gW|(cases gW;exact⟨rfl,rfl⟩)
         . rw[if_neg M]at u v;obtain⟨k1,k2⟩:=h6 c d1 F u v;refine⟨k1,?_⟩;have yw:c<I\/I+n<=c:=ab;have pY:eB {cells:=lj b.cells I d.flat,own:=mM I d ow++dg b.own I n} c=eB b c:=by
             unfold eB;simp only[U,u];have ib:look (mM I d ow++dg b.own I n) c=look b.own c:=by
              have PQ:=ahd b.own (I:=I) (n:=n) yw;by_cases iu:d.aV=V;.have nN:n=1:=ai;have w:I≠c:=ab;rw[y5 iu];cases ow with|ty e=>show(bif aw I c then _ else _)=_;rw[bQ];simp only[w,lC,ch];exact PQ|ex e=>show(bif aw I c then _ else _)=_;rw[bQ];simp only[w,lC,ch];exact PQ|_=>grind
              grind[aiz]
             grind
           rw[pY];refine k2.keep q.inv G (a01 _) (a00 _) λr b o=>⟨?_,L _ r b o (by cases f<;>simp[Loc.pk,Loc.top])⟩;unfold aI.of;rw[xl (λj j1 j2 e=>by grind[Loc.Cd]) (λt _=>Vc f c t)];grind
   grind
 grind
end
section
variable{P:aH}{ak:ct}{rec:Rec}{cf:bV}{K K':aY}{Y A:cu}{B ω':aI}{H H':Heap}{S:Nat->Prop}
variable{gs cr:aE}{fk:bY->Nat}{later:List aB}{st0 O st':St}{tm:Tr AV}{o:aB}{aq:Nat->ah ao}
def uj(l:ah Nat):Pk->ah Pk:=match l with|some t=>qc t|none=>J
theorem ajb{q:Pk}(a:p.slot)(h:uj lv p=J q):q=p/\∀t,lv=J t->p≠.sl t/\∀j,p≠.tp t j:=by
 unfold uj at h;rcases lv with _|t;.grind
 cases p<;>simp only[Pk.slot]at a<;>grind[qc]
theorem QF(m:dB P K Y aq)(n:HR K Y B H O.lb O.g)(s:cg K Y B H tm O.sl){d:DV}(q:cZ aq O x=J (.dv d ow)):∃a lv p,AM.bJ P tm x=J a/\a≠.top/\cQ K Y B H p d a ow/\((∃j,lv=J j/\p=.sl j)\/(lv=Z/\(ow=.no\/ow=.any)))/\cg K Y (B.of (uj lv)) H tm (aQ leave O x).sl:=by
 obtain⟨a,i,b,c⟩:=ri m s q;rcases c with⟨t,rfl,o,G,h⟩|⟨u,c⟩
 . refine⟨a,_,_,i,b,h,.inl ⟨t,rfl,rfl⟩,?_⟩;have e1:aQ leave O (.tmp t)={O with sl:=put O.sl t (leave (.dv d ow))}:=by grind[aQ]
   rw[e1];exact RR n s o G b h
 . have e1:aQ leave O x=O:=by cases x<;>first|rfl|grind
   rw[e1];have k:cQ K Y B H (.sl 0) d a ow/\(ow=.no\/ow=.any):=by
    rcases c with⟨r,e,h⟩|⟨r,f,_,_,e,h⟩|⟨g,l,cells,e1,e,_⟩
    . obtain⟨rfl,rfl⟩:=SV.dv.inj e;unfold uf;split;.cases h;exact⟨⟨rfl,rfl⟩,.inr rfl⟩
      .exact⟨h,.inl rfl⟩
    .obtain⟨rfl,rfl⟩:=SV.dv.inj e;exact⟨h,.inl rfl⟩
    grind
   exact⟨a,_,_,i,b,k.1,.inr ⟨rfl,k.2⟩,s⟩
theorem tS{i:Nat}(b:o.op=.store t x y)(c:AM.bJ P tm x=J (.ptr i I))(d:AM.bJ P tm y=J a)(h:AM.storeVar P H t i I a=J H'):dY P ak tm H o=J (.val fD H'):=by simp_all[dY,Ed]
theorem CN(a:HR K Y B H O.lb O.g)(s:cg K Y B H tm O.sl)(h:aG O dst (.tp [])=J st'):fR K Y B H st' (gX tm dst fD) H:=xO a s h (by simp[fD]) λ_ _ _=>⟨[],rfl,rfl,λj x y h=>ai⟩
theorem tW(h:o.op=.store t x y):kindOf cf O o.op=.wr:=by rw[h];rfl
theorem VV{a:Bool}(c:H'.bA=H.bA)(f:H'.cL=H.cL)(d:H'.bX=Heap.note H.bA r H.bX)(p:dO B r){k:Kd}(b:k=.wr):uv B k a H H':=by refine⟨c,λh=>absurd b h,λh=>absurd b h,λe hr=>?_,λe hr=>.inl ai⟩;rw[d]at hr;rcases vU hr with h|⟨rfl,h⟩<;>grind
theorem ua(F:dB P K Y cf.aq)(f:HR K Y B H O.lb O.g)(G:cg K Y B H tm O.sl)(l:o.op=.store t x y){d:DV}{z:Loc}{b c:LB}(M:cZ cf.aq O y=J (.dv d ow))(k:O.at z=J b)(L:∀i,B z.top=J (i,V)->(∀id,z=.g id->Y id=J i)->AM.bJ P tm x=J (.ptr i I))(E:yU P t b I d ow=J c)(h:aG {(aQ leave O y).setAt z c with sl:=cP (aQ leave O y).sl} o.dst (.tp [])=J st'):eT P ak rec cf K Y B H O O st' tm o:=by
 obtain⟨i,g,N,Q⟩:=f.at k;obtain⟨a,lv,X,v,T,w,A,D⟩:=QF F f G M;obtain⟨H',n,g1,g2,g3,g4,g5,g6⟩:=aLN f k g N E w A;obtain⟨f1,f2,f3,f4,f5⟩:=nU h;obtain⟨e1,e2,e3,e4⟩:=B' _ O y;have rU:((aQ leave O y).setAt z c).lb=(O.setAt z c).lb/\((aQ leave O y).setAt z c).g=(O.setAt z c).g/\((aQ leave O y).setAt z c).n=O.n/\((aQ leave O y).setAt z c).fn=O.fn:=by cases z<;>simp only[St.setAt]<;>rw[e3,e4,e1,e2]<;>exact⟨rfl,rfl,rfl,rfl⟩
 have U:∀p r b,p.slot->B p=J (r,b)->¬r=i:=λp r b m h e=>by subst e;have:=f.inj _ _ _ _ _ h g;subst this;cases z<;>exact m.elim
 have R:cg K Y (B.of (qd z I n lv)) H' tm (cP (aQ leave O y).sl):=by
  refine xk f.inv D g2 (a01 _) (a00 _) (λp r b m h=>?_) (λs j b h=>?_);.grind[aI.iI,ajb,aI.of,xl,Loc.Az]
  .obtain⟨q,u,S⟩:=a07 h;rw[xl (λj _ _=>(a54 z j s).symm) aU]at u;cases u;cases lv<;>exact S
 refine⟨fD,H',?_,λt W=>ai,?_,ai,ai,VV g3 g4 g5 ⟨_,_,g⟩ (tW l)⟩;.unfold fF;rw[tS l (L i g Q) v g1];rfl
 .refine a19 (ω1:=B.of (qd z I n lv)) f.inv (a01 _) (f.gi g2) (a00 _) (g2.xx f.inv λr _ e=>⟨_,_,e▸g⟩) (λp r b h=>let⟨q,_,h⟩:=a07 h;.inl ⟨q,b,h⟩) ?_;refine CN ?_ R h;grind
theorem RN{i:Nat}(h:i<l.length)(j:Nat):(iJ l i v)[j]?=if j=i then J v else l[j]?:=by grind[iJ]
theorem Ny{i:Nat}(h:i<l.length):(iJ l i v).length=l.length:=by grind[iJ]
theorem HR.aiX(a:HR K Y B H lb g){t:Nat}(w:B p=J (r,V))(O:p.slot)(n:H.get t=J (.cells m r fl e))(u:(H.br r).2=t):HR K Y B (H.dM t r (.cells m' r fl' e)) lb g:=by
 obtain⟨E,F,q3,q4,q5⟩:=Rs (m':=m') (fl':=fl') (e':=e) a w n u (src:=J) (λp q y G u=>ai);have v:=yH (m':=m') (fl':=fl') (e':=e) n;have f:∀q d b,¬q.slot->B q=J (d,b)->¬d=r:=λq d b L h e=>by subst e;have:=a.inj _ _ _ _ _ h w;grind
 refine⟨E,F,q3,q4,q5,λs b A=>?_,λk o D=>?_,a.mZ,GM a.hQ n⟩;.obtain⟨i,j,l⟩:=a.box s b A;exact⟨i,j,l.keep a.inv v (a01 _) (a00 _) (f _ i _ (by simp[Pk.slot]) j) λI d c x=>⟨x,f _ d c (by simp[Pk.slot]) x⟩⟩
 .obtain⟨i,j,l,z⟩:=a.jm k o D;exact⟨i,j,l,z.keep a.inv v (a01 _) (a00 _) (f _ i _ (by simp[Pk.slot]) l) λI d c x=>⟨x,f _ d c (by simp[Pk.slot]) x⟩⟩
theorem aIJ{e:DV}{s:ao}(h:reshape e s=J el'):el'.flat=s:=by
 unfold reshape at h;split at h;.obtain rfl:=bE h;rfl
 . rename_i c _;rcases a:c.aV with _|_;.grind
   rw[a]at h;obtain rfl:=bE h;cases c<;>first|rfl|grind[DV.aV]
 grind
theorem aKz{x:DV}(h:cZ aq O y=J (.dv x ow)):bj aq (aQ share O y) y=J x:=by cases y<;>grind[bj,aQ,share,C1,me,cZ]
theorem gQ.set{i:Nat}{c:aJ}{f:DV}{d:DV}{k0 n:Nat}(h:gQ K Y l esz I c)(o:l[i]?=J f)(t:el'.flat=lj f.flat k0 d.flat)(q:d.flat.length=n)(A:k0+n<=f.flat.length)(m:bF K Y d.flat vs)(B:∀y,y∈d.flat->y.aV=V):gQ K Y (iJ l i el') esz I (fZ c (I+i*esz+k0) vs)/\I+i*esz+k0+n<=c.length:=by
 obtain⟨g1,g2,g3,g4⟩:=h;have N:=(am.1 o).1;obtain⟨k1,k2⟩:=g3 i f o;have u:i*esz+esz<=l.length*esz:=by have:(i+1)*esz<=l.length*esz:=lW _ N;grind
 have X:vs.length=n:=by rw[<-m.1];omega
 have s:I+i*esz+k0+n<=c.length:=ab;refine⟨⟨g1,?_,λj x b=>?_,λj x k d1 v b g a=>?_⟩,s⟩;.grind[Ny,yT]
 .grind[RN,lj]
 . rw[yS _ _ _ ab,X]at a;rw[RN N]at b;by_cases e:j=i
   . rw[if_pos e]at b;cases b;subst e;rw[t,NH,yS _ _ _ ab,q]at g;by_cases D:k0<=k/\k<k0+n;.rw[if_pos D]at g;rw[if_pos ab]at a;rw[show I+j*esz+k-(I+j*esz+k0)=k-k0 by omega]at a;exact m.2 _ _ _ g a
     grind
   . rw[if_neg e]at b;have E:k<esz:=by grind
     rw[if_neg]at a;.grind
     . rintro⟨w,z⟩;rcases Nat.lt_or_gt_of_ne e with p|r;.have:(j+1)*esz<=i*esz:=lW _ p;grind
       .have:(i+1)*esz<=j*esz:=lW _ r;grind
theorem K6{i:Nat}{ob:cq}(h:(H.br r).1<=i)(a:(H.br r).2=i):((H.dM i r ob).br r).1<=i/\((H.dM i r ob).br r).2=i:=by grind[EL,Pg]
theorem aLU(G:dB P K Y cf.aq)(u:HR K Y B H O.lb O.g)(N:cg K Y B H tm O.sl)(M:o.op=.store t x y){d g:DV}{s i n:Nat}{w:ao×an×Nat}(hy:cZ cf.aq O y=J (.dv d ow))(hx:cZ cf.aq O x=J (.se s i I))(v:nK (aQ share O y) s=J w)(R:w.1[i]?=J g)(hn:aW P t=J n)(Q:d.flat.length=n)(kf:I+n<=g.flat.length)(hr:reshape g (lj g.flat I d.flat)=J el')(h:aG {aQ share O y with sl:=put (cP (aQ share O y).sl) s (.dv (.ay (iJ w.1 i el') w.2.1 w.2.2) (.ex w.2.1))} o.dst (.tp [])=J st'):eT P ak rec cf K Y B H O O st' tm o:=by
 obtain⟨K1,ω1,z,m,A,S,s5,s6,s7,_⟩:=Z' u N y;obtain⟨av,v1,v2,v3⟩:=te (G.mono z.1 (a00 _)) A s5 (aKz hy);obtain⟨vs,w1,D,w3⟩:=v3.cells;obtain⟨U,x1,_,x3⟩:=ri G N hx;obtain⟨id,a,len,c,esz,e1,e2⟩:∃id a len c esz,tm.get s=J (.sl id a len c esz)/\U=.ptr id (a+i*esz+I):=by
   rcases x3 with⟨t',_,_,_,h4⟩|⟨_,⟨_,e,_⟩|⟨_,_,_,_,e,_⟩|⟨_,_,_,_,e,_⟩⟩;.exact h4
   all_goals grind
 unfold nK at v;split at v
 . rename_i l e n0 e' hl;cases v;obtain⟨b0,E,_,W⟩:=A s _ hl;rw[e1]at E;cases E;rcases W with⟨z1,_⟩|⟨r,r1,X⟩;.grind
   . obtain⟨l',qq,qY,dJ,c',cells,fl,g1,g2,g3,g4,g5,g6,g7,g8⟩:=X.ex;obtain⟨rfl,rfl,rfl⟩:=DV.ay.inj g1;obtain⟨rfl,rfl,rfl,rfl,rfl⟩:=AV.sl.inj g2;have ou:=aIJ hr;obtain⟨t1,t2⟩:=g7.set R ou Q kf D w3;have gN:=(am.1 R).1;have jq:=oZ hn w1 (by rw[<-D.1];omega) g3 g4 g5 g6 t2;have L:=yH (m':=fZ cells (a+i*esz+I) vs) (fl':=fl) (e':=e) g3;obtain⟨f1,f2,f3,_⟩:=nU h;obtain⟨f,uL⟩:=S _ _ _ r1;refine⟨fD,H.dM id r (.cells (fZ cells (a+i*esz+I) vs) r fl e),?_,λt ht=>ai,?_,ai,ai,VV (Cu ..) (yj ..) (xy ..) ⟨_,f,uL⟩ (tW M)⟩;.unfold fF;rw[tS M ai v1 jq];rfl
     . refine a19 u.inv z.1 (λj x hj=>by rw[w9,WM g3];exact z.gi m j x hj) (a00 _) (L.xx u.inv λr' _ e=>⟨.sl s,f,ai⟩) (λp r b h=>let⟨f,h⟩:=S p r b h;.inl ⟨p,f,h⟩) ?_;refine CN (O:={aQ _ O y with sl:=put _ s _}) (m.aiX r1 trivial g3 g6) ?_ h;obtain⟨y1,T⟩:=K6 g5 g6;refine aad m.inv A L (a01 _) (a00 _) (λp r' b hp k F q=>⟨q,λe=>?_⟩) aU e1 aU ?_;.subst e;exact F (m.inj _ _ _ _ _ q r1)
       . refine .inr ⟨r,r1,⟨_,_,id,a,c,_,fl,rfl,by grind[Ny],oq _ _ _ _,g4,y1,T,t1,?_⟩⟩;rw[Ny gN];rcases g8 with⟨k,F,q⟩|k;.refine .inl ⟨k,T,?_⟩;rw[yT _ _ _ (by rw[<-D.1,Q];omega)];omega
         .exact .inr k
 grind
theorem aLY(a:dB P K Y cf.aq)(j:HR K Y B H O.lb O.g)(c:cg K Y B H tm O.sl)(k:o.op=.store t x y)(h:dF P cf.aq fk gs cr later O o=J st'):eT P ak rec cf K Y B H O O st' tm o:=by unfold dF at h;rw[k]at h;simp only at h;obtain⟨v,m,h⟩:=aF h;cases v with
 |dv d ow=>simp only at h;cases l:cZ cf.aq O x with|none=>grind|some F=>rw[l]at h;obtain⟨p,x1,_,x3⟩:=ri (P:=P) a c l;cases F with
  |lp s I=>
   simp only at h;obtain⟨b,u,h⟩:=aF h;obtain⟨f,A,h⟩:=aF h;refine ua (z:=.l s) a j c k m u (λi hi _=>?_) A (by show aG {aQ leave O y with sl:=cP (aQ leave O y).sl,lb:=put (aQ leave O y).lb s f} o.dst (.tp [])=J st';grind[B']);rcases x3 with⟨T,_,_,_,r⟩|⟨_,⟨_,e,_⟩|⟨_,_,_,_,e,_⟩|⟨_,_,_,_,e,_⟩⟩;.rw[x1,r i V hi]
   all_goals grind|dv q S=>cases q with
   |ptr id I=>simp only at h;cases D:O.g.get id with|none=>grind|some E=>rw[D]at h;cases E with|box b=>
   simp only at h;obtain⟨f,A,h⟩:=aF h;have U:O.at (.g id)=J b:=by grind[St.at]
   have G:(aQ leave O y).g=O.g:=(B' leave O y).2.2.2;refine ua (z:=.g id) a j c k m U (λi hi M=>?_) A ?_
   . have W:DR (s8 H) Y (.ptr id I) p:=by obtain⟨L,X,_,y3⟩:=oH (P:=P) a j c (x:=x) (d:=.ptr id I) (by unfold bj;rw[l];rfl);grind
     cases W<;>simp_all
   .show aG {aQ leave O y with sl:=cP (aQ leave O y).sl,g:=(aQ leave O y).g.set id (.box f)} o.dst (.tp [])=J st';simp_all|_=>simp_all
   |_=>simp at h
  |se s i I=>simp only at h;obtain⟨w,Q,h⟩:=aF h;obtain⟨el,R,h⟩:=aF h;obtain⟨n,N,h⟩:=aF h;grind[bQ,dp,aF,aLU]|_=>simp_all
 |_=>simp_all
def BO(K:aY)(b:cu):ah DV->ah AV->Prop|none,Z=>True|some d,J a=>DR K b d a|_,_=>False
def F7(a:Nat->ah ao)(s:St):ah aK->ah (ah DV)|some x=>(bj a s x).map J|none=>J Z
def F6(P:aH)(t:Tr AV):ah aK->ah (ah AV)|some x=>(AM.bJ P t x).map J|none=>J Z
theorem WE(g:dB P K Y aq)(f:HR K Y B H O.lb O.g)(s:cg K Y B H tm O.sl){x:ah aK}{v:ah DV}(h:F7 aq O x=J v):∃c,F6 P tm x=J c/\BO (s8 H) Y v c:=by
 rcases x with _|x;.cases h;exact⟨_,rfl,trivial⟩
 have h:(bj _ O x).map _=J v:=h;rcases b:bj aq O x with _|d;.grind
 rw[b]at h;cases h;obtain⟨a,i,_,e⟩:=oH g f s b;exact⟨J a,by show(AM.bJ P tm x).map _=_;grind,e⟩
theorem tG{x:ah DV}{b:ah AV}{y d n:Nat}(e:BO K Y x b)(h:n7 x y d=J n):(x=Z/\b=Z/\n=d)\/(x≠Z/\b≠Z/\n<=y/\∀c f,n<=c->ff b c f=J n):=by
 unfold n7 at h;split at h
 . rename_i k m;rw[dp]at h;by_cases g:m<=y
   . simp only[g,dX,aR]at h;obtain rfl:=bE h;rcases b with _|a;.exact e.elim
     cases e;refine .inr ⟨aP,aP,g,λc f i=>?_⟩;show(bif bz m c then J m else Z)=J m;grind[dp]
   grind
 .grind
 . rcases b with _|a;.grind
   exact e.elim
theorem DR.sub{s:ao}{f l h:Nat}{c c':ah Nat}(b:DR K Y (.ay s e esz) (.sl f I s.length c esz))(r:l<=h)(o:h<=s.length)(m:∀k,c'=J k->h-l<=k):DR K Y (.ay ((s.take h).drop l) e esz) (.sl f (I+l*esz) (h-l) c' esz):=by have n:((s.take h).drop l).length=h-l:=ai;rw[<-n]at m|-;cases b with|ay _ _ _ _ _ _ cells g1 p v _ w g=>
 have G:∀i x,((s.take h).drop l)[i]?=J x->s[l+i]?=J x:=by grind
 refine .ay _ e _ f _ c' _ g1 p ?_ m ai λi x j d a q b u=>g _ x j d a (G i x q) b ?_
 . rw[n];have:l*esz+(h-l)*esz=h*esz:=by rw[<-xK];grind
   have t:h*esz<=s.length*esz:=lW _ o;omega
 grind
theorem NC{l:ah aK}{v r:AV}{a b c:ah AV}(d:o.op=.slice t x l hi mx)(j:AM.bJ P tm x=J v)(f:F6 P tm l=J a)(g:F6 P tm hi=J b)(i:F6 P tm mx=J c)(h:qb P H t v a b c=J r):dY P ak tm H o=J (.val r H):=by
 have e:dY P ak tm H o=(AM.bJ P tm x).bind λv=>(F6 P tm l).bind λl=>(F6 P tm hi).bind λhi=>(F6 P tm mx).bind λmx=>fc H (qb P H t v l hi mx):=by unfold dY;rw[d];rfl
 grind[fc]
theorem aKM{l:ah aK}(d:o.op=.slice t x l hi mx)(h:dF P aq fk gs cr later O o=J st'):∃v a b c r,bj aq O x=J v/\F7 aq O l=J a/\F7 aq O hi=J b/\F7 aq O mx=J c/\oM P t v a b c=J r/\aG O o.dst (.dv r.1 r.2)=J st':=by
 have e:dF P aq fk gs cr later O o=((bj aq O x).bind λv=>(F7 aq O l).bind λl=>(F7 aq O hi).bind λhi=>(F7 aq O mx).bind λmx=>(oM P t v l hi mx).bind λr=>aG O o.dst (.dv r.1 r.2)):=by unfold dF;rw[d];rfl
 rw[e]at h;obtain⟨v,g,h⟩:=aF h;obtain⟨N,w,h⟩:=aF h;obtain⟨D,B,h⟩:=aF h;obtain⟨f,I,h⟩:=aF h;obtain⟨r,hr,h⟩:=aF h;grind
theorem NB{l i m:ah AV}(h:m≠Z->i≠Z):qb P H t a l i m=sliceB P H t a l i m:=by simp_all[qb]
theorem aKN(hg:dB P K Y aq)(u:HR K Y B H O.lb O.g)(w:cg K Y B H tm O.sl){lo:ah aK}(G:o.op=.slice t x lo hi mx)(hn:jP O x)(h:dF P aq fk gs cr later O o=J st'):eT P ak rec cf K Y B H st0 O st' tm o:=by
 obtain⟨v,NY,D,NZ,r,hv,wU,BF,ID,hr,h⟩:=aKM G h;obtain⟨a,Q,_,E⟩:=te (P:=P) hg w hn hv;obtain⟨I9,l1,l2⟩:=WE (P:=P) hg u w wU;obtain⟨N,S,F⟩:=WE (P:=P) hg u w BF;obtain⟨M,X,m2⟩:=WE (P:=P) hg u w ID;have R:∀{z:ah AV},BO (s8 H) Y Z z->z=Z:=λ{z}hz=>by cases z;rfl;exact hz.elim
 have aPY:∀{d:DV}{z:ah AV},BO (s8 H) Y (J d) z->z≠Z:=λ{d z}hz=>by cases z;exact hz.elim;simp
 unfold oM at hr;split at hr
 . rename_i elem hu;cases E;have hmh:M≠Z->N≠Z:=by
     intro x1;rcases NZ with _|m;.grind
     cases D<;>grind
   have W:((aW P elem).bind λ_=>(n7 NZ 0 0).bind λ_=>(n7 D 0 0).bind λh=>(n7 NY h 0).bind λ_=>J (DV.nl,aN.any))=J r:=by grind
   obtain⟨sz,fP,W⟩:=aF W;obtain⟨m,hm,W⟩:=aF W;obtain⟨b,A,W⟩:=aF W;obtain⟨l,ib,W⟩:=aF W;cases W;refine rl u w (NC G Q l1 S X (r:=.bH) ?_) h aP λ_ _ _=>⟨rfl,rfl⟩;have em:ff M 0 0=J 0:=by
     rcases tG m2 hm with⟨_,rfl,rfl⟩|⟨_,_,f,s⟩;.rfl
     grind
   have eh:ff N 0 0=J b:=by rcases tG F A with⟨_,rfl,rfl⟩|⟨_,_,f,s⟩<;>grind
   have el:ff I9 b 0=J l:=by
     rcases tG l2 ib with⟨_,rfl,rfl⟩|⟨_,_,f,s⟩;.rfl
     grind
   simp_all[NB,sliceB]
 . rename_i elem L e esz hu;obtain⟨n,oA,hr⟩:=aF hr;rw[bQ,bQ]at hr;by_cases T:n=esz
   . by_cases U:e=elem;.simp only[T,U,dX,xz,aR]at hr;subst T;subst U;have a3':=E;cases a3' with|ay _ _ _ id I c cells g1 he hb hc hl g=>
      obtain⟨root,fl,i1,i2⟩:=u.dy _ _ _ g1;have hco:=OH i1 i2;rcases NZ with _|yE
      . simp only at hr;obtain rfl:=R m2;obtain⟨b,A,hr⟩:=aF hr;rcases p:(D.isNone||bz b bm)with _|_;.grind
        rw[p]at hr;simp only[aR]at hr;cases i:n7 NY b 0 with|none=>grind|some l=>
        rw[i]at hr;cases hr;have U7:b<=L.length:=by rcases tG F A with⟨_,_,rfl⟩|⟨_,_,f,_⟩;all_goals omega
        have uO:l<=b:=by rcases tG l2 i with⟨_,_,rfl⟩|⟨_,_,f,_⟩;all_goals omega
        have e2:ff I9 b 0=J l:=by
         rcases tG l2 i with⟨_,rfl,rfl⟩|⟨_,_,f,s⟩;.rfl
         grind
        have e1:∀y,(N≠Z->b<=y)->ff N y L.length=J b:=by
         intro y hy;rcases tG F A with⟨_,rfl,rfl⟩|⟨_,q0,f,s⟩;.rfl
         grind
        have sY:N≠Z->b<=bm:=by intro x;rw[dp]at p;cases D<;>simp_all
        cases c with|some c=>have kA:=hc c rfl;refine sF u w (NC G Q l1 S X (r:=.sl id (I+l*n) (b-l) (J (c-l)) n) ?_) h (E.sub uO U7 λk hk=>ai);rw[NB (λx=>absurd rfl x)];unfold sliceB;grind[ff,dp]|none=>refine sF u w (NC G Q l1 S X (r:=.sl id (I+l*n) (b-l) Z n) ?_) h (E.sub uO U7 λk hk=>ai);rw[NB (λx=>absurd rfl x)];simp_all[sliceB,dp]
      cases D with|none=>grind|some rY=>simp only at hr;obtain⟨m,hm,hr⟩:=aF hr;cases p:bz m bm with|false=>grind|true=>rw[p]at hr;simp only[aR]at hr;rw[dp]at p;have p:=ue p;obtain⟨b,A,hr⟩:=aF hr;cases i:n7 NY b 0 with|none=>grind|some l=>
         rw[i]at hr;have hr:=bE hr;obtain⟨q0,E8,s⟩:M≠Z/\m<=L.length/\∀y' d',m<=y'->ff M y' d'=J m:=by rcases tG m2 hm with⟨q,_⟩|⟨_,q0,f,s⟩;all_goals grind
         obtain⟨p0,hhm,p2⟩:N≠Z/\b<=m/\∀y' d',b<=y'->ff N y' d'=J b:=by rcases tG F A with⟨q,_⟩|⟨_,q0,f,s⟩;all_goals grind
         have uO:l<=b:=by rcases tG l2 i with⟨_,_,rfl⟩|⟨_,_,f,_⟩;all_goals omega
         have e2:ff I9 b 0=J l:=by
          rcases tG l2 i with⟨_,rfl,rfl⟩|⟨_,_,f,s⟩;.rfl
          grind
         have Ah:dY P ak tm H o=J (.val (.sl id (I+l*n) (b-l) (J (m-l)) n) H):=by refine NC G Q l1 S X ?_;rw[NB (λ_=>p0)];unfold sliceB;rw[hu];cases c with|some c=>grind[dp]|none=>
          simp only[oA,cU,bQ,dX,aR];have hmb:I+m*n<=cells.length:=by have:m*n<=L.length*n:=lW _ E8;omega
          cases M with|none=>grind|some mv=>simp only;have:mT mv bm=J m:=s bm 0 p;grind[dp,dZ]
         subst hr;refine rl u w Ah h aP λ_ _ _=>?_;have gW:=E.sub (c':=J (m-l)) uO (by omega:b<=L.length) λk hk=>ai;show cQ K Y B H _ (.ay ((L.take b).drop l) e n) _ (bif aw b m then .full e else .no);rw[bQ];by_cases U6:b=m;.simp only[U6,dX,aR];subst U6;exact⟨gW,_,_,_,_,rfl⟩
         .simp only[U6,lC,ch];exact gW
     grind
   grind
 . rename_i elem id I len e esz hu;obtain⟨n,oA,hr⟩:=aF hr;rw[bQ,bQ]at hr;by_cases T:n=esz
   . by_cases U:e=elem;.cases NZ with|some m=>grind|none=>obtain rfl:=R m2;simp only[T,U,dX,rJ,xz,aR]at hr;subst T;subst U;cases E with|cY _ _ _ _ _ j c hj hc=>obtain⟨b,A,hr⟩:=aF hr;cases p:(D.isNone||bz b bm)with|false=>grind|true=>rw[p]at hr;simp only[aR]at hr;cases i:n7 NY b 0 with|none=>grind|some l=>
        rw[i]at hr;cases hr;have U7:b<=len:=by rcases tG F A with⟨_,_,rfl⟩|⟨_,_,f,_⟩;all_goals omega
        have uO:l<=b:=by rcases tG l2 i with⟨_,_,rfl⟩|⟨_,_,f,_⟩;all_goals omega
        have e2:ff I9 b 0=J l:=by
         rcases tG l2 i with⟨_,rfl,rfl⟩|⟨_,_,f,s⟩;.rfl
         grind
        have e1:∀y,(N≠Z->b<=y)->ff N y len=J b:=by
         intro y hy;rcases tG F A with⟨_,rfl,rfl⟩|⟨_,q0,f,s⟩;.rfl
         grind
        have sY:N≠Z->b<=bm:=by intro x;rw[dp]at p;cases D<;>simp_all
        refine sF u w (NC G Q l1 S X (r:=.sl j (I+l*n) (b-l) (c.map (.-l)) n) ?_) h (.cY _ _ _ _ _ _ _ hj λk hk=>by cases c<;>grind);rw[NB (λx=>absurd rfl x)];unfold sliceB;cases c<;>grind[ff,dp]
     grind
   grind
 grind
theorem MU(g:dB P K Y aq)(f:cg K Y B H tm O.sl):∀(l:List (Nat×aK))(s:List (Nat×DV)),(∀p,p∈l->jP O p.2)->cB (λ(p:Nat×aK)=>(bj aq O p.2).map λv=>(p.1,v)) l=J s->∃b,cB (λ(p:Nat×aK)=>(AM.bJ P tm p.2).map λv=>(p.1,v)) l=J b/\s.length=b.length/\∀(i:Nat)(p:Nat×DV)(q:Nat×AV),s[i]?=J p->b[i]?=J q->p.1=q.1/\DR K Y p.2 q.2:=by intro l;induction l with|nil=>intro s _ h;obtain rfl:=bE (show J []=J s from h);exact⟨[],rfl,rfl,λi p q h=>ai⟩|cons x l m=>
 intro s n h;have c:=h;obtain⟨d,hd,c⟩:=aF c;obtain⟨t,j,c⟩:=aF c;rcases k:bj aq O x.2 with _|d0;.grind
 obtain⟨a,o,_,r⟩:=te g f (n x fU) k;obtain⟨b,w,y,q3⟩:=m t (λp e=>n p (jy _ e)) j;refine⟨(x.1,a)::b,?_,ai,λi p q e u=>?_⟩<;>grind[cB]
theorem N8(b:aY)(c:cu)(h:cE P t=J z):∃m,mq P t=J m/\bF b c z.flat m/\∀x,x∈z.flat->x.aV=V:=by obtain⟨a,d,h⟩:=aF h;obtain⟨m,e,f,g⟩:=(CQ (K:=b) (Y:=c) h).cells;grind[mq]
theorem anr(j:dB P K Y aq)(d:HR K Y B H O.lb O.g)(s:cg K Y B H tm O.sl){a:Array (Nat×aK)}(r:o.op=.build t a)(k:∀p,p∈a.toList->jP O p.2)(h:dF P aq fk gs cr later O o=J st'):eT P ak rec cf K Y B H st0 O st' tm o:=by
 unfold dF at h;rw[r]at h;obtain⟨z,u,h⟩:=aF h;obtain⟨g,v,h⟩:=aF h;obtain⟨m,w,e,f⟩:=N8 K Y u;obtain⟨i,x,q,q3⟩:=MU j s _ _ k v;split at h;.obtain⟨c,W,h⟩:=aF h;obtain⟨l,b,h⟩:=aF h;obtain⟨m',f1,f2,f3⟩:=aee g i _ _ _ b e q q3;refine sF d s ?_ h (f2.agg (f3 f));simp_all[dY,Cx,fc]
 .obtain⟨n,W,h⟩:=aF h;obtain⟨l,b,h⟩:=aF h;obtain⟨m',f1,f2,f3⟩:=aee g i _ _ _ b e q q3;refine sF d s ?_ h (f2.agg (f3 f));simp_all[dY,Cx,fc]
 grind
theorem QU{v:ah Bool}(a:HR K Y B H lb g)(t:p.slot):HR K Y (B.set p (v.map λb=>(H.next,b))) (H.cT m fl e) lb g:=by
 have o:bU (λ_=>False) H (H.cT m fl e):=kh H _ _;have N:bg (H.cT m fl e):=wC a.inv _ ai;have Q:(H.cT m fl e).next=H.next+1:=rfl;have back:∀q r b,B.set p (v.map λb=>(H.next,b)) q=J (r,b)->(q=p/\r=H.next)\/(q≠p/\B q=J (r,b)):=by intro q r b h;by_cases e:q=p<;>simp_all[a25,a16]
 refine⟨N,?_,?_,?_,?_,?_,?_,a.mZ,NV a.inv a.hQ _ ai⟩;.intro id cells e' h;obtain⟨r,fl',g1,g2⟩:=a.dy id _ e' h;exact⟨r,_,by rw[o.get id (a.inv.get _ _ g1) (λh=>h)];omega,g2⟩
 . intro q w r b c l j;rcases back q r b l with⟨rfl,rfl⟩|⟨_,n⟩
   . rcases back w _ c j with⟨rfl,_⟩|⟨_,d⟩;.rfl
     .have:=a.cF _ _ _ d;omega
   . rcases back w r c j with⟨_,rfl⟩|⟨_,d⟩;.have:=a.cF _ _ _ n;omega
     .exact a.inj _ _ _ _ _ n d
 . intro q r id x f u;obtain⟨cells,e'⟩:=x;obtain⟨E,fl',g1,_⟩:=a.dy id _ e' u;have hid:=a.inv.get _ _ g1;have hr:rootOf (H.cT m fl e) id=rootOf H id:=by unfold rootOf;rw[o.get id hid (λh=>h)]
   rw[hr];rcases back q r _ f with⟨_,rfl⟩|⟨_,d⟩;.have:=rq a.inv hid;omega
   .exact a.clean q r id _ d u
 . intro q r b f;rcases back q r b f with⟨_,rfl⟩|⟨_,d⟩;.omega
   .have:=a.cF _ _ _ d;omega
 .intro s b z;obtain⟨i,l,j⟩:=a.box s b z;have y:∀q,¬q.slot->B.set p (v.map λb=>(H.next,b)) q=B q:=λq f=>a16 _ _ λe=>f (e▸t);exact⟨i,by grind[Pk.slot],j.keep a.inv o (a01 _) (a00 _) id λI r c x=>⟨by grind[Pk.slot],id⟩⟩
 .intro k D A;obtain⟨i,l,j,n⟩:=a.jm k D A;have y:∀q,¬q.slot->B.set p (v.map λb=>(H.next,b)) q=B q:=λq f=>a16 _ _ λe=>f (e▸t);exact⟨i,l,by grind[Pk.slot],n.keep a.inv o (a01 _) (a00 _) id λI r c x=>⟨by grind[Pk.slot],id⟩⟩
theorem Ov{c:ah Nat}(a:HR K Y B H O.lb O.g)(y:cg K Y B H tm O.sl)(h:aG O dst (.dv (.ay l e esz) (.ex e))=J st')(F:fl.wr=V)(w:gQ K Y l esz 0 m)(E:(c=Z/\l.length*esz=m.length)\/c=J l.length):fR K Y B H st' (gX tm dst (.sl H.next 0 l.length c esz)) (H.cT m fl e):=by
 have G:(H.cT m fl e).get _=J _:=mF H _;have R:(H.cT m fl e).br H.next=(0,H.next):=Bv (H:=H) a.inv ab;have q:Bb K Y (H.cT m fl e) H.next (.ay l e esz) (.sl H.next 0 l.length c esz) e:=by
   refine⟨l,_,_,0,c,m,fl,rfl,rfl,G,F,ai,ai,w,?_⟩;rcases E with⟨f,j⟩|f;.exact .inl ⟨f,ai,ab⟩
   .exact .inr f
 rcases yQ h with⟨rfl,rfl⟩|⟨d,rfl,_,hr,rfl⟩
 . have o:=QU (m:=m) (fl:=fl) (e:=e) (p:=.tp 0 0) (v:=Z) a trivial;have M:cg K Y B (H.cT m fl e) tm _:=λt sv w=>by obtain⟨A,f,j,n⟩:=y t sv w;exact⟨A,f,j,n.keep a.inv (kh H _ _) (a01 _) (a00 _) (λ_ _ _ _ h=>⟨h,id⟩) aU aU aU⟩
   have Q:HR K Y B (H.cT m fl e) st'.lb st'.g:=by
     have N:=o.inv;have u:bU (λ_=>False) H (H.cT m fl e):=kh H _ _;refine⟨N,o.dy,a.inj,λp r id x g z=>?_,λp r b g=>Nat.lt_succ_of_lt (a.cF p r b g),λs b D=>?_,λk P L=>?_,a.mZ,o.hQ⟩
     . obtain⟨cells,e'⟩:=x;obtain⟨S,fl',g1,_⟩:=a.dy id _ e' z;have hr:rootOf (H.cT m fl e) id=rootOf H id:=by unfold rootOf;rw[u.get id (a.inv.get _ _ g1) (λh=>h)]
       rw[hr];exact a.clean p r id _ g z
     .obtain⟨i,f,j⟩:=a.box s b D;exact⟨i,f,j.keep a.inv u (a01 _) (a00 _) id λI r c x=>⟨x,id⟩⟩
     .obtain⟨i,f,j,n⟩:=a.jm k P L;exact⟨i,f,j,n.keep a.inv u (a01 _) (a00 _) id λI r c x=>⟨x,id⟩⟩
   exact⟨K,Y,B,a01 _,a.gi (kh H _ (λ_=>False)),a00 _,Q,M,kh H _ _,λp r b g=>.inl ⟨p,b,g⟩⟩
 . have o:=QU (m:=m) (fl:=fl) (e:=e) (p:=.sl d) (v:=J V) a trivial;refine⟨K,Y,_,a01 _,a.gi (kh H _ (λ_=>False)),a00 _,o,?_,kh H _ _,λp r b g=>?_⟩;.refine xj a.inv y (kh H _ _) (a01 _) (a00 _) (λp r b _ j _ h=>⟨by grind[aI.lh],id⟩) (λs i b h=>by grind[aI.lh]) aU aU ?_;exact .inr ⟨_,by simp[a25],q⟩
   . by_cases e1:p=.sl d;.grind[aI.nV]
     .rw[a16 _ _ e1]at g;exact .inl ⟨p,b,g⟩
theorem ajd{c:aJ}{n:Nat}(b:bF K Y z.flat c)(s:∀x,x∈z.flat->x.aV=V)(m:z.flat.length=n)(f:0<n)(l:Nat):gQ K Y (mr l z) n 0 (jW l c):=by
 have M:c.length=n:=by rw[<-b.1];omega
 refine⟨f,by grind[Gp],λi x g=>?_,λi x j d a g hd h=>?_⟩;.grind
 . obtain⟨hi,rfl⟩:i<l/\z=x:=by grind
   have e:j<n:=ai;have k:i*n+j<l*n:=by have:(i+1)*n<=l*n:=lW _ hi;grind
   rw[kG,ZV _ _ _ ai,M]at h;rw[Nat.mul_comm,Nat.mul_add_mod,Nat.mod_eq_of_lt e]at h;exact b.2 j d a hd h
theorem atB{c:Nat}{z:Bool}:∀(e:List (Nat×DV))(s:List (Nat×AV))(l d:ao)(m:aJ),lE (λ(l:ao)(p:Nat×DV)=>bif cw p.1 l.length&&(aw p.2.flat.length c&&(p.2.aV==z))then J (iJ l p.1 p.2)else Z) e l=J d->gQ K Y l c 0 m->e.length=s.length->(∀(i:Nat)(p:Nat×DV)(q:Nat×AV),e[i]?=J p->s[i]?=J q->p.1=q.1/\DR K Y p.2 q.2)->∃m',zU (λi=>J (fA i c,c)) s m=J m'/\gQ K Y d c 0 m'/\d.length=l.length/\m'.length=m.length:=by intro e;induction e with
 |nil=>
 intro s l d m h r k _;rcases s with _|⟨q,s⟩;.obtain rfl:=bE (show J l=J d from h);exact⟨m,rfl,r,rfl,rfl⟩
 grind|cons p e o=>
 intro s l d m h r k g;rcases s with _|⟨q,s⟩;.grind
 obtain⟨e1,e2⟩:=g 0 p q rfl rfl;rw[EM]at h;obtain⟨l1,E,h⟩:=aF h;rcases f:(cw p.1 l.length&&(aw p.2.flat.length c&&(p.2.aV==z)))with _|_;.grind
 rw[f]at E;cases E;simp only[gD,eP,bQ,jB]at f;obtain⟨G,t,_⟩:=f;obtain⟨vs,D,v,u⟩:=e2.cells;have Q:l[p.1]?=J l[p.1]:=dC G;have F:=(r.2.2.1 _ _ Q).1;obtain⟨r1,r2⟩:=r.set (k0:=0) (n:=c) (el':=p.2) Q (by grind[lj]) t ab v u;simp only[kG,vq]at r1 r2;obtain⟨m',w,j,A,B⟩:=o s _ d _ h r1 ai λi a b x y=>g (i+1) a b ai ai;have X:vs.length=c:=by rw[<-v.1];omega
 refine⟨m',?_,j,by grind[Ny],by grind[yT]⟩;show((J _).bind _).bind (zU (λi=>J (fA i c,c)) s)=J m';grind[dZ,dp]
theorem anq(D:dB P K Y aq)(c:HR K Y B H O.lb O.g)(s:cg K Y B H tm O.sl){b:Nat}{r:Array (Nat×aK)}(q:o.op=.buildSlice t b r)(I:∀p,p∈r.toList->jP O p.2)(h:dF P aq fk gs cr later O o=J st'):eT P ak rec cf K Y B H st0 O st' tm o:=by
 unfold dF at h;rw[q]at h;simp only at h;split at h;.rename_i elem X;obtain⟨n,pW,h⟩:=aF h;cases A:(aw n 0||!(bz (b*n) 16777216))with|true=>grind|false=>
  rw[A]at h;obtain⟨R,N,h⟩:=aF h;obtain⟨z,L,h⟩:=aF h;rw[bQ]at h;by_cases M:z.flat.length=n
  . simp only[M,dX,aR]at h;obtain⟨l,G,h⟩:=aF h;obtain⟨m,m1,u,Q⟩:=N8 K Y L;obtain⟨U,q1,S,q3⟩:=MU D s _ _ I N;have T:0<n:=by grind
    obtain⟨m',f1,f2,f3,f4⟩:=atB R U _ _ _ G (ajd u Q M T _) S q3;have W:m.length=n:=by rw[<-u.1];omega
    obtain⟨g1,g2,g3,_⟩:=nU h;have f:fR K Y B H st' (gX tm o.dst (.sl H.next 0 l.length (J l.length) n)) (H.cT m' .ex elem):=by cases F:(aw b 0&&Db gs o.dst)with|false=>rw[F]at h;exact Ov c s h rfl f2 (.inr rfl)|true=>rw[F]at h;refine abg c s h (.ay l elem n H.next 0 _ m' (by simp[aY.add]) T f2.2.1 (λk E=>by cases E;omega) f2.2.2.1 λi x j d a v w y=>(f2.2.2.2 i x j d a v w y).mono (aY.Bg (QW (m:=m') (fl:=.ex) (e:=elem) c).1) (a00 _)) (.inr ⟨⟨_,_,_,_,rfl⟩,_,rfl⟩) aP
    refine⟨_,H.cT m' .ex _,?_,g1,f,g2,g3,FE _ _ _ _⟩;unfold fF dY;rw[q];simp only[GY];by_cases g:b=0;.have e1:aw 0 0=V:=rfl;have e2:jW 0 ([]:aJ)=jW 0 m:=rfl;grind
    grind[dZ,bQ]
  grind
 grind
def AL(s i:Nat)(d:ah Nat):Pk->ah Pk:=λp=>if(∃k,d=J k/\p=.sl k)then J (.tp s i)else if p=.tp s i then Z else J p
theorem aK1(s i:Nat)(d:ah Nat):Src (AL s i d)where
 inj:=λp q y b a=>by
  unfold AL at b a;by_cases e:∃k,d=J k/\p=.sl k
  . rw[if_pos e]at b;cases b;obtain⟨k,f,rfl⟩:=e;by_cases c:∃k,d=J k/\q=.sl k;.obtain⟨g,N,rfl⟩:=c;rw[f]at N;cases N;rfl
    . rw[if_neg c]at a;split at a;.simp at a
      .rename_i h;exact absurd (bE a) h
  . rw[if_neg e]at b;split at b;.simp at b
    . rename_i I;cases b;by_cases c:∃k,d=J k/\q=.sl k;.rw[if_pos c]at a;exact absurd (bE a).symm I
      . rw[if_neg c]at a;split at a;.simp at a
        .exact(bE a).symm
 base:=λp b=>by unfold AL;rw[if_neg (λ⟨k,_,h⟩=>b (by rw[h];trivial)),if_neg (λh=>b (by rw[h];trivial))]
theorem aK2{s i:Nat}{d:ah Nat}(h:∀k,d=J k->p≠.sl k)(a:p≠.tp s i):AL s i d p=J p:=by grind[AL]
theorem aK3(s i d:Nat):AL s i (J d) (.sl d)=J (.tp s i):=by simp[AL]
def I8(x:DV×aN):DV×aN:=match x.2 with|.ex _=>(.jk,.no)|_=>(x.1,.no)
theorem aA3{q:Pk}{x:DV×aN}(h:cQ K Y B H p x.1 a x.2):cQ K Y ω' H q (I8 x).1 a (I8 x).2:=by obtain⟨d,o⟩:=x;cases o with|no=>exact h|any=>obtain⟨b,c⟩:=h;subst b;subst c;exact .nl|full e=>exact h.1|ty e=>exact h.1|ex e=>exact cQ.jk h
theorem atk(n:HR K Y B H O.lb O.g)(G:cg K Y B H tm O.sl){i:Nat}(U:o.op=.extract x i)(h:dF P aq fk gs cr later O o=J st'):eT P ak rec cf K Y B H st0 O st' tm o:=by unfold dF at h;rw[U]at h;simp only at h;cases x with
 |tmp s=>simp only at h;cases F:look O.sl s with|none=>simp_all|some sv=>rw[F]at h;cases sv with
  |tp l=>
  simp only at h;obtain⟨x,L,h⟩:=aF h;obtain⟨a,A,a2,m,rfl,m1,M⟩:=G s _ F;have hi:i<l.length:=(am.1 L).1;have g:m[i]?=J m[i]:=dC ab;have W:=M i x _ L g;have iH:AM.bJ P tm (.tmp s)=J (.cO m):=aix A aP;have he:dY P ak tm H o=J (.val m[i] H):=by simp_all[dY,J5,xa,fc]
  change aG {O with sl:=put O.sl s (.tp (l.take i++I8 x::l.drop (i+1)))} o.dst (.dv x.1 x.2)=J st' at h;obtain⟨f1,f2,f3,f4,f5⟩:=nU h;refine⟨m[i],H,by grind[fF],f1,?_,f2,f3,a43 _ _ _⟩;have R:∀j,(l.take i++I8 x::l.drop (i+1))[j]?=if j=i then J (I8 x)else l[j]?:=by grind
  have v:=n.of (aK1 s i o.dst);have E:∀p r c,B.of (AL s i o.dst) p=J (r,c)->dO B r\/H.next<=r:=λp r c w=>let⟨q,_,h⟩:=a07 w;.inl ⟨q,c,h⟩;have mid:∀(d:ah Nat),cg K Y (λp=>if(∃k,d=J k/\p=.sl k)then B p else B.of (AL s i d) p) H tm (put O.sl s (.tp (l.take i++I8 x::l.drop (i+1)))):=by
    intro d;have z:∀p,p≠.tp s i->(if(∃k,d=J k/\p=Pk.sl k)then B p else B.of (AL s i d) p)=B p:=by
      intro p w;by_cases e:∃k,d=J k/\p=.sl k;.rw[if_pos e]
      .rw[if_neg e];unfold aI.of;rw[aK2 (λk u e'=>e ⟨k,u,e'⟩) w];rfl
    refine JL n.inv G (a01 _) (λp r b f _ _ h=>by rw[z p (f i)];exact h) (λs=>by rw[z _ aP]) A (λ_=>aP) ?_;refine⟨m,rfl,?_,λj y c g D=>?_⟩;.rw[gR,sL,dD,List.length_drop,<-m1];omega
    . rw[R]at g;by_cases e:j=i;.rw[if_pos e]at g;cases g;subst e;obtain rfl:=bE (D.symm.trans (by assumption:m[j]?=J m[j]));exact aA3 W
      .rw[if_neg e]at g;refine(M j y c g D).vd ?_;exact z _ (by simp;exact e)
  rcases yQ h with⟨f,rfl⟩|⟨d,f,_,hr,rfl⟩;.rw[f];rw[f]at v E;refine⟨K,Y,_,a01 _,n.gi (a02 (λ_=>False) _),a00 _,v,?_,a02 _ _,E⟩;have:=mid Z;intro t sv X;obtain⟨N,g1,g2,g3⟩:=this t sv X;refine⟨N,g1,g2,g3.keep (S:=λ_=>False) n.inv (a02 _ _) (a01 _) (a00 _) (λp r c _ h=>⟨by rw[if_neg aP]at h;exact h,id⟩) (λs I i' Q _ h=>by rw[if_neg aP];exact h) (λ_ _=>rfl) (λ_ _ _ _ _=>id)⟩
  . rw[f];rw[f]at v E;refine⟨K,Y,_,a01 _,n.gi (a02 (λ_=>False) _),a00 _,v,?_,a02 _ _,E⟩;refine xj (S:=λ_=>False) n.inv (mid (J d)) (a02 _ _) (a01 _) (a00 _) (λp r c _ T _ h=>⟨?_,id⟩) (λs' i' Q h=>?_) (λ_ _ _=>id) (λ_=>W.rh) ?_;.rw[if_neg (λ⟨k,u,e⟩=>by cases u;exact T e)]at h;exact h
    .rw[if_neg (λ⟨k,u,e⟩=>by simp at e)];exact h
    .exact W.vd (by unfold aI.of;rw[aK3];rfl)|_=>simp at h
 |_=>simp at h
theorem xg(H:Heap)(i r:Nat)(o:cq):(H.put i r o).get i=J o:=a17 _ _ _
theorem pq(H:Heap){i:Nat}(r:Nat)(o:cq)(h:j≠i):(H.put i r o).get j=H.get j:=a11 _ _ (Ne.symm h)
theorem aHD(a:bg H){i:Nat}{c d:Nat}(g:H.get i=J (.map es c)):bg (H.put i r (.map fs d)):=by
 refine⟨λj o h=>?_,λj l b m e1 h=>?_,λj l b m e1 h=>?_,a.dz,a.bA⟩
 . by_cases e:j=i;.rw[e];exact a.get _ _ g
   .rw[pq H r _ e]at h;exact a.get j o h
 . by_cases e:j=i;.grind[xg]
   .rw[pq H r _ e]at h;exact a.root j l b _ e1 h
 . by_cases e:j=i;.grind[xg]
   .rw[pq H r _ e]at h;obtain⟨k,fl',e',f⟩:=a.oK j l b _ e1 h;grind[pq]
theorem aNf(u:pN H){i:Nat}{c d:Nat}(g:H.get i=J (.map es c)):pN (H.put i r (.map fs d)):=λj l b fl e h=>by
 by_cases a:j=i;.grind[xg]
 .rw[pq H r _ a]at h;obtain⟨k,fl',f⟩:=u j l b fl e h;grind[pq]
theorem uS{i:Nat}{c d:Nat}(h:H.get i=J (.map es c))(j:Nat):rootOf (H.put i r (.map fs d)) j=rootOf H j:=by grind[rootOf,xg,pq]
theorem uY{i:Nat}{c d:Nat}(g:H.get i=J (.map es c)):bU (λx=>x=i) H (H.put i r (.map fs d))where
 next:=bT _
 get:=λj _ h=>pq H r _ (λx=>h (by subst x;unfold rootOf;rw[g]))
 dz:=λa _ h=>rfl
 root:=λj _=>uS g j
theorem HR.aJ7{f i:Nat}{es:List lr}{fs':List eL}{c:Nat}{y:GO}{d:Nat}(a:HR K Y B H lb g)(M:Y f=J i)(G:B (.g f)=J (i,V))(u:H.get i=J (.map fs c))(N:AY K Y B (H.put i i (.map fs' d)) f y i):HR K Y B (H.put i i (.map fs' d)) lb (g.set f y):=by
 have v:=uY (r:=i) (fs:=fs') (d:=d) u;have o:∀q l b,q≠.g f->B q=J (l,b)->¬l=i:=λq l b F h e=>by subst e;exact F (a.inj _ _ _ _ _ h G)
 refine⟨aHD a.inv u,λj cells e1 E=>?_,a.inj,λp r1 j x z m=>by rw[uS u];exact a.clean p r1 j x z m,a.cF,λs b D=>?_,λk w n=>?_,λk P=>a.mZ k P,aNf a.hQ u⟩;.obtain⟨root,L,g1,g2⟩:=a.dy j cells e1 E;have:j≠i:=λe=>aU;exact⟨root,L,by grind[pq],g2⟩
 .obtain⟨j,m,t⟩:=a.box s b D;exact⟨j,m,t.keep (S:=λx=>x=i) a.inv v (a01 _) (a00 _) (o _ j V aP m) λI l c x=>⟨x,o _ l c aP x⟩⟩
 . have n:look (put g.kj f y) k=J w:=n;rw[me]at n;by_cases e:k=f;.simp_all
   .rw[if_neg e]at n;obtain⟨j,m,t,A⟩:=a.jm k w n;exact⟨j,m,t,A.keep (S:=λx=>x=i) a.inv v (a01 _) (a00 _) (o _ j V ai t) λI l c x=>⟨x,o _ l c aP x⟩⟩
theorem aq5{ih:an->DV->DV->ah Bool}{x y:DV}{b:AV}(h:zR P ih t x y=J V)(d:Fy P t x=V)(e:DR K Y x a)(f:DR K Y y b):sameKey b a=V:=by
 unfold Fy at d;unfold zR at h;split at d;.rename_i c u;cases e;cases f<;>simp[u]at h;subst h;simp[sameKey,yO]
 .rename_i k n g u;cases e;cases f<;>simp[u]at h;obtain⟨rfl,h⟩:=h;rw[zQ]at h;have:=ue h;subst this;simp[sameKey,yO,zQ]
 .rename_i s u;cases e;cases f<;>simp[u]at h;rw[ya]at h;have:=ue h;subst this;simp[sameKey,yO,ya]
 .simp at d
theorem atM:∀(es:List lr)(i:Nat)(j:Nat)(x:lr),findD P t k es i=J (J (j,x))->gw P 50 t k x.1=J V:=by intro es;induction es with|nil=>simp[findD]|cons e es d=>intro i j x h;have a:((gw P 50 t k e.1).bind λb=>bif b then J (J (i,e))else findD P t k es (i+1))=J (J (j,x)):=h;obtain⟨b,c,a⟩:=aF a;grind
theorem aB8(T:dB P K Y aq)(u:HR K Y B H O.lb O.g)(N:cg K Y B H tm O.sl){k:aK}(M:o.op=.mapUpdate t x k y)(W:jP O k)(X:jP O y)(h:dF P aq fk gs cr later O o=J st'):eT P ak rec cf K Y B H st0 O st' tm o:=by
 have hK:=u.sub;unfold dF at h;rw[M]at h;simp only at h;split at h;.rename_i kt et r hu m;obtain⟨a,a1,_,a3⟩:=oH (P:=P) T u N m;cases a3 with|map _ i hi=>
  split at h
  . rename_i es c LA;obtain⟨G,IB,h⟩:=aF h;obtain⟨yv,Vv,h⟩:=aF h;obtain⟨b,b1,_,L⟩:=te (P:=P) T N W IB;obtain⟨v,v1,_,v3⟩:=te (P:=P) T N X Vv;obtain⟨i',q1,Q,q2⟩:=u.jm _ _ LA;obtain rfl:i=i':=bE (hi.symm.trans q1);obtain⟨fs,p1,D,p3⟩:=q2;have hm:H.jU i=J (fs,c):=by unfold Heap.jU;rw[p1]
    by_cases A:ta P kt G=V
    . simp only[A,aR]at h;obtain⟨rr,pX,h⟩:=aF h;have LI:=FP A L;have he:dY P ak tm H o=(oY P kt b fs 0).bind λ|some (j,e)=>bif sameKey e.1 b then J (.val fD (H.put i i (.map (vV fs j (e.1,v,e.2.2)) c)))else Z|none=>J (.val fD (H.put i i (.map (dL fs [(b,v,c)]) (fj c)))):=by unfold dY;rw[M];simp only[Ea];simp only[hu,a1,hm,b1,v1,LI,cU,aR]<;>rfl
      have fin:∀{f:List eL}{s:List lr}{d:Nat},dY P ak tm H o=J (.val fD (H.put i i (.map f d)))->s.length=f.length->(∀(k:Nat)(x:lr)(y:eL),s[k]?=J x->f[k]?=J y->wx K Y x y)->aG {O with sl:=cP O.sl,g:=O.g.set r (.map s d)} o.dst (.tp [])=J st'->eT P ak rec cf K Y B H st0 O st' tm o:=by
        intro f s d e1 e2 e3 e4;obtain⟨f1,f2,f3,_⟩:=nU e4;have z:=uY (r:=i) (fs:=f) (d:=d) p1;have tO:=HR.aJ7 (es:=es) (fs':=f) (d:=d) (y:=.map s d) u hi Q p1 ⟨f,xg _ _ _ _,e2,e3⟩;have mH:cg K Y B (H.put i i (.map f d)) tm (cP O.sl):=xk (S:=λx=>x=i) u.inv N z (a01 _) (a00 _) (λp I b hp h=>⟨h,λe=>by subst e;have:=u.inj _ _ _ _ _ h Q;subst this;exact hp.elim⟩) (λ_ _ _ h=>h);refine⟨fD,H.put i i (.map f d),by unfold fF;rw[e1];rfl,f1,?_,f2,f3,?_⟩;.exact a19 (H1:=H.put i i (.map f d)) (K1:=K) (φ1:=Y) (ω1:=B) u.inv (a01 _) (u.gi z) (a00 _) (z.xx u.inv λI _ e=>⟨.g r,V,by rw[show I=i from e];exact Q⟩) (λp r b hp=>.inl ⟨p,b,hp⟩) (CN (O:={O with sl:=cP O.sl,g:=O.g.set r (.map s d)}) tO mH e4)
        . refine⟨rfl,λz=>absurd (by rw[M];rfl) z,λz=>absurd (by rw[M];rfl) z,λI hr=>?_,λI hr=>.inl hr⟩;have hr:I∈Heap.note H.bA i H.bX:=hr;rcases vU hr with h|⟨rfl,h⟩;.exact .inl h
          .exact .inr ⟨h,_,V,Q⟩
      rcases aeh L es fs 0 rr D (λj x y e1 e2=>p3 j x y e1 e2) pX with⟨rfl,g⟩|⟨j,x',y',rfl,g1,g2,_,g4,g5⟩
      . simp only at h;refine fin (f:=fs++[(b,v,c)]) (s:=es++[(G,yv,c)]) (d:=c+1) (by rw[he,g];simp only[cU,lz]) (by simp[D]) (λj x y m w=>?_) h;by_cases hj:j<es.length;.rw[nZ hj]at m;rw[nZ (by rw[<-D];exact hj)]at w;exact p3 j x y m w
        .rw[ql ab]at m;rw[ql ab,<-D]at w;cases E:j-es.length with|zero=>rw[E]at m w;cases m;cases w;exact⟨L,v3,rfl⟩|succ n=>rw[E]at m;simp at m
      . simp only at h;have F:G.aV=V:=by cases u:G.aV with|true=>rfl|false=>simp[u]at h
        rw[F]at h;simp only[aR]at h;have U:Fy P kt G=V:=by
          unfold ta at A;split at A;.simp[DV.aV]at F
          exact A
        have P':sameKey y'.1 b=V:=aq5 (ih:=gw P 49) (atM _ _ _ _ pX) U L g2.1;rw[Nat.sub_zero]at g4 g5;have qx:j<es.length:=(am.1 g4).1;have eG:∀{α:Type}(l:List α)(v:α),j<l.length->∀q,(l.take j++v::l.drop (j+1))[q]?=if q=j then J v else l[q]?:=by
          intro α l v hl q;by_cases e:q=j;.subst e;rw[if_pos rfl,ql (by rw[sL];omega),sL,Nat.min_eq_left ab,Nat.sub_self];rfl
          . rw[if_neg e];by_cases bZ:q<j;.rw[nZ (by rw[sL];omega),CG bZ]
            .rw[ql (by rw[sL];omega),sL,Nat.min_eq_left ab];obtain⟨n,hn⟩:∃n,q-j=n+1:=⟨q-j-1,ab⟩;rw[hn,Ke,xI];congr 1;omega
        have R:∀(l:List eL)(v:eL),vV l j v=l.take j++v::l.drop (j+1):=by intro l v;unfold vV;rw[lz,qg,qQ]
        refine fin (f:=fs.take j++(y'.1,v,y'.2.2)::fs.drop (j+1)) (s:=es.take j++(x'.1,yv,x'.2.2)::es.drop (j+1)) (d:=c) (by rw[he,g1];simp only[cU,P',aR,R]) ?_ (λq x y m w=>?_) h;.rw[gR,gR,sL,sL,dD,dD,List.length_drop,List.length_drop,D]
        . rw[eG _ _ qx]at m;rw[eG _ _ (by rw[<-D];exact qx)]at w;by_cases e:q=j;.rw[if_pos e]at m w;cases m;cases w;exact⟨g2.1,v3,g2.2.2⟩
          .rw[if_neg e]at m w;exact p3 q x y m w
    .simp[A]at h
  .simp at h
 .simp at h
theorem Ij(i:bg H){p:Nat}{c:aJ}(g:H.get p=J (.cells cl r fl e))(x:Nat)(k:Bool):bg (H.gV r x k c e'):=by
 have hid:=i.get p _ g;have hr:=(i.root _ _ _ _ _ g).1;refine⟨λj o h=>?_,λj l a Y e1 h=>?_,λj l a Y e1 h=>?_,λa f h=>?_,Nat.le_succ_of_le i.bA⟩
 . show j<H.next+1;by_cases n:j=H.next;.omega
   .rw[lF H r _ k c e' n]at h;have:=i.get j o h;omega
 . by_cases n:j=H.next;.grind[yi,zT]
   . rw[lF H r _ k c e' n]at h;obtain⟨q,m⟩:=i.root j l a _ e1 h;by_cases b:a=r;.subst b;rw[zT];have:=i.get j _ h;omega
     grind[H8]
 . by_cases n:j=H.next;.subst n;rw[yi]at h;obtain⟨s,fl',e2,m⟩:=i.oK _ _ _ _ _ g;grind[lF]
   .rw[lF H r _ k c e' n]at h;have q:=(i.root j l a _ e1 h).1;have t:=i.get j _ h;obtain⟨s,fl',e2,m⟩:=i.oK j l a _ e1 h;grind[lF]
 . show a<H.next+1/\f.2<H.next+1;by_cases b:a=r;.have d:(H.gV a _ k c e').dz.get a=J (bif k then H.next else x,H.next):=a17 _ _ _;grind
   .have d:(H.gV r x k c e').dz.get a=H.dz.get a:=a11 _ _ (Ne.symm b);rw[d]at h;have:=i.dz a f h;omega
theorem ako(i:bg H)(u:pN H){d:Nat}{c:aJ}(g:H.get d=J (.cells cl r fl e))(f:Nat)(k:Bool):pN (H.gV r f k c e):=λj l m Y e1 h=>by
 by_cases n:j=H.next;.subst n;rw[yi]at h;obtain⟨_,rfl,_,rfl⟩:=cq.cells.inj (bE h);obtain⟨b,fl',a⟩:=u _ _ _ _ _ g;exact⟨b,_,by rw[lF H _ _ _ _ _ (by have:=i.get _ _ a;omega)];omega⟩
 .rw[lF H r _ k c e n]at h;obtain⟨b,fl',a⟩:=u j l m _ e1 h;exact⟨b,_,by rw[lF H _ _ _ _ _ (by have:=i.get _ _ a;omega)];omega⟩
theorem UB(r f:Nat)(k:Bool)(c:aJ)(e:an):bU (λx=>x=r) H (H.gV r f k c e)where
 next:=Ki _
 get:=λj h _=>lF H r f k c e ab
 dz:=λa _ h=>H8 H r f k c e h
 root:=λj h=>by unfold rootOf;rw[lF H r f k c e ab]
theorem avo(r f:Nat)(k:Bool)(c:aJ)(e:an)(h:j<H.next):rootOf (H.gV r f k c e) j=rootOf H j:=by grind[rootOf,lF]
theorem Ik(a:HR K Y B H lb g){E:Nat}{c:aJ}{v:Bool}(t:H.get E=J (.cells cl r fl e))(A:p.slot)(P:∀q b,B q≠J (r,b))(Q:v=V->∀j x,K j=J x->rootOf H j≠r):HR K Y (B.set p (J (r,v))) (H.gV r (H.br r).1 C c e) lb g:=by
 have y:=UB (H:=H) r (H.br r).1 C c e;have N:=Ij (c:=c) (e':=e) a.inv t (H.br r).1 C;have L:r<H.next:=by have:=(a.inv.root _ _ _ _ _ t).1;have:=a.inv.get _ _ t;omega
 have R:(H.gV r (H.br r).1 C c e).next=H.next+1:=rfl;have back:∀q d b,B.set p (J (r,v)) q=J (d,b)->(q=p/\d=r/\b=v)\/(q≠p/\B q=J (d,b)):=by grind[aI.nV,aI.lh]
 have M:∀q,¬q.slot->B.set p (J (r,v)) q=B q:=λq m=>a16 _ _ λe=>m (e▸A);refine⟨N,?_,?_,?_,?_,?_,?_,a.mZ,ako a.inv a.hQ t _ _⟩;.intro j cells e1 h;obtain⟨d,fl',g1,g2⟩:=a.dy j _ e1 h;have O:=a.inv.get _ _ g1;grind[lF,zT,H8]
 . intro q G d b f n o;rcases back q d b n with⟨rfl,rfl,_⟩|⟨_,u⟩;.grind
   . rcases back G d f o with⟨_,rfl,_⟩|⟨_,l⟩;.grind
     .exact a.inj _ _ _ _ _ u l
 . intro q d j x m z;obtain⟨cells,e1⟩:=x;obtain⟨_,_,g1,_⟩:=a.dy j _ e1 z;rw[avo _ _ _ _ _ (a.inv.get _ _ g1)];rcases back q d _ m with⟨_,rfl,w⟩|⟨_,l⟩;.grind
   .exact a.clean q d j _ l z
 . intro q d b m;rcases back q d b m with⟨_,rfl,_⟩|⟨_,l⟩;.omega
   .have:=a.cF _ _ _ l;omega
 .intro s b w;obtain⟨i,n,o⟩:=a.box s b w;exact⟨i,by grind[Pk.slot],o.keep a.inv y (a01 _) (a00 _) ai λI d f x=>⟨by grind[Pk.slot],λe=>P _ f (e▸x)⟩⟩
 .intro k F D;obtain⟨i,n,o,u⟩:=a.jm k F D;exact⟨i,n,by grind[Pk.slot],u.keep a.inv y (a01 _) (a00 _) ai λI d f x=>⟨by grind[Pk.slot],λe=>P _ f (e▸x)⟩⟩
theorem HR.VA(a:HR K Y B H lb g){i:Nat}(f:H.get i=J (.cells cl r fl e))(d:(H.br r).1<=i)(n:K i=Z)(k:∀q,B q≠J (r,V)):HR (K.add i (cl,e)) Y B H lb g:=by
 refine a.vd (aY.Bg n) ai (λj cells e1 h=>?_) a.inj (λp r1 j x c b=>?_) a.cF
 . unfold aY.add at h;by_cases x:j=i;.grind
   .rw[if_neg x]at h;exact a.dy j _ e1 h
 . unfold aY.add at b;by_cases y:j=i;.grind[lS]
   .rw[if_neg y]at b;exact a.clean p r1 j x c b
theorem gQ.append{c:aJ}(h:gQ K Y l esz I c)(g:gQ K Y new esz 0 nc)(v:nc.length=new.length*esz):gQ K Y (l++new) esz 0 ((c.drop I).take (l.length*esz)++nc)/\((c.drop I).take (l.length*esz)++nc).length=(l.length+new.length)*esz:=by
 obtain⟨f,k,m,n⟩:=h;obtain⟨o,p,q,r⟩:=g;have e:((c.drop I).take (l.length*esz)).length=l.length*esz:=ai;have s:((c.drop I).take (l.length*esz)++nc).length=(l.length+new.length)*esz:=ai;refine⟨⟨f,?_,λi x b=>?_,λi x j d a b hd u=>?_⟩,s⟩;.grind
 .grind
 . by_cases hi:i<l.length
   . have t:i*esz+j<l.length*esz:=by have:(i+1)*esz<=l.length*esz:=lW _ hi;grind
     grind
   .rw[ql ab]at b;have E:l.length*esz<=i*esz:=lW _ ab;grind[Nat.sub_mul]
theorem D6(R:dB P K Y aq)(S:HR K Y B H O.lb O.g)(U:cg K Y B H tm O.sl){k:Nat}(u:bj aq O x=J v)(m:w8 k v=J new):∃a,AM.bJ P tm x=J a/\re a=J new.length/\(0<k->(∀y,y∈new->y.flat.length=k)->∃nc,qT H k new.length a=J nc/\gQ K Y new k 0 nc/\nc.length=new.length*k):=by
 have p:∀(l:ao)(e esz id I:Nat)(c:ah _)(cells:aJ)(r:Nat)(fl:fS)(e':an),gQ K Y l esz I cells->H.get id=J (.cells cells r fl e')->(H.br r).1<=id->∀w,0<w->(∀y,y∈l->y.flat.length=w)->∃nc,qT H w l.length (.sl id I l.length c esz)=J nc/\gQ K Y l w 0 nc/\nc.length=l.length*w:=by
  intro l e esz id I c cells r fl e' Q G A w z kx;rcases l with _|⟨y,l⟩;.exact⟨[],rfl,⟨z,aP,λi x h=>ai,λi x j d a h=>ai⟩,aP⟩
  have F:esz=w:=by have D:=(Q.2.2.1 0 y rfl).1;grind
  obtain⟨a1,a2,a3,a4⟩:=Q;refine⟨(cells.drop I).take ((y::l).length*esz),?_,?_,ai⟩
  . unfold qT;have:aw (y::l).length 0=C:=by rfl
    simp only[this,ch,bQ];unfold Heap.load;rw[OH G A];grind[dp,dZ,qg,qQ]
  grind[gQ]
 have dr:∀{a:AV},DR K Y v a->re a=J new.length/\(0<k->(∀y,y∈new->y.flat.length=k)->∃nc,qT H k new.length a=J nc/\gQ K Y new k 0 nc/\nc.length=new.length*k):=by
  intro a hd;unfold w8 at m;split at m;.rename_i s;cases q:aw k 1 with|false=>rw[q]at m;simp at m|true=>
    rw[q]at m;cases m;rw[bQ]at q;obtain rfl:=ue q;cases hd;have T:yD (λ(b:Nat)=>AV.int .u8 (.ofNat b)) (wo (s.map λb=>DV.int .u8 (.ofNat b)).length s)=s.map λb=>AV.int .u8 (.ofNat b):=by rw[qg,Aq,fO,A8]
    refine⟨by simp[re,dZ],λ_ _=>⟨s.map λb=>AV.int .u8 (.ofNat b),?_,⟨Nat.one_pos,aP,λi x u=>?_,λi x j d a u hd E=>?_⟩,aP⟩⟩;.exact gT J T
    .rw[jZ]at u;obtain⟨b,_,rfl⟩:=iK.1 u;exact⟨rfl,by simp[DV.flat,DV.aV]⟩
    . rw[jZ]at u;obtain⟨b,q,rfl⟩:=iK.1 u;rcases j with _|j;.simp only[DV.flat,List.getElem?_cons_zero,xL]at hd;subst hd;simp only[Nat.mul_one,kG,vq,jZ,q,gM,xL]at E;subst E;exact .int _ _
      .simp[DV.flat]at hd
  unfold QI at m;split at m;.cases m;cases hd;exact⟨rfl,λz _=>⟨[],rfl,⟨z,aP,λi x h=>ai,λi x j d a h=>ai⟩,aP⟩⟩
  .cases m;cases hd with|ay l e esz id I c cells g1 F q hc jE g=>obtain⟨r,fl,W,X⟩:=S.dy _ _ _ g1;exact⟨rfl,p _ 0 _ _ _ _ _ _ _ _ ⟨F,q,jE,g⟩ W X _⟩
  grind
 obtain⟨sv,D,L⟩:=aF u;obtain⟨a,M,h4,N⟩:=ri R U D;refine⟨a,M,?_⟩;cases sv with
 |dv d o=>
  obtain rfl:=bE (show J d=J v from L);rcases N with⟨t,_,_,_,n⟩|⟨_,⟨d2,e,n⟩|⟨d2,f,_,e1,e2,n⟩|⟨g,l,cells,e,e1,_⟩⟩;.cases o with|no=>exact dr n|any=>obtain⟨rfl,rfl⟩:=n;exact dr .nl|full e=>exact dr n.1|ty e=>exact dr n.1|ex e=>
    rcases n with⟨rfl,rfl⟩|⟨r,_,n⟩;.exact dr .nl
    .obtain⟨l,esz,id,I,c,cells,fl,rfl,rfl,g3,g4,g5,g6,g7,_⟩:=n.ex;obtain rfl:=bE (show J l=J new from m);exact⟨rfl,p _ 0 _ _ _ _ _ _ _ _ g7 g3 g5 _⟩
  all_goals grind|_=>grind[C1]
end
section
variable{P:aH}{ak:ct}{rec:Rec}{cf:bV}{K K':aY}{Y A:cu}{B ω':aI}{H H':Heap}{S:Nat->Prop}
variable{aq:Nat->ah ao}{gs cr:aE}{fk:bY->Nat}{later:List aB}{st0 O st':St}{tm:Tr AV}{o:aB}
theorem adi:∀(l:ao)(m:aJ),gQ K Y l esz 0 m->m.length=l.length*esz->bF K Y (l.flatMap DV.flat) m/\∀x,x∈l.flatMap DV.flat->x.aV=V:=by intro l;induction l with|nil=>simp_all[a09]|cons x l g=>
 intro m h n;obtain⟨e,k,b,c⟩:=h;obtain⟨x1,x2⟩:=b 0 x rfl;have E:m.length=l.length*esz+esz:=ai;have t:=g (m.drop esz) ⟨e,ai,λi y f=>b (i+1) y ai,λi y j d a e1 e2 e3=>c (i+1) y j d a ai e2 ai⟩ ai;have hd:bF K Y _ (m.take esz):=⟨ai,λj d a e1 e2=>c 0 x j d a rfl e1 ai⟩;refine⟨?_,λy f=>?_⟩;.rw[Hh,<-Hl _ m];exact hd.append t.1
 grind
theorem newRow{s:ao}{n:Nat}{c:ah Nat}(a:HR K Y B H O.lb O.g)(I:cg K Y B H tm O.sl)(P:fl.wr=V)(G:bF K Y s m)(L:∀x,x∈s->x.aV=V)(E:∀k,c=J k->n<=k)(h:aG {O with g:=O.g.alloc (.box ⟨s,[(s.length,.full e)]⟩)} dst (.dv (.cY O.g.next 0 n e esz) .no)=J st'):fR K Y B H st' (gX tm dst (.sl H.next 0 n c esz)) (H.cT m fl e):=by
 have N:bg (H.cT m fl e):=wC a.inv _ (λl r fl e' g=>ai);obtain⟨o,ω',u,w,z,A,Q,D⟩:=QV (y:=.box _) a N (lS (mF H _)) λo ω' f i=>UH (.inr rfl) a.inv P (G.mono (a01 _) f) L i;have M:cg K _ _ (H.cT m fl e) tm _:=λt sv F=>by obtain⟨v,g1,g2,g3⟩:=I t sv F;refine⟨v,g1,g2,g3.keep a.inv (kh H _ _) (a01 _) u (λp r b d x=>⟨A p r b ?_ x,id⟩) ai ai ai⟩;rcases d with rfl|⟨j,rfl⟩<;>trivial
 exact a19 a.inv (a01 _) (a.gi (kh H _ (λ_=>False))) u (kh H _ _) (λp r b d=>by
 rcases D p r b d with⟨q,h⟩|rfl;.exact .inl ⟨q,b,h⟩
 omega) (Bh (O:={O with g:=O.g.alloc _}) z M h (DR.cY _ _ _ _ _ _ _ w E))
theorem aB3(g:dB P K Y aq)(a:HR K Y B H O.lb O.g)(s:cg K Y B H tm O.sl){l c:aK}(e:o.op=.makeSlice t l c)(h:dF P aq fk gs cr later O o=J st'):eT P ak rec cf K Y B H st0 O st' tm o:=by
 unfold dF at h;rw[e]at h;simp only at h;split at h
 . rename_i elem k1 n k2 m v u r;obtain⟨lv,l1,_,l3⟩:=oH g a s u;obtain⟨I,q,_,c3⟩:=oH g a s r;cases l3;cases c3;split at h
   . rename_i i z hi w;rcases b:(!(aw i.size 0)&&aw n m&&aw z.flat.length i.size&&bz (m*i.bytes) bm&&bz m bm&&Db gs o.dst)with _|_;.grind
     rw[b]at h;simp only[gD,Ss,bQ,dp,jB,C0]at b;obtain⟨⟨⟨⟨⟨D,k⟩,p⟩,F⟩,G⟩,_⟩:=b;subst k;obtain⟨j,L,f,A⟩:=N8 K Y w;have x:0<i.size:=ab;have Q:=ajd f A p x n;have M:j.length=i.size:=by rw[<-f.1];omega
     have E:(jW n j).length=(mr n z).length*i.size:=by grind[Gp]
     obtain⟨e1,e2⟩:=adi _ _ Q E;obtain⟨f1,f2,f3,_⟩:=nU h;refine⟨.sl _ 0 n (J n) _,H.cT _ .ex _,?_,f1,newRow a s rfl e1 e2 aU h,f2,f3,FE _ _ _ _⟩;unfold fF dY;rw[e];simp only[G4];have y:(!(aw i.size 0)&&(bz n n&&(bz (fA n i.bytes) bm&&bz n bm)))=V:=by simp_all[bQ]
     simp only[v,hi,l1,q,y,aR];cases d:aw n 0 with|true=>rw[bQ]at d;obtain rfl:=ue d;rfl|false=>simp_all[dZ]
   grind
 grind
end
section
variable{P:aH}{ak:ct}{rec:Rec}{cf:bV}{K K' K1:aY}{Y A:cu}{B ω' ω0:aI}{H H':Heap}{S:Nat->Prop}
variable{gs cr:aE}{fk:bY->Nat}{later:List aB}{st0 O st':St}{tm:Tr AV}{o:aB}{aq:Nat->ah ao}
theorem SM{d:Nat}{v:Bool}{x:DV}{l:db}(g:bg H)(j:cg K Y B H tm l)(A:O.sl=cP l)(h:aG O (J d) (.dv x ow)=J st')(c:bo K K1)(k:bU S H H')(o:HR K1 Y (B.set (.sl d) (J (r,v))) H' O.lb O.g)(u:∀p r b,p.slot->B p=J (r,b)->¬S r)(t:a≠.top)(m:cQ K1 Y (B.set (.sl d) (J (r,v))) H' (.sl d) x a ow)(I:tA ω0 H H' K K1)(P:bU (dO ω0) H H')(y:dO ω0 r\/H.next<=r)(z:∀p r b,B p=J (r,b)->dO ω0 r):fR K Y ω0 H st' (tm.ins d a) H':=by
 rcases yQ h with⟨e,_⟩|⟨n,e,_,_,rfl⟩;.grind
 . cases e;have f:=xk g j k c (a00 _) ai (λ_ _ _ h=>h);refine⟨K1,Y,_,c,I,a00 _,o,?_,P,λp D b w=>?_⟩;.rw[A];exact xj o.inv f (a02 _ _) (a01 _) (a00 _) (λp r b _ q _ h=>⟨by grind[aI.lh],id⟩) (λs i b h=>by grind[aI.lh]) ai (λ_=>t) m
   grind[aI.nV,aI.lh]
theorem Ni(l:ah Nat):Src (uj l):=match l with|some t=>aaf t|none=>⟨λp q x h a=>by rw[bE h,bE a],λp _=>rfl⟩
theorem al3{b n:Nat}(h:0<esz)(a:0<n)(r:(bz (n*b) bm&&bz n bm)=V):nE H elem esz b .bH nc n=J (.sl H.next 0 n Z esz,H.cT nc .op elem):=by grind[nE,Bm]
theorem al4{b:Nat}(h:0<esz):nE H elem esz b .bH nc 0=J (.bH,H):=by grind[nE,aw,Bm]
theorem abp{b i l:Nat}{c:ah Nat}(h:0<esz)(r:(bz ((l+0)*b) bm&&bz (l+0) bm)=V):nE H elem esz b (.sl i I l c esz) nc 0=J (.sl i I l c esz,H):=by grind[nE,Bm,Kw]
theorem Ox{bytes i l n:Nat}(a:0<esz)(b:0<n)(c:(bz ((l+n)*bytes) bm&&bz (l+n) bm)=V)(g:H.get i=J (.cells cl r fl e))(h:(H.br r).1<=i):nE H elem esz bytes (.sl i I l (J l) esz) nc n=J (.sl H.next 0 (l+n) Z esz,H.cT ((cl.drop I).take (l*esz)++nc) .op elem):=by grind[nE,Bm,Kw,dp,lz,qg,qQ]
theorem abo{b i l n:Nat}(h:0<esz)(a:0<n)(d:(bz ((l+n)*b) bm&&bz (l+n) bm)=V)(g:H.get i=J (.cells cl r fl elem))(w:fl.wr=V)(e:(H.br r).1<=i)(c:(H.br r).2=i)(R:I+l*esz=cl.length):nE H elem esz b (.sl i I l Z esz) nc n=J (.sl H.next 0 (l+n) Z esz,H.gV r (H.br r).1 C ((cl.drop I).take (l*esz)++nc) elem):=by unfold nE;have o:=Nat.mul_pos a h;grind[dp,dZ,bQ,eP,lz,qg,qQ]
theorem abn{a:Array an}{i:TypeInfo}{s x r:AV}{n:Nat}(d:a[0]?.bind P.underlying=J (.slice elem))(h:(∃e2,a[1]?.bind P.underlying=J (.slice e2))\/a[1]?.bind P.underlying=J .string)(g:P.info? elem=J i)(b:cE P elem=J z)(l:z.flat.length=i.size)(k:re x=J n)(f:qT H i.size n x=J nc)(e:nE H elem i.size i.bytes s nc n=J (r,H')):iC P H .append a [s,x]=J (r,H'):=by
 obtain⟨m,o,c,_⟩:=N8 (λ_=>Z) (λ_=>Z) b;have j:aw (fg m) i.size=V:=by rw[dZ,<-c.1,l];simp_all
 rcases h with⟨_,h⟩|h<;>simp_all[iC]
def GC(l:ah Nat)(d:Nat):Pk->ah Pk:=match l with|some t=>um t d|none=>J
def aK0(l:ah Nat)(d:Nat):Src (GC l d):=match l with|some t=>n4 t d|none=>Ni Z
theorem PM{i:Nat}{c:aJ}(h:gQ K Y L esz 0 c)(a:K i=J (c,e)):DR K Y (.ay L e esz) (.sl i 0 L.length Z esz):=.ay L e esz i 0 Z c a h.1 h.2.1 (λk h=>ai) h.2.2.1 h.2.2.2
theorem agl{i:Nat}{y:aJ×an}{a:aI}(b:HR (K.add i y) Y a H' lb g)(e:HR K Y B H O.lb O.g)(h:dO ω0 (rootOf H' i)\/H.next<=rootOf H' i):tA ω0 H H' K (K.add i y):=λj x d=>by obtain⟨cells,t⟩:=x;obtain⟨r,fl,c,_⟩:=b.dy j _ t d;refine⟨b.inv.get _ _ c,?_⟩;grind[aY.add]
theorem alF{d:Nat}{c:aJ}{s:db}(a:HR K Y B H O.lb O.g)(k:cg K Y B H tm s)(A:O.sl=cP s)(h:aG O (J d) (.dv (.ay L e esz) (.ty e))=J st')(Q:gQ K Y L esz 0 c)(l:L.length*esz=c.length)(o:∀p r b,B p=J (r,b)->dO ω0 r):fR K Y ω0 H st' (tm.ins d (.sl H.next 0 L.length Z esz)) (H.cT c .op e):=by
 have n:=(QW (m:=c) (fl:=.op) (e:=e) a).1;have G:(H.cT _ _ e).get _=J (.cells c _ .op e):=mF H _;have D:(H.cT c .op e).br _=(0,H.next):=Bv (H:=H) a.inv ab;have j:=QU (m:=c) (fl:=.op) (e:=e) (p:=.sl d) (v:=J C) a trivial;have f:=j.VA G ai n (λq i=>by
 by_cases e1:q=.sl d;.grind[aI.nV]
 .rw[a16 _ _ e1]at i;have:=a.cF _ _ _ i;omega);have g:bo K (K.add _ (c,e)):=aY.Bg n;refine SM a.inv k A h g (kh H _ _) f (λ_ _ _ _ _=>id) aP ?_ (agl f a (.inr (by grind[lS]))) (kh H _ _) ab o;refine⟨PM (Q.mono g (a00 _)) (by simp[aY.add]),.inr ⟨_,_,by rw[a25],⟨_,0,_,_,_,_,_,rfl,G,rfl,ai,ai,.inl ⟨rfl,ai,ab⟩⟩⟩⟩
theorem abf{d:Nat}{l:aJ}{i:Nat}{x:Bool}{D:db}(a:HR K Y B H O.lb O.g)(w:cg K Y B H tm D)(A:O.sl=cP D)(h:aG O (J d) (.dv (.ay L e esz) (bif x then .ex e else .ty e))=J st')(g:H.get i=J (.cells cl r fl e))(E:(H.br r).1<=i)(I:(H.br r).2=i)(Q:gQ K Y L esz 0 l)(t:L.length*esz=l.length)(P:∀q b,B q≠J (r,b))(T:x=V->∀j y,K j=J y->rootOf H j≠r)(v:dO ω0 r)(z:∀p r b,B p=J (r,b)->dO ω0 r):fR K Y ω0 H st' (tm.ins d (.sl H.next 0 L.length Z esz)) (H.gV r (H.br r).1 C l e):=by have hid:=a.inv.get _ _ g;have u:=(QW (m:=l) (fl:=.op) (e:=e) a).1;have G:(H.gV r (H.br r).1 C _ e).get _=J (.cells l r _ e):=yi ..;have F:(H.gV r _ C l e).br r=((H.br r).1,H.next):=zT ..;have R:G8 (H.gV r (H.br r).1 C l e) H.next 0 L.length esz r _ l:=.inl ⟨rfl,ai,ab⟩;have U:((H.gV r (H.br r).1 C l e).br r).1<=H.next:=ai;have k:=UB (H:=H) r (H.br r).1 C l e;have M:bU (dO ω0) H _:=k.xx a.inv λn _ e=>ai;have S:∀p n b,p.slot->B p=J _->¬n=r:=λp n b _ h e=>P p b (e▸h);cases x with|true=>have f:=Ik (c:=l) (p:=.sl d) a g trivial P ab;refine SM a.inv w A h (a01 _) k f S aP ?_ (a.gi k) M (.inl v) z;exact .inr ⟨r,a25 _ _ _,⟨L,_,_,0,_,_,_,rfl,rfl,G,rfl,U,ai,Q,R⟩⟩|false=>have f:=Ik (c:=l) (p:=.sl d) a g trivial P ab;have o:=f.VA G U u (λq N=>by grind[aI.nV,aI.lh]);have s:bo K (K.add _ (l,e)):=aY.Bg u;refine SM a.inv w A h s k o S aP ?_ (agl o a (.inl (by grind[lS]))) M (.inl v) z;exact⟨PM (Q.mono s (a00 _)) (by simp[aY.add]),.inr ⟨r,_,by rw[a25],⟨_,0,_,_,_,_,_,rfl,G,rfl,U,ai,R⟩⟩⟩
theorem amg(u:dB P K Y aq)(a:HR K Y B H O.lb O.g)(w:cg K Y B H tm O.sl){c:Call}(ho:o.op=.call c)(hc:c.callee=.builtin .append)(kz:c.args.toList=[s,x]){i:TypeInfo}{d:DV}(pf:c.argTypes[0]?.bind P.underlying=J (.slice elem))(sZ:(∃e2,c.argTypes[1]?.bind P.underlying=J (.slice e2))\/c.argTypes[1]?.bind P.underlying=J .string)(hi:P.info? elem=J i)(hz:cE P elem=J z)(lM:z.flat.length=i.size)(L:cZ aq O s=J (.dv d ow))(jH:bj aq O x=J v)(nd:w8 i.size v=J new)(kx:∀y,y∈new->y.flat.length=i.size)(n:ru gs o.dst d ow new=V)(h:(bif V then(fE elem i.size i.bytes d ow new).bind λ_=>aG {aQ leave O s with sl:=cP (aQ leave O s).sl,g:=O.g.alloc (.box ⟨new.flatMap DV.flat,[((new.flatMap DV.flat).length,.full elem)]⟩)} o.dst (.dv (.cY O.g.next 0 new.length elem i.size) .no)else(fE elem i.size i.bytes d ow new).bind λr=>bif o.dst.isSome then aG {aQ leave O s with sl:=cP (aQ leave O s).sl} o.dst (.dv r.1 r.2)else Z)=J st'):eT P ak rec cf K Y B H st0 O st' tm o:=by
 unfold ru at n;split at n
 . rename_i e0 e e1 f A;obtain⟨r,hr,W⟩:=aF h;obtain⟨N,x1,x2,x3⟩:=D6 u a w jH nd;obtain⟨S,lv,pv,s1,s2,l,s4,s5⟩:=QF u a w L;obtain⟨mY,yf,Uk,Ul⟩:=B' leave O s;have eZ:=a.of (Ni lv);have oC:∀p r b,B.of (uj lv) p=J _->dO B r:=λp r b k=>let⟨q,_,h⟩:=a07 k;⟨q,b,h⟩;have G:=xk a.inv s5 (a02 _ _) (a01 _) (a00 _) (λ_ _ _ _ h=>⟨h,id⟩) aU;have R:cB (AM.bJ P tm) c.args.toList=J [S,N]:=by rw[kz];show((AM.bJ P tm s).bind _)=_;grind
   have tr:∀{xq:Tr AV}{m:Heap},fR K Y _ H _ _ m->fR K Y B H st' xq m:=λh=>a19 a.inv (a01 _) (a.gi (a02 (λ_=>False) _)) (a00 _) (a02 _ _) (λp r b k=>.inl (oC p r b k)) h;unfold fE at hr;cases h0:aw i.size 0 with|true=>grind|false=>
   rw[h0]at hr;simp only[ch]at hr;have D:0<i.size:=by grind[bQ]
   obtain⟨nc,n1,n2,n3⟩:=x3 D kx;rw[bQ,bQ]at hr;by_cases iG:e=i.size
   . by_cases kf:e0=elem
     . rcases oB:(bz ((([]:ao).length+(f::A).length)*i.bytes) bm&&bz (([]:ao).length+(f::A).length) bm)with _|_;.grind
       subst iG;subst kf;obtain⟨l,qY,dJ,X,qq,hA⟩:=l;cases l with|ay _ _ _ id I T cells k1 k2 k3 k4 k5 k6=>
       obtain⟨_,_,hl,U,_⟩:=AV.sl.inj hA;have U:T=J ([]:ao).length:=ai;subst U;obtain⟨root,Uo,i1,i2⟩:=a.dy _ _ _ k1;obtain⟨j,F⟩:=adi _ _ n2 n3;have E:=Ox (H:=H) (elem:=e0) (bytes:=i.bytes) (nc:=nc) (I:=I) D (by simp:0<(f::A).length) oB i1 i2;obtain⟨g1,g2,g3,_⟩:=nU W;have M:(cells.drop I).take (([]:ao).length*i.size)++nc=nc:=aP;have Q:([]:ao).length+(f::A).length=(f::A).length:=aP;rw[M,Q]at E;refine⟨.sl H.next 0 (f::A).length Z i.size,H.cT nc .op e0,?_,λt ht=>ai,tr ?_,ai,ai,FE _ _ _ _⟩;.unfold fF;rw[C5 ho hc ⟨aP,aP⟩ R (abn pf sZ hi hz lM x2 n1 E)];rfl
       .exact newRow (O:={aQ leave O s with sl:=cP (aQ leave O s).sl}) ai G rfl j F aP ai
     grind
   grind
 grind
theorem aby(hg:dB P K Y aq)(k:HR K Y B H O.lb O.g)(hs:cg K Y B H tm O.sl){c:Call}(ho:o.op=.call c)(hc:c.callee=.builtin .append)(kz:c.args.toList=[s,x]){i:TypeInfo}{d:DV}(pf:c.argTypes[0]?.bind P.underlying=J (.slice elem))(sZ:(∃e2,c.argTypes[1]?.bind P.underlying=J (.slice e2))\/c.argTypes[1]?.bind P.underlying=J .string)(hi:P.info? elem=J i)(hz:cE P elem=J z)(Fh:cZ aq O s=J (.dv d ow))(jH:bj aq O x=J v)(h:(bif aw z.flat.length i.size then(w8 i.size v).bind λnew=>bif new.all (λy=>aw y.flat.length i.size)then bif ru gs o.dst d ow new then(fE elem i.size i.bytes d ow new).bind λ_=>aG {aQ leave O s with sl:=cP (aQ leave O s).sl,g:=O.g.alloc (.box ⟨new.flatMap DV.flat,[((new.flatMap DV.flat).length,.full elem)]⟩)} o.dst (.dv (.cY O.g.next 0 new.length elem i.size) .no)else(fE elem i.size i.bytes d ow new).bind λr=>bif o.dst.isSome then aG {aQ leave O s with sl:=cP (aQ leave O s).sl} o.dst (.dv r.1 r.2)else Z else Z else Z)=J st'):eT P ak rec cf K Y B H st0 O st' tm o:=by
 rw[bQ]at h;by_cases lM:z.flat.length=i.size;.simp only[lM,dX,aR]at h;obtain⟨new,nd,h⟩:=aF h;cases kx:(new.all λy=>aw y.flat.length i.size)with|false=>grind|true=>
  rw[kx]at h;simp only[aR]at h;have kx:∀y,y∈new->y.flat.length=i.size:=λy hy=>by simp_all
  cases P9:ru gs o.dst d ow new with|true=>grind[amg]|false=>rw[P9]at h;simp only[ch]at h;obtain⟨r,hr,h⟩:=aF h;cases hd:o.dst with|none=>grind|some dd=>
  rw[hd]at h;simp only[SE,aR]at h;obtain⟨ax,x1,x2,x3⟩:=D6 (P:=P) hg k hs jH nd;obtain⟨aS,lv,pv,s1,s2,a,s4,s5⟩:=QF (P:=P) hg k hs Fh;obtain⟨mY,yf,Uk,Ul⟩:=B' leave O s;obtain⟨g1,g2,g3,_⟩:=nU h;have eZ:=k.of (Ni lv);have oC:∀p r b,B.of (uj lv) p=J (r,b)->dO B r:=λp r b w=>let⟨q,_,h⟩:=a07 w;⟨q,b,h⟩;have M:cg K Y (B.of (uj lv)) H tm (cP (aQ leave O s).sl):=xk (S:=λ_=>False) k.inv s5 (a02 _ _) (a01 _) (a00 _) (λ_ _ _ _ h=>⟨h,id⟩) (λ_ _ _ h=>h);have UR:cB (AM.bJ P tm) c.args.toList=J [aS,ax]:=by rw[kz];show((AM.bJ P tm s).bind λb=>((AM.bJ P tm x).bind λb=>(J []:ah aJ).bind λt=>J (b::t)).bind λt=>J (b::t))=_;grind
  have fin:∀{n:AV}{f:Heap},(∀nc,qT H i.size new.length ax=J nc->gQ K Y new i.size 0 nc->nc.length=new.length*i.size->0<i.size->nE H elem i.size i.bytes aS nc new.length=J (n,f))->0<i.size->f.bA=H.bA->f.bX=H.bX->(∀r,r∈f.cL->r∈H.cL\/(r<H.bA/\dO B r))->fR K Y B H st' (tm.ins dd n) f->eT P ak rec cf K Y B H st0 O st' tm o:=by
   intro n f e1 h0 ED e3 e5 e4;obtain⟨nc,n1,G,L⟩:=x3 h0 kx;refine⟨n,f,?_,λt ht=>?_,by rw[hd];exact e4,ai,ai,⟨ED,λ_ r hr=>ai,λ_ wO=>?_,λr hr=>.inl ai,e5⟩⟩;.unfold fF;rw[C5 ho hc ⟨aP,aP⟩ UR (abn pf sZ hi hz lM x2 n1 (e1 nc n1 G L h0))];rfl
   .grind
   .refine absurd wO ?_;rw[ho];cases c;grind[isApp]
  unfold fE at hr;cases h0:aw i.size 0 with|true=>grind|false=>
   rw[h0]at hr;simp only[ch]at hr;have m:0<i.size:=by grind[bQ]
   obtain⟨nc,n1,G,L⟩:=x3 m kx;have aOV:∀p r b,B.of (uj lv) p=J (r,b)->∃q,B q=J (r,b):=λp r b w=>let⟨q,_,h⟩:=a07 w;⟨q,h⟩;have tr:∀{xq:Tr AV}{f:Heap},fR K Y (B.of (uj lv)) H st' xq f->fR K Y B H st' xq f:=λh=>a19 k.inv (a01 _) (k.gi (a02 (λ_=>False) _)) (a00 _) (a02 _ _) (λp r b w=>.inl (oC p r b w)) h;cases d with
   |nl=>simp only at hr;cases oB:(bz (new.length*i.bytes) bm&&bz new.length bm)with|false=>grind|true=>
     rw[oB]at hr;simp only[aR]at hr;have has:aS=.bH:=by cases ow with|no=>cases a;rfl|any=>exact a.2|full e=>cases a.1;rfl|ty e=>cases a.1;rfl|ex e=>
      rcases a with⟨_,h⟩|⟨_,_,h⟩;.omega
      .obtain⟨_,_,_,_,_,_,_,h,_⟩:=h.ex;grind
     subst has;cases new with|nil=>cases hr;refine fin (n:=.bH) (f:=H) (λnc _ _ _ _=>al4 m) m rfl rfl (λ_ h=>.inl h) (tr ?_);exact xO (dst:=J dd) (O:={aQ leave O s with sl:=cP (aQ leave O s).sl}) ai M h aP λ_ _ _=>⟨rfl,rfl⟩|cons u A=>
     cases hr;refine fin (n:=.sl H.next 0 (u::A).length Z i.size) (f:=H.cT nc .op elem) (λR X _ _ _=>?_) m rfl rfl (λ_ h=>.inl h) (tr ?_);.grind[al3]
     .exact Ov (dst:=J dd) (O:={aQ leave O s with sl:=cP (aQ leave O s).sl}) ai M h rfl G (.inl ⟨rfl,L.symm⟩)
   |ay l e0 e=>
   simp only at hr;rw[bQ,bQ]at hr;by_cases iG:e=i.size
   . by_cases kf:e0=elem;.cases oB:(bz ((l.length+new.length)*i.bytes) bm&&bz (l.length+new.length) bm)with|false=>grind|true=>rw[oB]at hr;simp only[iG,kf,dX,xz,aR]at hr;subst iG;subst kf;cases new with
      |nil=>
      cases hr;obtain⟨id,I,E,hAs⟩:∃id I E,aS=.sl id I l.length E i.size:=by cases ow with|no=>cases a<;>simp_all|any=>obtain⟨h,_⟩:=a;grind|full e=>have a:=a.1;cases a<;>simp_all|ty e=>have a:=a.1;cases a<;>simp_all|ex e=>
          rcases a with⟨h,_⟩|⟨_,_,h⟩;.grind
          .obtain⟨l',qq,id,I,c',_,_,U,W,_⟩:=h.ex;grind
      subst hAs;refine fin (f:=H) (λnc _ _ _ _=>abp m oB) m rfl rfl (λ_ h=>.inl h) ?_;have T:Src (GC lv dd):=aK0 lv dd;have aOQ:∀s,B.of (GC lv dd) (.lb s)=B (.lb s):=λs=>by unfold aI.of;rw[T.base _ (by simp[Pk.slot])];rfl
      have aOR:∀s,B.of (uj lv) (.lb s)=B (.lb s):=λs=>by unfold aI.of;rw[(Ni lv).base _ (by simp[Pk.slot])];rfl
      rcases yQ h with⟨e,_⟩|⟨d',e,_,_,rfl⟩;.grind
      . cases e;refine⟨K,Y,B.of (GC lv dd),a01 _,k.gi (a02 (λ_=>False) _),a00 _,?_,?_,a02 _ _,λp r b w=>let⟨q,_,h⟩:=a07 w;.inl ⟨q,b,h⟩⟩;.show HR K Y _ H (aQ leave O s).lb (aQ leave O s).g;rw[Uk,Ul];exact k.of T
        . refine xj (S:=λ_=>False) k.inv M (a02 _ _) (a01 _) (a00 _) (λp r b U W h3 h=>⟨?_,λh=>h⟩) (λs i b h=>ai) (λ_ _ _ h=>h) (λ_=>aP) ?_
          . obtain⟨q,q1,q2⟩:=a07 h;have kO:p.slot:=by rcases h3 with⟨t,rfl⟩|⟨t,j,rfl⟩<;>trivial
            obtain⟨rfl,q3⟩:=ajb kO q1;have:GC lv dd q=J q:=by unfold GC;cases lv<;>grind[um]
            grind[aI.of]
          . rcases s4 with⟨ts,Ag,rfl⟩|⟨_,rfl|rfl⟩;.refine a.vd ?_;simp_all[aI.of,GC,um]
            .exact a
            .exact a|cons u A=>
      have nN:0<(u::A).length:=aP;have m8:∀{r b},B pv=J (r,b)->(ow≠.no/\ow≠.any)->∀q b',B.of (uj lv) q≠J (r,b'):=by
        intro r b w gI q b' hq;obtain⟨q0,y1,y2⟩:=a07 hq;obtain rfl:=k.inj _ _ _ _ _ y2 w;rcases s4 with⟨ts,Ag,rfl⟩|⟨_,h|h⟩;.rw[Ag]at y1;have y1:qc ts q=J (.sl ts):=y1;cases q<;>simp only[qc]at y1;all_goals grind
        all_goals grind
      have wX:({aQ leave O s with sl:=cP (aQ leave O s).sl}:St).lb=O.lb/\({aQ leave O s with sl:=cP (aQ leave O s).sl}:St).g=O.g:=⟨Uk,Ul⟩;have N:HR K Y (B.of (uj lv)) H ({aQ leave O s with sl:=cP (aQ leave O s).sl}:St).lb ({aQ leave O s with sl:=cP (aQ leave O s).sl}:St).g:=ai;have Q:(l++u::A).length=l.length+(u::A).length:=gR;cases ow with
      |no=>grind|any=>grind|ty e1=>
        simp only at hr;rw[bQ]at hr;by_cases D:e1=e0;.simp only[D,dX,aR]at hr;subst D;cases hr;obtain⟨a,s3'⟩:=a;cases a with|ay _ _ _ id I E cells k1 k2 k3 k4 k5 k6=>
            obtain⟨root,Uo,i1,i2⟩:=k.dy _ _ _ k1;have iQ:gQ K Y l i.size I cells:=⟨k2,k3,k5,k6⟩;obtain⟨F,z2⟩:=iQ.append G L;have fresh:E=J l.length->eT P ak rec cf K Y B H st0 O st' tm o:=by
              intro qU;subst qU;refine fin (n:=.sl H.next 0 (l.length+(u::A).length) Z i.size) (f:=H.cT ((cells.drop I).take (l.length*i.size)++nc) .op e1) (λR X _ _ _=>?_) m rfl rfl (λ_ h=>.inl h) ?_;.grind[Ox]
              .rw[<-Q];exact alF (O:={aQ leave O s with sl:=cP (aQ leave O s).sl}) N s5 rfl h F ai oC
            rcases s3' with hd|⟨r,b,r1,r2⟩;.grind
            . obtain⟨qY,dJ,agX,c',qq,Ti,fl',t1,t2,t3,t4,_,t5⟩:=r2.ex;obtain⟨rfl,rfl,hl,rfl,rfl⟩:=AV.sl.inj t1;subst hl;rcases t5 with⟨rfl,t6,t7⟩|t5
              . rw[i1]at t2;obtain⟨rfl,rfl,rfl,_⟩:=cq.cells.inj (bE t2);refine fin (n:=.sl H.next 0 (l.length+(u::A).length) Z i.size) (f:=H.gV root (H.br root).1 C ((cells.drop I).take (l.length*i.size)++nc) e1) (λR X _ _ _=>?_) m rfl rfl (λ_ h=>by
                rcases vU h with h|⟨U,W⟩;.grind
                .subst U;exact .inr ⟨W,_,b,r1⟩) ?_;.grind[abo]
                .rw[<-Q];exact abf (x:=C) (O:={aQ leave O s with sl:=cP (aQ leave O s).sl}) N s5 rfl h i1 t4 t6 F ai (m8 r1 ⟨aP,aP⟩) (λh=>ai) ⟨_,b,r1⟩ oC
              grind
        grind|full e1=>
        simp only at hr;rw[bQ]at hr;by_cases D:e1=e0;.simp only[D,dX,aR]at hr;subst D;cases hr;obtain⟨a,qY,dJ,agX,qq,hA⟩:=a;cases a with|ay _ _ _ id I E cells k1 k2 k3 k4 k5 k6=>
            obtain⟨_,_,hl,qU,_⟩:=AV.sl.inj hA;have qU:E=J l.length:=ai;subst qU;obtain⟨root,Uo,i1,i2⟩:=k.dy _ _ _ k1;have iQ:gQ K Y l i.size I cells:=⟨k2,k3,k5,k6⟩;obtain⟨F,z2⟩:=iQ.append G L;refine fin (n:=.sl H.next 0 (l.length+(u::A).length) Z i.size) (f:=H.cT ((cells.drop I).take (l.length*i.size)++nc) .op e1) (λR X _ _ _=>?_) m rfl rfl (λ_ h=>.inl h) (tr ?_);.grind[Ox]
            .rw[<-Q];exact Ov (dst:=J dd) (O:={aQ leave O s with sl:=cP (aQ leave O s).sl}) N M h rfl F (.inl ⟨rfl,ai⟩)
        grind|ex e1=>
        simp only at hr;rw[bQ]at hr;by_cases D:e1=e0
        . simp only[D,dX,aR]at hr;subst D;cases hr;rcases a with⟨hd,_⟩|⟨r,r1,r2⟩;.grind
          . obtain⟨l',qq,id,I,E,cells,Uo,t1,t2,t3,t4,t5,t6,t7,t8⟩:=r2.ex;obtain⟨rfl,_,rfl⟩:=DV.ay.inj t1;subst t2;obtain⟨F,z2⟩:=t7.append G L;rcases t8 with⟨rfl,_,t9⟩|rfl
            . refine fin (n:=.sl H.next 0 (l.length+(u::A).length) Z i.size) (f:=H.gV r (H.br r).1 C ((cells.drop I).take (l.length*i.size)++nc) e1) (λR X _ _ _=>?_) m rfl rfl (λ_ h=>by
                rcases vU h with h|⟨U,W⟩;.grind
                .subst U;exact .inr ⟨W,_,V,r1⟩) ?_;.grind[abo]
              .rw[<-Q];exact abf (x:=V) (O:={aQ leave O s with sl:=cP (aQ leave O s).sl}) N s5 rfl h t3 t5 t6 F aU (m8 r1 ⟨aP,aP⟩) (λ_ j y hj=>k.clean _ _ _ _ r1 hj) ⟨_,V,r1⟩ oC
            . refine fin (n:=.sl H.next 0 (l.length+(u::A).length) Z i.size) (f:=H.cT ((cells.drop I).take (l.length*i.size)++nc) .op e1) (λR X _ _ _=>?_) m rfl rfl (λ_ h=>.inl h) (tr ?_);.grind[Ox]
              .rw[<-Q];exact Ov (dst:=J dd) (O:={aQ leave O s with sl:=cP (aQ leave O s).sl}) N M h rfl F (.inl ⟨rfl,aU⟩)
        grind
     grind
   grind|_=>simp at hr
 grind
theorem amf(g:dB P K Y aq)(f:HR K Y B H O.lb O.g)(l:cg K Y B H tm O.sl){c:Call}(b:o.op=.call c)(a:c.callee=.builtin .append)(k:c.args.toList=[s,x])(h:dF P aq fk gs cr later O o=J st'):eT P ak rec cf K Y B H st0 O st' tm o:=by
 unfold dF at h;rw[b]at h;simp only[a,k]at h;split at h
 . rename_i elem e2 p m;split at h;.rename_i i z d ow v hi e F j;exact aby g f l b a k p aU hi e F j h
   grind
 . rename_i elem p m;split at h;.rename_i i z d ow v hi e F j;exact aby g f l b a k p (.inr m) hi e F j h
   grind
 grind
end
section
variable{P:aH}{ak:ct}{rec:Rec}{cf:bV}{K K':aY}{Y A:cu}{B ω':aI}{H H':Heap}{S:Nat->Prop}
variable{aq:Nat->ah ao}{gs cr:aE}{fk:bY->Nat}{later:List aB}{st0 O st':St}{tm:Tr AV}{o:aB}
theorem aLR{i:Nat}(g:H.get i=J (.cells m r fl e))(w:fl.wr=V)(h:(H.br r).1<=i)(a:(H.br r).2=i)(b:I+vs.length<=m.length):H.store i I vs=J (H.dM i r (.cells (fZ m I vs) r fl e)):=by simp_all[dZ,Heap.store,dp]
theorem atC{x:Loc}{b:LB}{i:Nat}{d:ao}(a:HR K Y B H O.lb O.g)(g:O.at x=J b)(o:B x.top=J (i,V))(S:pF K Y B H x.pk b i)(A:bF K Y d vs)(R:∀y,y∈d->y.aV=V)(kf:I+d.length<=b.cells.length):∃H',H.store i I vs=J H'/\bU (λr=>r=i) H H'/\H'.bA=H.bA/\H'.cL=H.cL/\H'.bX=Heap.note H.bA i H.bX/\HR K Y (B.of (qd x I d.length Z)) H' (O.setAt x {cells:=lj b.cells I d,own:=dg b.own I d.length}).lb (O.setAt x {cells:=lj b.cells I d,own:=dg b.own I d.length}).g:=by
 obtain⟨m,fl,e,f,w,G,z,h5,M⟩:=S;have qX:=A.1.symm;generalize N:d.length=n at*;refine⟨_,aLR f w.1 G z ab,yH f,Cu ..,yj ..,xy ..,?_⟩;obtain⟨U,X,q3,q4,q5⟩:=Rs (m':=fZ m I vs) (fl':=fl) (e':=e) a o f z (nQ (x:=x) (I:=I) (n:=n) (lv:=Z));have Vc:∀(y:Loc)(j:Nat)(t:Nat),y.pk j≠.sl t/\∀k,y.pk j≠.tp t k:=λy j t=>⟨λe=>a47 y j (e▸trivial),λk e=>a47 y j (e▸trivial)⟩;have q:=yH (m':=fZ m I vs) (fl':=fl) (e':=e) f;have L:∀p r b,B p=J _->p≠x.top->¬r=i:=λp r b h F e=>by subst e;exact F (a.inj _ _ _ _ _ h o)
 refine HR.Gy a g o (a01 _) q U (GM a.hQ f) X q3 q4 q5 (λs=>?_) (λid=>?_) ?_ ai ?_;.unfold aI.of;rw[xl (λj _ _=>(a54 x j s).symm) aP];rfl
 .unfold aI.of;rw[xl (λj _ _=>(Loc.MW x j id).symm) aP];rfl
 . intro y c d1 l o1 Q P;refine P.keep a.inv q (a01 _) (a00 _) λr b g=>⟨?_,L _ r b g ?_⟩;.unfold aI.of;rw[xl (λj _ _ e=>Q (a55 e).1) ai];grind
   .cases x<;>cases y<;>simp[Loc.pk,Loc.top]
 . refine⟨_,fl,e,oq _ _ _ _,w.drop _ _,by grind[EL],by grind[EL],?_,λc d1 l u v=>?_⟩;.grind[NH,yT]
   . have u0:=u;rw[NH,yS _ _ _ ab,N]at u;rw[yS _ _ _ ab,qX]at v;by_cases D:I<=c/\c<I+n;.rw[if_pos D]at u v;have tN:=R d1 ai;refine⟨tN,?_⟩;have W:=A.2 _ d1 l u v;unfold eB;rw[u0];have E:=VW b.own D.1 D.2;simp only[E];cases d1<;>first|exact W|(cases W;exact⟨rfl,rfl⟩)
     . rw[if_neg D]at u v;obtain⟨k1,k2⟩:=M _ d1 l u v;refine⟨k1,?_⟩;have T:eB {cells:=lj b.cells I d,own:=dg b.own I n} c=eB b c:=by grind[eB,ahd]
       rw[T];refine k2.keep a.inv q (a01 _) (a00 _) λr b g=>⟨?_,L _ r b g (by cases x<;>simp[Loc.pk,Loc.top])⟩;unfold aI.of;rw[xl (λj j1 j2 e=>by grind[Loc.Cd]) ai];grind
theorem aIC{c:aJ}(a:bF K Y z.flat c):∀n:Nat,bF K Y ((mr n z).flatMap DV.flat) (jW n c):=λn=>by induction n with|zero=>exact a09|succ n i=>grind[bF,jW,lz]
theorem aos(hg:dB P K Y cf.aq)(d:HR K Y B H O.lb O.g)(D:cg K Y B H tm O.sl){c:Call}(m:o.op=.call c)(l:c.callee=.builtin .clear)(W:c.args.toList=[x])(h:dF P cf.aq fk gs cr later O o=J st'):eT P ak rec cf K Y B H O O st' tm o:=by
 have F:kindOf cf O o.op=.wr:=by rw[m];cases c;obtain rfl:=l;rfl
 unfold dF at h;rw[m]at h;simp only[l,W]at h;split at h
 . rename_i elem L;obtain⟨v,hv,h⟩:=aF h;obtain⟨a,a1,_,Q⟩:=oH (P:=P) hg d D hv;have G:cB (AM.bJ P tm) c.args.toList=J [a]:=by rw[W];show((AM.bJ P tm x).bind λb=>(J []:ah aJ).bind λt=>J (b::t))=_;simp_all
   cases v with|nl=>cases Q;obtain⟨f1,f2,f3,_⟩:=nU h;refine⟨fD,H,?_,f1,CN d D h,f2,f3,a43 _ _ _⟩;unfold fF;rw[C5 (v:=fD) (H':=H) m l ⟨aP,aP⟩ G (by simp[iC,L])];rfl|cY id I n e esz=>
     simp only at h;split at h;.rename_i b z R hz;cases A:(bz (I+n*esz) b.cells.length&&aw z.flat.length esz)with|false=>rw[A]at h;simp at h|true=>rw[A]at h;simp only[aR]at h;simp only[gD,bQ,dp,jB]at A;obtain⟨M,N⟩:=A;cases Q with|cY _ _ _ _ _ i cc hi qU=>
      obtain⟨zc,z1,z2,z3⟩:=N8 K Y hz;have lM:zc.length=esz:=by rw[<-z2.1];omega
      have X:O.at (.g id)=J b:=by show(match O.g.get id with|some (.box b)=>J b|_=>Z)=J b;rw[R]
      obtain⟨U,E,i2,i3⟩:=d.at X;have LF:U=i:=by have:=i3 id rfl;rw[hi]at this;exact(bE this).symm
      subst LF;have ou:((mr n z).flatMap DV.flat).length=n*esz:=by rw[List.length_flatMap];simp[N]
      have f:bF K Y ((mr n z).flatMap DV.flat) (jW n zc)/\∀y,y∈(mr n z).flatMap DV.flat->y.aV=V:=by
       refine⟨?_,λy hy=>?_⟩;.exact aIC z2 n
       .obtain⟨w,w1,w2⟩:=List.mem_flatMap.1 hy;exact z3 y ((List.mem_replicate.1 w1).2▸w2)
      obtain⟨H',g1,g2,g3,g4,g5,g6⟩:=atC (x:=.g id) (I:=I) d X E i2 f.1 f.2 ab;rw[ou]at g6;obtain⟨f1,f2,f3,f4,f5⟩:=nU h;have cI:∀p r b,p.slot->B p=J (r,b)->¬r=U:=λp r b u h e=>by subst e;have:=d.inj _ _ _ _ _ h E;subst this;exact u.elim
      cases T:aw n 0 with|true=>
       rw[bQ]at T;have T:=ue T;subst T;have Io:({cells:=lj b.cells I ((mr 0 z).flatMap DV.flat),own:=dg b.own I (0*esz)}:LB)=b:=by
        have e1:lj b.cells I ((mr 0 z).flatMap DV.flat)=b.cells:=by simp[lj]
        have e2:dg b.own I (0*esz)=b.own:=by unfold dg;rw[List.filter_eq_self];intro y _;rw[eP,dp];simp;omega
        rw[e1,e2]
       rw[Io]at h;have zZ:HR K Y B H O.lb (O.g.set id (.box b)):=by
        have same:∀k,(O.g.set id (.box b)).get k=O.g.get k:=λk=>by
         show look (put O.g.kj id (.box b)) k=look O.g.kj k;rw[me];by_cases e:k=id;.subst e;rw[if_pos rfl];exact R.symm
         .rw[if_neg e]
        exact⟨d.inv,d.dy,d.inj,d.clean,d.cF,d.box,λk ob F=>d.jm k ob (by rw[<-same k];exact F),d.mZ,d.hQ⟩
       refine⟨fD,H,?_,f1,?_,f2,f3,a43 _ _ _⟩;.unfold fF;rw[C5 (v:=fD) (H':=H) m l ⟨aP,aP⟩ G (by simp[iC,L,bQ])];rfl
       .refine CN (O:={O with sl:=cP O.sl,g:=O.g.set id (.box b)}) zZ ?_ h;exact xk (S:=λ_=>False) d.inv D (a02 _ _) (a01 _) (a00 _) (λ_ _ _ _ h=>⟨h,λh=>h⟩) (λ_ _ _ h=>h)|false=>
       have jc:cg K Y (B.of (qd (.g id) I (n*esz) Z)) H' tm (cP O.sl):=by refine xk d.inv D g2 (a01 _) (a00 _) (λp r b u h=>⟨by unfold aI.of;rw[xl (λj _ _ e=>a47 (.g id) j (e▸u)) aP];exact h,cI p r b u h⟩) (λs j b h=>?_);.obtain⟨q,M,N⟩:=a07 h;rw[xl (λj _ _=>(a54 (.g id) j s).symm) aP]at M;cases M;exact N
       refine⟨fD,H',?_,f1,?_,f2,f3,VV g3 g4 g5 ⟨_,_,E⟩ F⟩;.unfold fF;rw[C5 (v:=fD) (H':=H') m l ⟨aP,aP⟩ G (by simp[iC,L,T,z1,dZ,lM,bQ,g1])];rfl
       .refine a19 (ω1:=B.of (qd (.g id) I (n*esz) Z)) d.inv (a01 _) (d.gi g2) (a00 _) (g2.xx d.inv λr _ e=>⟨_,_,e▸E⟩) (λp r b h=>let⟨q,_,h⟩:=a07 h;.inl ⟨q,b,h⟩) ?_;exact CN (O:={O with sl:=cP O.sl,g:=O.g.set id _}) g6 jc h
     .simp at h|_=>simp at h
 .simp at h
end
section
variable{P:aH}{ak:ct}{rec:Rec}{cf:bV}{K K' K1:aY}{Y A:cu}{B ω' ω0:aI}{H H':Heap}{S:Nat->Prop}
variable{gs cr:aE}{fk:bY->Nat}{later:List aB}{st0 O st':St}{tm:Tr AV}{o:aB}{aq:Nat->ah ao}
theorem Nz(t:Tr AV):∀(l:List aK)(K:aY)(B:aI)(O:St),HR K Y B H O.lb O.g->cg K Y B H t O.sl->∃K' ω',oR B H K K'/\HR K' Y ω' H (l.foldl (aQ share) O).lb (l.foldl (aQ share) O).g/\cg K' Y ω' H t (l.foldl (aQ share) O).sl/\(∀q r b,ω' q=J (r,b)->∃a,B q=J (r,a))/\(∀x,x∈l->jP (l.foldl (aQ share) O) x)/\(l.foldl (aQ share) O).n=O.n/\(l.foldl (aQ share) O).fn=O.fn/\∀y,jP O y->jP (l.foldl (aQ share) O) y:=by intro l;induction l with|nil=>grind[oR.refl]|cons x l D=>
 intro K B O w A;obtain⟨K1,c,e,i,k,m,E,F,G,n⟩:=Z' w A x;obtain⟨g,d,f,o,s,I,L,M,N,u⟩:=D K1 c _ i k;refine⟨g,d,⟨e.1.trans f.1,λj x z=>?_⟩,o,s,λq r b h=>?_,λy P=>?_,ai,ai,λy h=>u y (n y h)⟩
 . rcases f.2 j x z with h|⟨p,b,h⟩;.exact e.2 j x h
   .obtain⟨a,v⟩:=m p _ b h;exact .inr ⟨p,a,v⟩
 all_goals grind
theorem eT.of(l:HR K Y B H st0.lb st0.g)(i:oR B H K K1)(n:HR K1 Y ω' H O.lb O.g)(c:∀q r b,ω' q=J (r,b)->∃a,B q=J (r,a))(x:O.n=st0.n)(w:O.fn=st0.fn)(h:eT P ak rec cf K1 Y ω' H st0 O st' tm o):eT P ak rec cf K Y B H st0 st0 st' tm o:=by obtain⟨v,H',j,s,k,t,u,e⟩:=h;exact⟨v,H',j,λd hd=>ai,a19 l.inv i.1 (i.gi n) (a00 _) (a02 _ _) (λp r b m=>let⟨a,h⟩:=c p r b m;.inl ⟨p,a,h⟩) k,ab,ai,⟨e.bA,e.wl,e.gl,λr hr=>(e.wall r hr).imp_right λ⟨h,p,b,g⟩=>let⟨a,f⟩:=c p r b g;⟨h,p,a,f⟩,λr hr=>(e.aeM r hr).imp_right λ⟨h,p,b,g⟩=>let⟨a,f⟩:=c p r b g;⟨h,p,a,f⟩⟩⟩
theorem aFV(M:dB P K Y cf.aq)(w:HR K Y B H O.lb O.g)(N:cg K Y B H tm O.sl)(h:dF P cf.aq fk gs cr later ((handsOn o.op).foldl (aQ share) O) o=J st'):eT P ak rec cf K Y B H O O st' tm o:=by obtain⟨K1,n,v,a,j,z,A,E,F,_⟩:=Nz tm (handsOn o.op) K B O w N;have L:=M.mono v.1 (a00 Y);have up:eT P ak rec cf K1 Y n H O ((handsOn o.op).foldl (aQ share) O) st' tm o->eT P ak rec cf K Y B H O O st' tm o:=λh=>eT.of w v a z E F h;cases d:o.op with
 |move x=>grind[aCw]|assign x=>grind[amt]|pick c x y=>grind[aGX,handsOn,eO]|alloc e=>grind[alV]|box e x=>grind[anh,handsOn,eO]|build t parts=>grind[anr,handsOn,eO]|buildSlice t len parts=>grind[anq,handsOn,eO]|load t x=>grind[aBB]|store t x y=>grind[handsOn,aLY]|nilCheck x=>grind[aC3]|binOp op t x y u=>grind[amY]|unOp op t x=>grind[aNd]|convert s t x=>grind[aoQ]|makeFunc f first p=>cases f with|func f=>exact up (auW L a j d (λx m=>A x (by rw[d]at m|-;exact m)) h)|_=>simp_all[dF]
 |makeSlice t l c=>exact up (aB3 L a j d h)|makeMap t r=>
  rcases r with _|r;.grind[aB2]
  simp_all[dF]|slice t x lo hi mx=>grind[aKN,handsOn,eO]|fieldAddr s x f=>grind[atw]|indexAddr t x y=>grind[ayE]|index t x y=>grind[ayG]|lookup t x k ok=>grind[aBN]|mapUpdate t x k y=>grind[aB8,handsOn,eO]|extract x i=>grind[atk]|call c=>have g:=h;unfold dF at g;rw[d]at g;have I:=g;clear I;cases D:c.callee with
  |builtin G=>cases G with
   |clear=>
   simp only[D]at g;split at g;.rename_i x m;exact up (eT.of (st0:=_) a (a36 _ _ _) a (λ_ _ b h=>⟨b,h⟩) rfl rfl (aos L a j d D m h)|>λq=>q)
   .simp at g|min=>exact up (aCi L a j d D h)|max=>exact up (aCd L a j d D h)|_=>grind[aBc,amf]
  |_=>grind
 |_=>unfold dF at h;rw[d]at h;simp at h
end
def qK(b:aI)(H a:Heap):Prop:=a.bA=H.bA/\(∀r,r∈a.bX->r∈H.bX\/(r<H.bA/\dO b r))/\∀r,r∈a.cL->r∈H.cL\/(r<H.bA/\dO b r)
structure Nx(K:aY)(Y:cu)(B:aI)(H:Heap)(K':aY)(A:cu)(ω':aI)(H':Heap):Prop where
 ext:bo K K'
 dy:tA B H H' K K'
 np:aX Y A
 keep:bU (dO B) H H'
 lZ:∀p r b,ω' p=J (r,b)->dO B r\/H.next<=r
 log:qK B H H'
section
variable{P:aH}{ak:ct}{rec:Rec}{cf:bV}{K K' K1 K2:aY}{Y A φ1 φ2:cu}{B ω' ω0 ω1 ω2:aI}{H H' H1 H2:Heap}{S:Nat->Prop}{lb:ew}{g:GH}{O st' st0:St}{tm:Tr AV}{o:aB}
theorem qK.refl(a:aI)(H:Heap):qK a H H:=⟨rfl,λ_ h=>.inl h,λ_ h=>.inl h⟩
def a35:=@qK.refl
theorem qK.trans(i:bg H)(a:qK B H H1)(d:∀p r b,ω1 p=J (r,b)->dO B r\/H.next<=r)(b:qK ω1 H1 H2):qK B H H2:=by
 have t:=i.bA;have g:∀r,r<H1.bA/\dO ω1 r->r<H.bA/\dO B r:=by
   rintro r⟨e,p,c,f⟩;rw[a.1]at e;rcases d p r c f with h|h;.exact⟨e,h⟩
   .omega
 refine⟨b.1.trans a.1,λr hr=>?_,λr hr=>?_⟩
 . rcases b.2.1 r hr with h|h;.exact a.2.1 r h
   .exact .inr (g r h)
 . rcases b.2.2 r hr with h|h;.exact a.2.2 r h
   .exact .inr (g r h)
theorem Nx.refl(a:HR K Y B H lb g):Nx K Y B H K Y B H:=⟨a01 _,a.gi (a02 (λ_=>False) _),a00 _,a02 _ _,λp r b h=>.inl ⟨p,b,h⟩,a35 _ _⟩
def a45:=@Nx.refl
theorem tA.trans(a:tA B H H1 K K1)(g:∀p r b,ω1 p=J (r,b)->dO B r\/H.next<=r)(y:H.next<=H1.next)(k:bU S H1 H2)(b:tA ω1 H1 H2 K1 K2):tA B H H2 K K2:=λj x f=>by
 obtain⟨d,h⟩:=b j x f;refine⟨d,?_⟩;rcases h with h|⟨p,c,h⟩|h;.obtain⟨e,i⟩:=a j x h;rw[k.root j e];omega
 all_goals grind
theorem Nx.trans(i:bg H)(a:Nx K Y B H K1 φ1 ω1 H1)(b:Nx K1 φ1 ω1 H1 K2 φ2 ω2 H2):Nx K Y B H K2 φ2 ω2 H2 where
 ext:=a.ext.trans b.ext
 dy:=a.dy.trans a.lZ a.keep.next b.keep b.dy
 np:=a.np.trans b.np
 keep:=a.keep.trans i a.lZ b.keep
 lZ:=λp r c h=>by
  rcases b.lZ p r c h with⟨q,d,h⟩|h;.exact a.lZ _ _ _ h
  .exact .inr (gj a.keep.next h)
 log:=a.log.trans i a.lZ b.log
structure Ok(K:aY)(Y:cu)(B:aI)(H:Heap)(O:St)(tm:Tr AV):Prop where
 hr:HR K Y B H O.lb O.g
 sl:cg K Y B H tm O.sl
theorem eT.nx(h:eT P ak rec cf K Y B H st0 O st' tm o):∃v H' K' A ω',fF P ak rec tm H o=J (.val v H')/\(∀d,o.dst=J d->d<O.n)/\Nx K Y B H K' A ω' H'/\Ok K' A ω' H' st' (gX tm o.dst v)/\st'.n=O.n/\st'.fn=O.fn/\uv B (kindOf cf st0 o.op) (isApp o.op) H H':=by obtain⟨v,H',k,l,⟨K',A,ω',b,c,e,f,g,i,j⟩,m,n,a⟩:=h;exact⟨v,H',K',A,_,k,l,⟨b,c,e,i,j,a.bA,a.wall,a.aeM⟩,⟨f,g⟩,m,n,a⟩
theorem fR.nx{tm':Tr AV}(h:fR K Y B H st' tm' H')(l:qK B H H'):∃K' A ω',Nx K Y B H K' A ω' H'/\Ok K' A ω' H' st' tm':=by obtain⟨K',A,ω',a,b,c,d,e,f,g⟩:=h;exact⟨K',A,_,⟨a,b,c,f,g,l⟩,⟨d,e⟩⟩
theorem DM:∀{l:ao}{i:Nat}{d:DV},cj l=V->l[i]?=J d->d.pure=V:=by intro l;induction l<;>grind[cj]
theorem u4{d x:DV}(h:d.pure=V)(a:d.flat[j]?=J x):x.pure=V:=by cases d with|agg l=>exact DM (l:=l) (by grind[DV.pure]) a|_=>
 rcases j with _|j;.cases a;exact h
 simp[DV.flat]at a
theorem DR.pure{d:DV}(h:DR K Y d a)(p:d.pure=V):DR K A d a:=by induction h with|bool b=>exact .bool b|int k n=>exact .int k n|str s=>exact .str s|nl=>exact .nl|ay l e esz id I c cells h w u v z _ q=>refine .ay l e _ id _ c _ h w u v z λi x j d a o g t=>q i x j d a o g t ?_;grind[u4,DM,DV.pure]|ptr id I i h=>grind[DV.pure]|eS=>exact .eS|map r i h=>grind[DV.pure]|fY=>exact .fY|func f l1 l2 F G o g _ _ D E=>simp only[DV.pure,gD]at p;exact .func f l1 l2 F G o g (λi d a x y=>D i d a x y (DM p.1 x)) (λi d a x y=>E i d a x y (DM p.2 x))|eu l i h=>grind[DV.pure]|cY=>grind[DV.pure]|nilFunc=>exact .nilFunc|agg l m h B _ q=>exact .agg l m h B λi d a x y=>q i d a x y (DM (by grind[DV.pure]) x)|jk a h g=>grind[DV.pure]
theorem cQ.pure{d:DV}(h:cQ K Y B H p d a ow)(g:d.pure=V):cQ K A B H p d a ow:=by cases ow with|no=>exact DR.pure h g|any=>exact h|full e=>exact⟨DR.pure h.1 g,h.2⟩|ty e=>exact⟨DR.pure h.1 g,h.2⟩|ex e=>refine Or.imp_right ?_ h;rintro⟨r,b,f⟩;obtain⟨l,esz,id,I,c,cells,fl,rfl,g2,g3,g4,g5,g6,g7,g8⟩:=f.ex;refine⟨r,b,⟨l,_,id,_,c,_,fl,rfl,g2,g3,g4,g5,g6,⟨g7.1,g7.2.1,g7.2.2.1,λi x j d a b f k=>(g7.2.2.2 i x j d a b f k).pure ?_⟩,g8⟩⟩;exact u4 (DM (by simpa[DV.pure]using g) b) f
theorem aG0:∀{l:ao}{i:Nat}{d:DV},MX l=V->l[i]?=J d->d.plain=V:=by intro l;induction l<;>grind[MX]
theorem DR.plain{d:DV}(h:DR K Y d a)(p:d.plain=V):DR K' A d a:=by induction h with|bool b=>exact .bool b|int k n=>exact .int k n|str s=>exact .str s|nl=>exact .nl|eS=>exact .eS|fY=>exact .fY|nilFunc=>exact .nilFunc|agg l m h c _ e=>exact .agg l m h c λi d a x y=>e i d a x y (aG0 (by grind[DV.plain]) x)|_=>grind[DV.plain]
def a60:=@DR.plain
theorem cQ.plain{d:DV}(h:cQ K Y B H p d a ow)(b:d.plain=V):DR K' A d a:=by cases ow with|no=>exact a60 h b|any=>obtain⟨rfl,rfl⟩:=h;exact .nl|full e=>exact a60 h.1 b|ty e=>exact a60 h.1 b|ex e=>
 rcases h with⟨rfl,rfl⟩|⟨r,g,f⟩;.exact .nl
 .obtain⟨l,esz,id,I,c,cells,fl,rfl,_⟩:=f.ex;grind[DV.plain]
theorem HR.frame(a:HR K Y B H lb g)(k:bU S H H')(n:bg H')(u:pN H')(P:∀p r b,B p=J (r,b)->¬S r)(U:∀id x,K id=J x->¬S (rootOf H id)):HR K Y B H' lb g where
 inv:=n
 dy:=λid cells e h=>by
  obtain⟨r,fl,d,f⟩:=a.dy id cells e h;have hid:=a.inv.get _ _ d;have hr:=U id _ h;have q:=hr;rw[lS d]at q;have F:r<H.next:=by have:=(a.inv.root _ _ _ _ _ d).1;omega
  exact⟨r,fl,by rw[k.get id hid hr];exact d,by rw[k.dz r F q];exact f⟩
 inj:=a.inj
 clean:=λp r id x o j=>by obtain⟨cells,e⟩:=x;obtain⟨w,fl,d,_⟩:=a.dy id cells e j;rw[k.root id (a.inv.get _ _ d)];exact a.clean p r id _ o j
 cF:=λp r b h=>gE (a.cF p r b h) k.next
 box:=λs b m=>by obtain⟨i,d,f⟩:=a.box s b m;exact⟨i,d,f.keep a.inv k (a01 _) (a00 _) (P _ _ _ d) λI r c x=>⟨x,P _ _ _ x⟩⟩
 jm:=λid v t=>by obtain⟨i,d,f,l⟩:=a.jm id v t;exact⟨i,d,f,l.keep a.inv k (a01 _) (a00 _) (P _ _ _ f) λI r c x=>⟨x,P _ _ _ x⟩⟩
 mZ:=a.mZ
 hQ:=u
structure ka(H H':Heap):Prop where
 tr:H'.tr=H.tr
 dz:H'.dz=H.dz
 next:H'.next=H.next
theorem ka.get(s:ka H H')(i:Nat):H'.get i=H.get i:=by unfold Heap.get;rw[s.tr]
theorem ka.br(s:ka H H')(r:Nat):H'.br r=H.br r:=by unfold Heap.br;rw[s.dz]
theorem ka.rootOf(s:ka H H')(i:Nat):rootOf H' i=rootOf H i:=by unfold AM.rootOf;rw[s.get]
theorem ka.keep(s:ka H H')(S:Nat->Prop):bU S H H':=⟨by rw[s.next];omega,λid _ _=>s.get id,λr _ _=>s.br r,λid _=>s.rootOf id⟩
def ka.symm(s:ka H H'):ka H' H:=⟨s.tr.symm,s.dz.symm,s.next.symm⟩
def ka.trans(s:ka H H1)(t:ka H1 H2):ka H H2:=⟨t.tr.trans s.tr,t.dz.trans s.dz,t.next.trans s.next⟩
theorem ka.hinv(s:ka H H')(i:bg H)(t:H'.bA<=H'.next):bg H':=by
 refine⟨λid o h=>?_,λid l r fl e h=>?_,λid l r fl e h=>?_,λr f h=>?_,t⟩;.rw[s.get]at h;rw[s.next];exact i.get id o h
 .rw[s.get]at h;rw[s.br];exact i.root id l r fl e h
 .rw[s.get]at h;obtain⟨a,fl',e',b⟩:=i.oK id l r fl e h;exact⟨a,_,e',by rw[s.get];omega⟩
 .rw[s.dz]at h;rw[s.next];exact i.dz r f h
theorem ka.hQ(s:ka H H')(u:pN H):pN H':=λid l r fl e h=>by rw[s.get]at h;obtain⟨a,fl',b⟩:=u id l r fl e h;exact⟨a,_,by rw[s.get];omega⟩
theorem Ok.same(s:ka H H')(e:H'.bA<=H'.next)(h:Ok K Y B H O tm):Ok K Y B H' O tm where
 hr:=h.hr.frame (S:=λ_=>False) (s.keep _) (s.hinv h.hr.inv e) (s.hQ h.hr.hQ) (λ_ _ _ _=>id) (λ_ _ _=>id)
 sl:=λt sv l=>by obtain⟨a,b,c,d⟩:=h.sl t sv l;exact⟨a,b,c,d.keep (S:=λ_=>False) h.hr.inv (s.keep _) (a01 _) (a00 _) (λ_ _ _ _ h=>⟨h,id⟩) (λ_ _ _ _ _ h=>h) (λ_ _=>rfl) (λ_ _ _ _ _=>id)⟩
def rn(H:Heap):ka H H.fresh:=⟨rfl,rfl,rfl⟩
def aJF(H a:Heap):ka a (H.resume a):=⟨rfl,rfl,rfl⟩
end
section
variable{P:aH}{K K':aY}{Y A φ0:cu}{B ω' ω0 fN:aI}{H H':Heap}{lb:ew}{g g' g2:GH}{O st':St}{tm:Tr AV}
def bk(q:Nat->Bool)(d:ah Nat):Pk->Bool×Pk|.sl t=>if d=J t then(C,.sl 0)else(V,.sl t)|.tp t j=>if d=J t then(C,.tp 0 j)else(V,.tp t j)|.g id=>(q id,.g id)|.gc id I=>(q id,.gc id I)|p=>(V,p)
theorem am2{d:ah Nat}:∀a b,bk q d a=bk q d b->a=b:=by intro a b h;cases a<;>cases b<;>simp only[bk]at h<;>grind
def Kept(q:Nat->Bool)(p:Pk):Prop:=(∀id,p=.g id->q id=V)/\∀id I,p=.gc id I->q id=V
theorem am1{d:ah Nat}(h:(bk q d p).1=V):(bk q d p).2=p/\Kept q p:=by cases p<;>grind[bk,Kept]
def uD(q:Nat->Bool)(d:ah Nat)(a f:aI):aI:=λp=>bif(bk q d p).1 then a (bk q d p).2 else f (bk q d p).2
theorem HH{d:ah Nat}{b:Bool}(h:uD q d B fN p=J (r,b)):((bk q d p).1=V/\B p=J (r,b)/\Kept q p)\/((bk q d p).1=C/\fN (bk q d p).2=J (r,b)):=by grind[uD,am1]
structure xD(pn:Bool)(q:Nat->Bool)(K:aY)(Y:cu)(B:aI)(H:Heap)(lb:ew)(g:GH)(φ0:cu)(ω0:aI)(K':aY)(A:cu)(fN:aI)(H':Heap)(g' g2:GH):Prop where
 hh:HR K Y B H lb g
 nx:Nx K φ0 ω0 H K' A fN H'
 hc:HR K' A fN H' [] g'
 get:∀id,g2.get id=bif q id then g.get id else g'.get id
 fJ:∀id,g2.next<=id->(bif pn then g.next else g'.next)<=id
 np:pn=C->φ0=Y
 all:pn=V->∀id,q id=V
 ret:∀p r b,Kept q p->B p=J (r,b)->¬dO ω0 r
def cu.back(p:Bool)(a b:cu):cu:=bif p then a else b
theorem xD.ext(c:xD pn q K Y B H lb g φ0 ω0 K' A fN H' g' g2):aX Y (cu.back pn Y A):=by cases pn with|true=>exact a00 _|false=>have:=c.nx.np;rw[c.np rfl]at this;exact this
theorem xD.hr(c:xD pn q K Y B H lb g φ0 ω0 K' A fN H' g' g2)(d:ah Nat):HR K' (cu.back pn Y A) (uD q d B fN) H' lb g2:=by
 have X:=c.ext;obtain⟨f,nx,l,G,Q,E,F,M⟩:=c;have O:∀{r:Nat}{b:Bool}{p x:Pk}{u:Bool},B p=J (r,b)->Kept q p->fN x=J (r,u)->False:=by
   intro r b p x u j k a;rcases nx.lZ x r u a with h|h;.grind
   .have:=f.cF _ _ _ j;omega
 refine⟨l.inv,l.dy,?_,?_,?_,?_,?_,?_,l.hQ⟩
 . intro p x r b u j k;rcases HH j with⟨k1,a,z⟩|⟨k1,a⟩
   . rcases HH k with⟨k2,m,_⟩|⟨_,m⟩;.exact f.inj _ _ _ _ _ a m
     grind
   . rcases HH k with⟨_,m,L⟩|⟨k2,m⟩;.grind
     .exact am2 p x (Prod.ext ai (l.inj _ _ _ _ _ a m))
 . intro p r id x n w;rcases HH n with⟨_,a,z⟩|⟨_,a⟩
   . obtain⟨k1,k2⟩:=nx.dy id x w;have hr:=f.cF _ _ _ a;rcases k2 with k2|k2|k2;.obtain⟨cells,e⟩:=x;obtain⟨N,fl,g1,_⟩:=f.dy id _ e k2;rw[nx.keep.root id (f.inv.get _ _ g1)];exact f.clean p r id _ a k2
     all_goals grind
   .exact l.clean _ r id x a w
 . intro p r b n;rcases HH n with⟨_,a,_⟩|⟨_,a⟩;.exact gE (f.cF _ _ _ a) nx.keep.next
   .exact l.cF _ _ _ a
 .intro s b D;obtain⟨i,j,k⟩:=f.box s b D;refine⟨i,j,k.keep f.inv nx.keep nx.ext X (M _ _ _ (by simp[Kept]) j) λI r c x=>⟨x,M (.lc s _) r c (by simp[Kept]) x⟩⟩
 .intro id y t;rw[G]at t;have v:uD q d B fN (.g id)=bif q id then B (.g id)else fN (.g id):=rfl;have P:∀I,uD q d B fN (.gc id I)=bif q id then B (.gc id I)else fN (.gc id I):=λ_=>rfl;cases o:q id with|true=>rw[o]at t v P;obtain⟨i,j,k,a⟩:=f.jm id y t;exact⟨i,X _ _ j,by rw[v];exact k,a.keep f.inv nx.keep nx.ext X (M _ _ _ (by simp[Kept,o]) k) λI r c x=>⟨by rw[P];exact x,M (.gc id I) r c (by simp[Kept,o]) x⟩⟩|false=>
     rw[o]at t v P;obtain⟨i,j,k,a⟩:=l.jm id y t;have n:pn=C:=by cases pn with|false=>rfl|true=>have:=F rfl id;rw[o]at this;cases this
     subst n;exact⟨i,j,by rw[v];exact k,a.keep (S:=λ_=>False) l.inv (a02 _ _) (a01 _) (a00 _) (λh=>h) λI r c x=>⟨by rw[P];exact x,λh=>h⟩⟩
 .intro id hid;have:=Q id hid;cases pn with|true=>exact f.mZ id this|false=>exact l.mZ id this
def nq:Nat->Bool:=λ_=>C
def j9(K:aY)(b:cu)(c:aI)(H:Heap)(v:SV)(a:AV):Prop:=match v with|.dv d o=>cQ K b c H (.sl 0) d a o|.tp l=>∃m,a=.cO m/\l.length=m.length/\∀(j:Nat)(x:DV×aN)(y:AV),l[j]?=J x->m[j]?=J y->cQ K b c H (.tp 0 j) x.1 y x.2|_=>False
theorem j9.pure{v:SV}(h:j9 K Y B H v a)(p:v.pure=V):j9 K A B H v a:=by cases v with|dv d o=>exact cQ.pure h p|tp l=>obtain⟨m,c,e,f⟩:=h;refine⟨m,c,e,λj x y a b=>(f j x y a b).pure ?_⟩;exact A0.1 p x ai|_=>exact h.elim
theorem j9.rh{v:SV}(h:j9 K Y B H v a):a≠.top:=by cases v with|dv d o=>exact cQ.rh h|tp l=>obtain⟨m,b,_⟩:=h;grind|_=>exact h.elim
theorem xD.ok{v:SV}(c:xD pn q K Y B H O.lb O.g φ0 ω0 K' A fN H' g' g2)(o:cg K Y B H tm O.sl)(k:j9 K' A fN H' v a)(f:pn=V->v.pure=V)(h:aG {O with sl:=cP O.sl,g:=g2} dst v=J st'):Ok K' (cu.back pn Y A) (uD q dst B fN) H' st' (gX tm dst a):=by
 have t:j9 K' (cu.back pn Y A) fN H' v a:=by cases pn with|true=>exact k.pure (f rfl)|false=>exact k
 have n:=by
   refine xk c.hh.inv o c.nx.keep c.nx.ext c.ext (λp r b f h=>⟨?_,?_⟩) (λs i b h=>h);.cases p<;>first|exact h|exact f.elim
   .exact c.ret p r b ⟨λid e=>by subst e;exact f.elim,λid I e=>by subst e;exact f.elim⟩ h
 rcases yQ h with⟨rfl,rfl⟩|⟨d,rfl,_,_,rfl⟩;.exact⟨c.hr _,n⟩
 . refine⟨c.hr _,?_⟩;refine xj c.hc.inv n (a02 _ _) (a01 _) (a00 _) (λp r b u w z h=>⟨?_,id⟩) (λs i b h=>h) aU (λ_=>k.rh) ?_;.grind[uD,bk]
   .cases v with|dv x ow=>exact cQ.vd (by simp[uD,bk]) t|tp l=>obtain⟨m,k1,k2,k3⟩:=t;exact⟨m,k1,k2,λj x y a b=>(k3 j x y a b).vd (by simp[uD,bk])⟩|_=>exact t.elim
theorem xD.lZ{d:ah Nat}(c:xD pn q K Y B H lb g φ0 ω0 K' A fN H' g' g2)(f:∀p r b,B p=J (r,b)->dO ωo r)(e:∀r,dO ω0 r->dO ωo r):∀p r b,uD q d B fN p=J (r,b)->dO ωo r\/H.next<=r:=by
 intro p r b h;rcases HH h with⟨_,a,_⟩|⟨_,a⟩;.grind
 .exact(c.nx.lZ _ _ _ a).imp_left (e r)
theorem Nx.up{o:cu}{g:aY}{e:aI}{d:cu}(t:bg H)(n:Nx K φ0 ω0 H K' A fN H')(f:∀r,dO ω0 r->dO ωo r)(q:bo g K)(I:tA ωo H H g K)(i:aX o d)(s:∀p r b,e p=J (r,b)->dO ωo r\/H.next<=r):Nx g o ωo H K' d e H' where
 ext:=q.trans n.ext
 dy:=λj x u=>by
  obtain⟨k,c⟩:=n.dy j x u;refine⟨k,?_⟩;rcases c with c|c|c;.obtain⟨l,m⟩:=I j x c;rw[n.keep.root j l];exact m
  .exact .inr (.inl (f _ c))
  .exact .inr (.inr c)
 np:=i
 keep:=n.keep.xx t λr _ h=>f r h
 lZ:=s
 log:=⟨n.log.1,λr hr=>(n.log.2.1 r hr).imp_right λ⟨a,b⟩=>⟨a,f r b⟩,λr hr=>(n.log.2.2 r hr).imp_right λ⟨a,b⟩=>⟨a,f r b⟩⟩
end
section
variable{P:aH}{K K' K2:aY}{Y A φ0:cu}{B ω' ω0 fN:aI}{H H':Heap}{lb:ew}{g g':GH}{O st':St}{tm:Tr AV}
theorem FU:∀{l:ao}{i:Nat}{d:DV},js e l=V->l[i]?=J d->d.gY e=V:=by intro l;induction l<;>grind[js]
theorem Wd{d x:DV}(h:d.gY e=V)(a:d.flat[j]?=J x):x.gY e=V:=by cases d with|agg l=>exact FU (l:=l) (by grind[DV.gY]) a|_=>
 rcases j with _|j;.cases a;exact h
 simp[DV.flat]at a
theorem DR.gY{E:an->Prop}(K:∀id cells e,K' id=J (cells,e)->¬E e->K2 id=J (cells,e)){d:DV}(h:DR K' Y d a)(L:∀e,E e->d.gY e=V):DR K2 Y d a:=by induction h with
 |bool b=>exact .bool b|int k n=>exact .int k n|str s=>exact .str s|nl=>exact .nl|ay l e esz id I c cells h z u v A _ q=>
 have o:∀e',E e'->e≠e'/\js e' l=V:=λe' w=>by grind[DV.gY,bQ]
 refine .ay l e _ id _ c _ ai z u v A λi x j d a x1 x2 x3=>q i x j d a x1 x2 x3 λe' w=>?_;exact Wd (FU (o e' w).2 x1) x2|ptr id I i h=>exact .ptr id _ i h|eS=>exact .eS|map r i h=>exact .map r i h|fY=>exact .fY|func f l1 l2 G H o p _ _ D F=>
 have t:∀e',E e'->js e' l1=V/\js e' l2=V:=λe' w=>by grind[DV.gY]
 exact .func f l1 l2 G H o p (λi d a x y=>D i d a x y λe' w=>FU (t e' w).1 x) (λi d a x y=>F i d a x y λe' w=>FU (t e' w).2 x)|eu l i h=>exact .eu l i h|cY a b c d e i f h g=>exact .cY a b c d e i f h g|nilFunc=>exact .nilFunc|agg l m h B _ q=>exact .agg l m h B λi d a x y=>q i d a x y λe' w=>FU (by grind[DV.gY]) x|jk a h p=>exact .jk a h p
def Th(l:List (DV×aN))(j:Nat)(e:an):Prop:=∃d n,l[j]?=J (.ay d e n,.ty e)/\js e d=V/\∀k y,l[k]?=J y->k=j\/y.1.gY e=V
theorem akf{l:List (DV×aN)}{x:DV×aN}(i:l[j]?=J x):(xp l j x=x/\∀e,¬Th l j e)\/∃d e n,x=(.ay d e n,.ty e)/\xp l j x=(.ay d e n,.ex e)/\Th l j e:=by
 obtain⟨d,o⟩:=x;have no:(∀dd e n,d=.ay dd e n->o≠.ty e)->∀e,¬Th l j e:=by rintro h e⟨dd,n,f,_⟩;grind
 cases d with
 |ay d e n=>cases o with
  |ty e1=>unfold xp;simp only;cases c:(aw e e1&&(js e d&&l.zipIdx.all _))with|true=>simp only[gD,bQ,jB]at c;obtain⟨rfl,a,b⟩:=c;refine .inr ⟨d,e,n,rfl,rfl,d,n,i,a,λk y g=>?_⟩;have:=A0.1 b _ (bv.2 g);grind|false=>refine .inl ⟨rfl,?_⟩;rintro e'⟨dd,m,f,a,b⟩;grind[bQ]
  |_=>exact .inl ⟨rfl,aU⟩
 |_=>exact .inl ⟨by unfold xp;rfl,no λ_ _ _ e=>by simp at e⟩
open Classical in def aY.less(K a:aY)(E:an->Prop):aY:=λi=>match a i with|some (c,e)=>if K i=Z/\E e then Z else J (c,e)|none=>Z
open Classical in def JQ(l:List (DV×aN))(a:aI):aI:=λp=>match p with|.tp 0 j=>if∃e,Th l j e then(a (.tp 0 j)).map λx=>(x.1,V)else a (.tp 0 j)|p=>a p
theorem NO{l:List (DV×aN)}{b:Bool}(h:JQ l B p=J (r,b)):∃a,B p=J (r,a)/\(a=b\/∃j e,p=.tp 0 j/\Th l j e):=by
 unfold JQ at h;split at h
 . rename_i j;split at h;.cases o:B _<;>grind
   grind
 grind
theorem HR.bare(c:HR K' A fN H' [] g'):HR K' (λ_=>Z) fN H' [] .empty where
 inv:=c.inv
 dy:=c.dy
 inj:=c.inj
 clean:=c.clean
 cF:=c.cF
 box:=λs b h=>by simp[look]at h
 jm:=λid o h=>by simp[GH.get,GH.empty,look]at h
 mZ:=λ_ _=>rfl
 hQ:=c.hQ
theorem vr{th:Bool}{v:SV}(T:HR K Y B H lb g)(t:Nx K (λ_=>Z) ω0 H K' A fN H')(f:HR K' A fN H' [] g')(hv:j9 K' A fN H' v a)(U:v.pure=V)(S:th=V->∀r,¬dO ω0 r):∃K2 w,Nx K (λ_=>Z) ω0 H K2 (λ_=>Z) w H'/\HR K2 (λ_=>Z) w H' [] .empty/\j9 K2 (λ_=>Z) w H' (rz th v) a:=by have G:Nx K _ _ H K' (λ_=>Z) _ H':=⟨t.ext,t.dy,a00 _,t.keep,t.lZ,t.log⟩;have P:j9 K' (λ_=>Z) _ H' v a:=hv.pure U;cases v with
 |tp l=>
 rcases th with _|_;.exact⟨K',fN,G,f.bare,P⟩
 have S:=S rfl;let E:an->Prop:=λe=>∃j,Th l j e;have oC:∀i x,K.less K' E i=J x->K' i=J x/\(K i=Z->¬E x.2):=by
   intro i x h;unfold aY.less at h;split at h;.rename_i c e u;split at h<;>grind
   grind
 have z:∀id cells e,K' id=J (cells,e)->¬E e->K.less K' E id=J (cells,e):=by grind[aY.less]
 have kX:bo K (K.less K' E):=λid x h=>by obtain⟨c,e⟩:=x;unfold aY.less;rw[t.ext id _ h];grind
 have nd:=λp r b h=>(t.lZ p r b h).resolve_left (S r);obtain⟨m,rfl,m1,m2⟩:=P;refine⟨_,JQ l _,⟨kX,λj x hj=>t.dy j x (oC j x hj).1,a00 _,t.keep,λp r b h=>let⟨N,R,_⟩:=NO h;t.lZ p r N R,t.log⟩,?_,?_⟩
 . refine⟨f.inv,λid cells e h=>f.dy id cells e (oC _ _ h).1,λp q r b c D h2=>?_,λp r id x U hx=>?_,λp r b h=>let⟨N,R,_⟩:=NO h;f.cF p r N R,λs b h=>by grind[look],λid o h=>by grind[GH.get,GH.empty,look],λ_ _=>rfl,f.hQ⟩;.obtain⟨b1,k1,_⟩:=NO D;obtain⟨b2,k2,_⟩:=NO h2;exact f.inj _ _ _ _ _ k1 k2
   . obtain⟨lf,pg⟩:=oC id x hx;obtain⟨N,k1,k2⟩:=NO U;rcases k2 with rfl|⟨j,e,rfl,Q⟩;.exact f.clean p r id x k1 lf
     .intro hr;have Fe:=nd _ _ _ k1;obtain⟨cells,e'⟩:=x;obtain⟨root,fl,g1,_⟩:=f.dy id cells e' lf;rw[lS g1]at hr;subst hr;cases u:K id with|some y=>obtain⟨c2,e2⟩:=y;obtain⟨r2,yf,g2,_⟩:=T.dy id c2 e2 u;have bZ:=T.inv.get _ _ g2;have F:=t.keep.root id bZ;rw[lS g1,lS g2]at F;have:=(T.inv.root _ _ _ _ _ g2).1;omega|none=>
         obtain⟨d,n,hl,_,_⟩:=Q;obtain⟨y,X⟩:∃y,m[j]?=J y:=⟨m[j]'ai,dC _⟩;have W:=m2 j _ y hl X;rcases W.2 with h|⟨r3,b3,k3,k4⟩;.grind
         .have:r3=root:=ai;subst this;obtain⟨id3,_,_,_,_,_,_,_,t2,_⟩:=k4.ex;obtain⟨_,_,u1⟩:=f.hQ _ _ _ _ _ t2;obtain⟨_,_,u2⟩:=f.hQ _ _ _ _ _ g1;rw[u1]at u2;obtain⟨_,_,_,rfl⟩:=cq.cells.inj (bE u2);exact pg u ⟨j,d,n,hl,ab,ab⟩
 . refine⟨m,rfl,?_,λj x y hx X=>?_⟩;.simp_all
   . have Qi:∃x0,l[j]?=J x0/\x=xp l j x0:=by grind
     obtain⟨x0,L9,rfl⟩:=Qi;have W:=m2 j x0 y L9 X;rcases akf L9 with⟨D,h2⟩|⟨d,e,n,rfl,D,Q⟩
     . rw[D];have O:∀e,E e->x0.1.gY e=V:=by rintro e⟨k,u⟩;have hk0:=u;obtain⟨_,_,_,_,F⟩:=u;grind
       have kA:JQ l fN (.tp 0 j)=fN (.tp 0 j):=by grind[JQ]
       obtain⟨d,o⟩:=x0;cases o with|no=>exact DR.gY z W O|any=>exact W|ty e=>exact⟨DR.gY z W.1 O,W.2.imp_right λ⟨r,b,k1,k2⟩=>⟨r,b,ai,k2⟩⟩|full e=>exact⟨DR.gY z W.1 O,W.2⟩|ex e=>refine W.imp_right λ⟨r,k1,k2⟩=>⟨r,ai,?_⟩;obtain⟨l2,esz,id,I,c,cells,fl,rfl,t2,t3,t4,t5,t6,t7,t8⟩:=k2.ex;refine⟨l2,esz,id,I,c,cells,fl,rfl,t2,t3,t4,t5,t6,⟨t7.1,t7.2.1,t7.2.2.1,λi x k d a L M y3=>DR.gY z (t7.2.2.2 i x k d a L M y3) λe' wQ=>?_⟩,t8⟩;have:=O e' wQ;simp only[DV.gY,gD]at this;exact Wd (FU this.2 L) M
     . rw[D];obtain⟨gW,F⟩:=W;rcases F with F|⟨r,b,k1,k2⟩;.grind
       . refine .inr ⟨r,?_,?_⟩;.unfold JQ;simp only;rw[if_pos ⟨e,Q⟩,k1];rfl
         . obtain⟨id,I,len,c,esz,cells,fl,t1,t2,t3,t4,t5,t6⟩:=k2.ex;subst t1;have hE:∀e',E e'->js e' d=V:=by rintro e'⟨k,u⟩;obtain⟨d',n',h5,h6,h7⟩:=u;grind[DV.gY]
           cases gW with|ay _ _ _ _ _ _ Ti z1 z2 z3 z4 z5 z6=>obtain⟨_,_,g1,_⟩:=f.dy _ _ _ z1;rw[t2]at g1;obtain⟨rfl,_,_,_⟩:=cq.cells.inj (bE g1);exact⟨d,n,id,I,c,cells,fl,rfl,rfl,t2,t3,t4,t5,⟨z2,z3,z5,λi x k dd a L M y3=>DR.gY z (z6 i x k dd a L M y3) λe' wQ=>Wd (FU (hE e' wQ) L) M⟩,t6⟩
 |_=>exact⟨K',fN,G,f.bare,P⟩
end
def Ev(P:aH)(k:ct)(f:bY)(S:aJ)(H:Heap)(a:AV)(b:Heap):Prop:=k f S H=J (J (a,b))\/(k f S H=Z/\∃fr,wJ P f S=J fr/\∃n,AM.run P k n fr H=J (.ret a b))
def UV(P:aH)(k:ct)(i:Nat)(S:aJ)(H:Heap)(a:AV)(b:Heap):Prop:=∃fr,uU P k (.yield i) S H=J (.call fr H)/\∃n,AM.run P k n fr H=J (.ret a b)
def pE(K:aY)(b:cu)(c:aI)(H:Heap)(r:ao)(o:aN)(S:aJ):Prop:=r.length=S.length/\∀(i:Nat)(d:DV)(a:AV),r[i]?=J d->S[i]?=J a->cQ K b c H (.sl i) d a (if i=0 then o else .no)
def rE(P:aH)(k:ct)(j:bV)(r:dW):Prop:=∀f args ow g v l,r (.call f args ow g)=J (.val v l)->∀K e i H S,HR K e i H [] g->dB P K (λ_=>Z) j.aq->pE K e i H args ow S->∃a c d h b,Ev P k f S H a c/\(j.iW f args=Z->k f S H=Z)/\Nx K e i H d h b c/\HR d h b c [] l/\j9 d h b c v a
def wA(P:aH)(k:ct)(m:bV)(r:dW):Prop:=∀l args g v h,r (.eu l args g)=J (.val v h)->∀K d j H S i,HR K d j H [] g->dB P K (λ_=>Z) m.aq->bF K d args S->d l=J i->∃a c e f b,UV P k i S H a c/\Nx K d j H e f b c/\HR e f b c [] h/\j9 e f b c v a
section
variable{P:aH}{ak:ct}{rec:dW}{cf:bV}{K K' K1 K2:aY}{Y A φ0:cu}{B ω' ω0 fN ω1:aI}{H H':Heap}{lb:ew}{g g':GH}{O st' st2:St}{tm:Tr AV}
def lO(p:Bool):Pk->ah Pk|.g id=>bif p then Z else J (.g id)|.gc id I=>bif p then Z else J (.gc id I)|_=>Z
theorem MN{u:Bool}{q:Pk}(h:lO u p=J q):q=p/\u=C/\((∃id,p=.g id)\/∃id I,p=.gc id I):=by cases p<;>grind[lO]
def RV(p c:Bool)(g:GH):GH:=bif p then .empty else bif c then⟨g.next,[]⟩else g
def Nf(p c:Bool)(n:Nat):Nat->Bool:=bif p then(λ_=>V)else bif c then(λid=>cw id n)elseλ_=>C
theorem HR.callee(a:HR K Y B H lb g)(n l:Bool):HR K (bif n then(λ_=>Z)else Y) (B.of (lO l)) H [] (RV n l g):=by
 obtain⟨f,c3,j⟩:=Wt a (src:=lO _) (λp q y d e=>by grind[MN]);refine⟨a.inv,a.dy,f,c3,j,λs b h=>by grind[look],λid o h=>?_,λid hid=>?_,a.hQ⟩;.cases n with|true=>grind[GH.get,GH.empty,look,RV]|false=>cases l with|true=>grind[GH.get,look,RV]|false=>obtain⟨i,d,e,k⟩:=a.jm id o h;exact⟨i,d,e,k.keep a.inv (a02 _ _) (a01 _) (a00 _) (λh=>h) λI r c x=>⟨x,λh=>h⟩⟩
 .cases n with|true=>rfl|false=>cases l<;>exact a.mZ id hid
theorem ahb{a:Type}{m:List (Nat×a)}{i:Nat}:∀l:List (Nat×a),look (l++m) i=(look l i).or (look m i)|[]=>rfl|(k,x)::l=>by show(bif aw k i then J x else look (l++m) i)=(bif aw k i then J x else look l i).or (look m i);rw[ahb l];cases aw k i<;>rfl
theorem ahf{d:Type}{i n:Nat}(c:i<n):∀l:List (Nat×d),(l.all λx=>bz n x.1)=V->look l i=Z|[],_=>rfl|(k,x)::l,h=>by rw[pH,gD]at h;have a:=Of h.1;show(bif aw k i then J x else look l i)=Z;cases b:aw k i with|true=>have:=Nat.eq_of_beq_eq_true b;simp only at a;omega|false=>exact ahf c l h.2
theorem azm{a:GH}(h:FT g a=V)(c:∀i o,g.get i=J o->i<g.next)(i:Nat):(GH.mk a.next (a.kj++g.kj)).get i=bif cw i g.next then g.get i else a.get i:=by unfold FT at h;rw[gD]at h;show look (a.kj++g.kj) i=_;rw[ahb];cases b:cw i g.next with|true=>rw[ahf (Of b) _ h.2];rfl|false=>
 have n:g.get i=Z:=by cases d:g.get i with|none=>rfl|some o=>have:cw i g.next=V:=nB (c i o d);rw[b]at this;cases this
 have n:look g.kj i=Z:=n;rw[n];show(look a.kj i).or Z=look a.kj i;cases look a.kj i<;>rfl
theorem HR.aoo{b:Bool}(d:HR K Y B H lb g)(n:p.slot)(P:∀q b,B q≠J (r,b))(u:r<H.next)(A:b=V->∀j x,K j=J x->rootOf H j≠r):HR K Y (B.set p (J (r,b))) H lb g:=by
 have back:∀q a c,B.set p (J (r,b)) q=J (a,c)->(q=p/\a=r/\c=b)\/(q≠p/\B q=J (a,c)):=by grind[aI.nV,aI.lh]
 refine d.vd (a01 _) (λq f=>a16 _ _ λe=>f (e▸n)) d.dy ?_ ?_ ?_
 . intro q s a c i k l;rcases back q a c k with⟨rfl,rfl,_⟩|⟨_,m⟩;.grind
   . rcases back s a i l with⟨_,rfl,_⟩|⟨_,h⟩;.grind
     .exact d.inj _ _ _ _ _ m h
 . intro q a j x f o;rcases back q a _ f with⟨_,rfl,t⟩|⟨_,h⟩;.grind
   .exact d.clean q a j x h o
 . intro q a c f;rcases back q a c f with⟨_,rfl,_⟩|⟨_,h⟩;.omega
   .exact d.cF _ _ _ h
def aHy(h:bF K Y l m)(p:cj l=V):bF K A l m:=⟨h.1,λi d a x y=>(h.2 i d a x y).pure (DM p x)⟩
theorem acd(hC:rE P ak cf rec){f:bY}{s:ao}{S:aJ}{v:SV}{N:GH}{fa:ah (Nat×Bool)}(w:Ok K Y B H st2 tm)(hg:dB P K Y cf.aq)(di:dB P K (λ_=>Z) cf.aq)(X:jA cf rec f s ow st2.g (λv g=>J (v,g))=J (v,N))(jG:aG {st2 with sl:=cP st2.sl,g:=N} dst v=J st')(hfa:∀r b,fa=J (r,b)->(∀q c,B q≠J (r,c))/\r<H.next/\(b=V->∀j x,K j=J x->rootOf H j≠r))(sW:ow.yz=V->fa=Z)(kz:∀(ω0:aI),ω0 (.sl 0)=fa->pE K Y ω0 H s ow S)(Vf:∀p r b,B p=J (r,b)->dO ωo r)(uR:∀r b,fa=J (r,b)->dO ωo r):∃a H' K' A ω',Ev P ak f S H a H'/\(cf.iW f s=Z->ak f S H=Z)/\Ok K' A ω' H' st' (gX tm dst a)/\(∀(t:aY),bo t K->tA ωo H H t K->Nx t Y ωo H K' A ω' H')/\((cf.iz f||cf.oo f)=V->fa=Z->(∀r,r∈H'.bX->r∈H.bX)/\∀r,r∈H'.cL->r∈H.cL):=by
 generalize kA:(cf.iz f||cf.oo f)=cl;generalize P2:cf.iz f=pn;have Q:pn=V->cl=V:=by rintro rfl;rw[<-kA,P2];rfl
 have hb:=w.hr.callee pn cl;have Dg:∀q r b,(B.of (lO cl)) q=J (r,b)->B q=J (r,b)/\cl=C/\((∃id,q=.g id)\/∃id I,q=.gc id I):=by grind[aI.iI,MN]
 have h0u:∀q r b,((B.of (lO cl)).set (.sl 0) fa) q=J (r,b)->(q=.sl 0/\fa=J (r,b))\/(B q=J (r,b)/\cl=C/\((∃id,q=.g id)\/∃id I,q=.gc id I)):=by intro q r b h;by_cases e:q=.sl 0<;>grind[aI.nV,aI.lh]
 have h0:HR K (bif pn then(λ_=>Z)else Y) ((B.of (lO cl)).set (.sl 0) fa) H [] (RV pn cl st2.g):=by
  rcases fa with _|x
  . have:(B.of (lO cl)).set (.sl 0) Z=B.of (lO cl):=by
     funext q;by_cases e:q=.sl 0;.subst e;rfl
     grind[aI.lh]
    grind
  obtain⟨r,b⟩:=x;obtain⟨k1,k2,k3⟩:=hfa r b rfl;exact hb.aoo trivial (λq c h=>k1 q c (Dg q r c h).1) k2 k3
 have T:=kz ((B.of (lO cl)).set (.sl 0) fa) (a25 _ _ _);have BM:∀p r b,Kept (Nf pn cl st2.g.next) p->B p=J (r,b)->¬dO ((B.of (lO cl)).set (.sl 0) fa) r:=by
  rintro p r b hp h⟨q,c,U⟩;rcases h0u q r c U with⟨_,h1⟩|⟨h1,h2,h3⟩;.grind
  . have e:=w.hr.inj _ _ _ _ _ h h1;subst e;have O:pn=C:=by cases pn with|false=>rfl|true=>rw[Q rfl]at h2;cases h2
    subst h2 O;rcases h3 with⟨id,rfl⟩|⟨id,I,rfl⟩;.exact absurd (hp.1 id rfl) (by simp[Nf])
    .exact absurd (hp.2 id I rfl) (by simp[Nf])
 have PY:∀r,dO ((B.of (lO cl)).set (.sl 0) fa) r->dO ωo r:=by rintro r⟨q,c,U⟩;grind
 have fin:∀(K':aY)(A:cu)(fN:aI)(H':Heap)(g':GH)(a:AV),Ev P ak f S H a H'->(cf.iW f s=Z->ak f S H=Z)->Nx K (bif pn then(λ_=>Z)else Y) ((B.of (lO cl)).set (.sl 0) fa) H K' A fN H'->HR K' A fN H' [] g'->j9 K' A fN H' v a->(pn=V->v.pure=V)->(∀id,N.get id=bif Nf pn cl st2.g.next id then st2.g.get id else g'.get id)->(∀id,N.next<=id->(bif pn then st2.g.next else g'.next)<=id)->∃a H' K' A ω',Ev P ak f S H a H'/\(cf.iW f s=Z->ak f S H=Z)/\Ok K' A ω' H' st' (gX tm dst a)/\(∀(t:aY),bo t K->tA ωo H H t K->Nx t Y ωo H K' A ω' H')/\(cl=V->fa=Z->(∀r,r∈H'.bX->r∈H.bX)/\∀r,r∈H'.cL->r∈H.cL):=by
  intro K' A fN H' g' a e1 e0 e2 e3 e4 e5 e6 e7;have c:xD pn (Nf pn cl st2.g.next) K Y B H st2.lb st2.g (bif pn then(λ_=>Z)else Y) ((B.of (lO cl)).set (.sl 0) fa) K' A fN H' g' N:=⟨w.hr,e2,e3,e6,e7,λh=>by rw[h];rfl,λh id=>by rw[h];rfl,BM⟩;refine⟨a,H',K',_,_,e1,e0,c.ok w.sl e4 e5 jG,λt hK0 hI=>e2.up w.hr.inv PY hK0 hI c.ext (c.lZ Vf PY),λhp O=>?_⟩;have wV:∀r,¬dO ((B.of (lO cl)).set (.sl 0) fa) r:=by rintro r⟨q,b,U⟩;grind
  exact⟨λr hr=>(e2.log.2.1 r hr).resolve_right λh=>wV r h.2,λr hr=>(e2.log.2.2 r hr).resolve_right λh=>wV r h.2⟩
 unfold jA at X;rw[P2]at X;cases pn with
 |true=>obtain rfl:=Q rfl;simp only[aR]at X;cases W:cj s with|false=>grind|true=>rw[W]at X;simp only[aR]at X;obtain⟨m,hr,X⟩:=aF X;cases m with|out o=>grind|val D u=>simp only at X;cases R:D.pure with|false=>grind|true=>
     rw[R]at X;obtain⟨hv,EY⟩:=jf (bE X);have av2:pE K (λ_=>Z) ((B.of (lO V)).set (.sl 0) fa) H s ow S:=⟨T.1,λi d a x y=>(T.2 i d a x y).pure (DM W x)⟩;obtain⟨a,H',K1,n,ω1,F,E,G,L,M⟩:=hC f s ow .empty D u hr K (λ_=>Z) _ H S h0 di av2;obtain⟨K2,ω2,d1,d2,d3⟩:=vr (th:=cf.rz f&&ow.yz) w.hr G L M R (λh r⟨q,b,U⟩=>by grind);subst hv;have IQ:(rz (cf.rz f&&ow.yz) D).pure=V:=by cases D with
     |tp l=>unfold rz;cases(cf.rz f&&ow.yz)with|false=>grind|true=>show(List.map (λx=>xp l x.2 x.1) l.zipIdx).all (λx=>x.1.pure)=V;refine A0.2 λy hy=>?_;obtain⟨z,hz,rfl⟩:=au.1 hy;obtain⟨x0,k⟩:=z;have L9:=bv.1 hz;have:=A0.1 R x0 (dw L9);grind[akf]
     |_=>exact R
     subst EY;exact fin K2 (λ_=>Z) ω2 H' .empty a F E d1 d2 d3 (λ_=>IQ) (λid=>rfl) (λid h=>h)
 |false=>
  have dU:cf.oo f=cl:=by rw[<-kA,P2];rfl
  rw[dU]at X;simp only[ch]at X;cases cl with
  |true=>simp only[aR]at X;cases W:cj s with|false=>grind|true=>rw[W]at X;simp only[aR]at X;obtain⟨m,hr,X⟩:=aF X;cases m with|out o=>grind|val D u=>simp only at X;cases O:FT st2.g u with|false=>grind|true=>rw[O]at X;obtain⟨rfl,rfl⟩:=jf (bE X);obtain⟨a,H',K1,n,ω1,F,E,G,L,M⟩:=hC f s ow ⟨st2.g.next,[]⟩ D u hr K Y _ H S h0 di T;exact fin K1 n ω1 H' u a F E G L M (λh=>by cases h) (azm O λid ob ho=>by obtain⟨i,h1,_⟩:=w.hr.jm id ob ho;have:=w.hr.mZ id;grind) (λid h=>h)
  |false=>simp only[ch]at X;obtain⟨m,hr,X⟩:=aF X;cases m with|out o=>grind|val D u=>obtain⟨rfl,rfl⟩:=jf (bE X);obtain⟨a,H',K1,n,ω1,F,E,G,L,M⟩:=hC f s ow st2.g D u hr K Y _ H S h0 di T;exact fin K1 n ω1 H' u a F E G L M (λh=>by cases h) (λid=>rfl) (λid h=>h)
end
end Go.VM
namespace Go.AM
open Go
variable{r:AT}{k:List Item}{cs:List dm}{l:Nat}{out:Out}{p:Pl}{rec:Rec}{F:dm}
structure rG(ops:Array aB)(ord:aE):Prop where
 nodup:ord.Nodup
 all:∀i,i<ops.size↔i∈ord
 before:∀(a b:aE)(i:Nat)(o:aB),ord=a++i::b->ops[i]?=J o->∀e,e∈o.after.toList->uy .any e=V->e.on∈a
def J9(P:aH)(b:ct)(e:Rec):Prop:=∀(o:Array aB)(fr:cJ)(H:Heap)(r:Ba),wa o.toList=V->wg P b e o o.toList 0 [] fr H=J r->∀(a:bc)(w:aT)(F:dm)(cs:List dm)(d:aE)(k:List Item),bg H->bS gK a H w->iZ P a->fr.mode=.run->iY a fr F (.inRegion o d::k)->rG o d->Kj P a H w fr F cs (.inRegion o []::k) r
section
variable{P:aH}{Y:bc}{H:Heap}{w:aT}
def P4(e:nC P rec){f:cJ}{F':dm}(i:bg H)(s:bS gK Y H w)(g:iZ P Y)(c:step P (fh F cs w)=.next (fh F' cs w))(a:iY Y {f with todo:=k} F' k)(b:F'.fn=F.fn)(h:rec {f with todo:=k} H=J out):kJ P Y H w f F cs out:=a34 i s (a33 i s) (Steps.one c) rfl b (e _ H out h Y w F' cs i s g a)
def iY.to{f:cJ}{a:List Item}(h:iY Y f F a)(k:List Item):iY Y {f with todo:=k} {F with todo:=k} k:=⟨h.fn,h.tmps,λ_=>rfl,h.defers,h.mode,h.kind,h.round⟩
def fx(e:nC P rec){f:cJ}(i:bg H)(s:bS gK Y H w)(g:iZ P Y)(m:f.mode=.run)(a:iY Y f F f.todo)(c:∀(F:dm),F.mode=.run->F.todo=f.todo->(stepG P V {frame:=F,callers:=cs,status:=.running,dying:=Z} w).bare=.go {frame:={F with todo:=k},callers:=cs,status:=.running,dying:=Z} w)(h:rec {f with todo:=k} H=J out):kJ P Y H w f F cs out:=P4 e i s g (F':={F with todo:=k}) (step_lone_go (c F (a.run m) (a.todo m))) (a.to k) rfl h
theorem aIL{n:Func}{j:cJ}{v:AV}(K:bS gK Y H w)(y:iY Y j F k)(h:Jx P n j H=J v):∃u,(results n F.tmps).run P w=.ok u w/\VR Y v u:=by
 unfold Jx at h;simp only[iK]at h;obtain⟨g,U,O⟩:=h;obtain⟨h1,h2⟩:=FI U;have q:∃s:List aD,s.length=g.length/\∀(i:Nat)(x:oS)(u:aD)(a:AV),n.results.toList[i]?=J x->s[i]?=J u->g[i]?=J a->((match x with|.tmp t=>pure (F.tmps.getD t undef)|.cell a t=>do Go.loadVar t (<-asAddr (F.tmps.getD a undef)):Sem aD)).run P w=.ok u w/\VR Y a u:=by
  have T:∀(l:List oS)(S:aJ),cB (λ|.tmp t=>J (j.tmp t)|.cell a t=>match j.tmp a with|.ptr id o=>AM.loadVar P H t id o|_=>Z) l=J S->∃s:List aD,s.length=S.length/\∀(i:Nat)(x:oS)(u:aD)(a:AV),l[i]?=J x->s[i]?=J u->S[i]?=J a->((match x with|.tmp t=>pure (F.tmps.getD t undef)|.cell a t=>do Go.loadVar t (<-asAddr (F.tmps.getD a undef)):Sem aD)).run P w=.ok u w/\VR Y a u:=by intro l;induction l with|nil=>simp[FH]|cons x l Q=>
   intro S h;rw[QN]at h;obtain⟨a,d,h⟩:=aF h;obtain⟨t,N,h⟩:=aF h;cases h;obtain⟨s,B,D⟩:=Q t N;have A:∃u,((match x with|.tmp t=>pure (F.tmps.getD t undef)|.cell a t=>do Go.loadVar t (<-asAddr (F.tmps.getD a undef)):Sem aD)).run P w=.ok u w/\VR Y a u:=by cases x with|tmp t=>simp only at d;cases d;exact⟨F.tmps.getD t undef,by rfl,y.tmps.2 t⟩|cell c t=>
    simp only at d;have m:=y.tmps.2 c;have e:j.tmp c=(j.tmps.get c).getD fD:=rfl;rw[<-e]at m;split at d;.rename_i id o hid;rw[hid]at m;simp only;generalize F.tmps.getD c undef=cv at m|-;cases m with|ptr _ _ p I=>obtain⟨u,l1,l2⟩:=HA (P:=P) K I trivial d;grind[asAddr]
    grind
   obtain⟨u,X,IP⟩:=A;refine⟨u::s,ai,λi x' u' a' e1 e2 e3=>?_⟩;cases i<;>grind
  grind
 obtain⟨s,B,D⟩:=q;have M:(n.results.mapM (λ|.tmp t=>pure (F.tmps.getD t undef)|.cell a t=>do Go.loadVar t (<-asAddr (F.tmps.getD a undef)):oS->Sem aD)).run P w=.ok s.toArray w:=by have hm:=sx (P:=P) (w:=w) (f:=(λ|.tmp t=>pure (F.tmps.getD t undef)|.cell a t=>do Go.loadVar t (<-asAddr (F.tmps.getD a undef)):oS->Sem aD)) n.results.toList s ab (λi x u A z=>by grind);simp_all[Array.mapM_eq_mapM_toList]
 have L:aZ Y g s:=⟨B.symm,λi a u d z=>by have E:i<n.results.toList.length:=ai;exact(D i _ u a (dC E) z d).2⟩;have R:(results n F.tmps).run P w=.ok (if h:s.toArray.size=1 then s.toArray[0]else .tuple s.toArray) w:=by unfold results;rw[Sem.run_bind];exact gT (λr=>Result.andThen r (λa W=>Sem.run P (pure (if h:a.size=1 then a[0]else Value.tuple a)) W)) M
 refine⟨_,R,?_⟩;cases g with|nil=>grind[aZ.cO]|cons a g=>cases g with|nil=>obtain⟨u,t,rfl,e1,e2⟩:=L.cons_inv;grind|cons b g=>
  subst O;have G:¬s.toArray.size=1:=by grind
  rw[dif_neg G];exact L.cO _ rfl
theorem Mx(s:bS gK Y H w)(a:Y l=J p)(g:H.get l=J (.loop r)):p.base=0/\∃R:Loop,w.heap[p.ba]?=J (.loop R)/\Hp Y r R:=s.obj l p _ a trivial (by intro b c f e h;grind) g
theorem WN(i:bg H)(s:bS gK Y H w){r':AT}(a:Loop)(h:Y l=J p)(g:H.get l=J (.loop r))(L:Hp Y r' a):gd Y H w Y (H.put l l (.loop r')) (World.eW w p.ba (.loop a)):=by obtain⟨b,R,c,d⟩:=Mx s h g;exact Rr i s _ h g rfl rfl ⟨b,a,RM w (s.stat.cF l p h).1 _,L⟩
theorem ES{f:cJ}{jump:ah bM}(n:bg H)(s:bS gK Y H w)(m:f.mode=.run)(a:iY Y f F f.todo)(K:f.roundOf=J l)(g:H.get l=J (.loop r))(A:∀(F:dm)(c:dm)(rest:List dm)(b:Nat)(v:aD)(i:aT),F.mode=.run->F.todo=f.todo->F.roundOf=J b->F.kind=.normal->(Instr.endRound b jump).run P w=.ok v i->(stepG P V {frame:=F,callers:=c::rest,status:=.running,dying:=Z} w).bare=.go {frame:=c.finish v,callers:=rest,status:=.running,dying:=Z} i):kJ P Y H w f F cs (.ret (.bool jump.isNone) (H.put l l (.loop {r with state:=(if jump.isNone then .ready else .done),pending:=jump}))):=by
 have X:=a.round;rw[K]at X;rcases D:F.roundOf with _|b;.grind[zt]
 rw[D]at X;obtain⟨p,d,rfl⟩:=X;obtain⟨q,R,k,h⟩:=Mx s d g;have j:=WN n s (r':={r with state:=(if jump.isNone then .ready else .done),pending:=jump}) {R with state:=(if jump.isNone then .ready else .done),pending:=jump} d g ⟨rfl,rfl,h.fn,h.tmps,h.params,h.assign,h.body,h.defers⟩;have o:(Instr.endRound p.ba jump).run P w=.ok (.bool jump.isNone) (World.eW w p.ba (.loop {R with state:=(if jump.isNone then .ready else .done),pending:=jump})):=by have e1:(getObj _).run P w=.ok _ w:=yN k aP;simp_all[JH,Instr.endRound,Instr.getLoop]
 refine⟨Y,_,_,j,.bool _,λt=>ai,λ_ c rest e=>?_⟩;subst e;exact Steps.one (step_lone_go (A F c _ _ _ _ (a.run m) (a.todo m) D a.kind o))
theorem Ry(g:nC P rec){fr f:cJ}{o:Array aB}{b:Heap}(j:bg H)(s:bS gK Y H w)(i:iZ P Y)(l:fr.todo=k)(y:Kj P Y H w fr F cs (.inRegion o []::k) (.next f b))(h:rec f b=J out):kJ P Y H w fr F cs out:=by
 obtain⟨e,d,a,q,p,f1,m,n⟩:=y;have t:=f1.run m.mode;have A:step P (fh a cs d)=.next (fh {a with todo:=k} cs d):=step_lone_go (by simp[stepG,uo,t,f1.todo m.mode]);have c:iY e f {a with todo:=k} f.todo:=by rw[m.todo,l];exact⟨f1.fn,f1.tmps,λ_=>rfl,f1.defers,f1.mode,f1.kind,f1.round⟩
 exact a34 j s p (q.trans (Steps.one A)) m.round n (g _ b _ h e d _ cs p.1 p.2.1 (i.mono p.2.2.ext) c)
def gd.drew{c:bc}{a:Heap}{b:aT}(h:gd Y H w.drew c a b):gd Y H w c a b:=⟨h.1,h.2.1,(ik.drew (S:=gK) ⟨h.1,h.2.1.up (λ_ _=>trivial),h.2.2⟩).2.2⟩
theorem ZU{b:ct}(e:nC P rec)(p:jQ P b)(n:rH P)(W:J9 P b rec)(R:∀(o:Array aB)(t:Nat),wa o.toList=V->rG o (Region.schedule (P.follows .mixedOrders) o t)){fr:cJ}{f:Nat}{o:Array aB}{d:Bool}(i:bg H)(s:bS gK Y H w)(g:iZ P Y)(m:fr.mode=.run)(u:fr.todo=.code (.region f o d)::k)(a:iY Y fr F fr.todo)(h:xT P b rec fr H o d k=J out):kJ P Y H w fr F cs out:=by
 obtain⟨⟨r,q⟩,hr,l⟩:=aF h;have M:=a.run m;have U:=a.todo m;rcases d with _|_;.have c:step P (fh F cs w)=.next (fh {F with todo:=.inRegion o (qm o.size)::k} cs w):=step_lone_go (by simp_all[stepG,uo]);have z:iY Y {fr with todo:=k} {F with todo:=.inRegion o (qm o.size)::k} (.inRegion o (vp 0 o.toList.length)::k):=⟨a.fn,a.tmps,λ_=>by simp[List.range_eq_range'],a.defers,a.mode,a.kind,a.round⟩;exact a34 i s (a33 i s) (Steps.one c) rfl rfl (Ry e (fr:={fr with todo:=k}) i s g rfl (aJh e p n _ 0 (by rfl) _ H _ hr Y w _ cs i s g m z) l)
 rcases j:wa o.toList with _|_;.grind
 rw[j]at hr;have c:step P (fh F cs w)=.next (fh {F with todo:=.inRegion o (Region.schedule (P.follows .mixedOrders) o (w.tape w.drawn (.order F.fn f)))::k} cs w.drew):=step_lone_go (by simp_all[stepG,uo,Question.forced,Question.cut]);have y:=W _ _ H _ j hr Y _ {F with todo:=.inRegion _ (Region.schedule (P.follows .mixedOrders) o (w.tape w.drawn (.order F.fn f)))::k} cs _ k i s.drew g m ⟨a.fn,a.tmps,λ_=>rfl,a.defers,a.mode,a.kind,a.round⟩ aU;exact a34 i s (a33 i s.drew).drew (Steps.one c) rfl rfl (Ry e (fr:={fr with todo:=k}) i s.drew g rfl y l)
def zh.append{b:aE}{c:List Deferred}:∀{l:aE}{m:List Deferred},zh Y l m->zh Y b c->zh Y (l++b) (m++c)|[],[],_,k=>k|_::_,_::_,⟨a,r⟩,k=>⟨a,r.append k⟩|[],_::_,r,_|_::_,[],r,_=>r.elim
theorem aHX{ak:ct}(eY:nC P rec)(hn:rH P){o:cJ}{f:aK}{d:Array Tmp}{s b:bM}(hi:bg H)(W:bS gK Y H w)(hg:iZ P Y)(hm:o.mode=.run)(ht:o.todo=.code (.rangeFunc f d s b)::k)(E:iY Y o F o.todo)(h:Ku P ak rec o H f d s b k=J out):kJ P Y H w o F cs out:=by
 have tM:=E.run hm;have tU:=E.todo hm;rw[ht]at tU;unfold Ku at h;split at h
 . rename_i g first z hf;dsimp only at h;obtain⟨m,S,T⟩:=aF h;clear h;have hr:=Frame.reads F;have wS:=(fK hg hr (λt e=>by subst e;exact E.tmps.2 t) hf).1;have PS:∃B j X mark,gd Y H w B m.2.2 j/\B m.1=J X/\zh B m.2.1 mark/\((F.roundOf=Z/\mark=[{target:=.collected w.heap.size,args:=#[]}]/\X.ba=w.heap.size/\j=World.push w (.deferred (J [])))\/(∃pb R,F.roundOf=J pb/\j=w/\mark=[]/\(getObj pb).run P w=.ok (.loop R) w/\R.defers=X.ba)):=by have pX:=E.round;cases eK:o.roundOf with
     |none=>rw[eK]at S pX;simp only at S;cases S;cases De:F.roundOf with|some b=>grind[zt]|none=>obtain⟨h1,T,U⟩:=MF (P:=P) hi W (.deferred V) (.deferred (J [])) rfl ⟨rfl,xf w _⟩;exact⟨_,_,_,[{target:=.collected w.heap.size,args:=#[]}],⟨U.1,U.2.1.up (λ_ _=>.inl trivial),U.2.2⟩,T,⟨⟨_,T,rfl⟩,trivial⟩,.inl ⟨rfl,rfl,rfl,rfl⟩⟩
     |some l=>rw[eK]at S pX;simp only at S;cases De:F.roundOf with|none=>grind[zt]|some b=>
         rw[De]at pX;obtain⟨p,hp,rfl⟩:=pX;split at S;.rename_i r ov;cases S;obtain⟨h0,R,h1,L⟩:=Mx W hp ov;obtain⟨q,hq,Vl⟩:=L.defers;exact⟨Y,w,q,[],a33 hi W,hq,trivial,.inr ⟨p.ba,R,rfl,rfl,rfl,yN h1 aP,Vl⟩⟩
         grind
   obtain⟨B,j,X,mark,p1,Vk,axa,axI⟩:=PS;have Pz:=E.mono p1.2.2.ext;obtain⟨n1,n2,n3⟩:=MF (P:=P) p1.1 p1.2.1 (.loop {state:=.ready,pending:=Z,fn:=o.fn,n:=o.n,tmps:=o.tmps,params:=d.toList,assign:=s,body:=b,defers:=m.1}) (.loop {state:=.ready,pending:=Z,fn:=F.fn,tmps:=F.tmps,params:=d,assign:=s,body:=b,defers:=X.ba}) rfl ⟨rfl,_,xf j _,⟨rfl,rfl,Pz.fn,Pz.tmps,rfl,rfl,rfl,X,Vk,rfl⟩⟩;obtain⟨I,Ai⟩:∃I,I=World.push j (.loop {state:=.ready,pending:=Z,fn:=F.fn,tmps:=F.tmps,params:=d,assign:=s,body:=b,defers:=X.ba}):=⟨_,rfl⟩;obtain⟨A,Q⟩:∃A,A=fu B m.2.2.next ⟨j.heap.size,0,0,0⟩:=⟨_,rfl⟩;rw[<-Ai,<-Q]at n3;rw[<-Q]at n2;rw[<-Ai]at n1;have p2:gd B m.2.2 j A _ I:=⟨n3.1,n3.2.1.up (λ_ _=>.inl trivial),n3.2.2⟩;have O:=p1.trans hi W p2;have afk:(Instr.enterLoop F.fn F.tmps d s b F.roundOf).run P w=.ok (j.heap.size,mark) I:=by
     rcases axI with⟨e1,e2,e3,e4⟩|⟨pb,R,e1,e2,e3,e4,e5⟩
     . have sW:(newObj (.deferred (J []))).run P w=.ok w.heap.size j:=by rw[e4];rfl
       simp_all[Instr.enterLoop]
     simp_all[Instr.enterLoop,Instr.getLoop]
   split at T
   . rename_i c Hc eX;obtain⟨⟨v,H3⟩,yw,U⟩:=aF T;clear T;unfold xW at eX;split at eX;.simp_all
     . simp only[iK]at eX;obtain⟨c',BE,hy⟩:=eX;obtain⟨rfl,rfl⟩:=fo.call.inj hy;have hfe:∃K M:Array aD,F.eval f=.func (.func g) K M/\aZ A first K.toList/\aZ A z M.toList:=by generalize F.eval f=fv at wS;cases wS with|func _ _ _ K M h1 T g1 g2=>exact⟨K,M,rfl,aZ.mono O.2.2.ext ⟨ab,λi a v x y=>g1 i a v x ai⟩,aZ.mono O.2.2.ext ⟨ab,λi a v x y=>g2 i a v x ai⟩⟩
       obtain⟨K,M,hfe,iG,kf⟩:=hfe;have Vv:VR A (.yield m.2.2.next) (.func (.yield j.heap.size) #[] #[]):=VR.yield m.2.2.next ⟨j.heap.size,0,0,0⟩ n2;have kz:aZ A (dL (dL first [.yield m.2.2.next]) z) ((K++#[Value.func (.yield j.heap.size) #[] #[]])++M).toList:=by rw[lz,lz,Array.toList_append,Array.toList_append];exact(iG.append (a05 Vv (a04 _))).append kf
       obtain⟨e1,e4,e7,fn,bd,e5,e6⟩:=KS BE kz;have hcf:=Kz hn e5 e6 ((K++#[Value.func (.yield j.heap.size) #[] #[]])++M) I;obtain⟨G,hG⟩:∃G:dm,G={F with todo:=.inRangeFunc j.heap.size::k,defers:=mark++F.defers}:=⟨_,rfl⟩;have cA:step P (fh F cs w)=.next (fh (Frame.enter P g ((K++#[Value.func (.yield j.heap.size) #[] #[]])++M) .normal) (G::cs) I):=by
         have wO:∀(D:Sem Next),D.run P I=.ok (.enter g ((K++#[Value.func (.yield j.heap.size) #[] #[]])++M)) I->(stepG.apply P V G cs Z D I).bare=.go {frame:=Frame.enter P g ((K++#[Value.func (.yield j.heap.size) #[] #[]])++M) .normal,callers:=G::cs,status:=.running,dying:=Z} I:=by simp_all[stepG.apply]
         refine step_lone_go ?_;have uM:G.eval f=F.eval f:=by rw[hG];rfl
         obtain⟨Ffn,Ft,aOh,Fd,Fm,Fk,Fr⟩:=F;simp only at tM tU afk hG;subst tM;subst tU;simp only[stepG,uo,Sem.runT_fst,afk,GStep.bare_after];rw[<-hG];exact wO _ (by have hyc:∀v,G.eval (.const v)=v:=λ_=>rfl;grind[resolve,Deferred.ofValue,invoke])
       obtain⟨ψ3,w3,u,p3,v3,s3⟩:=kJ.back (eY c' _ _ yw A I _ (G::cs) O.1 O.2.1 (hg.mono O.2.2.ext) e1);have hGF:iY A {o with todo:=k,defers:=dL m.2.1 o.defers} G (.inRangeFunc j.heap.size::k):=by rw[hG,lz];exact⟨E.fn,E.tmps.mono O.2.2.ext,λ_=>rfl,(axa.mono p2.2.2.ext).append (E.defers.mono O.2.2.ext),E.mode,E.kind,E.round.mono O.2.2.ext⟩
       have hGm:G.mode=.run:=aU;have Q9:=O.trans hi W p3;have pU:G.finish u={G with todo:=.endRangeFunc j.heap.size::k}:=by rw[hG];rfl
       rw[pU]at s3;split at U
       . rename_i r ov;have hp3:ψ3 m.2.2.next=J ⟨j.heap.size,0,0,0⟩:=p3.2.2.ext _ _ n2;obtain⟨h0,R,hR,L⟩:=Mx Q9.2.1 hp3 ov;have m9:r.state≠.busy:=by grind
         have Fb:=WN Q9.1 Q9.2.1 (r':={r with state:=.exhausted}) {R with state:=.exhausted} hp3 ov ⟨rfl,L.pending,L.fn,L.tmps,L.params,L.assign,L.body,L.defers⟩;have Q':=Q9.trans hi W Fb;have wR:(Instr.endLoop j.heap.size).run P w3=.ok R.pending (World.eW w3 j.heap.size (.loop {R with state:=.exhausted})):=by
          have e1:(getObj j.heap.size).run P w3=.ok (.loop R) w3:=yN hR aP;have e2:=λaa=>JH (P:=P) (o':=aa) hR aP;have e3:R.state≠.busy:=by rw[L.state];omega
          simp_all[Instr.endLoop,Instr.getLoop]
         have Af:step P (fh {G with todo:=.endRangeFunc j.heap.size::k} cs w3)=.next (fh {G with todo:=(R.pending.map Item.code).toList++k} cs (World.eW w3 j.heap.size (.loop {R with state:=.exhausted}))):=by have r1:=Sem.runT_fst P (Instr.endLoop j.heap.size) w3 #[];rw[wR]at r1;exact step_lone_go (by simp_all[stepG,uo])
         have af2:=(Steps.head cA s3).trans (Steps.one Af);have hF4:∀N,iY ψ3 {o with todo:=N,defers:=dL m.2.1 o.defers} {G with todo:=N} N:=λN=>have x:=hGF.mono p3.2.2.ext
          ⟨x.fn,x.tmps,λ_=>rfl,x.defers,x.mode,x.kind,x.round⟩;have aPs:=L.pending;have aOX:∀N,(R.pending.map Item.code).toList++k=N->rec {o with todo:=N,defers:=dL m.2.1 o.defers} (H3.put m.2.2.next m.2.2.next (.loop {r with state:=.exhausted}))=J out->kJ P Y H w o F cs out:=by intro N Dn h4;rw[Dn]at af2;exact a34 (fr1:={o with todo:=N,defers:=dL m.2.1 o.defers}) hi W Q' af2 rfl ai (eY _ _ out h4 ψ3 _ _ cs Q'.1 Q'.2.1 (hg.mono Q'.2.2.ext) (hF4 N))
         have h5:(match r.pending with|some c=>rec {o with todo:=.code c::k,defers:=dL m.2.1 o.defers} (H3.put m.2.2.next m.2.2.next (.loop {r with state:=.exhausted}))|none=>rec {o with todo:=k,defers:=dL m.2.1 o.defers} (H3.put m.2.2.next m.2.2.next (.loop {r with state:=.exhausted})))=J out:=by cases cA:r.state<;>rw[cA]at U<;>first|exact U|simp_all
         grind
       grind
   grind
 grind
theorem aMr(i:bg H)(s:bS gK Y H w){r:Nat}(a:Y r=J p)(g:H.get r=J (.deferred V)):∃c,(Instr.takeDeferred p.ba).run P w=.ok [] c/\gd Y H w Y (H.put r r (.deferred C)) c:=by obtain⟨d,b⟩:=s.obj r p _ a trivial (by intro l j f e h;grind) g;have e1:(getObj _).run P w=.ok _ w:=yN b aP;have e2:=λo=>JH (P:=P) (o':=o) b aP;exact⟨_,by simp_all[Instr.takeDeferred],Rr i s _ a g rfl rfl ⟨d,RM w (s.stat.cF r p a).1 _⟩⟩
