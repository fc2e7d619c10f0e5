/- Proved: operations of the value machine answer as the abstract machine does. -/
import Derived.Test.YtlpehfnaibndgaaGreatDoorAb
open Option renaming some->J,none->Z
open Bool renaming true->V,false->C
open Go renaming TypeId->an,Oper->aB,Value->aD,Program->aH,Operand->aK,World->aV,Code->bM,FuncId->bW,Frame->di,lone->ff,IntKind->fR,ResultVar->oK
open Go.Op renaming operands->eL
open Go.Region renaming binds->uo
open Go.stepG renaming exec->ug
open List renaming replicate->lT,range->rq
open Nat renaming beq->aw,ble->bt,blt->ct,succ->fg,mul->ft
noncomputable section
set_option linter.all false
namespace Go.VM
open Go Go.AM
variable{a:AV}{pn:Bool}{el' k v z:DV}{g:GH}{es fs:List eI}{esz j I r:Nat}{q:Nat->Bool}{p:Pk}{sv:SV}{cl m m' nc vs:aI}{ωo:aJ}{s x y:aK}{ow:aM}{lv:ah Nat}{dst:ah Tmp}{hi mx:ah aK}{e e' elem t:an}{L l new:ao}{lb:dV}{fl fl':fQ}
section
variable{P:aH}{ak:cj}{rec:Rec}{cf:bU}{K K':aY}{Y A:cm}{B ω':aJ}{H H':Heap}{S:Nat->Prop}
variable{aq:Nat->ah ao}{gs cr:aC}{fk:bW->Nat}{later:List aB}{st0 O st':St}{tm:Tr AV}{o:aB}
theorem aAO{i:Nat}(b:o.op=.load t x)(c:AM.bJ P tm x=J (.ptr i I))(h:AM.loadVar P H t i I=J a):dS P ak tm H o=J (.val a H):=by simp_all[dS,GJ,eY]
theorem aih{b:ao}{c:aI}{base:Nat}{d:DV}(w:∀(j:Nat)(y:DV)(a:AV),b[j]?=J y->c[base+j]?=J a->DR K Y y a)(f:base+b.length<=c.length)(u:∀y,y∈b->y.aU=V)(h:jr P t b I=J d){i r g e}(o:H.get i=J (.cells c r g e))(l:(H.bp r).1<=i):∃a,AM.loadVar P H t i (base+I)=J a/\DR K Y d a:=by
 unfold jr at h;split at h
 . rename_i q;obtain⟨n,p,h⟩:=aE h;rw[dj]at h;by_cases m:I+n<=b.length;.simp only[m,eB,aR]at h;cases h;refine⟨_,agD o l q p ab,?_⟩;refine bK.agg ⟨ai,λj y a s k=>?_⟩ λy s=>u y ai;grind
   grind
 .obtain⟨v,_⟩:=am.1 h;have k:c[base+I]?=J _:=dA ab;grind[Vy]
 grind
theorem aFT{d:DV}(h:(∃n,AM.isAgg P t=J V/\aW P t=J n/\d.aU=C/\d.flat.length=n)\/(AM.isAgg P t=J C/\d.aU=V)):jr P t d.flat 0=J d:=by
 unfold jr;rcases h with⟨n,a,b,e,c⟩|⟨a,b⟩;.rw[a];simp only[b,cR];rw[dj];simp only[c,kE,bS,eB,aR,xC];rw[<-c,D6];cases d<;>first|rfl|simp[DV.aU]at e
 .rw[a];cases d<;>first|rfl|grind[DV.aU]
theorem aAN(S:dw P K Y aq)(q:HR K Y B H O.lb O.g)(z:bZ K Y B H tm O.sl)(X:o.op=.load t x)(h:dC P aq fk gs cr later O o=J st'):eO P ak rec cf K Y B H st0 O st' tm o:=by unfold dC at h;rw[X]at h;simp only at h;cases N:cU aq O x with|none=>grind|some sv=>
 rw[N]at h;obtain⟨a,a1,a2,D⟩:=qU (P:=P) S z N;have fin:∀{i I:Nat}{b:AV}{f:St}{v:SV},a=.ptr i I->AM.loadVar P H t i I=J b->fN K Y B H st' (gR tm o.dst b) H->aG f o.dst v=J st'->f.n=O.n->f.fn=O.fn->eO P ak rec cf K Y B H st0 O st' tm o:=by intro i I b f v e1 e2 e3 e4 e5 e6;subst e1;obtain⟨f1,f2,f3,_⟩:=nP e4;exact⟨b,H,by unfold fB;rw[aAO X a1 e2];rfl,λd hd=>ai,e3,ab,ai,uk.refl _ _ _⟩
 have E:∀(u:iK)(y:Loc)(b:LB)(I:Nat)(r:SV×LB),O.at y=J b->(∀i,B y.top=J (i,V)->(∀id,y=.g id->Y id=J i)->a=.ptr i I)->fF P u t b I=J r->aG (O.setAt y r.2) o.dst r.1=J st'->eO P ak rec cf K Y B H st0 O st' tm o:=by intro u y b I r w hp U jC;obtain⟨i,M,i2,i3⟩:=q.at w;grind[agB,ZB]
 cases sv with
 |lp s I=>
  simp only at h;obtain⟨b,w,h⟩:=aE h;obtain⟨r,hr,h⟩:=aE h;refine E _ (.l s) b I r w (λi hi _=>?_) hr h;rcases D with⟨t',_,_,_,p⟩|⟨_,⟨_,e,_⟩|⟨_,_,_,_,e,_⟩|⟨_,_,_,_,e,_⟩⟩;.exact p i V hi
  all_goals grind|ev d=>
  simp only at h;have uF:∃id I cells e,a=.ptr id I/\K id=J (cells,e)/\I+d.flat.length<=cells.length/\(∀y,y∈d.flat->y.aU=V)/\bK K Y d.flat ((cells.drop I).take d.flat.length):=by
    rcases D with⟨t',_,_,_,p⟩|⟨_,⟨_,e,_⟩|⟨_,_,_,_,e,_⟩|⟨g,l,cells,e,e1,e2,p,h5,h6⟩⟩;.exact p
    all_goals grind[DV.flat,bK]
  obtain⟨id,I,cells,e,e1,e2,e3,e4,e5⟩:=uF;obtain⟨r,fl,g1,g2⟩:=q.dm _ _ _ e2;have jC:aG O o.dst (.dv d .no)=J st'/\jr P t d.flat 0=J d:=by grind[aE,bR,aFT]
  obtain⟨b,G,b2⟩:=aih (base:=I) (λj y c k R=>e5.2 j y c k (by grind)) e3 e4 jC.2 g1 g2;grind[A4]|se s i I=>
  simp only at h;obtain⟨y,k,h⟩:=aE h;obtain⟨d,hd,h⟩:=aE h;obtain⟨d',hp,pI⟩:=aE h;have LH:∃id A len c esz,tm.get s=J (.sl id A len c esz)/\a=.ptr id (A+i*esz+I):=by
    rcases D with⟨t',_,_,_,p⟩|⟨_,⟨_,e,_⟩|⟨_,_,_,_,e,_⟩|⟨_,_,_,_,e,_⟩⟩;.exact p
    all_goals grind
  obtain⟨id,A,len,c,esz,e1,e2⟩:=LH;unfold nF at k;split at k
  . rename_i l e n e' U;cases k;obtain⟨b0,G,_,b3⟩:=z s _ U;rw[e1]at G;cases G;rcases b3 with⟨x1,_⟩|⟨r,_,b4⟩;.simp_all
    . obtain⟨l',qb,qM,dF,c',cells,fl,g1,g2,g3,g4,g5,g6,g7,g8⟩:=b4.ex;obtain⟨rfl,rfl,rfl⟩:=DV.ay.inj g1;obtain⟨rfl,rfl,rfl,rfl,rfl⟩:=AV.sl.inj g2;have gd:=(am.1 hd).1;obtain⟨k1,k2⟩:=g7.2.2.1 i d hd;have W:i*esz+esz<=l.length*esz:=by have:(i+1)*esz<=l.length*esz:=lU _ gd;grind
      have w:=g7.2.1;obtain⟨b,x1,x2⟩:=aih (base:=A+i*esz) (I:=I) (λj y c k R=>g7.2.2.2 i d j y c hd k R) ab k2 hp g3 g5;grind[A4]
  simp_all|dv d0 ow0=>cases d0 with
  |ptr id I=>
    simp only at h;have F:∃i,Y id=J i/\a=.ptr i I:=by
      have gQ:DR (sT H) Y (.ptr id I) a:=by obtain⟨a',x1,_,x3⟩:=oz (P:=P) S q z (x:=x) (d:=.ptr id I) (by unfold bj;rw[N];rfl);simp_all
      cases gQ<;>simp_all
    obtain⟨i0,M,i2⟩:=F;cases kX:O.g.get id with|none=>simp_all|some ob=>rw[kX]at h;cases ob with
      |box b=>
      simp only at h;have rK:O.at (.g id)=J b:=by grind[St.at]
      have aM9:∀(u:iK),((fF P u t b I).bind λr=>aG {O with g:=O.g.set id (.box r.2)} o.dst r.1)=J st'->eO P ak rec cf K Y B H st0 O st' tm o:=by intro u h;obtain⟨r,hr,h⟩:=aE h;exact E u (.g id) b I r rK (λi _ hi=>aT) hr h
      split at h
      . rename_i e gG ht;obtain⟨j,j1,j2,j3⟩:=q.at rK;have T:=j3 id rfl;rw[M]at T;cases T;obtain⟨m,fl,e',g1,g2,g3,g4,g5,g6⟩:=j2;rw[eQ]at h;have Q:I<b.cells.length:=by grind
        simp only[Q,eB,aR]at h;have L:m[I]?=J m[I]:=dA ab;have cT:=(g6 I _ _ (dA Q) L).2;refine fin i2 (Vy g1 g3 ht L) (xI q z h cT.qS λ_ _ _=>?_) h rfl rfl;exact⟨i0,m,i0,fl,e',M,g1,L⟩
      grind|_=>simp_all
  |_=>simp at h
 |_=>simp_all
theorem qY(f:HR K Y B H O.lb O.g)(s:bZ K Y B H tm O.sl)(g:dS P ak tm H o=J (.val a H))(h:aG O o.dst sv=J st')(t:a≠.top)(v:∀d,o.dst=J d->F9 d sv=C->my K Y B H (tm.ins d a) d sv a):eO P ak rec cf K Y B H st0 O st' tm o:=by obtain⟨b,c,e,_⟩:=nP h;exact⟨a,H,by grind[fB],b,xI f s h t v,c,e,uk.refl _ _ _⟩
theorem Kc(u:dw P K Y aq)(j:HR K Y B H O.lb O.g)(v:bZ K Y B H tm O.sl)(w:cU aq O x=J sv):∃a,AM.bJ P tm x=J a/\a≠.top/\(match sv with|.lp s I=>∀i b,B (.lb s)=J (i,b)->a=.ptr i I|.ev d=>∃id I cells e,a=.ptr id I/\K id=J (cells,e)/\I+d.flat.length<=cells.length/\(∀y,y∈d.flat->y.aU=V)/\bK K Y d.flat ((cells.drop I).take d.flat.length)|.se s i I=>∃id k len c esz,tm.get s=J (.sl id k len c esz)/\a=.ptr id (k+i*esz+I)|.sr s=>tm.get s=J a|.dv d o=>DR (sT H) Y d a|.hd n=>nJ a=J n|.gr id I=>∃i m root fl e,Y id=J i/\H.get i=J (.cells m root fl e)/\m[I]?=J a|_=>True):=by
 obtain⟨a,p,q,r⟩:=qU u v w;refine⟨a,p,q,?_⟩;rcases r with⟨t,_,_,_,h⟩|⟨_,⟨d,rfl,h⟩|⟨d,f,_,_,rfl,h⟩|⟨g,l,cells,e,rfl,rfl,h,z,A⟩⟩;.cases sv with|dv d o=>exact cO.look j h|tp l=>grind|dd=>grind|_=>exact h
 .exact h.mono j.sub (aX.refl _)
 .exact h.mono j.sub (aX.refl _)
 grind[DV.flat,bK]
theorem aif{c:ao}{d:DV}(h:jr P t c I=J d)(s:∀y,y∈c->y.aU=V):∃_:I+d.flat.length<=c.length,(∀y,y∈d.flat->y.aU=V)/\d.flat=(c.drop I).take d.flat.length:=by
 unfold jr at h;split at h
 . obtain⟨n,i,h⟩:=aE h;rw[dj]at h;by_cases e:I+n<=c.length;.simp only[e,eB,aR]at h;cases h;have l:((c.drop I).take n).length=n:=ai;exact⟨by show I+((c.drop I).take n).length<=_;omega,λy f=>s y (List.mem_of_mem_drop (List.mem_of_mem_take f)),by show(c.drop I).take n=(c.drop I).take ((c.drop I).take n).length;grind⟩
   grind
 . obtain⟨a,b⟩:=am.1 h;have j:=s d (b▸G0 a);have g:d.flat=[d]:=by cases d<;>first|rfl|grind[DV.aU]
   grind[D3]
 grind
theorem asM(D:dw P K Y aq)(g:HR K Y B H O.lb O.g)(j:bZ K Y B H tm O.sl){s:an}{f:Nat}(r:o.op=.fieldAddr s x f)(h:dC P aq fk gs cr later O o=J st'):eO P ak rec cf K Y B H st0 O st' tm o:=by unfold dC at h;rw[r]at h;simp only at h;cases F:P.underlying s with|none=>simp_all|some u=>rw[F]at h;cases u with
 |struct q=>simp only at h;obtain⟨p,A,h⟩:=aE h;obtain⟨n,U,h⟩:=aE h;cases n with|zero=>simp_all|succ n=>cases v:cU aq O x with|none=>simp_all|some sv=>
  rw[v]at h;obtain⟨a,N,Q,m⟩:=Kc (P:=P) D g j v;have ex:∀{i I:Nat},a=.ptr i I->dS P ak tm H o=J (.val (.ptr i (I+p.offset)) H):=by intro i I e;subst e;unfold dS;rw[r];simp only[DS];grind[eY]
  cases sv with
  |lp b I=>simp only at h;obtain⟨w,z,h⟩:=aE h;obtain⟨i,hi,_⟩:=g.box b w z;exact qY g j (ex (m i V hi)) h aP λd _ _=>λW R S=>aT|dv d0 ow=>cases d0 with
   |ptr id I=>simp only at h;cases m with|ptr _ _ i hi=>exact qY g j (ex rfl) h aP λd _ _=>DR.ptr id _ i hi
   |_=>simp at h
  |se t i I=>simp only at h;obtain⟨id,G,len,c,esz,e1,e2⟩:=m;refine qY g j (ex e2) h aP λd _ hr=>⟨id,G,len,c,esz,?_,ai⟩;rw[Tr.jy _ _ (λe=>DC hr t (.inr ⟨_,_,rfl⟩) e.symm)];omega|ev d0=>cases d0 with
   |agg l=>
   simp only at h;obtain⟨d1,E,h⟩:=aE h;obtain⟨id,I,cells,e,e1,e2,e3,e4,e5⟩:=m;obtain⟨k,M,L⟩:=aif E (by simpa[DV.flat]using e4);refine qY g j (ex e1) h aP λd _ _=>⟨id,I+p.offset,cells,e,rfl,e2,?_,M,?_⟩;.have:p.offset+d1.flat.length<=l.length:=k;have y:I+l.length<=cells.length:=e3;omega
   .have T:bK K Y l ((cells.drop I).take l.length):=e5;have:=(T.drop p.offset).take d1.flat.length;rw[List.drop_take,D2,List.take_take,Nat.min_eq_left ab,<-L]at this;exact this|_=>simp at h
  |_=>simp at h
 |_=>simp at h
theorem CO{b:Builtin}{c:Call}{a:aI}{v:AV}(f:o.op=.call c)(e:c.callee=.builtin b)(d:b≠.recover/\b≠.panic)(h:cw (AM.bJ P tm) c.args.toList=J a)(g:iz P H b c.argTypes a=J (v,H')):dS P ak tm H o=J (.val v H'):=by simp_all[dS,Cg,yE,uN]
theorem aAo(M:dw P K Y aq)(g:HR K Y B H O.lb O.g)(k:bZ K Y B H tm O.sl){c:Call}(A:o.op=.call c)(v:c.callee=.builtin .len)(D:c.args.toList=[x])(h:dC P aq fk gs cr later O o=J st'):eO P ak rec cf K Y B H st0 O st' tm o:=by
 unfold dC at h;rw[A]at h;simp only[v,D]at h;obtain⟨sv,U,h⟩:=aE h;obtain⟨a,a1,a2,f⟩:=Kc (P:=P) M g k U;have Q:cw (AM.bJ P tm) c.args.toList=J [a]:=by rw[D];show((AM.bJ P tm x).bind λb=>(J []:ah aI).bind λt=>J (b::t))=_;simp_all
 have fin:∀(n:Nat),iz P H .len c.argTypes [a]=J (gZ n,H)->aG O o.dst (.dv (goN n) .no)=J st'->eO P ak rec cf K Y B H st0 O st' tm o:=λn G L=>sj g k (CO A v ⟨aP,aP⟩ Q G) L (.int _ _);cases R:c.argTypes[0]?.bind P.underlying with|none=>simp_all|some u=>
 rw[R]at h;have Rz:∀(e:an)(n:Nat),u=.slice e->nJ a=J n->iz P H .len c.argTypes [a]=J (gZ n,H):=by simp_all[iz]
 cases u with
 |array n e=>cases sv with|dv d ow=>exact fin n (by simp_all[iz]) h|_=>simp_all
 |string=>cases sv with
  |dv d ow=>cases d with|str s=>cases f;exact fin s.length (by simp_all[iz,dT]) h|_=>simp at h
  |_=>simp_all
 |slice e=>cases sv with
  |dv d ow=>obtain⟨n,z,h⟩:=aE h;grind[Mg]|hd n=>grind|sr s=>
  obtain⟨y,q,h⟩:=aE h;unfold nF at q;split at q;.rename_i l e' n e2 N;obtain rfl:=bE q;obtain⟨b0,r,_,E⟩:=k s _ N;have f:tm.get s=J a:=f;rw[f]at r;obtain rfl:=bE r;exact fin l.length (Rz e _ rfl (Mg (K:=sT H) (Y:=Y) (x:=.ay l e' n) rfl (cO.look g (p:=.sl s) (o:=.ex e2) E))) h
  simp_all|gr id I=>obtain⟨d,hd,h⟩:=aE h;obtain⟨n,z,pI⟩:=aE h;obtain⟨i,m,root,fl,e2,g1,g2,g3⟩:=f;unfold Ew at hd;cases X:O.g.get id with|none=>simp_all|some W=>rw[X]at hd;cases W with
   |box b=>
   simp only at hd;have rK:O.at (.g id)=J b:=by unfold St.at;simp only[X]
   obtain⟨j,j1,S,T⟩:=g.at rK;have w:=T id rfl;rw[g1]at w;obtain rfl:=bE w;obtain⟨m',fl',e',k1,k2,k3,k4,k5,k6⟩:=S;rw[g2]at k1;obtain⟨rfl,_⟩:=ch.cells.inj (bE k1);split at hd;.rename_i F e3 yc gG;obtain rfl:=bE hd;exact fin n (Rz e _ rfl (Mg z (cO.look g (k6 I F a yc g3).2))) pI
   .simp at hd|_=>simp at hd
  |_=>simp at h
 |_=>cases sv<;>simp at h
theorem aF0(g:dw P K Y aq)(e:HR K Y B H O.lb O.g)(s:bZ K Y B H tm O.sl){c:aK}(k:o.op=.pick c x y)(n:jK O x)(l:jK O y)(h:dC P aq fk gs cr later O o=J st'):eO P ak rec cf K Y B H st0 O st' tm o:=by
 unfold dC at h;rw[k]at h;simp only at h;split at h;.rename_i b j;obtain⟨p,m,_,c3⟩:=oz g e s j;cases c3;cases b with|true=>obtain⟨v,f,h⟩:=aE h;obtain⟨a,i,_,d⟩:=sX g s n f;refine sj e s ?_ h d;simp_all[dS,Cj,eY]|false=>obtain⟨v,f,h⟩:=aE h;obtain⟨a,i,_,d⟩:=sX g s l f;refine sj e s ?_ h d;simp_all[dS,Cj,eY]
 grind
theorem Vi{k:fR}{i d l n:Nat}{c:ah Nat}(a:o.op=.indexAddr t x y)(e:AM.bJ P tm y=J (.int k (.ofNat i)))(b:AM.bJ P tm x=J (.sl d I l c esz))(u:P.underlying t=J (.slice elem))(h:aW P elem=J n)(f:n=esz)(g:i<l):dS P ak tm H o=J (.val (.ptr d (I+i*esz)) H):=by unfold dS;rw[a];simp only[Ch];have:(ct i l&&aw n esz)=V:=aT;simp only[e,b,u,h,cR,this,aR,eY,gJ];rfl
theorem af1{k:fR}{i d l n:Nat}(a:o.op=.indexAddr t x y)(c:AM.bJ P tm y=J (.int k (.ofNat i)))(b:AM.bJ P tm x=J (.ptr d I))(u:P.underlying t=J (.array l elem))(h:aW P elem=J n)(e:i<l):dS P ak tm H o=J (.val (.ptr d (I+i*n)) H):=by unfold dS;rw[a];simp only[Ch];have:ct i l=V:=aT;simp only[c,b,u,h,cR,this,aR,eY,gJ];rfl
theorem axT(Q:dw P K Y aq)(m:HR K Y B H O.lb O.g)(f:bZ K Y B H tm O.sl)(A:o.op=.indexAddr t x y)(h:dC P aq fk gs cr later O o=J st'):eO P ak rec cf K Y B H st0 O st' tm o:=by
 unfold dC at h;rw[A]at h;simp only at h;split at h;.rename_i kk i hi;obtain⟨iv,L,_,i3⟩:=oz (P:=P) Q m f hi;cases i3;cases D:P.underlying t with|none=>grind|some u=>rw[D]at h;cases S:cU aq O x with|none=>grind|some sv=>rw[S]at h;have iF:=qU (P:=P) Q f S;obtain⟨a,q,a2,v⟩:=Kc (P:=P) Q m f S;cases u with
 |slice elem=>cases sv with
  |dv d ow=>cases d with
   |ay l e esz=>simp only at h;obtain⟨n,p,h⟩:=aE h;cases b:(aw n esz&&aw e elem)with|false=>grind|true=>rw[b]at h;simp only[gu,bR,jV,aR]at b h;obtain⟨cD,_⟩:=b;cases v with|ay _ _ _ id I c cells q1 q2 q3 q4 q5 q6=>
     have E:i<l.length->dS P ak tm H o=J (.val (.ptr id (I+i*esz)) H):=λg=>Vi A L q D p cD g;have aNm:((l[i]?).bind λd=>aG O o.dst (.ev d))=J st'->DR K Y (.ay l e esz) (.sl id I l.length c esz)->eO P ak rec cf K Y B H st0 O st' tm o:=by intro h gQ;obtain⟨d,hd,h⟩:=aE h;have g:=(am.1 hd).1;refine qY m f (E g) h aP λ_ _ _=>?_;cases gQ with|ay _ _ _ _ _ _ M w1 w2 w3 w4 w5 w6=>
      have hm:i*esz+esz<=l.length*esz:=by have:(i+1)*esz<=l.length*esz:=lU _ g;grind
      refine⟨id,I+i*esz,M,e,rfl,w1,ai,(w5 i d hd).2,⟨ai,λj z a hz ha=>?_⟩⟩;grind
     have aOO:∀s,x=.tmp s->(bif ct i l.length then aG O o.dst (.se s i 0)else Z)=J st'->eO P ak rec cf K Y B H st0 O st' tm o:=by
      intro s W h;rw[eQ]at h;by_cases g:i<l.length
      . simp only[g,eB,aR]at h;obtain⟨a',F,h2,N⟩:=iF;rw[q]at F;cases F;rcases N with⟨s',e1,_,dW,_⟩|⟨UU,_⟩;.rw[W]at e1;obtain rfl:=Operand.tmp.inj e1;refine qY m f (E g) h aP λd _ hr=>⟨id,I,l.length,c,esz,?_,rfl⟩;rw[Tr.jy _ _ (λe=>DC hr s (.inr ⟨_,_,rfl⟩) e.symm)];omega
        grind
      grind
     have plain:(∀e',ow≠.ex e')\/(∀s,x≠.tmp s)->DR K Y (.ay l e esz) (.sl id I l.length c esz):=by
      intro G;obtain⟨a',F,h2,N⟩:=iF;rw[q]at F;cases F;rcases N with⟨s,W,_,_,w⟩|⟨_,⟨d,e1,w⟩|⟨_,_,_,_,e1,w⟩|⟨_,_,_,_,e1,_⟩⟩
      . rcases G with G|G;.cases ow with|no=>exact w|any=>have:=w.1;grind|full e'=>exact w.1|ty e'=>exact w.1|ex e'=>grind
        grind
      all_goals grind
     grind|dY id I len e esz=>simp only at h;obtain⟨n,p,h⟩:=aE h;cases b:(aw n esz&&aw e elem&&ct i len)with|false=>grind|true=>rw[b]at h;simp only[gu,bR,eQ,jV,aR]at b h;cases v with|dY _ _ _ _ _ j c R jW=>exact qY m f (Vi A L q D p b.1.1 b.2) h aP λ_ _ _=>.ptr _ _ _ R
   |_=>simp at h
  |sr s=>
   simp only at h;obtain⟨y2,T,h⟩:=aE h;obtain⟨n,p,U⟩:=aE h;unfold nF at T;split at T;.rename_i l e n2 e2 hl;cases T;cases b:(aw n n2&&(aw e elem&&ct i l.length))with|false=>simp_all|true=>
     rw[b]at U;simp only[gu,bR,eQ,jV,aR]at b U;obtain⟨b0,X,_,b3⟩:=f s _ hl;have v:tm.get s=J a:=v;rw[v]at X;cases X;rcases b3 with⟨x1,_⟩|⟨r,_,b4⟩;.simp_all
     .obtain⟨l',qb,qM,dF,c',cells,fl,g1,g2,_⟩:=b4.ex;obtain⟨rfl,rfl,rfl⟩:=DV.ay.inj g1;subst g2;refine qY m f (Vi A L q D p b.1 b.2.2) U aP λd _ hr=>⟨qM,dF,l.length,c',n2,?_,rfl⟩;grind[Tr.jy,DC]
   grind|_=>simp_all
 |array len elem=>cases sv with
  |ev d0=>cases d0 with
   |agg l=>
   simp only at h;obtain⟨n,p,h⟩:=aE h;rw[eQ]at h;by_cases g:i<len
   . simp only[g,eB,aR]at h;obtain⟨d1,G,h⟩:=aE h;obtain⟨id,I,cells,e,e1,e2,e3,e4,e5⟩:=v;subst e1;obtain⟨k,yh,tL⟩:=aif G (by grind[DV.flat]);refine qY m f (af1 A L q D p g) h aP λd _ _=>⟨id,I+i*n,cells,e,rfl,e2,?_,yh,?_⟩;.have:i*n+d1.flat.length<=l.length:=k;have e3':I+l.length<=cells.length:=e3;omega
     .have Tw:bK K Y l ((cells.drop I).take l.length):=e5;have:=(Tw.drop (i*n)).take d1.flat.length;grind[List.drop_take,D2]
   simp_all|_=>simp at h
  |lp s I=>
   simp only at h;obtain⟨n,p,h⟩:=aE h;rw[eQ]at h;by_cases g:i<len;.simp only[g,eB,aR]at h;obtain⟨bx,hb,h⟩:=aE h;obtain⟨j,R,_⟩:=m.box s bx hb;have e1:=v j V R;subst e1;exact qY m f (af1 A L q D p g) h aP λd _ _=>λi' c' cK=>aT
   simp_all|dv d ow=>simp_all|_=>simp_all
 |_=>cases sv<;>simp at h
 grind
theorem ajU(g:dw P K Y aq)(f:HR K Y B H O.lb O.g)(s:bZ K Y B H tm O.sl){l:List aK}{x y:DV}(h:cw (bj aq O) l=J [x,y]):∃a b,cw (AM.bJ P tm) l=J [a,b]/\DR (sT H) Y x a/\DR (sT H) Y y b:=by cases l with|nil=>grind[cw]|cons p l=>have c:((bj aq O p).bind λb=>(cw (bj aq O) l).bind λt=>J (b::t))=J [x,y]:=h;obtain⟨d,hd,c⟩:=aE c;obtain⟨t,k,c⟩:=aE c;obtain⟨rfl,rfl⟩:=List.cons.inj (bE c);cases l with|nil=>grind[cw]|cons q l=>have E:((bj aq O q).bind λb=>(cw (bj aq O) l).bind λt=>J (b::t))=J [y]:=k;obtain⟨d2,I,E⟩:=aE E;obtain⟨t2,S,E⟩:=aE E;obtain⟨rfl,rfl⟩:=List.cons.inj (bE E);cases l with|nil=>obtain⟨a,m,_,i⟩:=oz (P:=P) g f s hd;obtain⟨b,n,_,j⟩:=oz (P:=P) g f s I;refine⟨a,b,?_,i,j⟩;show((AM.bJ P tm p).bind λb=>(((AM.bJ P tm q).bind λb=>(J []:ah aI).bind λt=>J (b::t))).bind λt=>J (b::t))=_;simp_all|cons r l=>have e:((bj aq O r).bind λb=>(cw (bj aq O) l).bind λt=>J (b::t))=J []:=S;obtain⟨_,_,e⟩:=aE e;obtain⟨_,_,e⟩:=aE e;simp_all
theorem aBn(g:dw P K Y aq)(b:HR K Y B H O.lb O.g)(s:bZ K Y B H tm O.sl){c:Call}(d:o.op=.call c)(a:c.callee=.builtin .max)(h:dC P aq fk gs cr later O o=J st'):eO P ak rec cf K Y B H st0 O st' tm o:=by
 unfold dC at h;rw[d]at h;simp only[a]at h;obtain⟨l,e,h⟩:=aE h;split at h;.obtain⟨x,y,m,f,i⟩:=ajU g b s e;cases f;cases i;refine sj b s (CO d a ⟨aP,aP⟩ m ?_) h (.int _ _);rfl
 grind
theorem aBs(g:dw P K Y aq)(b:HR K Y B H O.lb O.g)(s:bZ K Y B H tm O.sl){c:Call}(d:o.op=.call c)(a:c.callee=.builtin .min)(h:dC P aq fk gs cr later O o=J st'):eO P ak rec cf K Y B H st0 O st' tm o:=by
 unfold dC at h;rw[d]at h;simp only[a]at h;obtain⟨l,e,h⟩:=aE h;split at h;.obtain⟨x,y,m,f,i⟩:=ajU g b s e;cases f;cases i;refine sj b s (CO d a ⟨aP,aP⟩ m ?_) h (.int _ _);rfl
 grind
theorem QJ{i:Nat}(a:o.op=.nilCheck x)(h:AM.bJ P tm x=J (.ptr i I)):dS P ak tm H o=J (.val (.ptr i I) H):=by simp_all[dS,DX,eY]
theorem aCf(n:dw P K Y aq)(b:HR K Y B H O.lb O.g)(j:bZ K Y B H tm O.sl)(g:o.op=.nilCheck x)(h:dC P aq fk gs cr later O o=J st'):eO P ak rec cf K Y B H st0 O st' tm o:=by unfold dC at h;rw[g]at h;obtain⟨sv,p,h⟩:=aE h;obtain⟨a,k,r,f⟩:=Kc n b j p;cases sv with
 |lp s I=>obtain⟨l,m,h⟩:=aE h;obtain⟨i,hi,_⟩:=b.box s l m;have e:=f i _ hi;subst e;exact qY b j (QJ g k) h aP λd _ _=>f|ev d=>obtain⟨id,I,cells,e,e1,e2⟩:=f;subst e1;exact qY b j (QJ g k) h aP λ_ _ _=>⟨id,_,_,e,rfl,e2⟩|se s i I=>obtain⟨id,q,len,c,esz,e1,e2⟩:=f;subst e2;refine qY b j (QJ g k) h aP λd _ hr=>⟨id,q,len,c,_,?_,rfl⟩;rw[Tr.jy _ _ (λe=>DC hr s aT e.symm)];omega|dv d0 ow=>cases d0 with
  |ptr id I=>cases f with|ptr _ _ i hi=>exact qY b j (QJ g k) h aP λd _ _=>DR.ptr id _ i hi
  |_=>simp at h
 |_=>grind
theorem QH(a:HR K Y B H lb g):K H.next=Z/\HR (K.add H.next (m,e)) Y B (H.cQ m fl e) lb g:=by
 have o:K H.next=Z:=by
   rcases d:K _ with _|x;.rfl
   obtain⟨r,fl',g1,_⟩:=a.dm _ _ _ d;have:=a.inv.get _ _ g1;omega
 have W:bo K (K.add _ (m,e)):=aY.A3 o;have d:bT (λ_=>False) H (H.cQ m fl e):=j9 H _ _;have q:bg (H.cQ m fl e):=wA a.inv _ aT;have t:(H.cQ m fl e).get _=J _:=mA H _;refine⟨o,q,?_,a.inj,?_,?_,?_,?_,a.mW,NH a.inv a.gW _ aT⟩
 . intro id cells e' h;unfold aY.add at h;by_cases x:id=H.next;.rw[if_pos x]at h;obtain⟨rfl,rfl⟩:=jd (bE h);subst x;refine⟨_,fl,t,?_⟩;show(H.bp _).1<=H.next;rw[Bk a.inv ab];omega
   .rw[if_neg x]at h;obtain⟨r,fl',g1,g2⟩:=a.dm id _ e' h;exact⟨r,_,by rw[d.get id (a.inv.get _ _ g1) (λh=>h)];omega,g2⟩
 . intro p r id x f j;have hr:=a.cC _ _ _ f;unfold aY.add at j;by_cases y:id=H.next;.grind[lN]
   . rw[if_neg y]at j;obtain⟨cells,e'⟩:=x;obtain⟨z,fl',g1,_⟩:=a.dm id _ e' j;have hid:=a.inv.get _ _ g1;have:rootOf (H.cQ m fl e) id=rootOf H id:=by unfold rootOf;rw[d.get id hid (λh=>h)]
     rw[this];exact a.clean p r id _ f j
 .intro p r b f;have:=a.cC _ _ _ f;have M:(H.cQ m fl e).next=H.next+1:=rfl;omega
 .intro s b v;obtain⟨i,l,n⟩:=a.box s b v;exact⟨i,l,n.keep a.inv d W (aX.refl _) id λI r c x=>⟨x,id⟩⟩
 .intro k w Q;obtain⟨i,l,n,u⟩:=a.jf k w Q;exact⟨i,l,n,u.keep a.inv d W (aX.refl _) id λI r c x=>⟨x,id⟩⟩
theorem aaS{x:DV}(d:HR K Y B H O.lb O.g)(y:bZ K Y B H tm O.sl)(h:aG O dst (.dv x ow)=J st')(f:DR (K.add H.next (m,e)) Y x a)(G:ow=.no\/aaG a/\∃t,ow=.full t:=by first|exact .inl rfl|skip)(n:a≠.top:=by simp):fN K Y B H st' (gR tm dst a) (H.cQ m fl e):=by
 obtain⟨v,o⟩:=QH d;have k:bo K (K.add _ (m,e)):=aY.A3 v;have z:bZ _ Y B (H.cQ m fl e) tm _:=λt sv u=>by obtain⟨g,c,i,l⟩:=y t sv u;exact⟨g,c,i,l.keep d.inv (j9 H _ _) k (aX.refl _) (λ_ _ _ _ h=>⟨h,id⟩) aT aT aT⟩
 exact fN.trans d.inv k (λj x s=>by obtain⟨cells,t⟩:=x;obtain⟨r,fl',c,_⟩:=o.dm j _ t s;refine⟨o.inv.get _ _ c,?_⟩;grind[aY.add,lN,mA]) (aX.refl _) (j9 H _ _) (λp r b w=>.inl ⟨p,b,w⟩) (xI o z h n λ_ _ _=>by
 rcases G with rfl|⟨q,t,rfl⟩;.exact f
 .exact⟨f,q⟩)
theorem am9{s:aC}{c:Nat}(K:aY)(l:cm):DR (K.add c (s.map λb=>AV.int .u8 (.ofNat b),e)) l (.ay (s.map λb=>.int .u8 (.ofNat b)) e 1) (.sl c 0 (s.map λb=>DV.int .u8 (.ofNat b)).length Z 1):=by
 refine .ay _ e 1 c 0 _ (s.map λb=>AV.int .u8 (.ofNat b)) (by simp[aY.add]) ab aP aT ?_ ?_;.intro i x h;rw[ki]at h;obtain⟨b,_,rfl⟩:=iI.mp h;exact⟨rfl,λy g=>by simp[DV.flat]at g;subst g;rfl⟩
 . intro i x j d a h hd f;rw[ki]at h;obtain⟨b,k,rfl⟩:=iI.mp h;rcases j with _|j;.cases hd;rw[show 0+i*1+0=i by omega,ki,k]at f;cases f;exact .int _ _
   grind[DV.flat]
theorem aoq(j:dw P K Y aq)(c:HR K Y B H O.lb O.g)(f:bZ K Y B H tm O.sl){r d:an}(i:o.op=.convert r d x)(h:dC P aq fk gs cr later O o=J st'):eO P ak rec cf K Y B H st0 O st' tm o:=by
 unfold dC at h;rw[i]at h;simp only at h;obtain⟨v,m,h⟩:=aE h;obtain⟨a,p,_,g⟩:=oz (P:=P) j c f m;split at h;.rename_i u k t n l hd;cases g;refine sj c f ?_ h (.int _ _);simp_all[dS,GG,eY]
 . rename_i e s l hd;cases g;split at h;.rename_i q;obtain⟨f1,f2,f3,_⟩:=nP h;refine⟨.sl H.next 0 (s.map λb=>DV.int .u8 (.ofNat b)).length Z 1,H.cQ (s.map λb=>AV.int .u8 (.ofNat b)) .ro e,?_,f1,aaS c f h (am9 K Y),f2,f3,Fq _ _ _ _⟩;unfold fB dS;rw[i];simp only[GG];grind[Ak,dT]
   simp_all
 simp_all
theorem axV(g:dw P K Y aq)(c:HR K Y B H O.lb O.g)(d:bZ K Y B H tm O.sl)(f:o.op=.index t x y)(h:dC P aq fk gs cr later O o=J st'):eO P ak rec cf K Y B H st0 O st' tm o:=by
 unfold dC at h;rw[f]at h;simp only at h;split at h
 . rename_i p i hi;obtain⟨v,n,_,k⟩:=oz g c d hi;cases k;split at h;.rename_i s u j;obtain⟨b,m,h⟩:=aE h;obtain⟨a,l,_,e⟩:=oz g c d j;cases e;refine sj c d ?_ h (.int _ _);simp_all[dS,DT,w8,eY]
   grind
 grind
theorem aBc(a:HR K Y B H O.lb O.g)(A:bZ K Y B H tm O.sl)(z:o.op=.makeMap t Z)(h:dC P aq fk gs cr later O o=J st'):eO P ak rec cf K Y B H st0 O st' tm o:=by
 unfold dC at h;rw[z]at h;obtain⟨f1,f2,f3,_⟩:=nP h;have W:(H.alloc (.map [] 0)).get H.next=J (.map [] 0):=mA H _;have m:bg (H.alloc (.map [] 0)):=wA a.inv _ (λl r fl e' g=>ai);obtain⟨d,ω',f,n,s,u,G,v⟩:=QG (y:=.map [] 0) a m (by grind[rootOf]) λd ω' D E=>⟨[],W,rfl,λk x y e=>ai⟩;have F:bZ K _ _ (H.alloc (.map [] 0)) tm _:=λt sv w=>by obtain⟨i,g1,g2,g3⟩:=A t sv w;refine⟨i,g1,g2,g3.keep a.inv (j9 H _ _) (bo.refl _) f (λp r b c x=>⟨u p r b ?_ x,id⟩) aT aT aT⟩;rcases c with rfl|⟨j,rfl⟩<;>trivial
 refine⟨.map H.next,H.alloc (.map [] 0),?_,f1,?_,f2,f3,Fq _ _ _ _⟩;.simp_all[fB,dS,GL]
 .exact fN.trans a.inv (bo.refl _) (a.fX (j9 H _ (λ_=>False))) f (j9 H _ _) (λp r b c=>by
 rcases v p r b c with⟨q,h⟩|rfl;.exact .inl ⟨q,b,h⟩
 omega) (A4 (O:={O with g:=O.g.alloc _}) s F h (DR.map _ _ n))
end
section
variable{P:aH}{K:aY}{Y:cm}
theorem adT(o:DR K Y k a):∀(es:List lq)(fs:List eI)(i:Nat)(r:ah (Nat×lq)),es.length=fs.length->(∀(j:Nat)(x:lq)(y:eI),es[j]?=J x->fs[j]?=J y->wo K Y x y)->findD P t k es i=J r->(r=Z/\oR P t a fs i=J Z)\/∃j x y,r=J (j,x)/\oR P t a fs i=J (J (j,y))/\wo K Y x y/\i<=j/\es[j-i]?=J x/\fs[j-i]?=J y:=by intro es;induction es with
 |nil=>intro fs i r p _ h;cases fs with|nil=>exact .inl ⟨(bE h).symm,rfl⟩|cons f fs=>grind
 |cons e es q=>intro fs i r p hr h;cases fs with|nil=>grind|cons f fs=>have c:((gF P 50 t k e.1).bind λb=>bif b then J (J (i,e))else findD P t k es (i+1))=J r:=h;obtain⟨b,l,c⟩:=aE c;have m:=hr 0 e f rfl rfl;have d:=TA (P:=P) 50 t _ _ b _ _ l o m.1;have n:oR P t a (f::fs) i=(lC P 50 t a f.1).bind λb=>bif b then J (J (i,f))else oR P t a fs (fg i):=rfl;rw[n,d];cases b with|true=>grind|false=>
 rcases q fs (i+1) r ai (λj x y a b=>hr (j+1) x y a b) c with⟨rfl,g⟩|⟨j,x,y,rfl,g1,g2,g3,g4,g5⟩;.grind
 .refine .inr ⟨j,x,y,rfl,g1,g2,ab,?_,?_⟩;all_goals grind
end
section
variable{P:aH}{ak:cj}{rec:Rec}{cf:bU}{K K':aY}{Y A:cm}{B ω':aJ}{H H':Heap}{S:Nat->Prop}
variable{aq:Nat->ah ao}{gs cr:aC}{fk:bW->Nat}{later:List aB}{st0 O st':St}{tm:Tr AV}{o:aB}
theorem agi(n:Nat)(h:Ff P t k=V)(b:DR K Y k a):IL P (n+1) t a=V:=by
 unfold Ff at h;split at h;iterate 3·cases b;show BJ P _ t _=V;simp_all[BJ]
 grind
theorem agj(h:sU P t k=V)(c:DR K Y k a):ql P t a=V:=by
 unfold sU at h;split at h
 . rename_i fs s u;obtain⟨m,rfl,r,sm⟩:=c.tA;show BJ P (IL P 4) t _=V;unfold BJ;rw[u];simp only[qB,AW,AR]at h|-;intro f e;have:=h f e;split at this;.rename_i v g;obtain⟨b,d,hr⟩:=MG g r sm;rw[d];exact .inr (agi 3 this hr)
   grind
 .exact agi 4 h c
theorem tp2{t:Nat}{d e:DV}{b:AV}(f:DR K Y d a)(g:DR K Y e b):my K Y B H tm t (.tp [(d,.no),(e,.no)]) (.cL [a,b]):=by refine⟨_,rfl,rfl,λj x y h c=>?_⟩;match j with|0=>cases h;cases c;exact f|1=>cases h;cases c;exact g|j+2=>simp at h
theorem aAZ(w:dw P K Y aq)(d:HR K Y B H O.lb O.g)(s:bZ K Y B H tm O.sl){k:aK}{l:Bool}(A:o.op=.lookup t x k l)(h:dC P aq fk gs cr later O o=J st'):eO P ak rec cf K Y B H st0 O st' tm o:=by
 have u:=d.sub;unfold dC at h;rw[A]at h;simp only at h;split at h;.rename_i D N r R S;obtain⟨a,F,_,G⟩:=oz (P:=P) w d s S;cases G with|map _ i hi=>
  split at h
  . rename_i es c L;obtain⟨U,I,h⟩:=aE h;obtain⟨b,M,_,q⟩:=oz (P:=P) w d s I;obtain⟨T,q1,_,q2⟩:=d.jf _ _ L;obtain rfl:i=T:=bE (hi.symm.trans q1);obtain⟨fs,W,X,p⟩:=q2;have Q:H.jO i=J (fs,c):=by unfold Heap.jO;rw[W]
    by_cases n:sU P D U=V
    . simp only[n,aR]at h;obtain⟨rr,pL,h⟩:=aE h;have E:=agj n q;have m:dS P ak tm H o=(oR P D b fs 0).bind λ|some (_,e)=>eY H (J (bif l then .cL [e.2.1,.bool V]else e.2.1))|none=>(yZ P N).bind λz=>eY H (J (bif l then .cL [z,.bool C]else z)):=by unfold dS;rw[A];simp only[Ci];simp only[R,F,Q,M,E,gJ,cR,aR]<;>rfl
      rcases adT q es fs 0 rr X (λj x y e1 e2=>⟨(p j x y e1 e2).1.mono u (aX.refl _),(p j x y e1 e2).2.1.mono u (aX.refl _),(p j x y e1 e2).2.2⟩) pL with⟨rfl,g⟩|⟨j,x,y,rfl,g1,_,_,g4,g5⟩;.simp only at h;obtain⟨z,f,h⟩:=aE h;unfold cu at f;obtain⟨az,v,f⟩:=aE f;cases l with|false=>exact sj d s (by rw[m,g];simp only[cR,v,eY,gJ,bX]) h (Cy f)|true=>exact qY d s (by rw[m,g];simp only[cR,v,eY,gJ,aR]) h aP λ_ _ _=>tp2 (Cy f) (.bool _)
      .cases l with|false=>exact sj d s (by rw[m,g1];simp only[cR,eY,gJ,bX]) h (p _ x y g4 g5).2.1|true=>exact qY d s (by rw[m,g1];simp only[cR,eY,gJ,aR]) h aP λ_ _ _=>tp2 (p _ x y g4 g5).2.1 (.bool _)
    .simp[n]at h
  .simp at h
 .simp at h
end
section
variable{P:aH}{K K':aY}{Y A:cm}{B ω':aJ}{H H':Heap}{S:Nat->Prop}{tm:Tr AV}{O:St}
theorem Q'(b:bg H){i:Nat}(g:H.get i=J (.cells m r fl e))(p:(H.bp r).2=i):bg (H.dI i r (.cells m' r fl' e')):=by
 have hid:=b.get i _ g;have t:=b.root _ _ _ _ _ g;have u:((H.dI i r (.cells m' r fl' e')).bp r).2=i:=by grind[Ez,OY]
 refine⟨λj o h=>?_,λj l a n e1 h=>?_,λj l a n e1 h=>?_,λa f h=>?_,by rw[Cc,w7];exact b.bA⟩
 . rw[w7];by_cases c:j=i;.omega
   .rw[nH H r _ c]at h;exact b.get j o h
 . by_cases c:j=i;.grind[n7]
   .rw[nH H r _ c]at h;obtain⟨q,s⟩:=b.root j l a _ e1 h;grind[HL]
 . have back:∀a,(∃k fl' e',H.get a=J (.cells k a fl' e'))->∃l2 x e2,(H.dI i r (.cells m' r fl' e')).get a=J (.cells l2 a x e2):=by grind[n7,nH]
   by_cases c:j=i;.subst c;rw[n7]at h;obtain⟨_,rfl,_,_⟩:=ch.cells.inj (bE h);exact back r (b.oB _ _ _ _ _ g)
   .rw[nH H r _ c]at h;exact back a (b.oB j l a _ e1 h)
 . rw[w7];unfold Heap.dI at h;rw[bR]at h;by_cases d:r=i;.simp only[d,eB,aR]at h;exact b.dp a f h
   . simp only[d,lA,bX]at h;by_cases e1:a=r;.grind[Tr.lF]
     .rw[Tr.jy _ _ (Ne.symm e1)]at h;exact b.dp a f h
theorem Gw(u:pC H){i:Nat}(g:H.get i=J (.cells m r fl e)):pC (H.dI i r (.cells m' r fl' e)):=λj l a d e1 h=>by
 have back:∀{a e1},(∃c fl',H.get a=J (.cells c a fl' e1))->∃l2 x,(H.dI i r (.cells m' r fl' e)).get a=J (.cells l2 a x e1):=by grind[n7,nH]
 by_cases b:j=i;.subst b;rw[n7]at h;obtain⟨_,rfl,_,rfl⟩:=ch.cells.inj (bE h);exact back (u _ _ _ _ _ g)
 .rw[nH H r _ b]at h;exact back (u j l a _ e1 h)
theorem Wq{i:Nat}(h:H.get i=J (.cells m r fl e))(j:Nat):rootOf (H.dI i r (.cells m' r fl' e')) j=rootOf H j:=by grind[n7,rootOf,nH]
theorem yA{i:Nat}(g:H.get i=J (.cells m r fl e)):bT (λx=>x=r) H (H.dI i r (.cells m' r fl' e'))where
 next:=by rw[w7];exact bS _
 get:=λj _ h=>nH H r _ (λx=>h (by rw[x,lN g]))
 dp:=λa _ h=>HL H i r _ h
 root:=λj _=>Wq g j
def bT.xu(i:bg H){T:Nat->Prop}(k:bT S H H')(h:∀r,r<H.next->S r->T r):bT T H H' where
 next:=k.next
 get:=λid hid n=>k.get id hid λx=>n (h _ (qZ i hid) x)
 dp:=λr hr n=>k.dp r hr λx=>n (h r hr x)
 root:=k.root
theorem Rc(a:HR K Y B H lb g){i:Nat}(o:B p=J (r,V))(n:H.get i=J (.cells m r fl e))(l:(H.bp r).2=i){src:Pk->ah Pk}(s:∀p q y,src p=J y->src q=J y->p=q):bg (H.dI i r (.cells m' r fl' e'))/\(∀j cells e1,K j=J (cells,e1)->∃root f,(H.dI i r (.cells m' r fl' e')).get j=J (.cells cells root f e1)/\((H.dI i r (.cells m' r fl' e')).bp root).1<=j)/\(∀p q r1 b c,B.of src p=J (r1,b)->B.of src q=J (r1,c)->p=q)/\(∀p r1 j x,B.of src p=J (r1,V)->K j=J x->rootOf (H.dI i r (.cells m' r fl' e')) j≠r1)/\∀p r1 b,B.of src p=J (r1,b)->r1<(H.dI i r (.cells m' r fl' e')).next:=by obtain⟨k,c3,t⟩:=V' a s;refine⟨Q' a.inv n l,λj cells e1 d=>?_,k,λp r1 j x u v=>by grind[Wq],λp r1 b h=>by grind[w7]⟩;obtain⟨root,f,g1,g2⟩:=a.dm j _ e1 d;have D:=a.clean p r j _ o d;grind[lN,nH,HL]
theorem xi{l:cX}(u:bg H)(z:bZ K Y B H tm l)(k:bT S H H')(q:bo K K')(c:aX Y A)(y:∀p r b,p.slot->B p=J (r,b)->ω' p=J (r,b)/\¬S r)(D:∀s i b,ω' (.lb s)=J (i,b)->B (.lb s)=J (i,b)):bZ K' A ω' H' tm (cN l):=by
 intro t sv h;unfold cN at h;rw[qQ l _]at h;rcases f:look l t with _|o;.grind
 rw[f]at h;cases h;obtain⟨d,g,m,n⟩:=z t _ f;have gen:(∀id I,o≠.gr id _)->∃a,tm.get t=J a/\(o≠.dd->a≠.top)/\my K' A _ H' tm t _ a:=λv=>⟨d,g,m,n.keep u k q c (λp r b w=>y p r b (by rcases w with rfl|⟨j,rfl⟩<;>trivial)) aT aT (λid I i e _=>absurd e (v id I))⟩;cases o with|gr id I=>exact⟨d,g,λx=>absurd rfl x,trivial⟩|_=>exact gen aT
theorem ZK{l:cX}{c:Nat}(v:bg H)(D:bZ K Y B H tm l)(k:bT S H H')(u:bo K K')(d:aX Y A)(z:∀p r b,p.slot->(∀j,p≠.tp c j)->p≠.sl c->B p=J (r,b)->ω' p=J (r,b)/\¬S r)(E:∀s i b,ω' (.lb s)=J (i,b)->B (.lb s)=J (i,b))(W:tm.get c=J a)(F:sv≠.dd->a≠.top)(L:my K' A ω' H' tm c sv a):bZ K' A ω' H' tm (put (cN l) c sv):=by
 intro t G h;rw[me]at h;by_cases e:t=c;.grind
 . rw[if_neg e]at h;unfold cN at h;rw[qQ l _]at h;rcases g:look l t with _|o;.grind
   rw[g]at h;cases h;obtain⟨f,m,n,q⟩:=D t _ g;have gen:(∀id I,o≠.gr id _)->∃a,tm.get t=J a/\(o≠.dd->a≠.top)/\my K' A _ H' tm t _ a:=λw=>⟨f,m,n,q.keep v k u d (λp r b y=>z p r b (by rcases y with rfl|⟨j,rfl⟩<;>trivial) ai ai) aT aT (λid I i e _=>absurd e (w id I))⟩;cases o with|gr id I=>exact⟨f,m,λx=>absurd rfl x,trivial⟩|_=>exact gen aT
theorem AV.anL(h:a.aU=V)(t:a≠.top):a.cells=J [a]:=by cases a<;>first|rfl|exact absurd rfl t|grind[AV.aU]
theorem Nr(l:ao)(o:Nat)(v:ao):lg l o v=fV l o v:=by rw[DK];rfl
end
section
variable{P:aH}{ak:cj}{rec:Rec}{cf:bU}{K K':aY}{Y A:cm}{B ω':aJ}{H H':Heap}{S:Nat->Prop}
variable{aq:Nat->ah ao}{gs cr:aC}{fk:bW->Nat}{later:List aB}{st0 O st':St}{tm:Tr AV}{o:aB}
theorem cO.cells{d:DV}(h:cO K Y B H p d a ow):∃vs,a.cells=J vs/\d.flat.length=vs.length/\(∀y,y∈d.flat->y.aU=V)/\((d.flat=[d]/\vs=[a]/\d.aU=V)\/(d.aU=C/\bK K Y d.flat vs)):=by
 have dr:DR K Y d a->∃vs,a.cells=J vs/\d.flat.length=vs.length/\(∀y,y∈d.flat->y.aU=V)/\((d.flat=[d]/\vs=[a]/\d.aU=V)\/(d.aU=C/\bK K Y d.flat vs)):=by intro h;obtain⟨vs,f,b,g⟩:=h.cells;refine⟨vs,f,b.1,g,?_⟩;cases hd:d.aU with|true=>refine .inl ⟨by cases d<;>first|rfl|simp[DV.aU]at hd,?_,rfl⟩;rw[AV.anL (h.aU hd) h.qS]at f;exact(bE f).symm|false=>exact .inr ⟨rfl,b⟩
 cases ow with|no=>exact dr h|any=>obtain⟨rfl,rfl⟩:=h;exact dr .nl|full e=>exact dr h.1|ty e=>exact dr h.1|ex e=>
 rcases h with⟨rfl,rfl⟩|⟨r,_,b⟩;.exact dr .nl
 .obtain⟨l,esz,id,I,c,cells,fl,rfl,rfl,_⟩:=b.ex;exact⟨_,rfl,rfl,by simp[DV.flat,DV.aU],.inl ⟨rfl,rfl,rfl⟩⟩
open Classical in def pT(x:Loc)(o n:Nat)(l:ah Nat):Pk->ah Pk:=λp=>if p=x.pk o/\0<n then l.map .sl else if∃j,o<=j/\j<o+n/\p=x.pk j then Z else if∃t,l=J t/\(p=.sl t\/∃j,p=.tp t j)then Z else J p
theorem aju{x:Loc}{n:Nat}:∀p q y,pT x I n lv p=J y->pT x I n lv q=J y->p=q:=by
 intro p q y a h;have k:∀(p q:Pk),(p=x.pk I/\0<n)->lv.map Pk.sl=J y->pT x I n lv q=J y->p=q:=by
   intro p q a e h;unfold pT at h;by_cases b:q=x.pk I/\0<n;.grind
   . rw[if_neg b]at h;split at h;.grind
     . split at h;.grind
       .rename_i d;cases h;exfalso;cases lv<;>simp_all
 by_cases b:p=x.pk I/\0<n;.have E:=a;unfold pT at E;rw[if_pos b]at E;exact k p q b E h
 . by_cases c:q=x.pk I/\0<n;.have W:=h;unfold pT at W;rw[if_pos c]at W;exact(k q p c W a).symm
   . unfold pT at a h;rw[if_neg b]at a;rw[if_neg c]at h;split at a;.grind
     . split at a;.grind
       .split at h;all_goals simp_all
theorem xj{x:Loc}{n:Nat}(h:∀j,I<=j->j<I+n->p≠x.pk j)(a:∀t,lv=J t->p≠.sl t/\∀j,p≠.tp t j):pT x I n lv p=J p:=by grind[pT]
theorem aJU{x:Loc}{n:Nat}(h:0<n):pT x I n lv (x.pk I)=lv.map .sl:=by grind[pT]
theorem agM(l:List (Nat×aM)){n k:Nat}(h:k<I\/I+n<=k):look (cY l I n) k=look l k:=by refine agN l (λk=>ct k _||bt _ k) ?_;simp_all
theorem VB(l:List (Nat×aM)){n k:Nat}(h:I<=k)(a:k<I+n):look (cY l I n) k=Z:=by induction l<;>grind[cY,look,eQ,dj,bR]
theorem ajk{n i:Nat}(d:aW P t=J n)(v:a.cells=J vs)(l:vs.length=n)(g:H.get i=J (.cells m r fl e))(w:fl.wr=V)(h:(H.bp r).1<=i)(b:(H.bp r).2=i)(c:I+n<=m.length):AM.storeVar P H t i I a=J (H.dI i r (.cells (fV m I vs) r fl e)):=by grind[AM.storeVar,dT,bR,Heap.store,dj]
theorem aia{d:DV}(h:d.aU=V):mK I d ow=(match ow with|.ty e=>[(I,aM.ty e)]|.ex e=>[(I,.ex e)]|_=>[]):=by split<;>simp_all[mK]
theorem ah9{d:DV}(h:d.aU=C):mK I d ow=[]:=by grind[mK]
theorem aFp{n:Nat}{d:DV}{l:List (Nat×aM)}{k:Nat}(h:(k,aM.full t)∈mK I d ow++cY l I n):(k,aM.full t)∈l:=by
 rcases Co.1 h with h|h;.unfold mK at h;split at h<;>simp_all
 .exact(bl.1 h).1
theorem aKD{c:Loc}{b R:LB}{i:Nat}{d:DV}{pv:Pk}(o:HR K Y B H O.lb O.g)(g:O.at c=J b)(U:B c.top=J (i,V))(lI:po K Y B H c.pk b i)(q:yP P t b I d ow=J R)(T:cO K Y B H pv d a ow)(mX:(∃f,lv=J f/\pv=.sl f)\/(lv=Z/\(ow=.no\/ow=.any))):∃H' n,AM.storeVar P H t i I a=J H'/\bT (λr=>r=i) H H'/\H'.bA=H.bA/\H'.cI=H.cI/\H'.bV=Heap.note H.bA i H.bV/\HR K Y (B.of (pT c I n lv)) H' (O.setAt c R).lb (O.setAt c R).g:=by
 obtain⟨m,fl,e,w,h2,h3,h4,h5,h6⟩:=lI;obtain⟨vs,v1,v2,v3,v4⟩:=T.cells;unfold yP at q;obtain⟨n,hn,q⟩:=aE q;rw[bR,dj]at q;by_cases iE:d.flat.length=n
 . by_cases jW:I+n<=b.cells.length
   . simp only[iE,jW,eB,xx,aR]at q;cases q;have qL:vs.length=n:=ab;have Bz:I+n<=m.length:=ab;refine⟨_,n,ajk hn v1 qL w h2.1 h3 h4 Bz,yA w,Cc ..,yb ..,xw ..,?_⟩;obtain⟨q1,q2,q3,q4,q5⟩:=Rc (m':=fV m I vs) (fl':=fl) (e':=e) o U w h4 (aju (x:=c) (I:=I) (n:=n) (lv:=lv));have UT:∀(y:Loc)(j:Nat)(f:Nat),y.pk j≠.sl f/\∀k,y.pk j≠.tp f k:=λy j f=>⟨λe=>Loc.As y j (e▸trivial),λk e=>Loc.As y j (e▸trivial)⟩;have G:=yA (m':=fV m I vs) (fl':=fl) (e':=e) w;have A:∀p r b,B p=J (r,b)->p≠c.top->¬r=i:=λp r b h D e=>by subst e;exact D (o.inj _ _ _ _ _ h U)
     refine HR.Gj (S:=λr=>r=i) o g U (bo.refl _) G q1 (Gw o.gW w) q2 q3 q4 q5 (λs=>?_) (λid=>?_) ?_ (λp r b _ D h=>A p r b h D) ?_;.grind[aJ.of,xj,Loc.BY]
     .grind[aJ.of,xj,Loc.MK]
     . intro y F d1 E o1 hy hp;refine hp.keep o.inv G (bo.refl _) (aX.refl _) λr b g=>⟨?_,A _ r b g ?_⟩;.unfold aJ.of;rw[xj (λj _ _ e=>hy (Loc.BX e).1) (λt _=>UT y F t)];grind
       .cases c<;>cases y<;>simp[Loc.pk,Loc.top]
     . refine⟨fV m I vs,fl,e,n7 _ _ _ _,h2.sub (λk t hm=>(aFp hm)),by grind[Ez],by grind[Ez],?_,λF d1 E u v=>?_⟩;.grind[Nr,yO]
       . have u:(lg b.cells I d.flat)[F]?=J d1:=u;have W:=u;rw[Nr,yN _ _ _ ab,iE]at u;rw[yN _ _ _ ab,qL]at v;by_cases M:I<=F/\F<I+n
         . rw[if_pos M]at u v;rcases v4 with⟨X,w2,w3⟩|⟨X,w2⟩
           . have nI:n=1:=ai;have ho:F=I:=ab;subst ho;rw[X,Nat.sub_self]at u;rw[w2,Nat.sub_self]at v;obtain rfl:d=d1:=bE u;obtain rfl:a=E:=bE v;refine⟨w3,?_⟩;have aNN:∀f,lv=J f->(B.of (pT c F n lv)) (c.pk F)=B (.sl f):=by grind[aJ.of,aJU]
             have z:cO K Y (B.of (pT c F n lv)) (H.dI i i (.cells (fV m F vs) i fl e)) (c.pk F) d a ow:=by
              rcases mX with⟨f,Ad,rfl⟩|⟨_,rfl|rfl⟩;.exact T.keep o.inv G (bo.refl _) (aX.refl _) λr b g=>⟨ai,A _ r b g (by cases c<;>simp[Loc.top])⟩
              .exact T
              .exact T
             unfold eu;show cO _ _ _ _ _ _ _ (match(lg b.cells F d.flat)[F]? with|some .nl=>aM.any|_=>(look (mK F d ow++cY b.own F n) F).getD .no);rw[W];have N:=VB b.own (I:=F) (n:=n) (k:=F) (bS _) ab;have Q:d=.nl->cO K Y (B.of (pT c F n lv)) (H.dI i i (.cells (fV m F vs) i fl e)) (c.pk F) d a .any:=by intro hd;subst hd;refine⟨rfl,?_⟩;have L:=T;cases ow with|no=>cases L;rfl|any=>exact L.2|full e=>have:=L.1;cases this;rfl|ty e=>have:=L.1;cases this;rfl|ex e=>
              rcases L with⟨_,h⟩|⟨r,_,h⟩;.omega
              .obtain⟨l,_,_,_,_,_,_,h,_⟩:=h.ex;grind
             rw[aia w3];cases ow with
             |no=>grind|any=>obtain⟨rfl,_⟩:=z;grind|full e=>simp only[jJ,N];cases d<;>first|exact Q rfl|exact z.1
             |ty e=>grind[look,bR]|ex e=>grind[look,bR]
           .have tJ:d1.aU=V:=v3 d1 (du u);refine⟨tJ,?_⟩;have gQ:=w2.2 _ d1 E u v;unfold eu;show cO _ _ _ _ _ _ _ (match(lg b.cells I d.flat)[F]? with|some .nl=>aM.any|_=>(look (mK I d ow++cY b.own I n) F).getD .no);rw[W,ah9 X];have N:=VB b.own (I:=I) (n:=n) (k:=F) M.1 M.2;simp only[jJ,N];cases d1<;>first|exact gQ|(cases gQ;exact⟨rfl,rfl⟩)
         . rw[if_neg M]at u v;obtain⟨k1,k2⟩:=h6 F d1 E u v;refine⟨k1,?_⟩;have yj:F<I\/I+n<=F:=ab;have pM:eu {cells:=lg b.cells I d.flat,own:=mK I d ow++cY b.own I n} F=eu b F:=by
             unfold eu;simp only[W,u];have hJ:look (mK I d ow++cY b.own I n) F=look b.own F:=by
              have PA:=agM b.own (I:=I) (n:=n) yj;by_cases il:d.aU=V;.have nI:n=1:=ai;have D:I≠F:=ab;rw[aia il];cases ow with|ty e=>show(bif aw I F then _ else _)=_;rw[bR];simp only[D,lA,bX];exact PA|ex e=>show(bif aw I F then _ else _)=_;rw[bR];simp only[D,lA,bX];exact PA|_=>grind
              grind[ah9]
             grind
           rw[pM];refine k2.keep o.inv G (bo.refl _) (aX.refl _) λr b g=>⟨?_,A _ r b g (by cases c<;>simp[Loc.pk,Loc.top])⟩;unfold aJ.of;rw[xj (λj j1 j2 e=>by grind[Loc.BX]) (λt _=>UT c F t)];grind
   grind
 grind
end
section
variable{P:aH}{ak:cj}{rec:Rec}{cf:bU}{K K':aY}{Y A:cm}{B ω':aJ}{H H':Heap}{S:Nat->Prop}
variable{gs cr:aC}{fk:bW->Nat}{later:List aB}{st0 O st':St}{tm:Tr AV}{o:aB}{aq:Nat->ah ao}
def ud(l:ah Nat):Pk->ah Pk:=match l with|some t=>pS t|none=>J
theorem aiK{q:Pk}(a:p.slot)(h:ud lv p=J q):q=p/\∀t,lv=J t->p≠.sl t/\∀j,p≠.tp t j:=by
 unfold ud at h;rcases lv with _|t;.grind
 cases p<;>simp only[Pk.slot]at a<;>grind[pS]
theorem Qp(m:dw P K Y aq)(n:HR K Y B H O.lb O.g)(s:bZ K Y B H tm O.sl){d:DV}(q:cU aq O x=J (.dv d ow)):∃a lv p,AM.bJ P tm x=J a/\a≠.top/\cO K Y B H p d a ow/\((∃j,lv=J j/\p=.sl j)\/(lv=Z/\(ow=.no\/ow=.any)))/\bZ K Y (B.of (ud lv)) H tm (aQ leave O x).sl:=by
 obtain⟨a,i,b,c⟩:=qU m s q;rcases c with⟨t,rfl,o,W,h⟩|⟨U,c⟩
 . refine⟨a,_,_,i,b,h,.inl ⟨t,rfl,rfl⟩,?_⟩;have e1:aQ leave O (.tmp t)={O with sl:=put O.sl t (leave (.dv d ow))}:=by grind[aQ]
   rw[e1];exact RA n s o W b h
 . have e1:aQ leave O x=O:=by cases x<;>first|rfl|grind
   rw[e1];have k:cO K Y B H (.sl 0) d a ow/\(ow=.no\/ow=.any):=by
    rcases c with⟨r,e,h⟩|⟨r,f,_,_,e,h⟩|⟨g,l,cells,e1,e,_⟩
    . obtain⟨rfl,rfl⟩:=SV.dv.inj e;unfold ua;split;.cases h;exact⟨⟨rfl,rfl⟩,.inr rfl⟩
      .exact⟨h,.inl rfl⟩
    .obtain⟨rfl,rfl⟩:=SV.dv.inj e;exact⟨h,.inl rfl⟩
    grind
   exact⟨a,_,_,i,b,k.1,.inr ⟨rfl,k.2⟩,s⟩
theorem ajC{i:Nat}(b:o.op=.store t x y)(c:AM.bJ P tm x=J (.ptr i I))(d:AM.bJ P tm y=J a)(h:AM.storeVar P H t i I a=J H'):dS P ak tm H o=J (.val fC H'):=by simp_all[dS,DY]
theorem Cv(a:HR K Y B H O.lb O.g)(s:bZ K Y B H tm O.sl)(h:aG O dst (.tp [])=J st'):fN K Y B H st' (gR tm dst fC) H:=xI a s h (by simp[fC]) λ_ _ _=>⟨[],rfl,rfl,λj x y h=>ai⟩
theorem ajA(h:o.op=.store t x y):kindOf cf O o.op=.wr:=by rw[h];rfl
theorem VA{a:Bool}(c:H'.bA=H.bA)(f:H'.cI=H.cI)(d:H'.bV=Heap.note H.bA r H.bV)(p:dK B r){k:Kd}(b:k=.wr):uk B k a H H':=by refine⟨c,λh=>absurd b h,λh=>absurd b h,λe hr=>?_,λe hr=>.inl ai⟩;rw[d]at hr;rcases vN hr with h|⟨rfl,h⟩<;>grind
theorem ajz(F:dw P K Y cf.aq)(f:HR K Y B H O.lb O.g)(G:bZ K Y B H tm O.sl)(l:o.op=.store t x y){d:DV}{z:Loc}{b c:LB}(M:cU cf.aq O y=J (.dv d ow))(k:O.at z=J b)(L:∀i,B z.top=J (i,V)->(∀id,z=.g id->Y id=J i)->AM.bJ P tm x=J (.ptr i I))(E:yP P t b I d ow=J c)(h:aG {(aQ leave O y).setAt z c with sl:=cN (aQ leave O y).sl} o.dst (.tp [])=J st'):eO P ak rec cf K Y B H O O st' tm o:=by
 obtain⟨i,g,N,Q⟩:=f.at k;obtain⟨a,lv,X,v,T,w,A,D⟩:=Qp F f G M;obtain⟨H',n,g1,g2,g3,g4,g5,g6⟩:=aKD f k g N E w A;obtain⟨f1,f2,f3,f4,f5⟩:=nP h;obtain⟨e1,e2,e3,e4⟩:=BT _ O y;have rK:((aQ leave O y).setAt z c).lb=(O.setAt z c).lb/\((aQ leave O y).setAt z c).g=(O.setAt z c).g/\((aQ leave O y).setAt z c).n=O.n/\((aQ leave O y).setAt z c).fn=O.fn:=by cases z<;>simp only[St.setAt]<;>rw[e3,e4,e1,e2]<;>exact⟨rfl,rfl,rfl,rfl⟩
 have U:∀p r b,p.slot->B p=J (r,b)->¬r=i:=λp r b m h e=>by subst e;have:=f.inj _ _ _ _ _ h g;subst this;cases z<;>exact m.elim
 have R:bZ K Y (B.of (pT z I n lv)) H' tm (cN (aQ leave O y).sl):=by
  refine xi f.inv D g2 (bo.refl _) (aX.refl _) (λp r b m h=>?_) (λs j b h=>?_);.grind[aJ.iG,aiK,aJ.of,xj,Loc.As]
  .obtain⟨q,u,S⟩:=aJ.iG h;rw[xj (λj _ _=>(Loc.BY z j s).symm) aT]at u;cases u;cases lv<;>exact S
 refine⟨fC,H',?_,λt W=>ai,?_,ai,ai,VA g3 g4 g5 ⟨_,_,g⟩ (ajA l)⟩;.unfold fB;rw[ajC l (L i g Q) v g1];rfl
 .refine fN.trans (ω1:=B.of (pT z I n lv)) f.inv (bo.refl _) (f.fX g2) (aX.refl _) (g2.xu f.inv λr _ e=>⟨_,_,e▸g⟩) (λp r b h=>let⟨q,_,h⟩:=aJ.iG h;.inl ⟨q,b,h⟩) ?_;refine Cv ?_ R h;grind
theorem Rw{i:Nat}(h:i<l.length)(j:Nat):(iH l i v)[j]?=if j=i then J v else l[j]?:=by grind[iH]
theorem Ni{i:Nat}(h:i<l.length):(iH l i v).length=l.length:=by grind[iH]
theorem HR.aiy(a:HR K Y B H lb g){n:Nat}(v:B p=J (r,V))(N:p.slot)(l:H.get n=J (.cells m r fl e))(t:(H.bp r).2=n):HR K Y B (H.dI n r (.cells m' r fl' e)) lb g:=by
 obtain⟨E,F,q3,G,q5⟩:=Rc (m':=m') (fl':=fl') (e':=e) a v l t (src:=J) (λp q y L t=>ai);have u:=yA (m':=m') (fl':=fl') (e':=e) l;have D:∀q d b,¬q.slot->B q=J (d,b)->¬d=r:=λq d b M h e=>by subst e;have:=a.inj _ _ _ _ _ h v;grind
 refine⟨E,F,q3,G,q5,λs b z=>?_,λk o A=>?_,a.mW,Gw a.gW l⟩;.obtain⟨i,f,j⟩:=a.box s b z;exact⟨i,f,j.keep a.inv u (bo.refl _) (aX.refl _) (D _ i _ (by simp[Pk.slot]) f) λI d c x=>⟨x,D _ d c (by simp[Pk.slot]) x⟩⟩
 .obtain⟨i,f,j,w⟩:=a.jf k o A;exact⟨i,f,j,w.keep a.inv u (bo.refl _) (aX.refl _) (D _ i _ (by simp[Pk.slot]) j) λI d c x=>⟨x,D _ d c (by simp[Pk.slot]) x⟩⟩
theorem aHE{e:DV}{s:ao}(h:reshape e s=J el'):el'.flat=s:=by
 unfold reshape at h;split at h;.obtain rfl:=bE h;rfl
 . rename_i c _;rcases a:c.aU with _|_;.grind
   rw[a]at h;obtain rfl:=bE h;cases c<;>first|rfl|grind[DV.aU]
 grind
theorem aJp{x:DV}(h:cU aq O y=J (.dv x ow)):bj aq (aQ share O y) y=J x:=by cases y<;>grind[bj,aQ,share,CK,me,cU]
theorem gN.set{i:Nat}{c:aI}{f:DV}{d:DV}{k0 n:Nat}(h:gN K Y l esz I c)(p:l[i]?=J f)(t:el'.flat=lg f.flat k0 d.flat)(r:d.flat.length=n)(B:k0+n<=f.flat.length)(o:bK K Y d.flat vs)(D:∀y,y∈d.flat->y.aU=V):gN K Y (iH l i el') esz I (fV c (I+i*esz+k0) vs)/\I+i*esz+k0+n<=c.length:=by
 obtain⟨g1,g2,g3,g4⟩:=h;have m:=(am.1 p).1;obtain⟨k1,k2⟩:=g3 i f p;have u:i*esz+esz<=l.length*esz:=by have:(i+1)*esz<=l.length*esz:=lU _ m;grind
 have L:vs.length=n:=by rw[<-o.1];omega
 have s:I+i*esz+k0+n<=c.length:=ab;refine⟨⟨g1,?_,λj x b=>?_,λj x k d1 v b g a=>?_⟩,s⟩;.grind[Ni,yO]
 .grind[Rw,lg]
 . rw[yN _ _ _ ab,L]at a;rw[Rw m]at b;by_cases e:j=i
   . rw[if_pos e]at b;cases b;subst e;rw[t,Nr,yN _ _ _ ab,r]at g;by_cases z:k0<=k/\k<k0+n;.rw[if_pos z]at g;rw[if_pos ab]at a;rw[show I+j*esz+k-(I+j*esz+k0)=k-k0 by omega]at a;exact o.2 _ _ _ g a
     grind
   . rw[if_neg e]at b;have E:k<esz:=by grind
     rw[if_neg]at a;.grind
     . rintro⟨w,A⟩;rcases Nat.lt_or_gt_of_ne e with q|X;.have:(j+1)*esz<=i*esz:=lU _ q;grind
       .have:(i+1)*esz<=j*esz:=lU _ X;grind
theorem KS{i:Nat}{ob:ch}(h:(H.bp r).1<=i)(a:(H.bp r).2=i):((H.dI i r ob).bp r).1<=i/\((H.dI i r ob).bp r).2=i:=by grind[Ez,OY]
theorem aKK(G:dw P K Y cf.aq)(u:HR K Y B H O.lb O.g)(N:bZ K Y B H tm O.sl)(M:o.op=.store t x y){d g:DV}{s i n:Nat}{w:ao×an×Nat}(hy:cU cf.aq O y=J (.dv d ow))(hx:cU cf.aq O x=J (.se s i I))(v:nF (aQ share O y) s=J w)(R:w.1[i]?=J g)(hn:aW P t=J n)(Q:d.flat.length=n)(jW:I+n<=g.flat.length)(hr:reshape g (lg g.flat I d.flat)=J el')(h:aG {aQ share O y with sl:=put (cN (aQ share O y).sl) s (.dv (.ay (iH w.1 i el') w.2.1 w.2.2) (.ex w.2.1))} o.dst (.tp [])=J st'):eO P ak rec cf K Y B H O O st' tm o:=by
 obtain⟨K1,ω1,z,m,A,S,s5,s6,s7,_⟩:=ZG u N y;obtain⟨av,v1,v2,v3⟩:=sX (G.mono z.1 (aX.refl _)) A s5 (aJp hy);obtain⟨vs,w1,D,w3⟩:=v3.cells;obtain⟨U,x1,_,x3⟩:=qU G N hx;obtain⟨id,a,len,c,esz,e1,e2⟩:∃id a len c esz,tm.get s=J (.sl id a len c esz)/\U=.ptr id (a+i*esz+I):=by
   rcases x3 with⟨t',_,_,_,h4⟩|⟨_,⟨_,e,_⟩|⟨_,_,_,_,e,_⟩|⟨_,_,_,_,e,_⟩⟩;.exact h4
   all_goals grind
 unfold nF at v;split at v
 . rename_i l e n0 e' hl;cases v;obtain⟨b0,E,_,W⟩:=A s _ hl;rw[e1]at E;cases E;rcases W with⟨z1,_⟩|⟨r,r1,X⟩;.grind
   . obtain⟨l',qb,qM,dF,c',cells,fl,g1,g2,g3,g4,g5,g6,g7,g8⟩:=X.ex;obtain⟨rfl,rfl,rfl⟩:=DV.ay.inj g1;obtain⟨rfl,rfl,rfl,rfl,rfl⟩:=AV.sl.inj g2;have n9:=aHE hr;obtain⟨t1,t2⟩:=g7.set R n9 Q jW D w3;have gd:=(am.1 R).1;have jm:=ajk hn w1 (by rw[<-D.1];omega) g3 g4 g5 g6 t2;have L:=yA (m':=fV cells (a+i*esz+I) vs) (fl':=fl) (e':=e) g3;obtain⟨f1,f2,f3,_⟩:=nP h;obtain⟨f,uE⟩:=S _ _ _ r1;refine⟨fC,H.dI id r (.cells (fV cells (a+i*esz+I) vs) r fl e),?_,λt ht=>ai,?_,ai,ai,VA (Cc ..) (yb ..) (xw ..) ⟨_,f,uE⟩ (ajA M)⟩;.unfold fB;rw[ajC M ai v1 jm];rfl
     . refine fN.trans u.inv z.1 (λj x hj=>by rw[w7,Wq g3];exact z.fX m j x hj) (aX.refl _) (L.xu u.inv λr' _ e=>⟨.sl s,f,ai⟩) (λp r b h=>let⟨f,h⟩:=S p r b h;.inl ⟨p,f,h⟩) ?_;refine Cv (O:={aQ _ O y with sl:=put _ s _}) (m.aiy r1 trivial g3 g6) ?_ h;obtain⟨y1,T⟩:=KS g5 g6;refine ZK m.inv A L (bo.refl _) (aX.refl _) (λp r' b hp k F q=>⟨q,λe=>?_⟩) aT e1 aT ?_;.subst e;exact F (m.inj _ _ _ _ _ q r1)
       . refine .inr ⟨r,r1,⟨_,_,id,a,c,_,fl,rfl,by grind[Ni],n7 _ _ _ _,g4,y1,T,t1,?_⟩⟩;rw[Ni gd];rcases g8 with⟨k,F,q⟩|k;.refine .inl ⟨k,T,?_⟩;rw[yO _ _ _ (by rw[<-D.1,Q];omega)];omega
         .exact .inr k
 grind
theorem aKO(a:dw P K Y cf.aq)(j:HR K Y B H O.lb O.g)(c:bZ K Y B H tm O.sl)(k:o.op=.store t x y)(h:dC P cf.aq fk gs cr later O o=J st'):eO P ak rec cf K Y B H O O st' tm o:=by unfold dC at h;rw[k]at h;simp only at h;obtain⟨v,m,h⟩:=aE h;cases v with
 |dv d ow=>simp only at h;cases l:cU cf.aq O x with|none=>grind|some F=>rw[l]at h;obtain⟨p,x1,_,x3⟩:=qU (P:=P) a c l;cases F with
  |lp s I=>
   simp only at h;obtain⟨b,A,h⟩:=aE h;obtain⟨f,q,h⟩:=aE h;refine ajz (z:=.l s) a j c k m A (λi hi _=>?_) q (by show aG {aQ leave O y with sl:=cN (aQ leave O y).sl,lb:=put (aQ leave O y).lb s f} o.dst (.tp [])=J st';grind[BT]);rcases x3 with⟨T,_,_,_,u⟩|⟨_,⟨_,e,_⟩|⟨_,_,_,_,e,_⟩|⟨_,_,_,_,e,_⟩⟩;.rw[x1,u i V hi]
   all_goals grind|dv r S=>cases r with
   |ptr id I=>simp only at h;cases X:O.g.get id with|none=>grind|some D=>rw[X]at h;cases D with|box b=>
   simp only at h;obtain⟨f,q,h⟩:=aE h;have E:O.at (.g id)=J b:=by grind[St.at]
   have U:(aQ leave O y).g=O.g:=(BT leave O y).2.2.2;refine ajz (z:=.g id) a j c k m E (λi hi L=>?_) q ?_
   . have Q:DR (sT H) Y (.ptr id I) p:=by obtain⟨G,W,_,y3⟩:=oz (P:=P) a j c (x:=x) (d:=.ptr id I) (by unfold bj;rw[l];rfl);grind
     cases Q<;>simp_all
   .show aG {aQ leave O y with sl:=cN (aQ leave O y).sl,g:=(aQ leave O y).g.set id (.box f)} o.dst (.tp [])=J st';simp_all|_=>simp_all
   |_=>simp at h
  |se s i I=>simp only at h;obtain⟨w,N,h⟩:=aE h;obtain⟨el,R,h⟩:=aE h;obtain⟨n,M,h⟩:=aE h;grind[bR,dj,aE,aKK]|_=>simp_all
 |_=>simp_all
def BO(K:aY)(b:cm):ah DV->ah AV->Prop|none,Z=>True|some d,J a=>DR K b d a|_,_=>False
def FP(a:Nat->ah ao)(s:St):ah aK->ah (ah DV)|some x=>(bj a s x).map J|none=>J Z
def FO(P:aH)(t:Tr AV):ah aK->ah (ah AV)|some x=>(AM.bJ P t x).map J|none=>J Z
theorem Wi(g:dw P K Y aq)(f:HR K Y B H O.lb O.g)(s:bZ K Y B H tm O.sl){x:ah aK}{v:ah DV}(h:FP aq O x=J v):∃c,FO P tm x=J c/\BO (sT H) Y v c:=by
 rcases x with _|x;.cases h;exact⟨_,rfl,trivial⟩
 have h:(bj _ O x).map _=J v:=h;rcases b:bj aq O x with _|d;.grind
 rw[b]at h;cases h;obtain⟨a,i,_,e⟩:=oz g f s b;exact⟨J a,by show(AM.bJ P tm x).map _=_;grind,e⟩
theorem tC{x:ah DV}{b:ah AV}{y d n:Nat}(e:BO K Y x b)(h:nW x y d=J n):(x=Z/\b=Z/\n=d)\/(x≠Z/\b≠Z/\n<=y/\∀c f,n<=c->eZ b c f=J n):=by
 unfold nW at h;split at h
 . rename_i k m;rw[dj]at h;by_cases g:m<=y
   . simp only[g,eB,aR]at h;obtain rfl:=bE h;rcases b with _|a;.exact e.elim
     cases e;refine .inr ⟨aP,aP,g,λc f i=>?_⟩;show(bif bt m c then J m else Z)=J m;grind[dj]
   grind
 .grind
 . rcases b with _|a;.grind
   exact e.elim
theorem DR.sub{s:ao}{f l h:Nat}{c c':ah Nat}(b:DR K Y (.ay s e esz) (.sl f I s.length c esz))(r:l<=h)(o:h<=s.length)(m:∀k,c'=J k->h-l<=k):DR K Y (.ay ((s.take h).drop l) e esz) (.sl f (I+l*esz) (h-l) c' esz):=by have n:((s.take h).drop l).length=h-l:=ai;rw[<-n]at m|-;cases b with|ay _ _ _ _ _ _ cells g1 p v _ w g=>
 have W:∀i x,((s.take h).drop l)[i]?=J x->s[l+i]?=J x:=by grind
 refine .ay _ e _ f _ c' _ g1 p ?_ m ai λi x j d a q b u=>g _ x j d a (W i x q) b ?_
 . rw[n];have:l*esz+(h-l)*esz=h*esz:=by rw[<-zo];grind
   have t:h*esz<=s.length*esz:=lU _ o;omega
 grind
theorem Nn{l:ah aK}{v r:AV}{a b c:ah AV}(d:o.op=.slice t x l hi mx)(j:AM.bJ P tm x=J v)(f:FO P tm l=J a)(g:FO P tm hi=J b)(i:FO P tm mx=J c)(h:pR P H t v a b c=J r):dS P ak tm H o=J (.val r H):=by
 have e:dS P ak tm H o=(AM.bJ P tm x).bind λv=>(FO P tm l).bind λl=>(FO P tm hi).bind λhi=>(FO P tm mx).bind λmx=>eY H (pR P H t v l hi mx):=by unfold dS;rw[d];rfl
 grind[eY]
theorem aJC{l:ah aK}(d:o.op=.slice t x l hi mx)(h:dC P aq fk gs cr later O o=J st'):∃v a b c r,bj aq O x=J v/\FP aq O l=J a/\FP aq O hi=J b/\FP aq O mx=J c/\oD P t v a b c=J r/\aG O o.dst (.dv r.1 r.2)=J st':=by
 have e:dC P aq fk gs cr later O o=((bj aq O x).bind λv=>(FP aq O l).bind λl=>(FP aq O hi).bind λhi=>(FP aq O mx).bind λmx=>(oD P t v l hi mx).bind λr=>aG O o.dst (.dv r.1 r.2)):=by unfold dC;rw[d];rfl
 rw[e]at h;obtain⟨v,f,h⟩:=aE h;obtain⟨N,w,h⟩:=aE h;obtain⟨D,B,h⟩:=aE h;obtain⟨L,I,h⟩:=aE h;obtain⟨r,hr,h⟩:=aE h;grind
theorem Nl{l i m:ah AV}(h:m≠Z->i≠Z):pR P H t a l i m=sliceB P H t a l i m:=by simp_all[pR]
theorem aJD(hg:dw P K Y aq)(w:HR K Y B H O.lb O.g)(u:bZ K Y B H tm O.sl){lo:ah aK}(L:o.op=.slice t x lo hi mx)(hn:jK O x)(h:dC P aq fk gs cr later O o=J st'):eO P ak rec cf K Y B H st0 O st' tm o:=by
 obtain⟨v,NK,E,NL,r,hv,wT,Bt,Im,hr,h⟩:=aJC L h;obtain⟨a,Q,_,F⟩:=sX (P:=P) hg u hn hv;obtain⟨IQ,l1,l2⟩:=Wi (P:=P) hg w u wT;obtain⟨s,S,G⟩:=Wi (P:=P) hg w u Bt;obtain⟨N,U,m2⟩:=Wi (P:=P) hg w u Im;have R:∀{z:ah AV},BO (sT H) Y Z z->z=Z:=λ{z}hz=>by cases z;rfl;exact hz.elim
 have aOQ:∀{d:DV}{z:ah AV},BO (sT H) Y (J d) z->z≠Z:=λ{d z}hz=>by cases z;exact hz.elim;simp
 unfold oD at hr;split at hr
 . rename_i elem hu;cases F;have hmh:N≠Z->s≠Z:=by
     intro x1;rcases NL with _|m;.grind
     cases E<;>grind
   have A:((aW P elem).bind λ_=>(nW NL 0 0).bind λ_=>(nW E 0 0).bind λh=>(nW NK h 0).bind λ_=>J (DV.nl,aM.any))=J r:=by grind
   obtain⟨sz,fL,A⟩:=aE A;obtain⟨m,hm,A⟩:=aE A;obtain⟨X,D,A⟩:=aE A;obtain⟨l,hJ,A⟩:=aE A;cases A;refine qY w u (Nn L Q l1 S U (r:=.bu) ?_) h aP λ_ _ _=>⟨rfl,rfl⟩;have em:eZ N 0 0=J 0:=by
     rcases tC m2 hm with⟨_,rfl,rfl⟩|⟨_,_,b,p⟩;.rfl
     grind
   have eh:eZ s 0 0=J X:=by rcases tC G D with⟨_,rfl,rfl⟩|⟨_,_,b,p⟩<;>grind
   have el:eZ IQ X 0=J l:=by
     rcases tC l2 hJ with⟨_,rfl,rfl⟩|⟨_,_,b,p⟩;.rfl
     grind
   simp_all[Nl,sliceB]
 . rename_i elem M e esz hu;obtain⟨n,oS,hr⟩:=aE hr;rw[bR,bR]at hr;by_cases T:n=esz
   . by_cases W:e=elem;.simp only[T,W,eB,xx,aR]at hr;subst T;subst W;have a3':=F;cases a3' with|ay _ _ _ id I c cells g1 he hb hc hl g=>
      obtain⟨root,fl,i1,i2⟩:=w.dm _ _ _ g1;have hco:=Oq i1 i2;rcases NL with _|yw
      . simp only at hr;obtain rfl:=R m2;obtain⟨X,D,hr⟩:=aE hr;rcases i:(E.isNone||bt X bm)with _|_;.grind
        rw[i]at hr;simp only[aR]at hr;cases f:nW NK X 0 with|none=>grind|some l=>
        rw[f]at hr;cases hr;have UL:X<=M.length:=by rcases tC G D with⟨_,_,rfl⟩|⟨_,_,b,_⟩;all_goals omega
        have uH:l<=X:=by rcases tC l2 f with⟨_,_,rfl⟩|⟨_,_,b,_⟩;all_goals omega
        have e2:eZ IQ X 0=J l:=by
         rcases tC l2 f with⟨_,rfl,rfl⟩|⟨_,_,b,p⟩;.rfl
         grind
        have e1:∀y,(s≠Z->X<=y)->eZ s y M.length=J X:=by
         intro y hy;rcases tC G D with⟨_,rfl,rfl⟩|⟨_,q0,b,p⟩;.rfl
         grind
        have sR:s≠Z->X<=bm:=by intro x;rw[dj]at i;cases E<;>simp_all
        cases c with|some c=>have kr:=hc c rfl;refine sj w u (Nn L Q l1 S U (r:=.sl id (I+l*n) (X-l) (J (c-l)) n) ?_) h (F.sub uH UL λk hk=>ai);rw[Nl (λx=>absurd rfl x)];unfold sliceB;grind[eZ,dj]|none=>refine sj w u (Nn L Q l1 S U (r:=.sl id (I+l*n) (X-l) Z n) ?_) h (F.sub uH UL λk hk=>ai);rw[Nl (λx=>absurd rfl x)];simp_all[sliceB,dj]
      cases E with|none=>grind|some rO=>simp only at hr;obtain⟨m,hm,hr⟩:=aE hr;cases i:bt m bm with|false=>grind|true=>rw[i]at hr;simp only[aR]at hr;rw[dj]at i;have i:=uU i;obtain⟨X,D,hr⟩:=aE hr;cases f:nW NK X 0 with|none=>grind|some l=>
         rw[f]at hr;have hr:=bE hr;obtain⟨q0,Bz,p⟩:N≠Z/\m<=M.length/\∀y' d',m<=y'->eZ N y' d'=J m:=by rcases tC m2 hm with⟨q,_⟩|⟨_,q0,b,p⟩;all_goals grind
         obtain⟨p0,hhm,p2⟩:s≠Z/\X<=m/\∀y' d',X<=y'->eZ s y' d'=J X:=by rcases tC G D with⟨q,_⟩|⟨_,q0,b,p⟩;all_goals grind
         have uH:l<=X:=by rcases tC l2 f with⟨_,_,rfl⟩|⟨_,_,b,_⟩;all_goals omega
         have e2:eZ IQ X 0=J l:=by
          rcases tC l2 f with⟨_,rfl,rfl⟩|⟨_,_,b,p⟩;.rfl
          grind
         have BE:dS P ak tm H o=J (.val (.sl id (I+l*n) (X-l) (J (m-l)) n) H):=by refine Nn L Q l1 S U ?_;rw[Nl (λ_=>p0)];unfold sliceB;rw[hu];cases c with|some c=>grind[dj]|none=>
          simp only[oS,cR,bR,eB,aR];have hmb:I+m*n<=cells.length:=by have:m*n<=M.length*n:=lU _ Bz;omega
          cases N with|none=>grind|some mv=>simp only;have:mP mv bm=J m:=p bm 0 i;grind[dj,dT]
         subst hr;refine qY w u BE h aP λ_ _ _=>?_;have gQ:=F.sub (c':=J (m-l)) uH (by omega:X<=M.length) λk hk=>ai;show cO K Y B H _ (.ay ((M.take X).drop l) e n) _ (bif aw X m then .full e else .no);rw[bR];by_cases UK:X=m;.simp only[UK,eB,aR];subst UK;exact⟨gQ,_,_,_,_,rfl⟩
         .simp only[UK,lA,bX];exact gQ
     grind
   grind
 . rename_i elem id I len e esz hu;obtain⟨n,oS,hr⟩:=aE hr;rw[bR,bR]at hr;by_cases T:n=esz
   . by_cases W:e=elem;.cases NL with|some m=>grind|none=>obtain rfl:=R m2;simp only[T,W,eB,rz,xx,aR]at hr;subst T;subst W;cases F with|dY _ _ _ _ _ j c hj hc=>obtain⟨X,D,hr⟩:=aE hr;cases i:(E.isNone||bt X bm)with|false=>grind|true=>rw[i]at hr;simp only[aR]at hr;cases f:nW NK X 0 with|none=>grind|some l=>
        rw[f]at hr;cases hr;have UL:X<=len:=by rcases tC G D with⟨_,_,rfl⟩|⟨_,_,b,_⟩;all_goals omega
        have uH:l<=X:=by rcases tC l2 f with⟨_,_,rfl⟩|⟨_,_,b,_⟩;all_goals omega
        have e2:eZ IQ X 0=J l:=by
         rcases tC l2 f with⟨_,rfl,rfl⟩|⟨_,_,b,p⟩;.rfl
         grind
        have e1:∀y,(s≠Z->X<=y)->eZ s y len=J X:=by
         intro y hy;rcases tC G D with⟨_,rfl,rfl⟩|⟨_,q0,b,p⟩;.rfl
         grind
        have sR:s≠Z->X<=bm:=by intro x;rw[dj]at i;cases E<;>simp_all
        refine sj w u (Nn L Q l1 S U (r:=.sl j (I+l*n) (X-l) (c.map (.-l)) n) ?_) h (.dY _ _ _ _ _ _ _ hj λk hk=>by cases c<;>grind);rw[Nl (λx=>absurd rfl x)];unfold sliceB;cases c<;>grind[eZ,dj]
     grind
   grind
 grind
theorem MI(g:dw P K Y aq)(f:bZ K Y B H tm O.sl):∀(l:List (Nat×aK))(s:List (Nat×DV)),(∀p,p∈l->jK O p.2)->cw (λ(p:Nat×aK)=>(bj aq O p.2).map λv=>(p.1,v)) l=J s->∃b,cw (λ(p:Nat×aK)=>(AM.bJ P tm p.2).map λv=>(p.1,v)) l=J b/\s.length=b.length/\∀(i:Nat)(p:Nat×DV)(q:Nat×AV),s[i]?=J p->b[i]?=J q->p.1=q.1/\DR K Y p.2 q.2:=by intro l;induction l with|nil=>intro s _ h;obtain rfl:=bE (show J []=J s from h);exact⟨[],rfl,rfl,λi p q h=>ai⟩|cons x l m=>
 intro s n h;have c:=h;obtain⟨d,hd,c⟩:=aE c;obtain⟨t,j,c⟩:=aE c;rcases k:bj aq O x.2 with _|d0;.grind
 obtain⟨a,o,_,r⟩:=sX g f (n x gv) k;obtain⟨b,w,y,q3⟩:=m t (λp e=>n p (jR _ e)) j;refine⟨(x.1,a)::b,?_,ai,λi p q e u=>?_⟩<;>grind[cw]
theorem NS(b:aY)(c:cm)(h:cu P t=J z):∃m,ml P t=J m/\bK b c z.flat m/\∀x,x∈z.flat->x.aU=V:=by obtain⟨a,d,h⟩:=aE h;obtain⟨m,e,f,g⟩:=(Cy (K:=b) (Y:=c) h).cells;grind[ml]
theorem am0(j:dw P K Y aq)(d:HR K Y B H O.lb O.g)(s:bZ K Y B H tm O.sl){a:Array (Nat×aK)}(r:o.op=.build t a)(k:∀p,p∈a.toList->jK O p.2)(h:dC P aq fk gs cr later O o=J st'):eO P ak rec cf K Y B H st0 O st' tm o:=by
 unfold dC at h;rw[r]at h;obtain⟨z,u,h⟩:=aE h;obtain⟨g,M,h⟩:=aE h;obtain⟨m,v,e,f⟩:=NS K Y u;obtain⟨i,w,q,q3⟩:=MI j s _ _ k M;split at h;.obtain⟨c,T,h⟩:=aE h;obtain⟨l,b,h⟩:=aE h;obtain⟨m',f1,f2,f3⟩:=adQ g i _ _ _ b e q q3;refine sj d s ?_ h (f2.agg (f3 f));simp_all[dS,Cf,eY]
 .obtain⟨n,T,h⟩:=aE h;obtain⟨l,b,h⟩:=aE h;obtain⟨m',f1,f2,f3⟩:=adQ g i _ _ _ b e q q3;refine sj d s ?_ h (f2.agg (f3 f));simp_all[dS,Cf,eY]
 grind
theorem QF{v:ah Bool}(a:HR K Y B H lb g)(t:p.slot):HR K Y (B.set p (v.map λb=>(H.next,b))) (H.cQ m fl e) lb g:=by
 have o:bT (λ_=>False) H (H.cQ m fl e):=j9 H _ _;have y:bg (H.cQ m fl e):=wA a.inv _ ai;have M:(H.cQ m fl e).next=H.next+1:=rfl;have back:∀q r b,B.set p (v.map λb=>(H.next,b)) q=J (r,b)->(q=p/\r=H.next)\/(q≠p/\B q=J (r,b)):=by intro q r b h;by_cases e:q=p<;>simp_all[aJ.nQ,aJ.lf]
 refine⟨y,?_,?_,?_,?_,?_,?_,a.mW,NH a.inv a.gW _ ai⟩;.intro id cells e' h;obtain⟨r,fl',g1,g2⟩:=a.dm id _ e' h;exact⟨r,_,by rw[o.get id (a.inv.get _ _ g1) (λh=>h)];omega,g2⟩
 . intro q w r b c l j;rcases back q r b l with⟨rfl,rfl⟩|⟨_,n⟩
   . rcases back w _ c j with⟨rfl,_⟩|⟨_,d⟩;.rfl
     .have:=a.cC _ _ _ d;omega
   . rcases back w r c j with⟨_,rfl⟩|⟨_,d⟩;.have:=a.cC _ _ _ n;omega
     .exact a.inj _ _ _ _ _ n d
 . intro q r id x f u;obtain⟨cells,e'⟩:=x;obtain⟨E,fl',g1,_⟩:=a.dm id _ e' u;have hid:=a.inv.get _ _ g1;have hr:rootOf (H.cQ m fl e) id=rootOf H id:=by unfold rootOf;rw[o.get id hid (λh=>h)]
   rw[hr];rcases back q r _ f with⟨_,rfl⟩|⟨_,d⟩;.have:=qZ a.inv hid;omega
   .exact a.clean q r id _ d u
 . intro q r b f;rcases back q r b f with⟨_,rfl⟩|⟨_,d⟩;.omega
   .have:=a.cC _ _ _ d;omega
 .intro s b z;obtain⟨i,l,j⟩:=a.box s b z;have D:∀q,¬q.slot->B.set p (v.map λb=>(H.next,b)) q=B q:=λq f=>aJ.lf _ _ λe=>f (e▸t);exact⟨i,by grind[Pk.slot],j.keep a.inv o (bo.refl _) (aX.refl _) id λI r c x=>⟨by grind[Pk.slot],id⟩⟩
 .intro k A Q;obtain⟨i,l,j,n⟩:=a.jf k A Q;have D:∀q,¬q.slot->B.set p (v.map λb=>(H.next,b)) q=B q:=λq f=>aJ.lf _ _ λe=>f (e▸t);exact⟨i,l,by grind[Pk.slot],n.keep a.inv o (bo.refl _) (aX.refl _) id λI r c x=>⟨by grind[Pk.slot],id⟩⟩
theorem Ob{c:ah Nat}(a:HR K Y B H O.lb O.g)(y:bZ K Y B H tm O.sl)(h:aG O dst (.dv (.ay l e esz) (.ex e))=J st')(G:fl.wr=V)(u:gN K Y l esz 0 m)(F:(c=Z/\l.length*esz=m.length)\/c=J l.length):fN K Y B H st' (gR tm dst (.sl H.next 0 l.length c esz)) (H.cQ m fl e):=by
 have W:(H.cQ m fl e).get _=J _:=mA H _;have P:(H.cQ m fl e).bp H.next=(0,H.next):=Bk (H:=H) a.inv ab;have w:A0 K Y (H.cQ m fl e) H.next (.ay l e esz) (.sl H.next 0 l.length c esz) e:=by
   refine⟨l,_,_,0,c,m,fl,rfl,rfl,W,G,ai,ai,u,?_⟩;rcases F with⟨f,j⟩|f;.exact .inl ⟨f,ai,ab⟩
   .exact .inr f
 rcases yL h with⟨rfl,rfl⟩|⟨d,rfl,_,hr,rfl⟩
 . have o:=QF (m:=m) (fl:=fl) (e:=e) (p:=.tp 0 0) (v:=Z) a trivial;have L:bZ K Y B (H.cQ m fl e) tm _:=λt sv u=>by obtain⟨A,f,j,n⟩:=y t sv u;exact⟨A,f,j,n.keep a.inv (j9 H _ _) (bo.refl _) (aX.refl _) (λ_ _ _ _ h=>⟨h,id⟩) aT aT aT⟩
   have N:HR K Y B (H.cQ m fl e) st'.lb st'.g:=by
     have D:=o.inv;have q:bT (λ_=>False) H (H.cQ m fl e):=j9 H _ _;refine⟨D,o.dm,a.inj,λp r id x g z=>?_,λp r b g=>Nat.lt_succ_of_lt (a.cC p r b g),λs b E=>?_,λk M Q=>?_,a.mW,o.gW⟩
     . obtain⟨cells,e'⟩:=x;obtain⟨R,fl',g1,_⟩:=a.dm id _ e' z;have hr:rootOf (H.cQ m fl e) id=rootOf H id:=by unfold rootOf;rw[q.get id (a.inv.get _ _ g1) (λh=>h)]
       rw[hr];exact a.clean p r id _ g z
     .obtain⟨i,f,j⟩:=a.box s b E;exact⟨i,f,j.keep a.inv q (bo.refl _) (aX.refl _) id λI r c x=>⟨x,id⟩⟩
     .obtain⟨i,f,j,n⟩:=a.jf k M Q;exact⟨i,f,j,n.keep a.inv q (bo.refl _) (aX.refl _) id λI r c x=>⟨x,id⟩⟩
   exact⟨K,Y,B,bo.refl _,a.fX (j9 H _ (λ_=>False)),aX.refl _,N,L,j9 H _ _,λp r b g=>.inl ⟨p,b,g⟩⟩
 . have o:=QF (m:=m) (fl:=fl) (e:=e) (p:=.sl d) (v:=J V) a trivial;refine⟨K,Y,_,bo.refl _,a.fX (j9 H _ (λ_=>False)),aX.refl _,o,?_,j9 H _ _,λp r b g=>?_⟩;.refine xh a.inv y (j9 H _ _) (bo.refl _) (aX.refl _) (λp r b _ j _ h=>⟨by grind[aJ.lf],id⟩) (λs i b h=>by grind[aJ.lf]) aT aT ?_;exact .inr ⟨_,by simp[aJ.nQ],w⟩
   . by_cases e1:p=.sl d;.grind[aJ.nQ]
     .rw[aJ.lf _ _ e1]at g;exact .inl ⟨p,b,g⟩
theorem aiM{c:aI}{n:Nat}(b:bK K Y z.flat c)(s:∀x,x∈z.flat->x.aU=V)(o:z.flat.length=n)(f:0<n)(l:Nat):gN K Y (lT l z) n 0 (jP l c):=by
 have m:c.length=n:=by rw[<-b.1];omega
 refine⟨f,by grind[Ga],λi x g=>?_,λi x j d a g hd h=>?_⟩;.grind
 . obtain⟨hi,rfl⟩:i<l/\z=x:=by grind
   have e:j<n:=ai;have k:i*n+j<l*n:=by have:(i+1)*n<=l*n:=lU _ hi;grind
   rw[kE,Zr _ _ _ ai,m]at h;rw[Nat.mul_comm,Nat.mul_add_mod,Nat.mod_eq_of_lt e]at h;exact b.2 j d a hd h
theorem asR{c:Nat}{z:Bool}:∀(e:List (Nat×DV))(s:List (Nat×AV))(l d:ao)(m:aI),lD (λ(l:ao)(p:Nat×DV)=>bif ct p.1 l.length&&(aw p.2.flat.length c&&(p.2.aU==z))then J (iH l p.1 p.2)else Z) e l=J d->gN K Y l c 0 m->e.length=s.length->(∀(i:Nat)(p:Nat×DV)(q:Nat×AV),e[i]?=J p->s[i]?=J q->p.1=q.1/\DR K Y p.2 q.2)->∃m',zQ (λi=>J (ft i c,c)) s m=J m'/\gN K Y d c 0 m'/\d.length=l.length/\m'.length=m.length:=by intro e;induction e with
 |nil=>
 intro s l d m h r k _;rcases s with _|⟨q,s⟩;.obtain rfl:=bE (show J l=J d from h);exact⟨m,rfl,r,rfl,rfl⟩
 grind|cons p e t=>
 intro s l d m h r k g;rcases s with _|⟨q,s⟩;.grind
 obtain⟨e1,e2⟩:=g 0 p q rfl rfl;rw[EA]at h;obtain⟨l1,E,h⟩:=aE h;rcases f:(ct p.1 l.length&&(aw p.2.flat.length c&&(p.2.aU==z)))with _|_;.grind
 rw[f]at E;cases E;simp only[gu,eQ,bR,jV]at f;obtain⟨o,W,_⟩:=f;obtain⟨vs,D,v,u⟩:=e2.cells;have M:l[p.1]?=J l[p.1]:=dA o;have F:=(r.2.2.1 _ _ M).1;obtain⟨r1,r2⟩:=r.set (k0:=0) (n:=c) (el':=p.2) M (by grind[lg]) W ab v u;simp only[kE,vk]at r1 r2;obtain⟨m',w,j,A,B⟩:=t s _ d _ h r1 ai λi a b x y=>g (i+1) a b ai ai;have L:vs.length=c:=by rw[<-v.1];omega
 refine⟨m',?_,j,by grind[Ni],by grind[yO]⟩;show((J _).bind _).bind (zQ (λi=>J (ft i c,c)) s)=J m';grind[dT,dj]
theorem amY(G:dw P K Y aq)(c:HR K Y B H O.lb O.g)(s:bZ K Y B H tm O.sl){b:Nat}{r:Array (Nat×aK)}(q:o.op=.buildSlice t b r)(M:∀p,p∈r.toList->jK O p.2)(h:dC P aq fk gs cr later O o=J st'):eO P ak rec cf K Y B H st0 O st' tm o:=by
 unfold dC at h;rw[q]at h;simp only at h;split at h;.rename_i elem X;obtain⟨n,pK,h⟩:=aE h;cases F:(aw n 0||!(bt (b*n) 16777216))with|true=>grind|false=>
  rw[F]at h;obtain⟨S,Q,h⟩:=aE h;obtain⟨z,N,h⟩:=aE h;rw[bR]at h;by_cases w:z.flat.length=n
  . simp only[w,eB,aR]at h;obtain⟨l,L,h⟩:=aE h;obtain⟨m,m1,v,R⟩:=NS K Y N;obtain⟨U,q1,T,q3⟩:=MI G s _ _ M Q;have u:0<n:=by grind
    obtain⟨m',f1,f2,f3,f4⟩:=asR S U _ _ _ L (aiM v R w u _) T q3;have W:m.length=n:=by rw[<-v.1];omega
    obtain⟨g1,g2,g3,_⟩:=nP h;have f:fN K Y B H st' (gR tm o.dst (.sl H.next 0 l.length (J l.length) n)) (H.cQ m' .ex elem):=by cases E:(aw b 0&&CV gs o.dst)with|false=>rw[E]at h;exact Ob c s h rfl f2 (.inr rfl)|true=>rw[E]at h;refine aaS c s h (.ay l elem n H.next 0 _ m' (by simp[aY.add]) u f2.2.1 (λk I=>by cases I;omega) f2.2.2.1 λi x j d a y A D=>(f2.2.2.2 i x j d a y A D).mono (aY.A3 (QH (m:=m') (fl:=.ex) (e:=elem) c).1) (aX.refl _)) (.inr ⟨⟨_,_,_,_,rfl⟩,_,rfl⟩) aP
    refine⟨_,H.cQ m' .ex _,?_,g1,f,g2,g3,Fq _ _ _ _⟩;unfold fB dS;rw[q];simp only[GF];by_cases g:b=0;.have e1:aw 0 0=V:=rfl;have e2:jP 0 ([]:aI)=jP 0 m:=rfl;grind
    grind[dT,bR]
  grind
 grind
def AD(s i:Nat)(d:ah Nat):Pk->ah Pk:=λp=>if(∃k,d=J k/\p=.sl k)then J (.tp s i)else if p=.tp s i then Z else J p
theorem aJR(s i:Nat)(d:ah Nat):Src (AD s i d)where
 inj:=λp q y b a=>by
  unfold AD at b a;by_cases e:∃k,d=J k/\p=.sl k
  . rw[if_pos e]at b;cases b;obtain⟨k,f,rfl⟩:=e;by_cases c:∃k,d=J k/\q=.sl k;.obtain⟨g,L,rfl⟩:=c;rw[f]at L;cases L;rfl
    . rw[if_neg c]at a;split at a;.simp at a
      .rename_i h;exact absurd (bE a) h
  . rw[if_neg e]at b;split at b;.simp at b
    . rename_i D;cases b;by_cases c:∃k,d=J k/\q=.sl k;.rw[if_pos c]at a;exact absurd (bE a).symm D
      . rw[if_neg c]at a;split at a;.simp at a
        .exact(bE a).symm
 base:=λp b=>by unfold AD;rw[if_neg (λ⟨k,_,h⟩=>b (by rw[h];trivial)),if_neg (λh=>b (by rw[h];trivial))]
theorem aJS{s i:Nat}{d:ah Nat}(h:∀k,d=J k->p≠.sl k)(a:p≠.tp s i):AD s i d p=J p:=by grind[AD]
theorem aJT(s i d:Nat):AD s i (J d) (.sl d)=J (.tp s i):=by simp[AD]
def IP(x:DV×aM):DV×aM:=match x.2 with|.ex _=>(.jk,.no)|_=>(x.1,.no)
theorem aAf{q:Pk}{x:DV×aM}(h:cO K Y B H p x.1 a x.2):cO K Y ω' H q (IP x).1 a (IP x).2:=by obtain⟨d,o⟩:=x;cases o with|no=>exact h|any=>obtain⟨b,c⟩:=h;subst b;subst c;exact .nl|full e=>exact h.1|ty e=>exact h.1|ex e=>exact cO.jk h
theorem asD(n:HR K Y B H O.lb O.g)(F:bZ K Y B H tm O.sl){i:Nat}(U:o.op=.extract x i)(h:dC P aq fk gs cr later O o=J st'):eO P ak rec cf K Y B H st0 O st' tm o:=by unfold dC at h;rw[U]at h;simp only at h;cases x with
 |tmp s=>simp only at h;cases D:look O.sl s with|none=>simp_all|some sv=>rw[D]at h;cases sv with
  |tp l=>
  simp only at h;obtain⟨x,G,h⟩:=aE h;obtain⟨a,z,a2,m,rfl,m1,L⟩:=F s _ D;have hi:i<l.length:=(am.1 G).1;have g:m[i]?=J m[i]:=dA ab;have T:=L i x _ G g;have iF:AM.bJ P tm (.tmp s)=J (.cL m):=ah7 z aP;have he:dS P ak tm H o=J (.val m[i] H):=by simp_all[dS,JS,w8,eY]
  change aG {O with sl:=put O.sl s (.tp (l.take i++IP x::l.drop (i+1)))} o.dst (.dv x.1 x.2)=J st' at h;obtain⟨f1,f2,f3,f4,f5⟩:=nP h;refine⟨m[i],H,by grind[fB],f1,?_,f2,f3,uk.refl _ _ _⟩;have W:∀j,(l.take i++IP x::l.drop (i+1))[j]?=if j=i then J (IP x)else l[j]?:=by grind
  have v:=n.of (aJR s i o.dst);have E:∀p r c,B.of (AD s i o.dst) p=J (r,c)->dK B r\/H.next<=r:=λp r c w=>let⟨q,_,h⟩:=aJ.iG w;.inl ⟨q,c,h⟩;have mid:∀(d:ah Nat),bZ K Y (λp=>if(∃k,d=J k/\p=.sl k)then B p else B.of (AD s i d) p) H tm (put O.sl s (.tp (l.take i++IP x::l.drop (i+1)))):=by
    intro d;have M:∀p,p≠.tp s i->(if(∃k,d=J k/\p=Pk.sl k)then B p else B.of (AD s i d) p)=B p:=by
      intro p w;by_cases e:∃k,d=J k/\p=.sl k;.rw[if_pos e]
      .rw[if_neg e];unfold aJ.of;rw[aJS (λk u e'=>e ⟨k,u,e'⟩) w];rfl
    refine Jw n.inv F (bo.refl _) (λp r b f _ _ h=>by rw[M p (f i)];exact h) (λs=>by rw[M _ aP]) z (λ_=>aP) ?_;refine⟨m,rfl,?_,λj y c g A=>?_⟩;.rw[ib,uj,dH,List.length_drop,<-m1];omega
    . rw[W]at g;by_cases e:j=i;.rw[if_pos e]at g;cases g;subst e;obtain rfl:=bE (A.symm.trans (by assumption:m[j]?=J m[j]));exact aAf T
      .rw[if_neg e]at g;refine(L j y c g A).uZ ?_;exact M _ (by simp;exact e)
  rcases yL h with⟨f,rfl⟩|⟨d,f,_,hr,rfl⟩;.rw[f];rw[f]at v E;refine⟨K,Y,_,bo.refl _,n.fX (bT.refl (λ_=>False) _),aX.refl _,v,?_,bT.refl _ _,E⟩;have:=mid Z;intro t sv X;obtain⟨N,g1,g2,g3⟩:=this t sv X;refine⟨N,g1,g2,g3.keep (S:=λ_=>False) n.inv (bT.refl _ _) (bo.refl _) (aX.refl _) (λp r c _ h=>⟨by rw[if_neg aP]at h;exact h,id⟩) (λs I i' Q _ h=>by rw[if_neg aP];exact h) (λ_ _=>rfl) (λ_ _ _ _ _=>id)⟩
  . rw[f];rw[f]at v E;refine⟨K,Y,_,bo.refl _,n.fX (bT.refl (λ_=>False) _),aX.refl _,v,?_,bT.refl _ _,E⟩;refine xh (S:=λ_=>False) n.inv (mid (J d)) (bT.refl _ _) (bo.refl _) (aX.refl _) (λp r c _ R _ h=>⟨?_,id⟩) (λs' i' Q h=>?_) (λ_ _ _=>id) (λ_=>T.qS) ?_;.rw[if_neg (λ⟨k,u,e⟩=>by cases u;exact R e)]at h;exact h
    .rw[if_neg (λ⟨k,u,e⟩=>by simp at e)];exact h
    .exact T.uZ (by unfold aJ.of;rw[aJT];rfl)|_=>simp at h
 |_=>simp at h
theorem xe(H:Heap)(i r:Nat)(o:ch):(H.put i r o).get i=J o:=Tr.lF _ _ _
theorem pe(H:Heap){i:Nat}(r:Nat)(o:ch)(h:j≠i):(H.put i r o).get j=H.get j:=Tr.jy _ _ (Ne.symm h)
theorem aGG(a:bg H){i:Nat}{c d:Nat}(g:H.get i=J (.map es c)):bg (H.put i r (.map fs d)):=by
 refine⟨λj o h=>?_,λj l b m e1 h=>?_,λj l b m e1 h=>?_,a.dp,a.bA⟩
 . by_cases e:j=i;.rw[e];exact a.get _ _ g
   .rw[pe H r _ e]at h;exact a.get j o h
 . by_cases e:j=i;.grind[xe]
   .rw[pe H r _ e]at h;exact a.root j l b _ e1 h
 . by_cases e:j=i;.grind[xe]
   .rw[pe H r _ e]at h;obtain⟨k,fl',e',f⟩:=a.oB j l b _ e1 h;grind[pe]
theorem aL9(u:pC H){i:Nat}{c d:Nat}(g:H.get i=J (.map es c)):pC (H.put i r (.map fs d)):=λj l b fl e h=>by
 by_cases a:j=i;.grind[xe]
 .rw[pe H r _ a]at h;obtain⟨k,fl',f⟩:=u j l b fl e h;grind[pe]
theorem aiv{i:Nat}{c d:Nat}(h:H.get i=J (.map es c))(j:Nat):rootOf (H.put i r (.map fs d)) j=rootOf H j:=by grind[rootOf,xe,pe]
theorem aiu{i:Nat}{c d:Nat}(g:H.get i=J (.map es c)):bT (λx=>x=i) H (H.put i r (.map fs d))where
 next:=bS _
 get:=λj _ h=>pe H r _ (λx=>h (by subst x;unfold rootOf;rw[g]))
 dp:=λa _ h=>rfl
 root:=λj _=>aiv g j
theorem HR.aIX{f i:Nat}{es:List lq}{fs':List eI}{c:Nat}{y:GO}{d:Nat}(a:HR K Y B H lb g)(M:Y f=J i)(F:B (.g f)=J (i,V))(o:H.get i=J (.map fs c))(N:AT K Y B (H.put i i (.map fs' d)) f y i):HR K Y B (H.put i i (.map fs' d)) lb (g.set f y):=by
 have t:=aiu (r:=i) (fs:=fs') (d:=d) o;have D:∀q l b,q≠.g f->B q=J (l,b)->¬l=i:=λq l b E h e=>by subst e;exact E (a.inj _ _ _ _ _ h F)
 refine⟨aGG a.inv o,λj cells e1 A=>?_,a.inj,λp r1 j x v m=>by rw[aiv o];exact a.clean p r1 j x v m,a.cC,λs b z=>?_,λk u Q=>?_,λk L=>a.mW k L,aL9 a.gW o⟩;.obtain⟨root,G,g1,g2⟩:=a.dm j cells e1 A;have:j≠i:=λe=>aT;exact⟨root,G,by grind[pe],g2⟩
 .obtain⟨j,m,n⟩:=a.box s b z;exact⟨j,m,n.keep (S:=λx=>x=i) a.inv t (bo.refl _) (aX.refl _) (D _ j V aP m) λI l c x=>⟨x,D _ l c aP x⟩⟩
 . have Q:look (put g.kb f y) k=J u:=Q;rw[me]at Q;by_cases e:k=f;.simp_all
   .rw[if_neg e]at Q;obtain⟨j,m,n,w⟩:=a.jf k u Q;exact⟨j,m,n,w.keep (S:=λx=>x=i) a.inv t (bo.refl _) (aX.refl _) (D _ j V ai n) λI l c x=>⟨x,D _ l c aP x⟩⟩
theorem aqq{ih:an->DV->DV->ah Bool}{x y:DV}{b:AV}(h:zN P ih t x y=J V)(d:Ff P t x=V)(e:DR K Y x a)(f:DR K Y y b):sameKey b a=V:=by
 unfold Ff at d;unfold zN at h;split at d;.rename_i c u;cases e;cases f<;>simp[u]at h;subst h;simp[sameKey,yI]
 .rename_i k n g u;cases e;cases f<;>simp[u]at h;obtain⟨rfl,h⟩:=h;rw[zL]at h;have:=uU h;subst this;simp[sameKey,yI,zL]
 .rename_i s u;cases e;cases f<;>simp[u]at h;rw[zM]at h;have:=uU h;subst this;simp[sameKey,yI,zM]
 .simp at d
theorem as2:∀(es:List lq)(i:Nat)(j:Nat)(x:lq),findD P t k es i=J (J (j,x))->gF P 50 t k x.1=J V:=by intro es;induction es with|nil=>simp[findD]|cons e es d=>intro i j x h;have a:((gF P 50 t k e.1).bind λb=>bif b then J (J (i,e))else findD P t k es (i+1))=J (J (j,x)):=h;obtain⟨b,c,a⟩:=aE a;grind
theorem aBi(R:dw P K Y aq)(u:HR K Y B H O.lb O.g)(M:bZ K Y B H tm O.sl){k:aK}(L:o.op=.mapUpdate t x k y)(U:jK O k)(W:jK O y)(h:dC P aq fk gs cr later O o=J st'):eO P ak rec cf K Y B H st0 O st' tm o:=by
 have hK:=u.sub;unfold dC at h;rw[L]at h;simp only at h;split at h;.rename_i kt et r hu m;obtain⟨a,a1,_,a3⟩:=oz (P:=P) R u M m;cases a3 with|map _ i hi=>
  split at h
  . rename_i es c Ll;obtain⟨F,Ik,h⟩:=aE h;obtain⟨yv,Vc,h⟩:=aE h;obtain⟨b,b1,_,I⟩:=sX (P:=P) R M U Ik;obtain⟨v,v1,_,v3⟩:=sX (P:=P) R M W Vc;obtain⟨i',q1,N,q2⟩:=u.jf _ _ Ll;obtain rfl:i=i':=bE (hi.symm.trans q1);obtain⟨fs,p1,A,p3⟩:=q2;have hm:H.jO i=J (fs,c):=by unfold Heap.jO;rw[p1]
    by_cases D:sU P kt F=V
    . simp only[D,aR]at h;obtain⟨rr,pL,h⟩:=aE h;have Lr:=agj D I;have he:dS P ak tm H o=(oR P kt b fs 0).bind λ|some (j,e)=>bif sameKey e.1 b then J (.val fC (H.put i i (.map (vO fs j (e.1,v,e.2.2)) c)))else Z|none=>J (.val fC (H.put i i (.map (dy fs [(b,v,c)]) (fg c)))):=by unfold dS;rw[L];simp only[DU];simp only[hu,a1,hm,b1,v1,Lr,cR,aR]<;>rfl
      have fin:∀{f:List eI}{s:List lq}{d:Nat},dS P ak tm H o=J (.val fC (H.put i i (.map f d)))->s.length=f.length->(∀(k:Nat)(x:lq)(y:eI),s[k]?=J x->f[k]?=J y->wo K Y x y)->aG {O with sl:=cN O.sl,g:=O.g.set r (.map s d)} o.dst (.tp [])=J st'->eO P ak rec cf K Y B H st0 O st' tm o:=by
        intro f s d e1 e2 e3 e4;obtain⟨f1,f2,f3,_⟩:=nP e4;have z:=aiu (r:=i) (fs:=f) (d:=d) p1;have tK:=HR.aIX (es:=es) (fs':=f) (d:=d) (y:=.map s d) u hi N p1 ⟨f,xe _ _ _ _,e2,e3⟩;have mC:bZ K Y B (H.put i i (.map f d)) tm (cN O.sl):=xi (S:=λx=>x=i) u.inv M z (bo.refl _) (aX.refl _) (λp G b X h=>⟨h,λe=>by subst e;have:=u.inj _ _ _ _ _ h N;subst this;exact X.elim⟩) (λ_ _ _ h=>h);refine⟨fC,H.put i i (.map f d),by unfold fB;rw[e1];rfl,f1,?_,f2,f3,?_⟩;.exact fN.trans (H1:=H.put i i (.map f d)) (K1:=K) (φ1:=Y) (ω1:=B) u.inv (bo.refl _) (u.fX z) (aX.refl _) (z.xu u.inv λG _ e=>⟨.g r,V,by rw[show G=i from e];exact N⟩) (λp r b X=>.inl ⟨p,b,X⟩) (Cv (O:={O with sl:=cN O.sl,g:=O.g.set r (.map s d)}) tK mC e4)
        . refine⟨rfl,λz=>absurd (by rw[L];rfl) z,λz=>absurd (by rw[L];rfl) z,λG hr=>?_,λG hr=>.inl hr⟩;have hr:G∈Heap.note H.bA i H.bV:=hr;rcases vN hr with h|⟨rfl,h⟩;.exact .inl h
          .exact .inr ⟨h,_,V,N⟩
      rcases adT I es fs 0 rr A (λj x y e1 e2=>p3 j x y e1 e2) pL with⟨rfl,g⟩|⟨j,x',y',rfl,g1,g2,_,g4,g5⟩
      . simp only at h;refine fin (f:=fs++[(b,v,c)]) (s:=es++[(F,yv,c)]) (d:=c+1) (by rw[he,g];simp only[cR,ly]) (by simp[A]) (λj x y m w=>?_) h;by_cases hj:j<es.length;.rw[nV hj]at m;rw[nV (by rw[<-A];exact hj)]at w;exact p3 j x y m w
        .rw[pY ab]at m;rw[pY ab,<-A]at w;cases E:j-es.length with|zero=>rw[E]at m w;cases m;cases w;exact⟨I,v3,rfl⟩|succ n=>rw[E]at m;simp at m
      . simp only at h;have Pz:F.aU=V:=by cases u:F.aU with|true=>rfl|false=>simp[u]at h
        rw[Pz]at h;simp only[aR]at h;have T:Ff P kt F=V:=by
          unfold sU at D;split at D;.simp[DV.aU]at Pz
          exact D
        have PV:sameKey y'.1 b=V:=aqq (ih:=gF P 49) (as2 _ _ _ _ pL) T I g2.1;rw[Nat.sub_zero]at g4 g5;have qf:j<es.length:=(am.1 g4).1;have dW:∀{α:Type}(l:List α)(v:α),j<l.length->∀q,(l.take j++v::l.drop (j+1))[q]?=if q=j then J v else l[q]?:=by
          intro α l v hl q;by_cases e:q=j;.subst e;rw[if_pos rfl,pY (by rw[uj];omega),uj,Nat.min_eq_left ab,Nat.sub_self];rfl
          . rw[if_neg e];by_cases bY:q<j;.rw[nV (by rw[uj];omega),Cm bY]
            .rw[pY (by rw[uj];omega),uj,Nat.min_eq_left ab];obtain⟨n,hn⟩:∃n,q-j=n+1:=⟨q-j-1,ab⟩;rw[hn,J1,xD];congr 1;omega
        have Q:∀(l:List eI)(v:eI),vO l j v=l.take j++v::l.drop (j+1):=by intro l v;unfold vO;rw[ly,pV,qD]
        refine fin (f:=fs.take j++(y'.1,v,y'.2.2)::fs.drop (j+1)) (s:=es.take j++(x'.1,yv,x'.2.2)::es.drop (j+1)) (d:=c) (by rw[he,g1];simp only[cR,PV,aR,Q]) ?_ (λq x y m w=>?_) h;.rw[ib,ib,uj,uj,dH,dH,List.length_drop,List.length_drop,A]
        . rw[dW _ _ qf]at m;rw[dW _ _ (by rw[<-A];exact qf)]at w;by_cases e:q=j;.rw[if_pos e]at m w;cases m;cases w;exact⟨g2.1,v3,g2.2.2⟩
          .rw[if_neg e]at m w;exact p3 q x y m w
    .simp[D]at h
  .simp at h
 .simp at h
theorem aev(i:bg H){q:Nat}{c:aI}(g:H.get q=J (.cells cl r fl e))(p:Nat)(k:Bool):bg (H.gP r p k c e'):=by
 have hid:=i.get q _ g;have hr:=(i.root _ _ _ _ _ g).1;refine⟨λj o h=>?_,λj l a u e1 h=>?_,λj l a u e1 h=>?_,λa f h=>?_,Nat.le_succ_of_le i.bA⟩
 . show j<H.next+1;by_cases n:j=H.next;.omega
   .rw[lE H r _ k c e' n]at h;have:=i.get j o h;omega
 . by_cases n:j=H.next;.grind[ya,zO]
   . rw[lE H r _ k c e' n]at h;obtain⟨s,m⟩:=i.root j l a _ e1 h;by_cases b:a=r;.subst b;rw[zO];have:=i.get j _ h;omega
     grind[HK]
 . by_cases n:j=H.next;.subst n;rw[ya]at h;obtain⟨t,fl',e2,m⟩:=i.oB _ _ _ _ _ g;grind[lE]
   .rw[lE H r _ k c e' n]at h;have s:=(i.root j l a _ e1 h).1;have v:=i.get j _ h;obtain⟨t,fl',e2,m⟩:=i.oB j l a _ e1 h;grind[lE]
 . show a<H.next+1/\f.2<H.next+1;by_cases b:a=r;.have d:(H.gP a _ k c e').dp.get a=J (bif k then H.next else p,H.next):=Tr.lF _ _ _;grind
   .have d:(H.gP r p k c e').dp.get a=H.dp.get a:=Tr.jy _ _ (Ne.symm b);rw[d]at h;have:=i.dp a f h;omega
theorem ajX(i:bg H)(u:pC H){d:Nat}{c:aI}(g:H.get d=J (.cells cl r fl e))(f:Nat)(k:Bool):pC (H.gP r f k c e):=λj l m o e1 h=>by
 by_cases n:j=H.next;.subst n;rw[ya]at h;obtain⟨_,rfl,_,rfl⟩:=ch.cells.inj (bE h);obtain⟨b,fl',a⟩:=u _ _ _ _ _ g;exact⟨b,_,by rw[lE H _ _ _ _ _ (by have:=i.get _ _ a;omega)];omega⟩
 .rw[lE H r _ k c e n]at h;obtain⟨b,fl',a⟩:=u j l m _ e1 h;exact⟨b,_,by rw[lE H _ _ _ _ _ (by have:=i.get _ _ a;omega)];omega⟩
theorem Uh(r f:Nat)(k:Bool)(c:aI)(e:an):bT (λx=>x=r) H (H.gP r f k c e)where
 next:=J4 _
 get:=λj h _=>lE H r f k c e ab
 dp:=λa _ h=>HK H r f k c e h
 root:=λj h=>by unfold rootOf;rw[lE H r f k c e ab]
theorem auF(r f:Nat)(k:Bool)(c:aI)(e:an)(h:j<H.next):rootOf (H.gP r f k c e) j=rootOf H j:=by grind[rootOf,lE]
theorem aeu(a:HR K Y B H lb g){E:Nat}{c:aI}{v:Bool}(t:H.get E=J (.cells cl r fl e))(D:p.slot)(N:∀q b,B q≠J (r,b))(O:v=V->∀j x,K j=J x->rootOf H j≠r):HR K Y (B.set p (J (r,v))) (H.gP r (H.bp r).1 C c e) lb g:=by
 have y:=Uh (H:=H) r (H.bp r).1 C c e;have A:=aev (c:=c) (e':=e) a.inv t (H.bp r).1 C;have X:r<H.next:=by have:=(a.inv.root _ _ _ _ _ t).1;have:=a.inv.get _ _ t;omega
 have P:(H.gP r (H.bp r).1 C c e).next=H.next+1:=rfl;have back:∀q d b,B.set p (J (r,v)) q=J (d,b)->(q=p/\d=r/\b=v)\/(q≠p/\B q=J (d,b)):=by grind[aJ.nQ,aJ.lf]
 have L:∀q,¬q.slot->B.set p (J (r,v)) q=B q:=λq m=>aJ.lf _ _ λe=>m (e▸D);refine⟨A,?_,?_,?_,?_,?_,?_,a.mW,ajX a.inv a.gW t _ _⟩;.intro j cells e1 h;obtain⟨d,fl',g1,g2⟩:=a.dm j _ e1 h;have M:=a.inv.get _ _ g1;grind[lE,zO,HK]
 . intro q G d b f n o;rcases back q d b n with⟨rfl,rfl,_⟩|⟨_,u⟩;.grind
   . rcases back G d f o with⟨_,rfl,_⟩|⟨_,l⟩;.grind
     .exact a.inj _ _ _ _ _ u l
 . intro q d j x m z;obtain⟨cells,e1⟩:=x;obtain⟨_,_,g1,_⟩:=a.dm j _ e1 z;rw[auF _ _ _ _ _ (a.inv.get _ _ g1)];rcases back q d _ m with⟨_,rfl,w⟩|⟨_,l⟩;.grind
   .exact a.clean q d j _ l z
 . intro q d b m;rcases back q d b m with⟨_,rfl,_⟩|⟨_,l⟩;.omega
   .have:=a.cC _ _ _ l;omega
 .intro s b w;obtain⟨i,n,o⟩:=a.box s b w;exact⟨i,by grind[Pk.slot],o.keep a.inv y (bo.refl _) (aX.refl _) ai λI d f x=>⟨by grind[Pk.slot],λe=>N _ f (e▸x)⟩⟩
 .intro k F Q;obtain⟨i,n,o,u⟩:=a.jf k F Q;exact⟨i,n,by grind[Pk.slot],u.keep a.inv y (bo.refl _) (aX.refl _) ai λI d f x=>⟨by grind[Pk.slot],λe=>N _ f (e▸x)⟩⟩
theorem HR.Vh(a:HR K Y B H lb g){i:Nat}(f:H.get i=J (.cells cl r fl e))(d:(H.bp r).1<=i)(n:K i=Z)(k:∀q,B q≠J (r,V)):HR (K.add i (cl,e)) Y B H lb g:=by
 refine a.uZ (aY.A3 n) ai (λj cells e1 h=>?_) a.inj (λp r1 j x c b=>?_) a.cC
 . unfold aY.add at h;by_cases x:j=i;.grind
   .rw[if_neg x]at h;exact a.dm j _ e1 h
 . unfold aY.add at b;by_cases y:j=i;.grind[lN]
   .rw[if_neg y]at b;exact a.clean p r1 j x c b
theorem gN.append{c:aI}(h:gN K Y l esz I c)(g:gN K Y new esz 0 nc)(u:nc.length=new.length*esz):gN K Y (l++new) esz 0 ((c.drop I).take (l.length*esz)++nc)/\((c.drop I).take (l.length*esz)++nc).length=(l.length+new.length)*esz:=by
 obtain⟨f,k,m,n⟩:=h;obtain⟨o,p,q,r⟩:=g;have e:((c.drop I).take (l.length*esz)).length=l.length*esz:=ai;have U:((c.drop I).take (l.length*esz)++nc).length=(l.length+new.length)*esz:=ai;refine⟨⟨f,?_,λi x b=>?_,λi x j d a b hd t=>?_⟩,U⟩;.grind
 .grind
 . by_cases hi:i<l.length
   . have s:i*esz+j<l.length*esz:=by have:(i+1)*esz<=l.length*esz:=lU _ hi;grind
     grind
   .rw[pY ab]at b;have E:l.length*esz<=i*esz:=lU _ ab;grind[Nat.sub_mul]
theorem agA(Q:dw P K Y aq)(R:HR K Y B H O.lb O.g)(T:bZ K Y B H tm O.sl){k:Nat}(w:bj aq O x=J v)(n:wZ k v=J new):∃a,AM.bJ P tm x=J a/\qP a=J new.length/\(0<k->(∀y,y∈new->y.flat.length=k)->∃nc,qG H k new.length a=J nc/\gN K Y new k 0 nc/\nc.length=new.length*k):=by
 have p:∀(l:ao)(e esz id I:Nat)(c:ah _)(cells:aI)(r:Nat)(fl:fQ)(e':an),gN K Y l esz I cells->H.get id=J (.cells cells r fl e')->(H.bp r).1<=id->∀u,0<u->(∀y,y∈l->y.flat.length=u)->∃nc,qG H u l.length (.sl id I l.length c esz)=J nc/\gN K Y l u 0 nc/\nc.length=l.length*u:=by
  intro l e esz id I c cells r fl e' M W A u z ko;rcases l with _|⟨y,l⟩;.exact⟨[],rfl,⟨z,aP,λi x h=>ai,λi x j d a h=>ai⟩,aP⟩
  have F:esz=u:=by have D:=(M.2.2.1 0 y rfl).1;grind
  obtain⟨a1,a2,a3,a4⟩:=M;refine⟨(cells.drop I).take ((y::l).length*esz),?_,?_,ai⟩
  . unfold qG;have:aw (y::l).length 0=C:=by rfl
    simp only[this,bX,bR];unfold Heap.load;rw[Oq W A];grind[dj,dT,pV,qD]
  grind[gN]
 have dr:∀{a:AV},DR K Y v a->qP a=J new.length/\(0<k->(∀y,y∈new->y.flat.length=k)->∃nc,qG H k new.length a=J nc/\gN K Y new k 0 nc/\nc.length=new.length*k):=by
  intro a hd;unfold wZ at n;split at n
  . rename_i s;rcases q:aw k 1 with _|_;.grind
    rw[q]at n;cases n;rw[bR]at q;obtain rfl:=uU q;cases hd;have S:yu (λ(b:Nat)=>AV.int .u8 (.ofNat b)) (wc (s.map λb=>DV.int .u8 (.ofNat b)).length s)=s.map λb=>AV.int .u8 (.ofNat b):=by simp[pV,Ak]
    refine⟨by simp[qP,dT],λ_ _=>⟨s.map λb=>AV.int .u8 (.ofNat b),?_,⟨Nat.one_pos,aP,λi x w=>?_,λi x j d a w hd E=>?_⟩,aP⟩⟩;.exact gY _ S
    .grind[DV.flat,DV.aU]
    . rw[ki]at w;obtain⟨b,q,rfl⟩:=iI.1 w;rcases j with _|j;.simp only[DV.flat,aaI,wx]at hd;subst hd;simp only[Nat.mul_one,kE,vk,ki,q,gJ,wx]at E;subst E;exact .int _ _
      grind
  unfold Qs at n;split at n;.cases n;cases hd;exact⟨rfl,λz _=>⟨[],rfl,⟨z,aP,λi x h=>ai,λi x j d a h=>ai⟩,aP⟩⟩
  .cases n;cases hd with|ay l e esz id I c cells g1 F q hc jY g=>obtain⟨r,fl,U,X⟩:=R.dm _ _ _ g1;exact⟨rfl,p _ 0 _ _ _ _ _ _ _ _ ⟨F,q,jY,g⟩ U X _⟩
  grind
 obtain⟨sv,D,G⟩:=aE w;obtain⟨a,L,h4,N⟩:=qU Q T D;refine⟨a,L,?_⟩;cases sv with
 |dv d o=>
  obtain rfl:=bE (show J d=J v from G);rcases N with⟨t,_,_,_,m⟩|⟨_,⟨d2,e,m⟩|⟨d2,f,_,e1,e2,m⟩|⟨g,l,cells,e,e1,_⟩⟩;.cases o with|no=>exact dr m|any=>obtain⟨rfl,rfl⟩:=m;exact dr .nl|full e=>exact dr m.1|ty e=>exact dr m.1|ex e=>
      rcases m with⟨rfl,rfl⟩|⟨r,_,m⟩;.exact dr .nl
      .obtain⟨l,esz,id,I,c,cells,fl,rfl,rfl,g3,g4,g5,g6,g7,_⟩:=m.ex;obtain rfl:=bE (show J l=J _ from n);exact⟨rfl,p _ 0 _ _ _ _ _ _ _ _ g7 g3 g5 _⟩
  all_goals grind|_=>grind[CK]
end
section
variable{P:aH}{ak:cj}{rec:Rec}{cf:bU}{K K':aY}{Y A:cm}{B ω':aJ}{H H':Heap}{S:Nat->Prop}
variable{aq:Nat->ah ao}{gs cr:aC}{fk:bW->Nat}{later:List aB}{st0 O st':St}{tm:Tr AV}{o:aB}
theorem acS:∀(l:ao)(m:aI),gN K Y l esz 0 m->m.length=l.length*esz->bK K Y (l.flatMap DV.flat) m/\∀x,x∈l.flatMap DV.flat->x.aU=V:=by intro l;induction l with|nil=>simp_all[bK.nil]|cons x l g=>
 intro m h n;obtain⟨e,k,b,c⟩:=h;obtain⟨x1,x2⟩:=b 0 x rfl;have o:m.length=l.length*esz+esz:=ai;have t:=g (m.drop esz) ⟨e,ai,λi y f=>b (i+1) y ai,λi y j d a e1 e2 e3=>c (i+1) y j d a ai e2 ai⟩ ai;have hd:bK K Y _ (m.take esz):=⟨ai,λj d a e1 e2=>c 0 x j d a rfl e1 ai⟩;refine⟨?_,λy f=>?_⟩;.rw[GZ,<-G3 _ m];exact hd.append t.1
 grind
theorem newRow{s:ao}{n:Nat}{c:ah Nat}(a:HR K Y B H O.lb O.g)(L:bZ K Y B H tm O.sl)(P:fl.wr=V)(I:bK K Y s m)(M:∀x,x∈s->x.aU=V)(F:∀k,c=J k->n<=k)(h:aG {O with g:=O.g.alloc (.box ⟨s,[(s.length,.full e)]⟩)} dst (.dv (.dY O.g.next 0 n e esz) .no)=J st'):fN K Y B H st' (gR tm dst (.sl H.next 0 n c esz)) (H.cQ m fl e):=by
 have w:bg (H.cQ m fl e):=wA a.inv _ (λl r fl e' g=>ai);obtain⟨o,ω',u,z,A,D,Q,E⟩:=QG (y:=.box _) a w (lN (mA H _)) λo ω' f i=>abF (.inr rfl) a.inv P (I.mono (bo.refl _) f) M i;have N:bZ K _ _ (H.cQ m fl e) tm _:=λt sv G=>by obtain⟨v,g1,g2,g3⟩:=L t sv G;refine⟨v,g1,g2,g3.keep a.inv (j9 H _ _) (bo.refl _) u (λp r b d x=>⟨D p r b ?_ x,id⟩) ai ai ai⟩;rcases d with rfl|⟨j,rfl⟩<;>trivial
 exact fN.trans a.inv (bo.refl _) (a.fX (j9 H _ (λ_=>False))) u (j9 H _ _) (λp r b d=>by
 rcases E p r b d with⟨q,h⟩|rfl;.exact .inl ⟨q,b,h⟩
 omega) (A4 (O:={O with g:=O.g.alloc _}) A N h (DR.dY _ _ _ _ _ _ _ z F))
theorem aBd(g:dw P K Y aq)(a:HR K Y B H O.lb O.g)(s:bZ K Y B H tm O.sl){l c:aK}(e:o.op=.makeSlice t l c)(h:dC P aq fk gs cr later O o=J st'):eO P ak rec cf K Y B H st0 O st' tm o:=by
 unfold dC at h;rw[e]at h;simp only at h;split at h
 . rename_i elem k1 n k2 m w v u;obtain⟨lv,l1,_,l3⟩:=oz g a s v;obtain⟨G,r,_,c3⟩:=oz g a s u;cases l3;cases c3;split at h
   . rename_i i z hi x;rcases b:(!(aw i.size 0)&&aw n m&&aw z.flat.length i.size&&bt (m*i.bytes) bm&&bt m bm&&CV gs o.dst)with _|_;.grind
     rw[b]at h;simp only[gu,NW,bR,dj,jV,CJ]at b;obtain⟨⟨⟨⟨⟨D,p⟩,q⟩,E⟩,F⟩,_⟩:=b;subst p;obtain⟨j,L,f,A⟩:=NS K Y x;have T:0<i.size:=ab;have M:=aiM f A q T n;have I:j.length=i.size:=by rw[<-f.1];omega
     have k:(jP n j).length=(lT n z).length*i.size:=by grind[Ga]
     obtain⟨e1,e2⟩:=acS _ _ M k;obtain⟨f1,f2,f3,_⟩:=nP h;refine⟨.sl _ 0 n (J n) _,H.cQ _ .ex _,?_,f1,newRow a s rfl e1 e2 aT h,f2,f3,Fq _ _ _ _⟩;unfold fB dS;rw[e];simp only[GM];have y:(!(aw i.size 0)&&(bt n n&&(bt (ft n i.bytes) bm&&bt n bm)))=V:=by simp_all[bR]
     simp only[w,hi,l1,r,y,aR];cases d:aw n 0 with|true=>rw[bR]at d;obtain rfl:=uU d;rfl|false=>simp_all[dT]
   grind
 grind
end
section
variable{P:aH}{ak:cj}{rec:Rec}{cf:bU}{K K' K1:aY}{Y A:cm}{B ω' ω0:aJ}{H H':Heap}{S:Nat->Prop}
variable{gs cr:aC}{fk:bW->Nat}{later:List aB}{st0 O st':St}{tm:Tr AV}{o:aB}{aq:Nat->ah ao}
theorem Sz{d:Nat}{v:Bool}{x:DV}{l:cX}(g:bg H)(j:bZ K Y B H tm l)(q:O.sl=cN l)(h:aG O (J d) (.dv x ow)=J st')(c:bo K K1)(k:bT S H H')(o:HR K1 Y (B.set (.sl d) (J (r,v))) H' O.lb O.g)(w:∀p r b,p.slot->B p=J (r,b)->¬S r)(t:a≠.top)(m:cO K1 Y (B.set (.sl d) (J (r,v))) H' (.sl d) x a ow)(I:tu ω0 H H' K K1)(P:bT (dK ω0) H H')(z:dK ω0 r\/H.next<=r)(A:∀p r b,B p=J (r,b)->dK ω0 r):fN K Y ω0 H st' (tm.ins d a) H':=by
 rcases yL h with⟨e,_⟩|⟨n,e,_,_,rfl⟩;.grind
 . cases e;have f:=xi g j k c (aX.refl _) ai (λ_ _ _ h=>h);refine⟨K1,Y,_,c,I,aX.refl _,o,?_,P,λp D b y=>?_⟩;.rw[q];exact xh o.inv f (bT.refl _ _) (bo.refl _) (aX.refl _) (λp r b _ u _ h=>⟨by grind[aJ.lf],id⟩) (λs i b h=>by grind[aJ.lf]) ai (λ_=>t) m
   grind[aJ.nQ,aJ.lf]
theorem M4(l:ah Nat):Src (ud l):=match l with|some t=>ZM t|none=>⟨λp q x h a=>by rw[bE h,bE a],λp _=>rfl⟩
theorem alE{b n:Nat}(h:0<esz)(a:0<n)(r:(bt (n*b) bm&&bt n bm)=V):nA H elem esz b .bu nc n=J (.sl H.next 0 n Z esz,H.cQ nc .op elem):=by grind[nA,A9]
theorem alF{b:Nat}(h:0<esz):nA H elem esz b .bu nc 0=J (.bu,H):=by grind[nA,aw,A9]
theorem aa2{b i l:Nat}{c:ah Nat}(h:0<esz)(r:(bt ((l+0)*b) bm&&bt (l+0) bm)=V):nA H elem esz b (.sl i I l c esz) nc 0=J (.sl i I l c esz,H):=by grind[nA,A9,Kl]
theorem Od{bytes i l n:Nat}(a:0<esz)(b:0<n)(c:(bt ((l+n)*bytes) bm&&bt (l+n) bm)=V)(g:H.get i=J (.cells cl r fl e))(h:(H.bp r).1<=i):nA H elem esz bytes (.sl i I l (J l) esz) nc n=J (.sl H.next 0 (l+n) Z esz,H.cQ ((cl.drop I).take (l*esz)++nc) .op elem):=by grind[nA,A9,Kl,dj,ly,pV,qD]
theorem aa1{b i l n:Nat}(h:0<esz)(a:0<n)(d:(bt ((l+n)*b) bm&&bt (l+n) bm)=V)(g:H.get i=J (.cells cl r fl elem))(w:fl.wr=V)(e:(H.bp r).1<=i)(c:(H.bp r).2=i)(Q:I+l*esz=cl.length):nA H elem esz b (.sl i I l Z esz) nc n=J (.sl H.next 0 (l+n) Z esz,H.gP r (H.bp r).1 C ((cl.drop I).take (l*esz)++nc) elem):=by unfold nA;have o:=Nat.mul_pos a h;grind[dj,dT,bR,eQ,ly,pV,qD]
theorem aa0{a:Array an}{i:TypeInfo}{s x r:AV}{n:Nat}(e:a[0]?.bind P.underlying=J (.slice elem))(h:(∃e2,a[1]?.bind P.underlying=J (.slice e2))\/a[1]?.bind P.underlying=J .string)(j:P.info? elem=J i)(b:cu P elem=J z)(d:z.flat.length=i.size)(l:qP x=J n)(g:qG H i.size n x=J nc)(f:nA H elem i.size i.bytes s nc n=J (r,H')):iz P H .append a [s,x]=J (r,H'):=by
 obtain⟨m,o,c,_⟩:=NS (λ_=>Z) (λ_=>Z) b;have k:aw (fc m) i.size=V:=by rw[dT,<-c.1,d];simp_all
 rcases h with⟨_,h⟩|h<;>simp_all[iz]
def Gn(l:ah Nat)(d:Nat):Pk->ah Pk:=match l with|some t=>uf t d|none=>J
def aJQ(l:ah Nat)(d:Nat):Src (Gn l d):=match l with|some t=>ajt t d|none=>M4 Z
theorem acK{i:Nat}{c:aI}(h:gN K Y L esz 0 c)(a:K i=J (c,e)):DR K Y (.ay L e esz) (.sl i 0 L.length Z esz):=.ay L e esz i 0 Z c a h.1 h.2.1 (λk h=>ai) h.2.2.1 h.2.2.2
theorem afU{i:Nat}{y:aI×an}{a:aJ}(b:HR (K.add i y) Y a H' lb g)(e:HR K Y B H O.lb O.g)(h:dK ω0 (rootOf H' i)\/H.next<=rootOf H' i):tu ω0 H H' K (K.add i y):=λj x d=>by obtain⟨cells,t⟩:=x;obtain⟨r,fl,c,_⟩:=b.dm j _ t d;refine⟨b.inv.get _ _ c,?_⟩;grind[aY.add]
theorem alf{d:Nat}{c:aI}{s:cX}(a:HR K Y B H O.lb O.g)(o:bZ K Y B H tm s)(j:O.sl=cN s)(h:aG O (J d) (.dv (.ay L e esz) (.ty e))=J st')(M:gN K Y L esz 0 c)(l:L.length*esz=c.length)(u:∀p r b,B p=J (r,b)->dK ω0 r):fN K Y ω0 H st' (tm.ins d (.sl H.next 0 L.length Z esz)) (H.cQ c .op e):=by
 have n:=(QH (m:=c) (fl:=.op) (e:=e) a).1;have W:(H.cQ _ _ e).get _=J (.cells c _ .op e):=mA H _;have t:(H.cQ c .op e).bp _=(0,H.next):=Bk (H:=H) a.inv ab;have k:=QF (m:=c) (fl:=.op) (e:=e) (p:=.sl d) (v:=J C) a trivial;have f:=k.Vh W ai n (λq i=>by
 by_cases e1:q=.sl d;.grind[aJ.nQ]
 .rw[aJ.lf _ _ e1]at i;have:=a.cC _ _ _ i;omega);have g:bo K (K.add _ (c,e)):=aY.A3 n;refine Sz a.inv o j h g (j9 H _ _) f (λ_ _ _ _ _=>id) aP ?_ (afU f a (.inr (by grind[lN]))) (j9 H _ _) ab u;refine⟨acK (M.mono g (aX.refl _)) (by simp[aY.add]),.inr ⟨_,_,by rw[aJ.nQ],⟨_,0,_,_,_,_,_,rfl,W,rfl,ai,ai,.inl ⟨rfl,ai,ab⟩⟩⟩⟩
theorem aaR{d:Nat}{l:aI}{i:Nat}{x:Bool}{D:cX}(a:HR K Y B H O.lb O.g)(z:bZ K Y B H tm D)(o:O.sl=cN D)(h:aG O (J d) (.dv (.ay L e esz) (bif x then .ex e else .ty e))=J st')(g:H.get i=J (.cells cl r fl e))(E:(H.bp r).1<=i)(G:(H.bp r).2=i)(M:gN K Y L esz 0 l)(u:L.length*esz=l.length)(N:∀q b,B q≠J (r,b))(R:x=V->∀j y,K j=J y->rootOf H j≠r)(w:dK ω0 r)(A:∀p r b,B p=J (r,b)->dK ω0 r):fN K Y ω0 H st' (tm.ins d (.sl H.next 0 L.length Z esz)) (H.gP r (H.bp r).1 C l e):=by have hid:=a.inv.get _ _ g;have v:=(QH (m:=l) (fl:=.op) (e:=e) a).1;have W:(H.gP r (H.bp r).1 C _ e).get _=J (.cells l r _ e):=ya ..;have F:(H.gP r _ C l e).bp r=((H.bp r).1,H.next):=zO ..;have Q:GS (H.gP r (H.bp r).1 C l e) H.next 0 L.length esz r _ l:=.inl ⟨rfl,ai,ab⟩;have U:((H.gP r (H.bp r).1 C l e).bp r).1<=H.next:=ai;have k:=Uh (H:=H) r (H.bp r).1 C l e;have P:bT (dK ω0) H _:=k.xu a.inv λn _ e=>ai;have S:∀p n b,p.slot->B p=J _->¬n=r:=λp n b _ h e=>N p b (e▸h);cases x with|true=>have f:=aeu (c:=l) (p:=.sl d) a g trivial N ab;refine Sz a.inv z o h (bo.refl _) k f S aP ?_ (a.fX k) P (.inl w) A;exact .inr ⟨r,aJ.nQ _ _ _,⟨L,_,_,0,_,_,_,rfl,rfl,W,rfl,U,ai,M,Q⟩⟩|false=>have f:=aeu (c:=l) (p:=.sl d) a g trivial N ab;have s:=f.Vh W U v (λq I=>by grind[aJ.nQ,aJ.lf]);have t:bo K (K.add _ (l,e)):=aY.A3 v;refine Sz a.inv z o h t k s S aP ?_ (afU s a (.inl (by grind[lN]))) P (.inl w) A;exact⟨acK (M.mono t (aX.refl _)) (by simp[aY.add]),.inr ⟨r,_,by rw[aJ.nQ],⟨_,0,_,_,_,_,_,rfl,W,rfl,U,ai,Q⟩⟩⟩
theorem alR(u:dw P K Y aq)(a:HR K Y B H O.lb O.g)(w:bZ K Y B H tm O.sl){c:Call}(ho:o.op=.call c)(hc:c.callee=.builtin .append)(kp:c.args.toList=[s,x]){i:TypeInfo}{d:DV}(oW:c.argTypes[0]?.bind P.underlying=J (.slice elem))(sS:(∃e2,c.argTypes[1]?.bind P.underlying=J (.slice e2))\/c.argTypes[1]?.bind P.underlying=J .string)(hi:P.info? elem=J i)(hz:cu P elem=J z)(mc:z.flat.length=i.size)(E:cU aq O s=J (.dv d ow))(jD:bj aq O x=J v)(mZ:wZ i.size v=J new)(ko:∀y,y∈new->y.flat.length=i.size)(U:rb gs o.dst d ow new=V)(h:(bif V then(fu elem i.size i.bytes d ow new).bind λ_=>aG {aQ leave O s with sl:=cN (aQ leave O s).sl,g:=O.g.alloc (.box ⟨new.flatMap DV.flat,[((new.flatMap DV.flat).length,.full elem)]⟩)} o.dst (.dv (.dY O.g.next 0 new.length elem i.size) .no)else(fu elem i.size i.bytes d ow new).bind λr=>bif o.dst.isSome then aG {aQ leave O s with sl:=cN (aQ leave O s).sl} o.dst (.dv r.1 r.2)else Z)=J st'):eO P ak rec cf K Y B H st0 O st' tm o:=by
 unfold rb at U;split at U
 . rename_i e0 e e1 f T;obtain⟨r,hr,X⟩:=aE h;obtain⟨R,x1,x2,x3⟩:=agA u a w jD mZ;obtain⟨S,lv,pv,s1,s2,m,s4,s5⟩:=Qp u a w E;obtain⟨mV,xX,T1,T2⟩:=BT leave O s;have eX:=a.of (M4 lv);have ou:∀p r b,B.of (ud lv) p=J _->dK B r:=λp r b k=>let⟨q,_,h⟩:=aJ.iG k;⟨q,b,h⟩;have G:=xi a.inv s5 (bT.refl _ _) (bo.refl _) (aX.refl _) (λ_ _ _ _ h=>⟨h,id⟩) aT;have M:cw (AM.bJ P tm) c.args.toList=J [S,R]:=by rw[kp];show((AM.bJ P tm s).bind _)=_;grind
   have tr:∀{xn:Tr AV}{n:Heap},fN K Y _ H _ _ n->fN K Y B H st' xn n:=λh=>fN.trans a.inv (bo.refl _) (a.fX (bT.refl (λ_=>False) _)) (aX.refl _) (bT.refl _ _) (λp r b k=>.inl (ou p r b k)) h;unfold fu at hr;cases h0:aw i.size 0 with|true=>grind|false=>
   rw[h0]at hr;simp only[bX]at hr;have A:0<i.size:=by grind[bR]
   obtain⟨nc,n1,n2,n3⟩:=x3 A ko;rw[bR,bR]at hr;by_cases iE:e=i.size
   . by_cases jW:e0=elem
     . rcases oq:(bt ((([]:ao).length+(f::T).length)*i.bytes) bm&&bt (([]:ao).length+(f::T).length) bm)with _|_;.grind
       subst iE;subst jW;obtain⟨m,qM,dF,Q,qb,hA⟩:=m;cases m with|ay _ _ _ id I W cells k1 k2 k3 k4 k5 k6=>
       obtain⟨_,_,hl,D,_⟩:=AV.sl.inj hA;have D:W=J ([]:ao).length:=ai;subst D;obtain⟨root,T5,i1,i2⟩:=a.dm _ _ _ k1;obtain⟨j,L⟩:=acS _ _ n2 n3;have N:=Od (H:=H) (elem:=e0) (bytes:=i.bytes) (nc:=nc) (I:=I) A (by simp:0<(f::T).length) oq i1 i2;obtain⟨g1,g2,g3,_⟩:=nP X;have F:(cells.drop I).take (([]:ao).length*i.size)++nc=nc:=aP;have l:([]:ao).length+(f::T).length=(f::T).length:=aP;rw[F,l]at N;refine⟨.sl H.next 0 (f::T).length Z i.size,H.cQ nc .op e0,?_,λt ht=>ai,tr ?_,ai,ai,Fq _ _ _ _⟩;.unfold fB;rw[CO ho hc ⟨aP,aP⟩ M (aa0 oW sS hi hz mc x2 n1 N)];rfl
       .exact newRow (O:={aQ leave O s with sl:=cN (aQ leave O s).sl}) ai G rfl j L aP ai
     grind
   grind
 grind
theorem aba(hg:dw P K Y aq)(k:HR K Y B H O.lb O.g)(hs:bZ K Y B H tm O.sl){c:Call}(ho:o.op=.call c)(hc:c.callee=.builtin .append)(kp:c.args.toList=[s,x]){i:TypeInfo}{d:DV}(oW:c.argTypes[0]?.bind P.underlying=J (.slice elem))(sS:(∃e2,c.argTypes[1]?.bind P.underlying=J (.slice e2))\/c.argTypes[1]?.bind P.underlying=J .string)(hi:P.info? elem=J i)(hz:cu P elem=J z)(E3:cU aq O s=J (.dv d ow))(jD:bj aq O x=J v)(h:(bif aw z.flat.length i.size then(wZ i.size v).bind λnew=>bif new.all (λy=>aw y.flat.length i.size)then bif rb gs o.dst d ow new then(fu elem i.size i.bytes d ow new).bind λ_=>aG {aQ leave O s with sl:=cN (aQ leave O s).sl,g:=O.g.alloc (.box ⟨new.flatMap DV.flat,[((new.flatMap DV.flat).length,.full elem)]⟩)} o.dst (.dv (.dY O.g.next 0 new.length elem i.size) .no)else(fu elem i.size i.bytes d ow new).bind λr=>bif o.dst.isSome then aG {aQ leave O s with sl:=cN (aQ leave O s).sl} o.dst (.dv r.1 r.2)else Z else Z else Z)=J st'):eO P ak rec cf K Y B H st0 O st' tm o:=by
 rw[bR]at h;by_cases mc:z.flat.length=i.size;.simp only[mc,eB,aR]at h;obtain⟨new,mZ,h⟩:=aE h;cases ko:(new.all λy=>aw y.flat.length i.size)with|false=>grind|true=>
  rw[ko]at h;simp only[aR]at h;have ko:∀y,y∈new->y.flat.length=i.size:=λy hy=>by simp_all
  cases PU:rb gs o.dst d ow new with|true=>grind[alR]|false=>rw[PU]at h;simp only[bX]at h;obtain⟨r,hr,h⟩:=aE h;cases hd:o.dst with|none=>grind|some dd=>
  rw[hd]at h;simp only[Sp,aR]at h;obtain⟨ax,x1,x2,x3⟩:=agA (P:=P) hg k hs jD mZ;obtain⟨aS,lv,pv,s1,s2,a,s4,s5⟩:=Qp (P:=P) hg k hs E3;obtain⟨mV,xX,T1,T2⟩:=BT leave O s;obtain⟨g1,g2,g3,_⟩:=nP h;have eX:=k.of (M4 lv);have ou:∀p r b,B.of (ud lv) p=J (r,b)->dK B r:=λp r b w=>let⟨q,_,h⟩:=aJ.iG w;⟨q,b,h⟩;have L:bZ K Y (B.of (ud lv)) H tm (cN (aQ leave O s).sl):=xi (S:=λ_=>False) k.inv s5 (bT.refl _ _) (bo.refl _) (aX.refl _) (λ_ _ _ _ h=>⟨h,id⟩) (λ_ _ _ h=>h);have Uw:cw (AM.bJ P tm) c.args.toList=J [aS,ax]:=by rw[kp];show((AM.bJ P tm s).bind λb=>((AM.bJ P tm x).bind λb=>(J []:ah aI).bind λt=>J (b::t)).bind λt=>J (b::t))=_;grind
  have fin:∀{m:AV}{f:Heap},(∀nc,qG H i.size new.length ax=J nc->gN K Y new i.size 0 nc->nc.length=new.length*i.size->0<i.size->nA H elem i.size i.bytes aS nc new.length=J (m,f))->0<i.size->f.bA=H.bA->f.bV=H.bV->(∀r,r∈f.cI->r∈H.cI\/(r<H.bA/\dK B r))->fN K Y B H st' (tm.ins dd m) f->eO P ak rec cf K Y B H st0 O st' tm o:=by
   intro m f e1 h0 Eo e3 e5 e4;obtain⟨nc,n1,F,G⟩:=x3 h0 ko;refine⟨m,f,?_,λt ht=>?_,by rw[hd];exact e4,ai,ai,⟨Eo,λ_ r hr=>ai,λ_ wN=>?_,λr hr=>.inl ai,e5⟩⟩;.unfold fB;rw[CO ho hc ⟨aP,aP⟩ Uw (aa0 oW sS hi hz mc x2 n1 (e1 nc n1 F G h0))];rfl
   .grind
   .refine absurd wN ?_;rw[ho];cases c;grind[isApp]
  unfold fu at hr;cases h0:aw i.size 0 with|true=>grind|false=>
   rw[h0]at hr;simp only[bX]at hr;have T:0<i.size:=by grind[bR]
   obtain⟨nc,n1,F,G⟩:=x3 T ko;have aNM:∀p r b,B.of (ud lv) p=J (r,b)->∃q,B q=J (r,b):=λp r b w=>let⟨q,_,h⟩:=aJ.iG w;⟨q,h⟩;have tr:∀{xn:Tr AV}{f:Heap},fN K Y (B.of (ud lv)) H st' xn f->fN K Y B H st' xn f:=λh=>fN.trans k.inv (bo.refl _) (k.fX (bT.refl (λ_=>False) _)) (aX.refl _) (bT.refl _ _) (λp r b w=>.inl (ou p r b w)) h;cases d with
   |nl=>simp only at hr;cases oq:(bt (new.length*i.bytes) bm&&bt new.length bm)with|false=>grind|true=>
     rw[oq]at hr;simp only[aR]at hr;have has:aS=.bu:=by cases ow with|no=>cases a;rfl|any=>exact a.2|full e=>cases a.1;rfl|ty e=>cases a.1;rfl|ex e=>
      rcases a with⟨_,h⟩|⟨_,_,h⟩;.omega
      .obtain⟨_,_,_,_,_,_,_,h,_⟩:=h.ex;grind
     subst has;cases new with|nil=>cases hr;refine fin (m:=.bu) (f:=H) (λnc _ _ _ _=>alF T) T rfl rfl (λ_ h=>.inl h) (tr ?_);exact xI (dst:=J dd) (O:={aQ leave O s with sl:=cN (aQ leave O s).sl}) ai L h aP λ_ _ _=>⟨rfl,rfl⟩|cons u n=>
     cases hr;refine fin (m:=.sl H.next 0 (u::n).length Z i.size) (f:=H.cQ nc .op elem) (λQ X _ _ _=>?_) T rfl rfl (λ_ h=>.inl h) (tr ?_);.grind[alE]
     .exact Ob (dst:=J dd) (O:={aQ leave O s with sl:=cN (aQ leave O s).sl}) ai L h rfl F (.inl ⟨rfl,G.symm⟩)
   |ay l e0 e=>
   simp only at hr;rw[bR,bR]at hr;by_cases iE:e=i.size
   . by_cases jW:e0=elem;.cases oq:(bt ((l.length+new.length)*i.bytes) bm&&bt (l.length+new.length) bm)with|false=>grind|true=>rw[oq]at hr;simp only[iE,jW,eB,xx,aR]at hr;subst iE;subst jW;cases new with
      |nil=>
      cases hr;obtain⟨id,I,D,hAs⟩:∃id I D,aS=.sl id I l.length D i.size:=by cases ow with|no=>cases a<;>simp_all|any=>obtain⟨h,_⟩:=a;grind|full e=>have a:=a.1;cases a<;>simp_all|ty e=>have a:=a.1;cases a<;>simp_all|ex e=>
          rcases a with⟨h,_⟩|⟨_,_,h⟩;.grind
          .obtain⟨l',qb,id,I,c',_,_,U,W,_⟩:=h.ex;grind
      subst hAs;refine fin (f:=H) (λnc _ _ _ _=>aa2 T oq) T rfl rfl (λ_ h=>.inl h) ?_;have R:Src (Gn lv dd):=aJQ lv dd;have aNH:∀s,B.of (Gn lv dd) (.lb s)=B (.lb s):=λs=>by unfold aJ.of;rw[R.base _ (by simp[Pk.slot])];rfl
      have aNI:∀s,B.of (ud lv) (.lb s)=B (.lb s):=λs=>by unfold aJ.of;rw[(M4 lv).base _ (by simp[Pk.slot])];rfl
      rcases yL h with⟨e,_⟩|⟨d',e,_,_,rfl⟩;.grind
      . cases e;refine⟨K,Y,B.of (Gn lv dd),bo.refl _,k.fX (bT.refl (λ_=>False) _),aX.refl _,?_,?_,bT.refl _ _,λp r b w=>let⟨q,_,h⟩:=aJ.iG w;.inl ⟨q,b,h⟩⟩;.show HR K Y _ H (aQ leave O s).lb (aQ leave O s).g;rw[T1,T2];exact k.of R
        . refine xh (S:=λ_=>False) k.inv L (bT.refl _ _) (bo.refl _) (aX.refl _) (λp r b U W h3 h=>⟨?_,λh=>h⟩) (λs i b h=>ai) (λ_ _ _ h=>h) (λ_=>aP) ?_
          . obtain⟨q,q1,q2⟩:=aJ.iG h;have kM:p.slot:=by rcases h3 with⟨t,rfl⟩|⟨t,j,rfl⟩<;>trivial
            obtain⟨rfl,q3⟩:=aiK kM q1;have:Gn lv dd q=J q:=by unfold Gn;cases lv<;>grind[uf]
            grind[aJ.of]
          . rcases s4 with⟨ts,Ad,rfl⟩|⟨_,rfl|rfl⟩;.refine a.uZ ?_;simp_all[aJ.of,Gn,uf]
            .exact a
            .exact a|cons u n=>
      have nI:0<(u::n).length:=aP;have mX:∀{r b},B pv=J (r,b)->(ow≠.no/\ow≠.any)->∀q b',B.of (ud lv) q≠J (r,b'):=by
        intro r b w gG q b' hq;obtain⟨q0,y1,y2⟩:=aJ.iG hq;obtain rfl:=k.inj _ _ _ _ _ y2 w;rcases s4 with⟨ts,Ad,rfl⟩|⟨_,h|h⟩;.rw[Ad]at y1;have y1:pS ts q=J (.sl ts):=y1;cases q<;>simp only[pS]at y1;all_goals grind
        all_goals grind
      have wV:({aQ leave O s with sl:=cN (aQ leave O s).sl}:St).lb=O.lb/\({aQ leave O s with sl:=cN (aQ leave O s).sl}:St).g=O.g:=⟨T1,T2⟩;have N:HR K Y (B.of (ud lv)) H ({aQ leave O s with sl:=cN (aQ leave O s).sl}:St).lb ({aQ leave O s with sl:=cN (aQ leave O s).sl}:St).g:=ai;have M:(l++u::n).length=l.length+(u::n).length:=ib;cases ow with
      |no=>grind|any=>grind|ty e1=>
        simp only at hr;rw[bR]at hr;by_cases A:e1=e0;.simp only[A,eB,aR]at hr;subst A;cases hr;obtain⟨a,s3'⟩:=a;cases a with|ay _ _ _ id I D cells k1 k2 k3 k4 k5 k6=>
            obtain⟨root,T5,i1,i2⟩:=k.dm _ _ _ k1;have iM:gN K Y l i.size I cells:=⟨k2,k3,k5,k6⟩;obtain⟨E,z2⟩:=iM.append F G;have fresh:D=J l.length->eO P ak rec cf K Y B H st0 O st' tm o:=by
              intro qH;subst qH;refine fin (m:=.sl H.next 0 (l.length+(u::n).length) Z i.size) (f:=H.cQ ((cells.drop I).take (l.length*i.size)++nc) .op e1) (λQ X _ _ _=>?_) T rfl rfl (λ_ h=>.inl h) ?_;.grind[Od]
              .rw[<-M];exact alf (O:={aQ leave O s with sl:=cN (aQ leave O s).sl}) N s5 rfl h E ai ou
            rcases s3' with hd|⟨r,b,r1,r2⟩;.grind
            . obtain⟨qM,dF,agy,c',qb,S1,fl',t1,t2,t3,t4,_,t5⟩:=r2.ex;obtain⟨rfl,rfl,hl,rfl,rfl⟩:=AV.sl.inj t1;subst hl;rcases t5 with⟨rfl,t6,t7⟩|t5
              . rw[i1]at t2;obtain⟨rfl,rfl,rfl,_⟩:=ch.cells.inj (bE t2);refine fin (m:=.sl H.next 0 (l.length+(u::n).length) Z i.size) (f:=H.gP root (H.bp root).1 C ((cells.drop I).take (l.length*i.size)++nc) e1) (λQ X _ _ _=>?_) T rfl rfl (λ_ h=>by
                rcases vN h with h|⟨U,W⟩;.grind
                .subst U;exact .inr ⟨W,_,b,r1⟩) ?_;.grind[aa1]
                .rw[<-M];exact aaR (x:=C) (O:={aQ leave O s with sl:=cN (aQ leave O s).sl}) N s5 rfl h i1 t4 t6 E ai (mX r1 ⟨aP,aP⟩) (λh=>ai) ⟨_,b,r1⟩ ou
              grind
        grind|full e1=>
        simp only at hr;rw[bR]at hr;by_cases A:e1=e0;.simp only[A,eB,aR]at hr;subst A;cases hr;obtain⟨a,qM,dF,agy,qb,hA⟩:=a;cases a with|ay _ _ _ id I D cells k1 k2 k3 k4 k5 k6=>
            obtain⟨_,_,hl,qH,_⟩:=AV.sl.inj hA;have qH:D=J l.length:=ai;subst qH;obtain⟨root,T5,i1,i2⟩:=k.dm _ _ _ k1;have iM:gN K Y l i.size I cells:=⟨k2,k3,k5,k6⟩;obtain⟨E,z2⟩:=iM.append F G;refine fin (m:=.sl H.next 0 (l.length+(u::n).length) Z i.size) (f:=H.cQ ((cells.drop I).take (l.length*i.size)++nc) .op e1) (λQ X _ _ _=>?_) T rfl rfl (λ_ h=>.inl h) (tr ?_);.grind[Od]
            .rw[<-M];exact Ob (dst:=J dd) (O:={aQ leave O s with sl:=cN (aQ leave O s).sl}) N L h rfl E (.inl ⟨rfl,ai⟩)
        grind|ex e1=>
        simp only at hr;rw[bR]at hr;by_cases A:e1=e0
        . simp only[A,eB,aR]at hr;subst A;cases hr;rcases a with⟨hd,_⟩|⟨r,r1,r2⟩;.grind
          . obtain⟨l',qb,id,I,D,cells,T5,t1,t2,t3,t4,t5,t6,t7,t8⟩:=r2.ex;obtain⟨rfl,_,rfl⟩:=DV.ay.inj t1;subst t2;obtain⟨E,z2⟩:=t7.append F G;rcases t8 with⟨rfl,_,t9⟩|rfl
            . refine fin (m:=.sl H.next 0 (l.length+(u::n).length) Z i.size) (f:=H.gP r (H.bp r).1 C ((cells.drop I).take (l.length*i.size)++nc) e1) (λQ X _ _ _=>?_) T rfl rfl (λ_ h=>by
                rcases vN h with h|⟨U,W⟩;.grind
                .subst U;exact .inr ⟨W,_,V,r1⟩) ?_;.grind[aa1]
              .rw[<-M];exact aaR (x:=V) (O:={aQ leave O s with sl:=cN (aQ leave O s).sl}) N s5 rfl h t3 t5 t6 E aT (mX r1 ⟨aP,aP⟩) (λ_ j y hj=>k.clean _ _ _ _ r1 hj) ⟨_,V,r1⟩ ou
            . refine fin (m:=.sl H.next 0 (l.length+(u::n).length) Z i.size) (f:=H.cQ ((cells.drop I).take (l.length*i.size)++nc) .op e1) (λQ X _ _ _=>?_) T rfl rfl (λ_ h=>.inl h) (tr ?_);.grind[Od]
              .rw[<-M];exact Ob (dst:=J dd) (O:={aQ leave O s with sl:=cN (aQ leave O s).sl}) N L h rfl E (.inl ⟨rfl,aT⟩)
        grind
     grind
   grind|_=>simp at hr
 grind
theorem alQ(g:dw P K Y aq)(f:HR K Y B H O.lb O.g)(l:bZ K Y B H tm O.sl){c:Call}(b:o.op=.call c)(a:c.callee=.builtin .append)(k:c.args.toList=[s,x])(h:dC P aq fk gs cr later O o=J st'):eO P ak rec cf K Y B H st0 O st' tm o:=by
 unfold dC at h;rw[b]at h;simp only[a,k]at h;split at h
 . rename_i elem e2 W S;split at h;.rename_i i z d ow v hi e E j;exact aba g f l b a k W aT hi e E j h
   grind
 . rename_i elem W S;split at h;.rename_i i z d ow v hi e E j;exact aba g f l b a k W (.inr S) hi e E j h
   grind
 grind
end
section
variable{P:aH}{ak:cj}{rec:Rec}{cf:bU}{K K':aY}{Y A:cm}{B ω':aJ}{H H':Heap}{S:Nat->Prop}
variable{aq:Nat->ah ao}{gs cr:aC}{fk:bW->Nat}{later:List aB}{st0 O st':St}{tm:Tr AV}{o:aB}
theorem aKH{i:Nat}(g:H.get i=J (.cells m r fl e))(w:fl.wr=V)(h:(H.bp r).1<=i)(a:(H.bp r).2=i)(b:I+vs.length<=m.length):H.store i I vs=J (H.dI i r (.cells (fV m I vs) r fl e)):=by simp_all[dT,Heap.store,dj]
theorem asS{a:Loc}{b:LB}{i:Nat}{d:ao}(c:HR K Y B H O.lb O.g)(g:O.at a=J b)(o:B a.top=J (i,V))(U:po K Y B H a.pk b i)(E:bK K Y d vs)(T:∀y,y∈d->y.aU=V)(jW:I+d.length<=b.cells.length):∃H',H.store i I vs=J H'/\bT (λr=>r=i) H H'/\H'.bA=H.bA/\H'.cI=H.cI/\H'.bV=Heap.note H.bA i H.bV/\HR K Y (B.of (pT a I d.length Z)) H' (O.setAt a {cells:=lg b.cells I d,own:=cY b.own I d.length}).lb (O.setAt a {cells:=lg b.cells I d,own:=cY b.own I d.length}).g:=by
 obtain⟨m,fl,e,f,w,M,D,h5,N⟩:=U;have qL:=E.1.symm;generalize P:d.length=n at*;refine⟨_,aKH f w.1 M D ab,yA f,Cc ..,yb ..,xw ..,?_⟩;obtain⟨X,q2,q3,q4,q5⟩:=Rc (m':=fV m I vs) (fl':=fl) (e':=e) c o f D (aju (x:=a) (I:=I) (n:=n) (lv:=Z));have UT:∀(y:Loc)(j:Nat)(t:Nat),y.pk j≠.sl t/\∀k,y.pk j≠.tp t k:=λy j t=>⟨λe=>Loc.As y j (e▸trivial),λk e=>Loc.As y j (e▸trivial)⟩;have q:=yA (m':=fV m I vs) (fl':=fl) (e':=e) f;have A:∀p r b,B p=J _->p≠a.top->¬r=i:=λp r b h L e=>by subst e;exact L (c.inj _ _ _ _ _ h o)
 refine HR.Gj c g o (bo.refl _) q X (Gw c.gW f) q2 q3 q4 q5 (λs=>?_) (λid=>?_) ?_ ai ?_;.unfold aJ.of;rw[xj (λj _ _=>(Loc.BY a j s).symm) aP];rfl
 .unfold aJ.of;rw[xj (λj _ _=>(Loc.MK a j id).symm) aP];rfl
 . intro y F d1 l o1 S R;refine R.keep c.inv q (bo.refl _) (aX.refl _) λr b g=>⟨?_,A _ r b g ?_⟩;.unfold aJ.of;rw[xj (λj _ _ e=>S (Loc.BX e).1) ai];grind
   .cases a<;>cases y<;>simp[Loc.pk,Loc.top]
 . refine⟨_,fl,e,n7 _ _ _ _,w.drop _ _,by grind[Ez],by grind[Ez],?_,λF d1 l u v=>?_⟩;.grind[Nr,yO]
   . have u0:=u;rw[Nr,yN _ _ _ ab,P]at u;rw[yN _ _ _ ab,qL]at v;by_cases z:I<=F/\F<I+n;.rw[if_pos z]at u v;have tJ:=T d1 ai;refine⟨tJ,?_⟩;have Q:=E.2 _ d1 l u v;unfold eu;rw[u0];have G:=VB b.own z.1 z.2;simp only[G];cases d1<;>first|exact Q|(cases Q;exact⟨rfl,rfl⟩)
     . rw[if_neg z]at u v;obtain⟨k1,k2⟩:=N _ d1 l u v;refine⟨k1,?_⟩;have W:eu {cells:=lg b.cells I d,own:=cY b.own I n} F=eu b F:=by grind[eu,agM]
       rw[W];refine k2.keep c.inv q (bo.refl _) (aX.refl _) λr b g=>⟨?_,A _ r b g (by cases a<;>simp[Loc.pk,Loc.top])⟩;unfold aJ.of;rw[xj (λj j1 j2 e=>by grind[Loc.BX]) ai];grind
theorem aHx{c:aI}(a:bK K Y z.flat c):∀n:Nat,bK K Y ((lT n z).flatMap DV.flat) (jP n c):=λn=>by induction n with|zero=>exact bK.nil|succ n i=>grind[bK,jP,ly]
theorem an3(U:dw P K Y cf.aq)(d:HR K Y B H O.lb O.g)(f:bZ K Y B H tm O.sl){c:Call}(m:o.op=.call c)(l:c.callee=.builtin .clear)(G:c.args.toList=[x])(h:dC P cf.aq fk gs cr later O o=J st'):eO P ak rec cf K Y B H O O st' tm o:=by
 have E:kindOf cf O o.op=.wr:=by rw[m];cases c;obtain rfl:=l;rfl
 unfold dC at h;rw[m]at h;simp only[l,G]at h;split at h
 . obtain⟨v,W,h⟩:=aE h;obtain⟨a,a1,_,D⟩:=oz U d f W;have A:cw (AM.bJ P tm) c.args.toList=J [a]:=by rw[G];show((AM.bJ P tm x).bind _)=_;grind
   cases v with
   |nl=>cases D;obtain⟨f1,f2,f3,_⟩:=nP h;refine⟨_,H,?_,f1,Cv d f h,f2,f3,uk.refl _ _ _⟩;unfold fB;rw[CO (v:=fC) (H':=H) m l ⟨aP,aP⟩ A (by simp_all[iz])];rfl|dY id I n e esz=>
   simp only at h;split at h
   . rename_i b z T X;rcases F:(bt (I+n*esz) b.cells.length&&aw z.flat.length esz)with _|_;.grind
     rw[F]at h;simp only[gu,bR,dj,jV]at F;cases D with|dY _ _ _ _ _ i cc hi qH=>
     obtain⟨M,z1,z2,z3⟩:=NS K Y X;have mc:M.length=esz:=by rw[<-z2.1];omega
     have L:O.at (.g id)=J b:=by show(match O.g.get id with|some (.box b)=>J b|_=>Z)=J b;grind
     obtain⟨i',u,i2,i3⟩:=d.at L;have n9:((lT n z).flatMap DV.flat).length=n*esz:=by simp_all
     have R:bK K Y ((lT n z).flatMap DV.flat) (jP n M)/\∀y,y∈(lT n z).flatMap DV.flat->y.aU=V:=by grind[aHx]
     obtain⟨H',g1,g2,g3,g4,g5,g6⟩:=asS (I:=I) d L u i2 R.1 R.2 ab;rw[n9]at g6;obtain⟨f1,f2,f3,f4,f5⟩:=nP h;have Q:∀p r b,p.slot->B p=J _->¬r=i':=λp r b t h e=>by subst e;have:=d.inj _ _ _ _ _ h u;subst this;exact t.elim
     cases w:aw n 0 with|true=>
     rw[bR]at w;have w:=uU w;subst w;have N:({cells:=lg b.cells I ((lT 0 z).flatMap DV.flat),own:=cY b.own I (0*esz)}:LB)=b:=by
      have e1:lg b.cells I ((lT 0 z).flatMap DV.flat)=b.cells:=by simp[lg]
      have e2:cY b.own I (0*esz)=b.own:=by grind[cY,List.filter_eq_self,eQ,dj]
      simp_all
     rw[N]at h;have zW:HR K Y B H O.lb (O.g.set id (.box b)):=by
      have same:∀k,(O.g.set id (.box b)).get k=O.g.get k:=λk=>by
       show look (put O.g.kb id (.box b)) k=look O.g.kb k;rw[me];by_cases e:k=id;.subst e;rw[if_pos rfl];exact T.symm
       grind
      exact⟨d.inv,d.dm,d.inj,d.clean,d.cC,d.box,λk ob E=>d.jf k ob ai,d.mW,d.gW⟩
     refine⟨fC,H,?_,f1,?_,f2,f3,uk.refl _ _ _⟩;.unfold fB;rw[CO (v:=fC) (H':=H) m l ⟨aP,aP⟩ A (by simp_all[iz])];rfl
     .refine Cv (O:={O with sl:=cN O.sl,g:=O.g.set id (.box b)}) zW ?_ h;exact xi (S:=λ_=>False) d.inv f (bT.refl _ _) (bo.refl _) (aX.refl _) (λ_ _ _ _ h=>⟨h,λh=>h⟩) (λ_ _ _ h=>h)|false=>
     have ja:bZ K Y (B.of (pT (.g id) I (n*esz) Z)) H' tm (cN O.sl):=by refine xi d.inv f g2 (bo.refl _) (aX.refl _) (λp r b t h=>⟨by unfold aJ.of;rw[xj (λj _ _ e=>Loc.As (.g id) j (e▸t)) aP];grind,Q p r b t h⟩) (λs j b h=>?_);.obtain⟨q,q1,q2⟩:=aJ.iG h;rw[xj (λj _ _=>(Loc.BY (.g id) j s).symm) aP]at q1;grind
     refine⟨fC,H',?_,f1,?_,f2,f3,VA g3 g4 g5 ⟨_,_,u⟩ E⟩;.unfold fB;rw[CO (v:=fC) (H':=H') m l ⟨aP,aP⟩ A (by simp_all[iz,dT])];rfl
     .refine fN.trans (ω1:=B.of (pT (.g id) I (n*esz) Z)) d.inv (bo.refl _) (d.fX g2) (aX.refl _) (g2.xu d.inv λr _ e=>⟨_,_,e▸u⟩) (λp r b h=>let⟨q,_,h⟩:=aJ.iG h;.inl ⟨q,b,h⟩) ?_;exact Cv (O:={O with sl:=cN O.sl,g:=O.g.set id _}) g6 ja h
   grind|_=>simp at h
 grind
end
section
variable{P:aH}{ak:cj}{rec:Rec}{cf:bU}{K K' K1:aY}{Y A:cm}{B ω' ω0:aJ}{H H':Heap}{S:Nat->Prop}
variable{gs cr:aC}{fk:bW->Nat}{later:List aB}{st0 O st':St}{tm:Tr AV}{o:aB}{aq:Nat->ah ao}
theorem Nj(t:Tr AV):∀(l:List aK)(K:aY)(B:aJ)(O:St),HR K Y B H O.lb O.g->bZ K Y B H t O.sl->∃K' ω',oI B H K K'/\HR K' Y ω' H (l.foldl (aQ share) O).lb (l.foldl (aQ share) O).g/\bZ K' Y ω' H t (l.foldl (aQ share) O).sl/\(∀q r b,ω' q=J (r,b)->∃a,B q=J (r,a))/\(∀x,x∈l->jK (l.foldl (aQ share) O) x)/\(l.foldl (aQ share) O).n=O.n/\(l.foldl (aQ share) O).fn=O.fn/\∀y,jK O y->jK (l.foldl (aQ share) O) y:=by intro l;induction l with|nil=>grind[oI.refl]|cons x l D=>
 intro K B O w A;obtain⟨K1,c,e,i,k,m,E,F,G,n⟩:=ZG w A x;obtain⟨g,d,f,o,s,I,L,M,N,u⟩:=D K1 c _ i k;refine⟨g,d,⟨e.1.trans f.1,λj x z=>?_⟩,o,s,λq r b h=>?_,λy P=>?_,ai,ai,λy h=>u y (n y h)⟩
 . rcases f.2 j x z with h|⟨p,b,h⟩;.exact e.2 j x h
   .obtain⟨a,v⟩:=m p _ b h;exact .inr ⟨p,a,v⟩
 all_goals grind
theorem eO.of(l:HR K Y B H st0.lb st0.g)(i:oI B H K K1)(n:HR K1 Y ω' H O.lb O.g)(c:∀q r b,ω' q=J (r,b)->∃a,B q=J (r,a))(x:O.n=st0.n)(w:O.fn=st0.fn)(h:eO P ak rec cf K1 Y ω' H st0 O st' tm o):eO P ak rec cf K Y B H st0 st0 st' tm o:=by obtain⟨v,H',j,s,k,t,u,e⟩:=h;exact⟨v,H',j,λd hd=>ai,fN.trans l.inv i.1 (i.fX n) (aX.refl _) (bT.refl _ _) (λp r b m=>let⟨a,h⟩:=c p r b m;.inl ⟨p,a,h⟩) k,ab,ai,⟨e.bA,e.wl,e.gl,λr hr=>(e.wall r hr).imp_right λ⟨h,p,b,g⟩=>let⟨a,f⟩:=c p r b g;⟨h,p,a,f⟩,λr hr=>(e.aeo r hr).imp_right λ⟨h,p,b,g⟩=>let⟨a,f⟩:=c p r b g;⟨h,p,a,f⟩⟩⟩
theorem aE0(M:dw P K Y cf.aq)(A:HR K Y B H O.lb O.g)(N:bZ K Y B H tm O.sl)(h:dC P cf.aq fk gs cr later ((handsOn o.op).foldl (aQ share) O) o=J st'):eO P ak rec cf K Y B H O O st' tm o:=by obtain⟨K1,w,z,a,j,D,E,F,G,_⟩:=Nj tm (handsOn o.op) K B O A N;have m:=M.mono z.1 (aX.refl Y);have up:eO P ak rec cf K1 Y w H O ((handsOn o.op).foldl (aQ share) O) st' tm o->eO P ak rec cf K Y B H O O st' tm o:=λh=>eO.of A z a D F G h;cases d:o.op with
 |move x=>grind[aBG]|assign x=>grind[al4]|pick c x y=>grind[aF0,handsOn,eL]|alloc e=>grind[alw]|box e x=>grind[amQ,handsOn,eL]|build t parts=>grind[am0,handsOn,eL]|buildSlice t len parts=>grind[amY,handsOn,eL]|load t x=>grind[aAN]|store t x y=>grind[handsOn,aKO]|nilCheck x=>grind[aCf]|binOp op t x y u=>grind[amz]|unOp op t x=>grind[aL7]|convert s t x=>grind[aoq]|makeFunc f first p=>cases f with|func f=>exact up (aub m a j d (λx v=>E x (by rw[d]at v|-;exact v)) h)|_=>simp_all[dC]
 |makeSlice t l c=>exact up (aBd m a j d h)|makeMap t r=>
  rcases r with _|r;.grind[aBc]
  simp_all[dC]|slice t x lo hi mx=>grind[aJD,handsOn,eL]|fieldAddr s x f=>grind[asM]|indexAddr t x y=>grind[axT]|index t x y=>grind[axV]|lookup t x k ok=>grind[aAZ]|mapUpdate t x k y=>grind[aBi,handsOn,eL]|extract x i=>grind[asD]|call c=>have g:=h;unfold dC at g;rw[d]at g;have L:=g;clear L;cases n:c.callee with
  |builtin I=>cases I with
   |clear=>
   simp only[n]at g;split at g;.rename_i x v;exact up (eO.of (st0:=_) a (oI.refl _ _ _) a (λ_ _ b h=>⟨b,h⟩) rfl rfl (an3 m a j d n v h)|>λq=>q)
   .simp at g|min=>exact up (aBs m a j d n h)|max=>exact up (aBn m a j d n h)|_=>grind[aAo,alQ]
  |_=>grind
 |_=>unfold dC at h;rw[d]at h;simp at h
end
def qy(b:aJ)(H a:Heap):Prop:=a.bA=H.bA/\(∀r,r∈a.bV->r∈H.bV\/(r<H.bA/\dK b r))/\∀r,r∈a.cI->r∈H.cI\/(r<H.bA/\dK b r)
structure Nx(K:aY)(Y:cm)(B:aJ)(H:Heap)(K':aY)(A:cm)(ω':aJ)(H':Heap):Prop where
 ext:bo K K'
 dm:tu B H H' K K'
 nj:aX Y A
 keep:bT (dK B) H H'
 lZ:∀p r b,ω' p=J (r,b)->dK B r\/H.next<=r
 log:qy B H H'
section
variable{P:aH}{ak:cj}{rec:Rec}{cf:bU}{K K' K1 K2:aY}{Y A φ1 φ2:cm}{B ω' ω0 ω1 ω2:aJ}{H H' H1 H2:Heap}{S:Nat->Prop}{lb:dV}{g:GH}{O st' st0:St}{tm:Tr AV}{o:aB}
theorem qy.refl(a:aJ)(H:Heap):qy a H H:=⟨rfl,λ_ h=>.inl h,λ_ h=>.inl h⟩
theorem qy.trans(i:bg H)(a:qy B H H1)(d:∀p r b,ω1 p=J (r,b)->dK B r\/H.next<=r)(b:qy ω1 H1 H2):qy B H H2:=by
 have t:=i.bA;have g:∀r,r<H1.bA/\dK ω1 r->r<H.bA/\dK B r:=by
   rintro r⟨e,p,c,f⟩;rw[a.1]at e;rcases d p r c f with h|h;.exact⟨e,h⟩
   .omega
 refine⟨b.1.trans a.1,λr hr=>?_,λr hr=>?_⟩
 . rcases b.2.1 r hr with h|h;.exact a.2.1 r h
   .exact .inr (g r h)
 . rcases b.2.2 r hr with h|h;.exact a.2.2 r h
   .exact .inr (g r h)
theorem Nx.refl(a:HR K Y B H lb g):Nx K Y B H K Y B H:=⟨bo.refl _,a.fX (bT.refl (λ_=>False) _),aX.refl _,bT.refl _ _,λp r b h=>.inl ⟨p,b,h⟩,qy.refl _ _⟩
theorem tu.trans(a:tu B H H1 K K1)(g:∀p r b,ω1 p=J (r,b)->dK B r\/H.next<=r)(y:H.next<=H1.next)(k:bT S H1 H2)(b:tu ω1 H1 H2 K1 K2):tu B H H2 K K2:=λj x f=>by
 obtain⟨d,h⟩:=b j x f;refine⟨d,?_⟩;rcases h with h|⟨p,c,h⟩|h;.obtain⟨e,i⟩:=a j x h;rw[k.root j e];omega
 all_goals grind
theorem Nx.trans(i:bg H)(a:Nx K Y B H K1 φ1 ω1 H1)(b:Nx K1 φ1 ω1 H1 K2 φ2 ω2 H2):Nx K Y B H K2 φ2 ω2 H2 where
 ext:=a.ext.trans b.ext
 dm:=a.dm.trans a.lZ a.keep.next b.keep b.dm
 nj:=a.nj.trans b.nj
 keep:=a.keep.trans i a.lZ b.keep
 lZ:=λp r c h=>by
  rcases b.lZ p r c h with⟨q,d,h⟩|h;.exact a.lZ _ _ _ h
  .exact .inr (gw a.keep.next h)
 log:=a.log.trans i a.lZ b.log
structure Ok(K:aY)(Y:cm)(B:aJ)(H:Heap)(O:St)(tm:Tr AV):Prop where
 hr:HR K Y B H O.lb O.g
 sl:bZ K Y B H tm O.sl
theorem eO.nx(h:eO P ak rec cf K Y B H st0 O st' tm o):∃v H' K' A ω',fB P ak rec tm H o=J (.val v H')/\(∀d,o.dst=J d->d<O.n)/\Nx K Y B H K' A ω' H'/\Ok K' A ω' H' st' (gR tm o.dst v)/\st'.n=O.n/\st'.fn=O.fn/\uk B (kindOf cf st0 o.op) (isApp o.op) H H':=by obtain⟨v,H',k,l,⟨K',A,ω',b,c,e,f,g,i,j⟩,m,n,a⟩:=h;exact⟨v,H',K',A,_,k,l,⟨b,c,e,i,j,a.bA,a.wall,a.aeo⟩,⟨f,g⟩,m,n,a⟩
theorem fN.nx{tm':Tr AV}(h:fN K Y B H st' tm' H')(l:qy B H H'):∃K' A ω',Nx K Y B H K' A ω' H'/\Ok K' A ω' H' st' tm':=by obtain⟨K',A,ω',a,b,c,d,e,f,g⟩:=h;exact⟨K',A,_,⟨a,b,c,f,g,l⟩,⟨d,e⟩⟩
theorem Dy:∀{l:ao}{i:Nat}{d:DV},cg l=V->l[i]?=J d->d.pure=V:=by intro l;induction l<;>grind[cg]
theorem ait{d x:DV}(h:d.pure=V)(a:d.flat[j]?=J x):x.pure=V:=by cases d with|agg l=>exact Dy (l:=l) (by grind[DV.pure]) a|_=>
 rcases j with _|j;.cases a;exact h
 simp[DV.flat]at a
theorem DR.pure{d:DV}(h:DR K Y d a)(p:d.pure=V):DR K A d a:=by induction h with|bool b=>exact .bool b|int k n=>exact .int k n|str s=>exact .str s|nl=>exact .nl|ay l e esz id I c cells h w u v z _ q=>refine .ay l e _ id _ c _ h w u v z λi x j d a o g t=>q i x j d a o g t ?_;grind[ait,Dy,DV.pure]|ptr id I i h=>grind[DV.pure]|eN=>exact .eN|map r i h=>grind[DV.pure]|fU=>exact .fU|func f l1 l2 F G o g _ _ D E=>simp only[DV.pure,gu]at p;exact .func f l1 l2 F G o g (λi d a x y=>D i d a x y (Dy p.1 x)) (λi d a x y=>E i d a x y (Dy p.2 x))|dU l i h=>grind[DV.pure]|dY=>grind[DV.pure]|nilFunc=>exact .nilFunc|agg l m h B _ q=>exact .agg l m h B λi d a x y=>q i d a x y (Dy (by grind[DV.pure]) x)|jk a h g=>grind[DV.pure]
theorem cO.pure{d:DV}(h:cO K Y B H p d a ow)(g:d.pure=V):cO K A B H p d a ow:=by cases ow with|no=>exact DR.pure h g|any=>exact h|full e=>exact⟨DR.pure h.1 g,h.2⟩|ty e=>exact⟨DR.pure h.1 g,h.2⟩|ex e=>refine Or.imp_right ?_ h;rintro⟨r,b,f⟩;obtain⟨l,esz,id,I,c,cells,fl,rfl,g2,g3,g4,g5,g6,g7,g8⟩:=f.ex;refine⟨r,b,⟨l,_,id,_,c,_,fl,rfl,g2,g3,g4,g5,g6,⟨g7.1,g7.2.1,g7.2.2.1,λi x j d a b f k=>(g7.2.2.2 i x j d a b f k).pure ?_⟩,g8⟩⟩;exact ait (Dy (by simpa[DV.pure]using g) b) f
theorem aF3:∀{l:ao}{i:Nat}{d:DV},ML l=V->l[i]?=J d->d.plain=V:=by intro l;induction l<;>grind[ML]
theorem DR.plain{d:DV}(h:DR K Y d a)(p:d.plain=V):DR K' A d a:=by induction h with|bool b=>exact .bool b|int k n=>exact .int k n|str s=>exact .str s|nl=>exact .nl|eN=>exact .eN|fU=>exact .fU|nilFunc=>exact .nilFunc|agg l m h c _ e=>exact .agg l m h c λi d a x y=>e i d a x y (aF3 (by grind[DV.plain]) x)|_=>grind[DV.plain]
theorem cO.plain{d:DV}(h:cO K Y B H p d a ow)(b:d.plain=V):DR K' A d a:=by cases ow with|no=>exact DR.plain h b|any=>obtain⟨rfl,rfl⟩:=h;exact .nl|full e=>exact DR.plain h.1 b|ty e=>exact DR.plain h.1 b|ex e=>
 rcases h with⟨rfl,rfl⟩|⟨r,g,f⟩;.exact .nl
 .obtain⟨l,esz,id,I,c,cells,fl,rfl,_⟩:=f.ex;grind[DV.plain]
theorem HR.frame(a:HR K Y B H lb g)(k:bT S H H')(n:bg H')(u:pC H')(N:∀p r b,B p=J (r,b)->¬S r)(U:∀id x,K id=J x->¬S (rootOf H id)):HR K Y B H' lb g where
 inv:=n
 dm:=λid cells e h=>by
  obtain⟨r,fl,d,f⟩:=a.dm id cells e h;have hid:=a.inv.get _ _ d;have hr:=U id _ h;have q:=hr;rw[lN d]at q;have E:r<H.next:=by have:=(a.inv.root _ _ _ _ _ d).1;omega
  exact⟨r,fl,by rw[k.get id hid hr];exact d,by rw[k.dp r E q];exact f⟩
 inj:=a.inj
 clean:=λp r id x o j=>by obtain⟨cells,e⟩:=x;obtain⟨v,fl,d,_⟩:=a.dm id cells e j;rw[k.root id (a.inv.get _ _ d)];exact a.clean p r id _ o j
 cC:=λp r b h=>gx (a.cC p r b h) k.next
 box:=λs b m=>by obtain⟨i,d,f⟩:=a.box s b m;exact⟨i,d,f.keep a.inv k (bo.refl _) (aX.refl _) (N _ _ _ d) λI r c x=>⟨x,N _ _ _ x⟩⟩
 jf:=λid t Q=>by obtain⟨i,d,f,l⟩:=a.jf id t Q;exact⟨i,d,f,l.keep a.inv k (bo.refl _) (aX.refl _) (N _ _ _ f) λI r c x=>⟨x,N _ _ _ x⟩⟩
 mW:=a.mW
 gW:=u
structure jT(H H':Heap):Prop where
 tr:H'.tr=H.tr
 dp:H'.dp=H.dp
 next:H'.next=H.next
theorem jT.get(s:jT H H')(i:Nat):H'.get i=H.get i:=by unfold Heap.get;rw[s.tr]
theorem jT.bp(s:jT H H')(r:Nat):H'.bp r=H.bp r:=by unfold Heap.bp;rw[s.dp]
theorem jT.rootOf(s:jT H H')(i:Nat):rootOf H' i=rootOf H i:=by unfold AM.rootOf;rw[s.get]
theorem jT.keep(s:jT H H')(S:Nat->Prop):bT S H H':=⟨by rw[s.next];omega,λid _ _=>s.get id,λr _ _=>s.bp r,λid _=>s.rootOf id⟩
def jT.symm(s:jT H H'):jT H' H:=⟨s.tr.symm,s.dp.symm,s.next.symm⟩
def jT.trans(s:jT H H1)(t:jT H1 H2):jT H H2:=⟨t.tr.trans s.tr,t.dp.trans s.dp,t.next.trans s.next⟩
theorem jT.hinv(s:jT H H')(i:bg H)(t:H'.bA<=H'.next):bg H':=by
 refine⟨λid o h=>?_,λid l r fl e h=>?_,λid l r fl e h=>?_,λr f h=>?_,t⟩;.rw[s.get]at h;rw[s.next];exact i.get id o h
 .rw[s.get]at h;rw[s.bp];exact i.root id l r fl e h
 .rw[s.get]at h;obtain⟨a,fl',e',b⟩:=i.oB id l r fl e h;exact⟨a,_,e',by rw[s.get];omega⟩
 .rw[s.dp]at h;rw[s.next];exact i.dp r f h
theorem jT.gW(s:jT H H')(u:pC H):pC H':=λid l r fl e h=>by rw[s.get]at h;obtain⟨a,fl',b⟩:=u id l r fl e h;exact⟨a,_,by rw[s.get];omega⟩
theorem Ok.same(s:jT H H')(e:H'.bA<=H'.next)(h:Ok K Y B H O tm):Ok K Y B H' O tm where
 hr:=h.hr.frame (S:=λ_=>False) (s.keep _) (s.hinv h.hr.inv e) (s.gW h.hr.gW) (λ_ _ _ _=>id) (λ_ _ _=>id)
 sl:=λt sv l=>by obtain⟨a,b,c,d⟩:=h.sl t sv l;exact⟨a,b,c,d.keep (S:=λ_=>False) h.hr.inv (s.keep _) (bo.refl _) (aX.refl _) (λ_ _ _ _ h=>⟨h,id⟩) (λ_ _ _ _ _ h=>h) (λ_ _=>rfl) (λ_ _ _ _ _=>id)⟩
def ajd(H:Heap):jT H H.fresh:=⟨rfl,rfl,rfl⟩
def aIv(H a:Heap):jT a (H.resume a):=⟨rfl,rfl,rfl⟩
end
section
variable{P:aH}{K K':aY}{Y A φ0:cm}{B ω' ω0 fJ:aJ}{H H':Heap}{lb:dV}{g g' g2:GH}{O st':St}{tm:Tr AV}
def bk(q:Nat->Bool)(d:ah Nat):Pk->Bool×Pk|.sl t=>if d=J t then(C,.sl 0)else(V,.sl t)|.tp t j=>if d=J t then(C,.tp 0 j)else(V,.tp t j)|.g id=>(q id,.g id)|.gc id I=>(q id,.gc id I)|p=>(V,p)
theorem amD{d:ah Nat}:∀a b,bk q d a=bk q d b->a=b:=by intro a b h;cases a<;>cases b<;>simp only[bk]at h<;>grind
def Kept(q:Nat->Bool)(p:Pk):Prop:=(∀id,p=.g id->q id=V)/\∀id I,p=.gc id I->q id=V
theorem amC{d:ah Nat}(h:(bk q d p).1=V):(bk q d p).2=p/\Kept q p:=by cases p<;>grind[bk,Kept]
def uw(q:Nat->Bool)(d:ah Nat)(a f:aJ):aJ:=λp=>bif(bk q d p).1 then a (bk q d p).2 else f (bk q d p).2
theorem Ho{d:ah Nat}{b:Bool}(h:uw q d B fJ p=J (r,b)):((bk q d p).1=V/\B p=J (r,b)/\Kept q p)\/((bk q d p).1=C/\fJ (bk q d p).2=J (r,b)):=by grind[uw,amC]
structure xy(pn:Bool)(q:Nat->Bool)(K:aY)(Y:cm)(B:aJ)(H:Heap)(lb:dV)(g:GH)(φ0:cm)(ω0:aJ)(K':aY)(A:cm)(fJ:aJ)(H':Heap)(g' g2:GH):Prop where
 hh:HR K Y B H lb g
 nx:Nx K φ0 ω0 H K' A fJ H'
 hc:HR K' A fJ H' [] g'
 get:∀id,g2.get id=bif q id then g.get id else g'.get id
 fG:∀id,g2.next<=id->(bif pn then g.next else g'.next)<=id
 nj:pn=C->φ0=Y
 all:pn=V->∀id,q id=V
 ret:∀p r b,Kept q p->B p=J (r,b)->¬dK ω0 r
def cm.back(p:Bool)(a b:cm):cm:=bif p then a else b
theorem xy.ext(c:xy pn q K Y B H lb g φ0 ω0 K' A fJ H' g' g2):aX Y (cm.back pn Y A):=by cases pn with|true=>exact aX.refl _|false=>have:=c.nx.nj;rw[c.nj rfl]at this;exact this
theorem xy.hr(c:xy pn q K Y B H lb g φ0 ω0 K' A fJ H' g' g2)(d:ah Nat):HR K' (cm.back pn Y A) (uw q d B fJ) H' lb g2:=by
 have W:=c.ext;obtain⟨f,nx,l,z,M,F,G,t⟩:=c;have N:∀{r:Nat}{b:Bool}{p x:Pk}{u:Bool},B p=J (r,b)->Kept q p->fJ x=J (r,u)->False:=by
   intro r b p x u j k a;rcases nx.lZ x r u a with h|h;.grind
   .have:=f.cC _ _ _ j;omega
 refine⟨l.inv,l.dm,?_,?_,?_,?_,?_,?_,l.gW⟩
 . intro p x r b u j k;rcases Ho j with⟨k1,a,D⟩|⟨k1,a⟩
   . rcases Ho k with⟨k2,m,_⟩|⟨_,m⟩;.exact f.inj _ _ _ _ _ a m
     grind
   . rcases Ho k with⟨_,m,L⟩|⟨k2,m⟩;.grind
     .exact amD p x (Prod.ext ai (l.inj _ _ _ _ _ a m))
 . intro p r id x n w;rcases Ho n with⟨_,a,D⟩|⟨_,a⟩
   . obtain⟨k1,k2⟩:=nx.dm id x w;have hr:=f.cC _ _ _ a;rcases k2 with k2|k2|k2;.obtain⟨cells,e⟩:=x;obtain⟨O,fl,g1,_⟩:=f.dm id _ e k2;rw[nx.keep.root id (f.inv.get _ _ g1)];exact f.clean p r id _ a k2
     all_goals grind
   .exact l.clean _ r id x a w
 . intro p r b n;rcases Ho n with⟨_,a,_⟩|⟨_,a⟩;.exact gx (f.cC _ _ _ a) nx.keep.next
   .exact l.cC _ _ _ a
 .intro s b E;obtain⟨i,j,k⟩:=f.box s b E;refine⟨i,j,k.keep f.inv nx.keep nx.ext W (t _ _ _ (by simp[Kept]) j) λI r c x=>⟨x,t (.lc s _) r c (by simp[Kept]) x⟩⟩
 .intro id y Q;rw[z]at Q;have v:uw q d B fJ (.g id)=bif q id then B (.g id)else fJ (.g id):=rfl;have P:∀I,uw q d B fJ (.gc id I)=bif q id then B (.gc id I)else fJ (.gc id I):=λ_=>rfl;cases o:q id with|true=>rw[o]at Q v P;obtain⟨i,j,k,a⟩:=f.jf id y Q;exact⟨i,W _ _ j,by rw[v];exact k,a.keep f.inv nx.keep nx.ext W (t _ _ _ (by simp[Kept,o]) k) λI r c x=>⟨by rw[P];exact x,t (.gc id I) r c (by simp[Kept,o]) x⟩⟩|false=>
     rw[o]at Q v P;obtain⟨i,j,k,a⟩:=l.jf id y Q;have n:pn=C:=by cases pn with|false=>rfl|true=>have:=G rfl id;rw[o]at this;cases this
     subst n;exact⟨i,j,by rw[v];exact k,a.keep (S:=λ_=>False) l.inv (bT.refl _ _) (bo.refl _) (aX.refl _) (λh=>h) λI r c x=>⟨by rw[P];exact x,λh=>h⟩⟩
 .intro id hid;have:=M id hid;cases pn with|true=>exact f.mW id this|false=>exact l.mW id this
def nq:Nat->Bool:=λ_=>C
def jS(K:aY)(b:cm)(c:aJ)(H:Heap)(v:SV)(a:AV):Prop:=match v with|.dv d o=>cO K b c H (.sl 0) d a o|.tp l=>∃m,a=.cL m/\l.length=m.length/\∀(j:Nat)(x:DV×aM)(y:AV),l[j]?=J x->m[j]?=J y->cO K b c H (.tp 0 j) x.1 y x.2|_=>False
theorem jS.pure{v:SV}(h:jS K Y B H v a)(p:v.pure=V):jS K A B H v a:=by cases v with|dv d o=>exact cO.pure h p|tp l=>obtain⟨m,c,e,f⟩:=h;refine⟨m,c,e,λj x y a b=>(f j x y a b).pure ?_⟩;exact AW.1 p x ai|_=>exact h.elim
theorem jS.qS{v:SV}(h:jS K Y B H v a):a≠.top:=by cases v with|dv d o=>exact cO.qS h|tp l=>obtain⟨m,b,_⟩:=h;grind|_=>exact h.elim
theorem xy.ok{v:SV}(c:xy pn q K Y B H O.lb O.g φ0 ω0 K' A fJ H' g' g2)(o:bZ K Y B H tm O.sl)(k:jS K' A fJ H' v a)(f:pn=V->v.pure=V)(h:aG {O with sl:=cN O.sl,g:=g2} dst v=J st'):Ok K' (cm.back pn Y A) (uw q dst B fJ) H' st' (gR tm dst a):=by
 have t:jS K' (cm.back pn Y A) fJ H' v a:=by cases pn with|true=>exact k.pure (f rfl)|false=>exact k
 have n:=by
   refine xi c.hh.inv o c.nx.keep c.nx.ext c.ext (λp r b f h=>⟨?_,?_⟩) (λs i b h=>h);.cases p<;>first|exact h|exact f.elim
   .exact c.ret p r b ⟨λid e=>by subst e;exact f.elim,λid I e=>by subst e;exact f.elim⟩ h
 rcases yL h with⟨rfl,rfl⟩|⟨d,rfl,_,_,rfl⟩;.exact⟨c.hr _,n⟩
 . refine⟨c.hr _,?_⟩;refine xh c.hc.inv n (bT.refl _ _) (bo.refl _) (aX.refl _) (λp r b u w z h=>⟨?_,id⟩) (λs i b h=>h) aT (λ_=>k.qS) ?_;.grind[uw,bk]
   .cases v with|dv x ow=>exact cO.uZ (by simp[uw,bk]) t|tp l=>obtain⟨m,k1,k2,k3⟩:=t;exact⟨m,k1,k2,λj x y a b=>(k3 j x y a b).uZ (by simp[uw,bk])⟩|_=>exact t.elim
theorem xy.lZ{d:ah Nat}(c:xy pn q K Y B H lb g φ0 ω0 K' A fJ H' g' g2)(f:∀p r b,B p=J (r,b)->dK ωo r)(e:∀r,dK ω0 r->dK ωo r):∀p r b,uw q d B fJ p=J (r,b)->dK ωo r\/H.next<=r:=by
 intro p r b h;rcases Ho h with⟨_,a,_⟩|⟨_,a⟩;.grind
 .exact(c.nx.lZ _ _ _ a).imp_left (e r)
theorem Nx.up{o:cm}{g:aY}{e:aJ}{d:cm}(t:bg H)(n:Nx K φ0 ω0 H K' A fJ H')(f:∀r,dK ω0 r->dK ωo r)(q:bo g K)(I:tu ωo H H g K)(i:aX o d)(s:∀p r b,e p=J (r,b)->dK ωo r\/H.next<=r):Nx g o ωo H K' d e H' where
 ext:=q.trans n.ext
 dm:=λj x u=>by
  obtain⟨k,c⟩:=n.dm j x u;refine⟨k,?_⟩;rcases c with c|c|c;.obtain⟨l,m⟩:=I j x c;rw[n.keep.root j l];exact m
  .exact .inr (.inl (f _ c))
  .exact .inr (.inr c)
 nj:=i
 keep:=n.keep.xu t λr _ h=>f r h
 lZ:=s
 log:=⟨n.log.1,λr hr=>(n.log.2.1 r hr).imp_right λ⟨a,b⟩=>⟨a,f r b⟩,λr hr=>(n.log.2.2 r hr).imp_right λ⟨a,b⟩=>⟨a,f r b⟩⟩
end
section
variable{P:aH}{K K' K2:aY}{Y A φ0:cm}{B ω' ω0 fJ:aJ}{H H':Heap}{lb:dV}{g g':GH}{O st':St}{tm:Tr AV}
theorem FG:∀{l:ao}{i:Nat}{d:DV},jq e l=V->l[i]?=J d->d.gS e=V:=by intro l;induction l<;>grind[jq]
theorem VU{d x:DV}(h:d.gS e=V)(a:d.flat[j]?=J x):x.gS e=V:=by cases d with|agg l=>exact FG (l:=l) (by grind[DV.gS]) a|_=>
 rcases j with _|j;.cases a;exact h
 simp[DV.flat]at a
theorem DR.gS{E:an->Prop}(K:∀id cells e,K' id=J (cells,e)->¬E e->K2 id=J (cells,e)){d:DV}(h:DR K' Y d a)(L:∀e,E e->d.gS e=V):DR K2 Y d a:=by induction h with
 |bool b=>exact .bool b|int k n=>exact .int k n|str s=>exact .str s|nl=>exact .nl|ay l e esz id I c cells h z u v A _ q=>
 have o:∀e',E e'->e≠e'/\jq e' l=V:=λe' w=>by grind[DV.gS,bR]
 refine .ay l e _ id _ c _ ai z u v A λi x j d a x1 x2 x3=>q i x j d a x1 x2 x3 λe' w=>?_;exact VU (FG (o e' w).2 x1) x2|ptr id I i h=>exact .ptr id _ i h|eN=>exact .eN|map r i h=>exact .map r i h|fU=>exact .fU|func f l1 l2 G H o p _ _ D F=>
 have t:∀e',E e'->jq e' l1=V/\jq e' l2=V:=λe' w=>by grind[DV.gS]
 exact .func f l1 l2 G H o p (λi d a x y=>D i d a x y λe' w=>FG (t e' w).1 x) (λi d a x y=>F i d a x y λe' w=>FG (t e' w).2 x)|dU l i h=>exact .dU l i h|dY a b c d e i f h g=>exact .dY a b c d e i f h g|nilFunc=>exact .nilFunc|agg l m h B _ q=>exact .agg l m h B λi d a x y=>q i d a x y λe' w=>FG (by grind[DV.gS]) x|jk a h p=>exact .jk a h p
def Th(l:List (DV×aM))(j:Nat)(e:an):Prop:=∃d n,l[j]?=J (.ay d e n,.ty e)/\jq e d=V/\∀k y,l[k]?=J y->k=j\/y.1.gS e=V
theorem ajO{l:List (DV×aM)}{x:DV×aM}(i:l[j]?=J x):(xm l j x=x/\∀e,¬Th l j e)\/∃d e n,x=(.ay d e n,.ty e)/\xm l j x=(.ay d e n,.ex e)/\Th l j e:=by
 obtain⟨d,o⟩:=x;have no:(∀dd e n,d=.ay dd e n->o≠.ty e)->∀e,¬Th l j e:=by rintro h e⟨dd,n,f,_⟩;grind
 cases d with
 |ay d e n=>cases o with
  |ty e1=>unfold xm;simp only;cases c:(aw e e1&&(jq e d&&l.zipIdx.all _))with|true=>simp only[gu,bR,jV]at c;obtain⟨rfl,a,b⟩:=c;refine .inr ⟨d,e,n,rfl,rfl,d,n,i,a,λk y g=>?_⟩;have:=AW.1 b _ (bv.2 g);grind|false=>refine .inl ⟨rfl,?_⟩;rintro e'⟨dd,m,f,a,b⟩;grind[bR]
  |_=>exact .inl ⟨rfl,aT⟩
 |_=>exact .inl ⟨by unfold xm;rfl,no λ_ _ _ e=>by simp at e⟩
open Classical in def aY.less(K a:aY)(E:an->Prop):aY:=λi=>match a i with|some (c,e)=>if K i=Z/\E e then Z else J (c,e)|none=>Z
open Classical in def JB(l:List (DV×aM))(a:aJ):aJ:=λp=>match p with|.tp 0 j=>if∃e,Th l j e then(a (.tp 0 j)).map λx=>(x.1,V)else a (.tp 0 j)|p=>a p
theorem Nz{l:List (DV×aM)}{b:Bool}(h:JB l B p=J (r,b)):∃a,B p=J (r,a)/\(a=b\/∃j e,p=.tp 0 j/\Th l j e):=by
 unfold JB at h;split at h
 . rename_i j;split at h;.cases o:B _<;>grind
   grind
 grind
theorem HR.bare(c:HR K' A fJ H' [] g'):HR K' (λ_=>Z) fJ H' [] .empty where
 inv:=c.inv
 dm:=c.dm
 inj:=c.inj
 clean:=c.clean
 cC:=c.cC
 box:=λs b h=>by simp[look]at h
 jf:=λid o h=>by simp[GH.get,GH.empty,look]at h
 mW:=λ_ _=>rfl
 gW:=c.gW
theorem ais{th:Bool}{v:SV}(U:HR K Y B H lb g)(t:Nx K (λ_=>Z) ω0 H K' A fJ H')(f:HR K' A fJ H' [] g')(hv:jS K' A fJ H' v a)(W:v.pure=V)(S:th=V->∀r,¬dK ω0 r):∃K2 w,Nx K (λ_=>Z) ω0 H K2 (λ_=>Z) w H'/\HR K2 (λ_=>Z) w H' [] .empty/\jS K2 (λ_=>Z) w H' (rf th v) a:=by have F:Nx K _ _ H K' (λ_=>Z) _ H':=⟨t.ext,t.dm,aX.refl _,t.keep,t.lZ,t.log⟩;have O:jS K' (λ_=>Z) _ H' v a:=hv.pure W;cases v with
 |tp l=>
 rcases th with _|_;.exact⟨K',fJ,F,f.bare,O⟩
 have S:=S rfl;let E:an->Prop:=λe=>∃j,Th l j e;have ou:∀i x,K.less K' E i=J x->K' i=J x/\(K i=Z->¬E x.2):=by
   intro i x h;unfold aY.less at h;split at h;.rename_i c e u;split at h<;>grind
   grind
 have M:∀id cells e,K' id=J (cells,e)->¬E e->K.less K' E id=J (cells,e):=by grind[aY.less]
 have kW:bo K (K.less K' E):=λid x h=>by obtain⟨c,e⟩:=x;unfold aY.less;rw[t.ext id _ h];grind
 have mZ:=λp r b h=>(t.lZ p r b h).resolve_left (S r);obtain⟨m,rfl,m1,m2⟩:=O;refine⟨_,JB l _,⟨kW,λj x hj=>t.dm j x (ou j x hj).1,aX.refl _,t.keep,λp r b h=>let⟨N,R,_⟩:=Nz h;t.lZ p r N R,t.log⟩,?_,?_⟩
 . refine⟨f.inv,λid cells e h=>f.dm id cells e (ou _ _ h).1,λp q r b c z h2=>?_,λp r id x W hx=>?_,λp r b h=>let⟨N,R,_⟩:=Nz h;f.cC p r N R,λs b h=>by grind[look],λid o h=>by grind[GH.get,GH.empty,look],λ_ _=>rfl,f.gW⟩;.obtain⟨b1,k1,_⟩:=Nz z;obtain⟨b2,k2,_⟩:=Nz h2;exact f.inj _ _ _ _ _ k1 k2
   . obtain⟨kZ,oX⟩:=ou id x hx;obtain⟨N,k1,k2⟩:=Nz W;rcases k2 with rfl|⟨j,e,rfl,Q⟩;.exact f.clean p r id x k1 kZ
     .intro hr;have EX:=mZ _ _ _ k1;obtain⟨cells,e'⟩:=x;obtain⟨root,fl,g1,_⟩:=f.dm id cells e' kZ;rw[lN g1]at hr;subst hr;cases u:K id with|some y=>obtain⟨c2,e2⟩:=y;obtain⟨r2,xX,g2,_⟩:=U.dm id c2 e2 u;have bY:=U.inv.get _ _ g2;have D:=t.keep.root id bY;rw[lN g1,lN g2]at D;have:=(U.inv.root _ _ _ _ _ g2).1;omega|none=>
         obtain⟨d,n,hl,_,_⟩:=Q;obtain⟨y,X⟩:∃y,m[j]?=J y:=⟨m[j]'ai,dA _⟩;have T:=m2 j _ y hl X;rcases T.2 with h|⟨r3,b3,k3,k4⟩;.grind
         .have:r3=root:=ai;subst this;obtain⟨id3,_,_,_,_,_,_,_,t2,_⟩:=k4.ex;obtain⟨_,_,u1⟩:=f.gW _ _ _ _ _ t2;obtain⟨_,_,u2⟩:=f.gW _ _ _ _ _ g1;rw[u1]at u2;obtain⟨_,_,_,rfl⟩:=ch.cells.inj (bE u2);exact oX u ⟨j,d,n,hl,ab,ab⟩
 . refine⟨m,rfl,?_,λj x y hx X=>?_⟩;.simp_all
   . have P4:∃x0,l[j]?=J x0/\x=xm l j x0:=by grind
     obtain⟨x0,LP,rfl⟩:=P4;have T:=m2 j x0 y LP X;rcases ajO LP with⟨z,h2⟩|⟨d,e,n,rfl,z,Q⟩
     . rw[z];have P:∀e,E e->x0.1.gS e=V:=by rintro e⟨k,u⟩;have hk0:=u;obtain⟨_,_,_,_,D⟩:=u;grind
       have kr:JB l fJ (.tp 0 j)=fJ (.tp 0 j):=by grind[JB]
       obtain⟨d,o⟩:=x0;cases o with|no=>exact DR.gS M T P|any=>exact T|ty e=>exact⟨DR.gS M T.1 P,T.2.imp_right λ⟨r,b,k1,k2⟩=>⟨r,b,ai,k2⟩⟩|full e=>exact⟨DR.gS M T.1 P,T.2⟩|ex e=>refine T.imp_right λ⟨r,k1,k2⟩=>⟨r,ai,?_⟩;obtain⟨l2,esz,id,I,c,cells,fl,rfl,t2,t3,t4,t5,t6,t7,t8⟩:=k2.ex;refine⟨l2,esz,id,I,c,cells,fl,rfl,t2,t3,t4,t5,t6,⟨t7.1,t7.2.1,t7.2.2.1,λi x k d a G L y3=>DR.gS M (t7.2.2.2 i x k d a G L y3) λe' wP=>?_⟩,t8⟩;have:=P e' wP;simp only[DV.gS,gu]at this;exact VU (FG this.2 G) L
     . rw[z];obtain⟨gQ,D⟩:=T;rcases D with D|⟨r,b,k1,k2⟩;.grind
       . refine .inr ⟨r,?_,?_⟩;.unfold JB;simp only;rw[if_pos ⟨e,Q⟩,k1];rfl
         . obtain⟨id,I,len,c,esz,cells,fl,t1,t2,t3,t4,t5,t6⟩:=k2.ex;subst t1;have hE:∀e',E e'->jq e' d=V:=by rintro e'⟨k,u⟩;obtain⟨d',n',h5,h6,h7⟩:=u;grind[DV.gS]
           cases gQ with|ay _ _ _ _ _ _ S1 z1 z2 z3 z4 z5 z6=>obtain⟨_,_,g1,_⟩:=f.dm _ _ _ z1;rw[t2]at g1;obtain⟨rfl,_,_,_⟩:=ch.cells.inj (bE g1);exact⟨d,n,id,I,c,cells,fl,rfl,rfl,t2,t3,t4,t5,⟨z2,z3,z5,λi x k dd a G L y3=>DR.gS M (z6 i x k dd a G L y3) λe' wP=>VU (FG (hE e' wP) G) L⟩,t6⟩
 |_=>exact⟨K',fJ,F,f.bare,O⟩
end
def Ev(P:aH)(k:cj)(f:bW)(S:aI)(H:Heap)(a:AV)(b:Heap):Prop:=k f S H=J (J (a,b))\/(k f S H=Z/\∃fr,wG P f S=J fr/\∃n,AM.run P k n fr H=J (.ret a b))
def YEv(P:aH)(k:cj)(i:Nat)(S:aI)(H:Heap)(a:AV)(b:Heap):Prop:=∃fr,uN P k (.yield i) S H=J (.call fr H)/\∃n,AM.run P k n fr H=J (.ret a b)
def pj(K:aY)(b:cm)(c:aJ)(H:Heap)(r:ao)(o:aM)(S:aI):Prop:=r.length=S.length/\∀(i:Nat)(d:DV)(a:AV),r[i]?=J d->S[i]?=J a->cO K b c H (.sl i) d a (if i=0 then o else .no)
def rj(P:aH)(k:cj)(j:bU)(r:dR):Prop:=∀f args ow g v l,r (.call f args ow g)=J (.val v l)->∀K e i H S,HR K e i H [] g->dw P K (λ_=>Z) j.aq->pj K e i H args ow S->∃a c d h b,Ev P k f S H a c/\(j.iU f args=Z->k f S H=Z)/\Nx K e i H d h b c/\HR d h b c [] l/\jS d h b c v a
def wy(P:aH)(k:cj)(m:bU)(r:dR):Prop:=∀l args g v h,r (.dU l args g)=J (.val v h)->∀K d j H S i,HR K d j H [] g->dw P K (λ_=>Z) m.aq->bK K d args S->d l=J i->∃a c e f b,YEv P k i S H a c/\Nx K d j H e f b c/\HR e f b c [] h/\jS e f b c v a
section
variable{P:aH}{ak:cj}{rec:dR}{cf:bU}{K K' K1 K2:aY}{Y A φ0:cm}{B ω' ω0 fJ ω1:aJ}{H H':Heap}{lb:dV}{g g':GH}{O st' st2:St}{tm:Tr AV}
def lL(p:Bool):Pk->ah Pk|.g id=>bif p then Z else J (.g id)|.gc id I=>bif p then Z else J (.gc id I)|_=>Z
theorem MB{u:Bool}{q:Pk}(h:lL u p=J q):q=p/\u=C/\((∃id,p=.g id)\/∃id I,p=.gc id I):=by cases p<;>grind[lL]
def RE(p c:Bool)(g:GH):GH:=bif p then .empty else bif c then⟨g.next,[]⟩else g
def M0(p c:Bool)(n:Nat):Nat->Bool:=bif p then(λ_=>V)else bif c then(λid=>ct id n)elseλ_=>C
theorem HR.callee(a:HR K Y B H lb g)(n l:Bool):HR K (bif n then(λ_=>Z)else Y) (B.of (lL l)) H [] (RE n l g):=by
 obtain⟨f,c3,j⟩:=V' a (src:=lL _) (λp q y d e=>by grind[MB]);refine⟨a.inv,a.dm,f,c3,j,λs b h=>by grind[look],λid o h=>?_,λid hid=>?_,a.gW⟩;.cases n with|true=>grind[GH.get,GH.empty,look,RE]|false=>cases l with|true=>grind[GH.get,look,RE]|false=>obtain⟨i,d,e,k⟩:=a.jf id o h;exact⟨i,d,e,k.keep a.inv (bT.refl _ _) (bo.refl _) (aX.refl _) (λh=>h) λI r c x=>⟨x,λh=>h⟩⟩
 .cases n with|true=>rfl|false=>cases l<;>exact a.mW id hid
theorem agK{a:Type}{m:List (Nat×a)}{i:Nat}:∀l:List (Nat×a),look (l++m) i=(look l i).or (look m i)|[]=>rfl|(k,x)::l=>by show(bif aw k i then J x else look (l++m) i)=(bif aw k i then J x else look l i).or (look m i);rw[agK l];cases aw k i<;>rfl
theorem agO{d:Type}{i n:Nat}(c:i<n):∀l:List (Nat×d),(l.all λx=>bt n x.1)=V->look l i=Z|[],_=>rfl|(k,x)::l,h=>by rw[oJ,gu]at h;have a:=N2 h.1;show(bif aw k i then J x else look l i)=Z;cases b:aw k i with|true=>have:=Nat.eq_of_beq_eq_true b;simp only at a;omega|false=>exact agO c l h.2
theorem ayA{a:GH}(h:FF g a=V)(c:∀i o,g.get i=J o->i<g.next)(i:Nat):(GH.mk a.next (a.kb++g.kb)).get i=bif ct i g.next then g.get i else a.get i:=by unfold FF at h;rw[gu]at h;show look (a.kb++g.kb) i=_;rw[agK];cases b:ct i g.next with|true=>rw[agO (N2 b) _ h.2];rfl|false=>
 have n:g.get i=Z:=by cases d:g.get i with|none=>rfl|some o=>have:ct i g.next=V:=nw (c i o d);rw[b]at this;cases this
 have n:look g.kb i=Z:=n;rw[n];show(look a.kb i).or Z=look a.kb i;cases look a.kb i<;>rfl
theorem HR.anZ{b:Bool}(d:HR K Y B H lb g)(n:p.slot)(N:∀q b,B q≠J (r,b))(u:r<H.next)(v:b=V->∀j x,K j=J x->rootOf H j≠r):HR K Y (B.set p (J (r,b))) H lb g:=by
 have back:∀q a c,B.set p (J (r,b)) q=J (a,c)->(q=p/\a=r/\c=b)\/(q≠p/\B q=J (a,c)):=by grind[aJ.nQ,aJ.lf]
 refine d.uZ (bo.refl _) (λq f=>aJ.lf _ _ λe=>f (e▸n)) d.dm ?_ ?_ ?_
 . intro q s a c i k l;rcases back q a c k with⟨rfl,rfl,_⟩|⟨_,m⟩;.grind
   . rcases back s a i l with⟨_,rfl,_⟩|⟨_,h⟩;.grind
     .exact d.inj _ _ _ _ _ m h
 . intro q a j x f o;rcases back q a _ f with⟨_,rfl,t⟩|⟨_,h⟩;.grind
   .exact d.clean q a j x h o
 . intro q a c f;rcases back q a c f with⟨_,rfl,_⟩|⟨_,h⟩;.omega
   .exact d.cC _ _ _ h
def aGB(h:bK K Y l m)(p:cg l=V):bK K A l m:=⟨h.1,λi d a x y=>(h.2 i d a x y).pure (Dy p x)⟩
theorem abO(hC:rj P ak cf rec){f:bW}{s:ao}{S:aI}{v:SV}{O:GH}{fa:ah (Nat×Bool)}(D:Ok K Y B H st2 tm)(hg:dw P K Y cf.aq)(db:dw P K (λ_=>Z) cf.aq)(m:jv cf rec f s ow st2.g (λv g=>J (v,g))=J (v,O))(jC:aG {st2 with sl:=cN st2.sl,g:=O} dst v=J st')(hfa:∀r b,fa=J (r,b)->(∀q c,B q≠J (r,c))/\r<H.next/\(b=V->∀j x,K j=J x->rootOf H j≠r))(sP:ow.yp=V->fa=Z)(kp:∀(ω0:aJ),ω0 (.sl 0)=fa->pj K Y ω0 H s ow S)(UX:∀p r b,B p=J (r,b)->dK ωo r)(uK:∀r b,fa=J (r,b)->dK ωo r):∃a H' K' A ω',Ev P ak f S H a H'/\(cf.iU f s=Z->ak f S H=Z)/\Ok K' A ω' H' st' (gR tm dst a)/\(∀(u:aY),bo u K->tu ωo H H u K->Nx u Y ωo H K' A ω' H')/\((cf.iw f||cf.nZ f)=V->fa=Z->(∀r,r∈H'.bV->r∈H.bV)/\∀r,r∈H'.cI->r∈H.cI):=by
 generalize kr:(cf.iw f||cf.nZ f)=cl;generalize PM:cf.iw f=pn;have R:pn=V->cl=V:=by rintro rfl;rw[<-kr,PM];rfl
 have hb:=D.hr.callee pn cl;have C0:∀q r b,(B.of (lL cl)) q=J (r,b)->B q=J (r,b)/\cl=C/\((∃id,q=.g id)\/∃id I,q=.gc id I):=by grind[aJ.iG,MB]
 have h0u:∀q r b,((B.of (lL cl)).set (.sl 0) fa) q=J (r,b)->(q=.sl 0/\fa=J (r,b))\/(B q=J (r,b)/\cl=C/\((∃id,q=.g id)\/∃id I,q=.gc id I)):=by intro q r b h;by_cases e:q=.sl 0<;>grind[aJ.nQ,aJ.lf]
 have h0:HR K (bif pn then(λ_=>Z)else Y) ((B.of (lL cl)).set (.sl 0) fa) H [] (RE pn cl st2.g):=by
  rcases fa with _|x
  . have:(B.of (lL cl)).set (.sl 0) Z=B.of (lL cl):=by
     funext q;by_cases e:q=.sl 0;.subst e;rfl
     grind[aJ.lf]
    grind
  obtain⟨r,b⟩:=x;obtain⟨k1,k2,k3⟩:=hfa r b rfl;exact hb.anZ trivial (λq c h=>k1 q c (C0 q r c h).1) k2 k3
 have W:=kp ((B.of (lL cl)).set (.sl 0) fa) (aJ.nQ _ _ _);have BB:∀p r b,Kept (M0 pn cl st2.g.next) p->B p=J (r,b)->¬dK ((B.of (lL cl)).set (.sl 0) fa) r:=by
  rintro p r b hp h⟨q,c,X⟩;rcases h0u q r c X with⟨_,h1⟩|⟨h1,h2,h3⟩;.grind
  . have e:=D.hr.inj _ _ _ _ _ h h1;subst e;have Q:pn=C:=by cases pn with|false=>rfl|true=>rw[R rfl]at h2;cases h2
    subst h2 Q;rcases h3 with⟨id,rfl⟩|⟨id,I,rfl⟩;.exact absurd (hp.1 id rfl) (by simp[M0])
    .exact absurd (hp.2 id I rfl) (by simp[M0])
 have PI:∀r,dK ((B.of (lL cl)).set (.sl 0) fa) r->dK ωo r:=by rintro r⟨q,c,X⟩;grind
 have fin:∀(K':aY)(A:cm)(fJ:aJ)(H':Heap)(g':GH)(a:AV),Ev P ak f S H a H'->(cf.iU f s=Z->ak f S H=Z)->Nx K (bif pn then(λ_=>Z)else Y) ((B.of (lL cl)).set (.sl 0) fa) H K' A fJ H'->HR K' A fJ H' [] g'->jS K' A fJ H' v a->(pn=V->v.pure=V)->(∀id,O.get id=bif M0 pn cl st2.g.next id then st2.g.get id else g'.get id)->(∀id,O.next<=id->(bif pn then st2.g.next else g'.next)<=id)->∃a H' K' A ω',Ev P ak f S H a H'/\(cf.iU f s=Z->ak f S H=Z)/\Ok K' A ω' H' st' (gR tm dst a)/\(∀(u:aY),bo u K->tu ωo H H u K->Nx u Y ωo H K' A ω' H')/\(cl=V->fa=Z->(∀r,r∈H'.bV->r∈H.bV)/\∀r,r∈H'.cI->r∈H.cI):=by
  intro K' A fJ H' g' a e1 e0 e2 e3 e4 e5 e6 e7;have c:xy pn (M0 pn cl st2.g.next) K Y B H st2.lb st2.g (bif pn then(λ_=>Z)else Y) ((B.of (lL cl)).set (.sl 0) fa) K' A fJ H' g' O:=⟨D.hr,e2,e3,e6,e7,λh=>by rw[h];rfl,λh id=>by rw[h];rfl,BB⟩;refine⟨a,H',K',_,_,e1,e0,c.ok D.sl e4 e5 jC,λu hK0 hI=>e2.up D.hr.inv PI hK0 hI c.ext (c.lZ UX PI),λhp Q=>?_⟩;have yi:∀r,¬dK ((B.of (lL cl)).set (.sl 0) fa) r:=by rintro r⟨q,b,X⟩;grind
  exact⟨λr hr=>(e2.log.2.1 r hr).resolve_right λh=>yi r h.2,λr hr=>(e2.log.2.2 r hr).resolve_right λh=>yi r h.2⟩
 unfold jv at m;rw[PM]at m;cases pn with
 |true=>obtain rfl:=R rfl;simp only[aR]at m;cases U:cg s with|false=>grind|true=>rw[U]at m;simp only[aR]at m;obtain⟨n,hr,m⟩:=aE m;cases n with|out o=>grind|val E w=>simp only at m;cases T:E.pure with|false=>grind|true=>
     rw[T]at m;obtain⟨hv,EL⟩:=jd (bE m);have avj:pj K (λ_=>Z) ((B.of (lL V)).set (.sl 0) fa) H s ow S:=⟨W.1,λi d a x y=>(W.2 i d a x y).pure (Dy U x)⟩;obtain⟨a,H',K1,t,ω1,G,F,L,M,N⟩:=hC f s ow .empty E w hr K (λ_=>Z) _ H S h0 db avj;obtain⟨K2,ω2,d1,d2,d3⟩:=ais (th:=cf.rf f&&ow.yp) D.hr L M N T (λh r⟨q,b,X⟩=>by grind);subst hv;have Iz:(rf (cf.rf f&&ow.yp) E).pure=V:=by cases E with
     |tp l=>unfold rf;cases(cf.rf f&&ow.yp)with|false=>grind|true=>show(List.map (λx=>xm l x.2 x.1) l.zipIdx).all (λx=>x.1.pure)=V;refine AW.2 λy hy=>?_;obtain⟨z,hz,rfl⟩:=au.1 hy;obtain⟨x0,k⟩:=z;have LP:=bv.1 hz;have:=AW.1 T x0 (du LP);grind[ajO]
     |_=>exact T
     subst EL;exact fin K2 (λ_=>Z) ω2 H' .empty a G F d1 d2 d3 (λ_=>Iz) (λid=>rfl) (λid h=>h)
 |false=>
  have dP:cf.nZ f=cl:=by rw[<-kr,PM];rfl
  rw[dP]at m;simp only[bX]at m;cases cl with
  |true=>simp only[aR]at m;cases U:cg s with|false=>grind|true=>rw[U]at m;simp only[aR]at m;obtain⟨n,hr,m⟩:=aE m;cases n with|out o=>grind|val E w=>simp only at m;cases Q:FF st2.g w with|false=>grind|true=>rw[Q]at m;obtain⟨rfl,rfl⟩:=jd (bE m);obtain⟨a,H',K1,t,ω1,G,F,L,M,N⟩:=hC f s ow ⟨st2.g.next,[]⟩ E w hr K Y _ H S h0 db W;exact fin K1 t ω1 H' w a G F L M N (λh=>by cases h) (ayA Q λid ob ho=>by obtain⟨i,h1,_⟩:=D.hr.jf id ob ho;have:=D.hr.mW id;grind) (λid h=>h)
  |false=>simp only[bX]at m;obtain⟨n,hr,m⟩:=aE m;cases n with|out o=>grind|val E w=>obtain⟨rfl,rfl⟩:=jd (bE m);obtain⟨a,H',K1,t,ω1,G,F,L,M,N⟩:=hC f s ow st2.g E w hr K Y _ H S h0 db W;exact fin K1 t ω1 H' w a G F L M N (λh=>by cases h) (λid=>rfl) (λid h=>h)
end
end Go.VM
namespace Go.AM
open Go
variable{r:AO}{k:List Item}{cs:List di}{l:Nat}{out:Out}{p:Pl}{rec:Rec}{F:di}
structure rl(ops:Array aB)(ord:aC):Prop where
 nodup:ord.Nodup
 all:∀i,i<ops.size↔i∈ord
 before:∀(a b:aC)(i:Nat)(o:aB),ord=a++i::b->ops[i]?=J o->∀e,e∈o.after.toList->uo .any e=V->e.on∈a
def JW(P:aH)(b:cj)(e:Rec):Prop:=∀(o:Array aB)(fr:cG)(H:Heap)(r:AZ),vW o.toList=V->vZ P b e o o.toList 0 [] fr H=J r->∀(a:bc)(w:aV)(F:di)(cs:List di)(d:aC)(k:List Item),bg H->bQ gI a H w->iX P a->fr.mode=.run->iW a fr F (.inRegion o d::k)->rl o d->J6 P a H w fr F cs (.inRegion o []::k) r
section
variable{P:aH}{Y:bc}{H:Heap}{w:aV}
def acD(e:nz P rec){f:cG}{F':di}(i:bg H)(s:bQ gI Y H w)(g:iX P Y)(c:step P (ff F cs w)=.next (ff F' cs w))(a:iW Y {f with todo:=k} F' k)(b:F'.fn=F.fn)(h:rec {f with todo:=k} H=J out):kF P Y H w f F cs out:=kF.after i s (fW.refl i s) (Steps.one c) rfl b (e _ H out h Y w F' cs i s g a)
def iW.to{f:cG}{a:List Item}(h:iW Y f F a)(k:List Item):iW Y {f with todo:=k} {F with todo:=k} k:=⟨h.fn,h.tmps,λ_=>rfl,h.defers,h.mode,h.kind,h.round⟩
def aah(e:nz P rec){f:cG}(i:bg H)(s:bQ gI Y H w)(g:iX P Y)(m:f.mode=.run)(a:iW Y f F f.todo)(c:∀(F:di),F.mode=.run->F.todo=f.todo->(stepG P V {frame:=F,callers:=cs,status:=.running,dying:=Z} w).bare=.go {frame:={F with todo:=k},callers:=cs,status:=.running,dying:=Z} w)(h:rec {f with todo:=k} H=J out):kF P Y H w f F cs out:=acD e i s g (F':={F with todo:=k}) (step_lone_go (c F (a.run m) (a.todo m))) (a.to k) rfl h
theorem aHG{n:Func}{j:cG}{v:AV}(M:bQ gI Y H w)(y:iW Y j F k)(h:Ji P n j H=J v):∃u,(results n F.tmps).run P w=.ok u w/\VR Y v u:=by
 unfold Ji at h;simp only[iI]at h;obtain⟨g,U,O⟩:=h;obtain⟨h1,h2⟩:=Fw U;have q:∃s:List aD,s.length=g.length/\∀(i:Nat)(x:oK)(u:aD)(a:AV),n.results.toList[i]?=J x->s[i]?=J u->g[i]?=J a->((match x with|.tmp t=>pure (F.tmps.getD t undef)|.cell a t=>do Go.loadVar t (<-asAddr (F.tmps.getD a undef)):Sem aD)).run P w=.ok u w/\VR Y a u:=by
  have T:∀(l:List oK)(S:aI),cw (λ|.tmp t=>J (j.tmp t)|.cell a t=>match j.tmp a with|.ptr id o=>AM.loadVar P H t id o|_=>Z) l=J S->∃s:List aD,s.length=S.length/\∀(i:Nat)(x:oK)(u:aD)(a:AV),l[i]?=J x->s[i]?=J u->S[i]?=J a->((match x with|.tmp t=>pure (F.tmps.getD t undef)|.cell a t=>do Go.loadVar t (<-asAddr (F.tmps.getD a undef)):Sem aD)).run P w=.ok u w/\VR Y a u:=by intro l;induction l with|nil=>simp[Fv]|cons x l Q=>
   intro S h;rw[Qy]at h;obtain⟨a,d,h⟩:=aE h;obtain⟨t,N,h⟩:=aE h;cases h;obtain⟨s,B,D⟩:=Q t N;have A:∃u,((match x with|.tmp t=>pure (F.tmps.getD t undef)|.cell a t=>do Go.loadVar t (<-asAddr (F.tmps.getD a undef)):Sem aD)).run P w=.ok u w/\VR Y a u:=by cases x with|tmp t=>simp only at d;cases d;exact⟨F.tmps.getD t undef,by rfl,y.tmps.2 t⟩|cell c t=>
    simp only at d;have m:=y.tmps.2 c;have e:j.tmp c=(j.tmps.get c).getD fC:=rfl;rw[<-e]at m;split at d;.rename_i id o hid;rw[hid]at m;simp only;generalize F.tmps.getD c undef=cv at m|-;cases m with|ptr _ _ p K=>obtain⟨u,l1,l2⟩:=agE (P:=P) M K trivial d;grind[asAddr]
    grind
   obtain⟨u,X,Iy⟩:=A;refine⟨u::s,ai,λi x' u' a' e1 e2 e3=>?_⟩;cases i<;>grind
  grind
 obtain⟨s,B,D⟩:=q;have E:(n.results.mapM (λ|.tmp t=>pure (F.tmps.getD t undef)|.cell a t=>do Go.loadVar t (<-asAddr (F.tmps.getD a undef)):oK->Sem aD)).run P w=.ok s.toArray w:=by have hm:=aja (P:=P) (w:=w) (f:=(λ|.tmp t=>pure (F.tmps.getD t undef)|.cell a t=>do Go.loadVar t (<-asAddr (F.tmps.getD a undef)):oK->Sem aD)) n.results.toList s ab (λi x u A z=>by grind);simp_all[Array.mapM_eq_mapM_toList]
 have L:ba Y g s:=⟨B.symm,λi a u d z=>by have G:i<n.results.toList.length:=ai;exact(D i _ u a (dA G) z d).2⟩;have R:(results n F.tmps).run P w=.ok (if h:s.toArray.size=1 then s.toArray[0]else .tuple s.toArray) w:=by unfold results;rw[Sem.run_bind];exact gY (λr=>Result.andThen r (λa W=>Sem.run P (pure (if h:a.size=1 then a[0]else Value.tuple a)) W)) E
 refine⟨_,R,?_⟩;cases g with|nil=>grind[ba.cL]|cons a g=>cases g with|nil=>obtain⟨u,t,rfl,e1,e2⟩:=L.cons_inv;grind|cons b g=>
  subst O;have I:¬s.toArray.size=1:=by grind
  rw[dif_neg I];exact L.cL _ rfl
theorem Mj(s:bQ gI Y H w)(a:Y l=J p)(g:H.get l=J (.loop r)):p.base=0/\∃R:Loop,w.heap[p.aZ]?=J (.loop R)/\G6 Y r R:=s.obj l p _ a trivial (by intro b c f e h;grind) g
theorem Wr(i:bg H)(s:bQ gI Y H w){r':AO}(a:Loop)(h:Y l=J p)(g:H.get l=J (.loop r))(L:G6 Y r' a):fW Y H w Y (H.put l l (.loop r')) (World.eU w p.aZ (.loop a)):=by obtain⟨b,R,c,d⟩:=Mj s h g;exact Rb i s _ h g rfl rfl ⟨b,a,Rv w (s.stat.cC l p h).1 _,L⟩
theorem agx{f:cG}{jump:ah bM}(o:bg H)(s:bQ gI Y H w)(m:f.mode=.run)(a:iW Y f F f.todo)(k:f.roundOf=J l)(g:H.get l=J (.loop r))(q:∀(F:di)(c:di)(rest:List di)(b:Nat)(v:aD)(j:aV),F.mode=.run->F.todo=f.todo->F.roundOf=J b->F.kind=.normal->(Instr.endRound b jump).run P w=.ok v j->(stepG P V {frame:=F,callers:=c::rest,status:=.running,dying:=Z} w).bare=.go {frame:=c.finish v,callers:=rest,status:=.running,dying:=Z} j):kF P Y H w f F cs (.ret (.bool jump.isNone) (H.put l l (.loop {r with state:=(if jump.isNone then .ready else .done),pending:=jump}))):=by
 have L:=a.round;rw[k]at L;rcases d:F.roundOf with _|b;.grind[zr]
 rw[d]at L;obtain⟨p,i,rfl⟩:=L;obtain⟨u,R,n,h⟩:=Mj s i g;have E:=Wr o s (r':={r with state:=(if jump.isNone then .ready else .done),pending:=jump}) {R with state:=(if jump.isNone then .ready else .done),pending:=jump} i g ⟨rfl,rfl,h.fn,h.tmps,h.params,h.assign,h.body,h.defers⟩;have t:(Instr.endRound p.aZ jump).run P w=.ok (.bool jump.isNone) (World.eU w p.aZ (.loop {R with state:=(if jump.isNone then .ready else .done),pending:=jump})):=by have e1:(getObj _).run P w=.ok _ w:=yH n aP;simp_all[Js,Instr.endRound,Instr.getLoop]
 refine⟨Y,_,_,E,.bool _,λx=>ai,λ_ c rest e=>?_⟩;subst e;exact Steps.one (step_lone_go (q F c _ _ _ _ (a.run m) (a.todo m) d a.kind t))
theorem abr(W:nz P rec){fr f:cG}{o:Array aB}{b:Heap}(i:bg H)(s:bQ gI Y H w)(g:iX P Y)(j:fr.todo=k)(X:J6 P Y H w fr F cs (.inRegion o []::k) (.next f b))(h:rec f b=J out):kF P Y H w fr F cs out:=by
 obtain⟨e,d,a,l,p,f1,m,n⟩:=X;have t:=f1.run m.mode;have q:step P (ff a cs d)=.next (ff {a with todo:=k} cs d):=step_lone_go (by simp[stepG,ug,t,f1.todo m.mode]);have c:iW e f {a with todo:=k} f.todo:=by rw[m.todo,j];exact⟨f1.fn,f1.tmps,λ_=>rfl,f1.defers,f1.mode,f1.kind,f1.round⟩
 exact kF.after i s p (l.trans (Steps.one q)) m.round n (W _ b _ h e d _ cs p.1 p.2.1 (g.mono p.2.2.ext) c)
def fW.drew{c:bc}{a:Heap}{b:aV}(h:fW Y H w.drew c a b):fW Y H w c a b:=⟨h.1,h.2.1,(ig.drew (S:=gI) ⟨h.1,h.2.1.up (λ_ _=>trivial),h.2.2⟩).2.2⟩
theorem Zq{b:cj}(e:nz P rec)(U:jL P b)(n:ru P)(Q:JW P b rec)(B:∀(o:Array aB)(t:Nat),vW o.toList=V->rl o (Region.schedule (P.follows .mixedOrders) o t)){fr:cG}{f:Nat}{o:Array aB}{d:Bool}(i:bg H)(s:bQ gI Y H w)(g:iX P Y)(m:fr.mode=.run)(q:fr.todo=.code (.region f o d)::k)(a:iW Y fr F fr.todo)(h:xN P b rec fr H o d k=J out):kF P Y H w fr F cs out:=by
 obtain⟨⟨r,p⟩,hr,j⟩:=aE h;have I:=a.run m;have O:=a.todo m;rcases d with _|_;.have c:step P (ff F cs w)=.next (ff {F with todo:=.inRegion o (rq o.size)::k} cs w):=step_lone_go (by simp_all[stepG,ug]);have l:iW Y {fr with todo:=k} {F with todo:=.inRegion o (rq o.size)::k} (.inRegion o (List.range' 0 o.toList.length)::k):=⟨a.fn,a.tmps,λ_=>by simp[List.range_eq_range'],a.defers,a.mode,a.kind,a.round⟩;exact kF.after i s (fW.refl i s) (Steps.one c) rfl rfl (abr e (fr:={fr with todo:=k}) i s g rfl (aH9 e U n _ 0 (by rfl) _ H _ hr Y w _ cs i s g m l) j)
 rcases T:vW o.toList with _|_;.grind
 rw[T]at hr;have c:step P (ff F cs w)=.next (ff {F with todo:=.inRegion o (Region.schedule (P.follows .mixedOrders) o (w.tape w.drawn (.order F.fn f)))::k} cs w.drew):=step_lone_go (by simp_all[stepG,ug,Question.forced,Question.cut]);have X:=Q _ _ H _ T hr Y _ {F with todo:=.inRegion _ (Region.schedule (P.follows .mixedOrders) o (w.tape w.drawn (.order F.fn f)))::k} cs _ k i s.drew g m ⟨a.fn,a.tmps,λ_=>rfl,a.defers,a.mode,a.kind,a.round⟩ aT;exact kF.after i s (fW.refl i s.drew).drew (Steps.one c) rfl rfl (abr e (fr:={fr with todo:=k}) i s.drew g rfl X j)
def zf.append{b:aC}{c:List Deferred}:∀{l:aC}{m:List Deferred},zf Y l m->zf Y b c->zf Y (l++b) (m++c)|[],[],_,k=>k|_::_,_::_,⟨a,r⟩,k=>⟨a,r.append k⟩|[],_::_,r,_|_::_,[],r,_=>r.elim
theorem aG0{ak:cj}(eW:nz P rec)(hn:ru P){o:cG}{f:aK}{d:Array Tmp}{s b:bM}(hi:bg H)(U:bQ gI Y H w)(hg:iX P Y)(hm:o.mode=.run)(ht:o.todo=.code (.rangeFunc f d s b)::k)(E:iW Y o F o.todo)(h:Kj P ak rec o H f d s b k=J out):kF P Y H w o F cs out:=by
 have tI:=E.run hm;have tO:=E.todo hm;rw[ht]at tO;unfold Kj at h;split at h
 . rename_i g first z hf;dsimp only at h;obtain⟨m,Q,S⟩:=aE h;clear h;have hr:=Frame.reads F;have wR:=(fH hg hr (λt e=>by subst e;exact E.tmps.2 t) hf).1;have PC:∃B j X mark,fW Y H w B m.2.2 j/\B m.1=J X/\zf B m.2.1 mark/\((F.roundOf=Z/\mark=[{target:=.collected w.heap.size,args:=#[]}]/\X.aZ=w.heap.size/\j=World.push w (.deferred (J [])))\/(∃pb R,F.roundOf=J pb/\j=w/\mark=[]/\(getObj pb).run P w=.ok (.loop R) w/\R.defers=X.aZ)):=by have pL:=E.round;cases eH:o.roundOf with
     |none=>rw[eH]at Q pL;simp only at Q;cases Q;cases CY:F.roundOf with|some b=>grind[zr]|none=>obtain⟨h1,S,T⟩:=Ms (P:=P) hi U (.deferred V) (.deferred (J [])) rfl ⟨rfl,xd w _⟩;exact⟨_,_,_,[{target:=.collected w.heap.size,args:=#[]}],⟨T.1,T.2.1.up (λ_ _=>.inl trivial),T.2.2⟩,S,⟨⟨_,S,rfl⟩,trivial⟩,.inl ⟨rfl,rfl,rfl,rfl⟩⟩
     |some l=>rw[eH]at Q pL;simp only at Q;cases CY:F.roundOf with|none=>grind[zr]|some b=>
         rw[CY]at pL;obtain⟨p,hp,rfl⟩:=pL;split at Q;.rename_i r oc;cases Q;obtain⟨h0,R,h1,L⟩:=Mj U hp oc;obtain⟨q,hq,U3⟩:=L.defers;exact⟨Y,w,q,[],fW.refl hi U,hq,trivial,.inr ⟨p.aZ,R,rfl,rfl,rfl,yH h1 aP,U3⟩⟩
         grind
   obtain⟨B,j,X,mark,p1,U2,awr,awZ⟩:=PC;have Pf:=E.mono p1.2.2.ext;obtain⟨n1,n2,n3⟩:=Ms (P:=P) p1.1 p1.2.1 (.loop {state:=.ready,pending:=Z,fn:=o.fn,n:=o.n,tmps:=o.tmps,params:=d.toList,assign:=s,body:=b,defers:=m.1}) (.loop {state:=.ready,pending:=Z,fn:=F.fn,tmps:=F.tmps,params:=d,assign:=s,body:=b,defers:=X.aZ}) rfl ⟨rfl,_,xd j _,⟨rfl,rfl,Pf.fn,Pf.tmps,rfl,rfl,rfl,X,U2,rfl⟩⟩;obtain⟨I,Dc⟩:∃I,I=World.push j (.loop {state:=.ready,pending:=Z,fn:=F.fn,tmps:=F.tmps,params:=d,assign:=s,body:=b,defers:=X.aZ}):=⟨_,rfl⟩;obtain⟨A,O⟩:∃A,A=fo B m.2.2.next ⟨j.heap.size,0,0,0⟩:=⟨_,rfl⟩;rw[<-Dc,<-O]at n3;rw[<-O]at n2;rw[<-Dc]at n1;have p2:fW B m.2.2 j A _ I:=⟨n3.1,n3.2.1.up (λ_ _=>.inl trivial),n3.2.2⟩;have W:=p1.trans hi U p2;have aeU:(Instr.enterLoop F.fn F.tmps d s b F.roundOf).run P w=.ok (j.heap.size,mark) I:=by
     rcases awZ with⟨e1,e2,e3,e4⟩|⟨pb,R,e1,e2,e3,e4,e5⟩
     . have sP:(newObj (.deferred (J []))).run P w=.ok w.heap.size j:=by rw[e4];rfl
       simp_all[Instr.enterLoop]
     simp_all[Instr.enterLoop,Instr.getLoop]
   split at S
   . rename_i c Hc eV;obtain⟨⟨v,H3⟩,yj,T⟩:=aE S;clear S;unfold xQ at eV;split at eV;.simp_all
     . simp only[iI]at eV;obtain⟨c',Bs,hy⟩:=eV;obtain⟨rfl,rfl⟩:=fh.call.inj hy;have hfe:∃K M:Array aD,F.eval f=.func (.func g) K M/\ba A first K.toList/\ba A z M.toList:=by generalize F.eval f=fv at wR;cases wR with|func _ _ _ K M h1 S g1 g2=>exact⟨K,M,rfl,ba.mono W.2.2.ext ⟨ab,λi a v x y=>g1 i a v x ai⟩,ba.mono W.2.2.ext ⟨ab,λi a v x y=>g2 i a v x ai⟩⟩
       obtain⟨K,M,hfe,iE,jW⟩:=hfe;have Vc:VR A (.yield m.2.2.next) (.func (.yield j.heap.size) #[] #[]):=VR.yield m.2.2.next ⟨j.heap.size,0,0,0⟩ n2;have kp:ba A (dy (dy first [.yield m.2.2.next]) z) ((K++#[Value.func (.yield j.heap.size) #[] #[]])++M).toList:=by rw[ly,ly,Array.toList_append,Array.toList_append];exact(iE.append (ba.cons Vc (ba.nil _))).append jW
       obtain⟨e1,e4,e7,fn,bd,e5,e6⟩:=KG Bs kp;have hcf:=Kn hn e5 e6 ((K++#[Value.func (.yield j.heap.size) #[] #[]])++M) I;obtain⟨G,hG⟩:∃G:di,G={F with todo:=.inRangeFunc j.heap.size::k,defers:=mark++F.defers}:=⟨_,rfl⟩;have cq:step P (ff F cs w)=.next (ff (Frame.enter P g ((K++#[Value.func (.yield j.heap.size) #[] #[]])++M) .normal) (G::cs) I):=by
         have wN:∀(D:Sem Next),D.run P I=.ok (.enter g ((K++#[Value.func (.yield j.heap.size) #[] #[]])++M)) I->(stepG.apply P V G cs Z D I).bare=.go {frame:=Frame.enter P g ((K++#[Value.func (.yield j.heap.size) #[] #[]])++M) .normal,callers:=G::cs,status:=.running,dying:=Z} I:=by simp_all[stepG.apply]
         refine step_lone_go ?_;have uF:G.eval f=F.eval f:=by rw[hG];rfl
         obtain⟨Ffn,Ft,aM6,Fd,Fm,Fk,Fr⟩:=F;simp only at tI tO aeU hG;subst tI;subst tO;simp only[stepG,ug,Sem.runT_fst,aeU,GStep.bare_after];rw[<-hG];exact wN _ (by have hyc:∀v,G.eval (.const v)=v:=λ_=>rfl;grind[resolve,Deferred.ofValue,invoke])
       obtain⟨ψ3,w3,u,p3,v3,s3⟩:=kF.back (eW c' _ _ yj A I _ (G::cs) W.1 W.2.1 (hg.mono W.2.2.ext) e1);have hGF:iW A {o with todo:=k,defers:=dy m.2.1 o.defers} G (.inRangeFunc j.heap.size::k):=by rw[hG,ly];exact⟨E.fn,E.tmps.mono W.2.2.ext,λ_=>rfl,(awr.mono p2.2.2.ext).append (E.defers.mono W.2.2.ext),E.mode,E.kind,E.round.mono W.2.2.ext⟩
       have hGm:G.mode=.run:=aT;have QU:=W.trans hi U p3;have pI:G.finish u={G with todo:=.endRangeFunc j.heap.size::k}:=by rw[hG];rfl
       rw[pI]at s3;split at T
       . rename_i r oc;have hp3:ψ3 m.2.2.next=J ⟨j.heap.size,0,0,0⟩:=p3.2.2.ext _ _ n2;obtain⟨h0,R,hR,L⟩:=Mj QU.2.1 hp3 oc;have mY:r.state≠.busy:=by grind
         have EV:=Wr QU.1 QU.2.1 (r':={r with state:=.exhausted}) {R with state:=.exhausted} hp3 oc ⟨rfl,L.pending,L.fn,L.tmps,L.params,L.assign,L.body,L.defers⟩;have QV:=QU.trans hi U EV;have wQ:(Instr.endLoop j.heap.size).run P w3=.ok R.pending (World.eU w3 j.heap.size (.loop {R with state:=.exhausted})):=by
          have e1:(getObj j.heap.size).run P w3=.ok (.loop R) w3:=yH hR aP;have e2:=λaa=>Js (P:=P) (o':=aa) hR aP;have e3:R.state≠.busy:=by rw[L.state];omega
          simp_all[Instr.endLoop,Instr.getLoop]
         have Ac:step P (ff {G with todo:=.endRangeFunc j.heap.size::k} cs w3)=.next (ff {G with todo:=(R.pending.map Item.code).toList++k} cs (World.eU w3 j.heap.size (.loop {R with state:=.exhausted}))):=by have r1:=Sem.runT_fst P (Instr.endLoop j.heap.size) w3 #[];rw[wQ]at r1;exact step_lone_go (by simp_all[stepG,ug])
         have afB:=(Steps.head cq s3).trans (Steps.one Ac);have hF4:∀N,iW ψ3 {o with todo:=N,defers:=dy m.2.1 o.defers} {G with todo:=N} N:=λN=>have x:=hGF.mono p3.2.2.ext
          ⟨x.fn,x.tmps,λ_=>rfl,x.defers,x.mode,x.kind,x.round⟩;have aOj:=L.pending;have aNO:∀N,(R.pending.map Item.code).toList++k=N->rec {o with todo:=N,defers:=dy m.2.1 o.defers} (H3.put m.2.2.next m.2.2.next (.loop {r with state:=.exhausted}))=J out->kF P Y H w o F cs out:=by intro N C7 h4;rw[C7]at afB;exact kF.after (fr1:={o with todo:=N,defers:=dy m.2.1 o.defers}) hi U QV afB rfl ai (eW _ _ out h4 ψ3 _ _ cs QV.1 QV.2.1 (hg.mono QV.2.2.ext) (hF4 N))
         have h5:(match r.pending with|some c=>rec {o with todo:=.code c::k,defers:=dy m.2.1 o.defers} (H3.put m.2.2.next m.2.2.next (.loop {r with state:=.exhausted}))|none=>rec {o with todo:=k,defers:=dy m.2.1 o.defers} (H3.put m.2.2.next m.2.2.next (.loop {r with state:=.exhausted})))=J out:=by cases cq:r.state<;>rw[cq]at T<;>first|exact T|simp_all
         grind
       grind
   grind
 grind
theorem aLg(i:bg H)(s:bQ gI Y H w){r:Nat}(a:Y r=J p)(g:H.get r=J (.deferred V)):∃c,(Instr.takeDeferred p.aZ).run P w=.ok [] c/\fW Y H w Y (H.put r r (.deferred C)) c:=by obtain⟨d,b⟩:=s.obj r p _ a trivial (by intro l j f e h;grind) g;have e1:(getObj _).run P w=.ok _ w:=yH b aP;have e2:=λo=>Js (P:=P) (o':=o) b aP;exact⟨_,by simp_all[Instr.takeDeferred],Rb i s _ a g rfl rfl ⟨d,Rv w (s.stat.cC r p a).1 _⟩⟩
end
end Go.AM
