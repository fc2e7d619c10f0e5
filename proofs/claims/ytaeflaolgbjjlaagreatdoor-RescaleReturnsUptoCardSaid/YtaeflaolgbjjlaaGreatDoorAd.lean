/- Proved: the bodies of functions on the abstract machine answer as the model runs them (a part of the proof of RescaleReturnsUptoCardSaid, whose theorem stands in the last text), under the relation that is defined here. -/
import Derived.Test.YtaeflaolgbjjlaaGreatDoorAc
open Option renaming some->J,none->Z
open Bool renaming true->V,false->C
open Go renaming TypeId->an,Oper->aB,Value->aC,Program->aG,Operand->aK,World->aW,Code->bF,FuncId->bV,Frame->dh,lone->fc,ResultVar->oy
open Go.Op renaming operands->eJ
open Go.Region renaming binds->tU
open Go.stepG renaming exec->tJ
open List renaming replicate->lW,range->tO
open Nat renaming beq->aw,ble->br,blt->cm,succ->fg,mul->iR
noncomputable section
set_option linter.all false
namespace Go.VM
open Go Go.AM
variable{a:AV}{el' v z:DV}{g:GH}{es fs:List eF}{esz j k I r:Nat}{p:Pk}{ωo:aI}{cl m nc vs:aJ}{s x y:aK}{ow:aM}{lv:ah Nat}{dst:ah Tmp}{hi mx:ah aK}{e elem t:an}{L l new:aq}{lb:dV}{fl:fM}
section
variable{P:aG}{ak:cg}{rec:Rec}{cf:bR}{K K':aX}{φ ψ:ch}{ω ω':aI}{H H':Heap}{S:Nat->Prop}
variable{ao:Nat->ah aq}{gs cr:aD}{fk:bV->Nat}{later:List aB}{st0 O st':St}{tm:Tr AV}{o:aB}
theorem cN.cells{d:DV}(h:cN K φ ω H p d a ow):∃vs,a.cells=J vs/\d.flat.length=vs.length/\(∀y,y∈d.flat->y.aV=V)/\((d.flat=[d]/\vs=[a]/\d.aV=V)\/(d.aV=C/\bG K φ d.flat vs)):=by
 have dr:DR K φ d a->∃vs,a.cells=J vs/\d.flat.length=vs.length/\(∀y,y∈d.flat->y.aV=V)/\((d.flat=[d]/\vs=[a]/\d.aV=V)\/(d.aV=C/\bG K φ d.flat vs)):=by intro h;obtain⟨vs,f,b,g⟩:=h.cells;refine⟨vs,f,b.1,g,?_⟩;cases hd:d.aV with|true=>refine .inl ⟨by cases d<;>first|rfl|simp[DV.aV]at hd,?_,rfl⟩;rw[AV.amF (h.aV hd) h.qC]at f;exact(bt f).symm|false=>exact .inr ⟨rfl,b⟩
 cases ow with|no=>exact dr h|any=>obtain⟨rfl,rfl⟩:=h;exact dr .nl|full e=>exact dr h.1|ty e=>exact dr h.1|ex e=>
 rcases h with⟨rfl,rfl⟩|⟨r,_,b⟩;.exact dr .nl
 .obtain⟨l,esz,id,I,c,cells,fl,rfl,rfl,_⟩:=b.ex;exact⟨_,rfl,rfl,by simp[DV.flat,DV.aV],.inl ⟨rfl,rfl,rfl⟩⟩
open Classical in def pF(x:Loc)(o n:Nat)(l:ah Nat):Pk->ah Pk:=λp=>if p=x.pk o/\0<n then l.map .sl else if∃j,o<=j/\j<o+n/\p=x.pk j then Z else if∃t,l=J t/\(p=.sl t\/∃j,p=.tp t j)then Z else J p
theorem aiA{x:Loc}{n:Nat}:∀p q y,pF x I n lv p=J y->pF x I n lv q=J y->p=q:=by
 intro p q y a h;have k:∀(p q:Pk),(p=x.pk I/\0<n)->lv.map Pk.sl=J y->pF x I n lv q=J y->p=q:=by
   intro p q a e h;unfold pF at h;by_cases b:q=x.pk I/\0<n;.grind
   . rw[if_neg b]at h;split at h;.grind
     . split at h;.grind
       .rename_i d;cases h;exfalso;cases lv<;>simp_all
 by_cases b:p=x.pk I/\0<n;.have z:=a;unfold pF at z;rw[if_pos b]at z;exact k p q b z h
 . by_cases c:q=x.pk I/\0<n;.have E:=h;unfold pF at E;rw[if_pos c]at E;exact(k q p c E a).symm
   . unfold pF at a h;rw[if_neg b]at a;rw[if_neg c]at h;split at a;.grind
     . split at a;.grind
       .split at h;all_goals simp_all
theorem xb{x:Loc}{n:Nat}(h:∀j,I<=j->j<I+n->p≠x.pk j)(a:∀t,lv=J t->p≠.sl t/\∀j,p≠.tp t j):pF x I n lv p=J p:=by grind[pF]
theorem aIF{x:Loc}{n:Nat}(h:0<n):pF x I n lv (x.pk I)=lv.map .sl:=by grind[pF]
theorem afU(l:List (Nat×aM)){n:Nat}(h:k<I\/I+n<=k):look (cW l I n) k=look l k:=by refine afV l (λk=>cm k _||br _ k) ?_;simp_all
theorem UQ(l:List (Nat×aM)){n:Nat}(h:I<=k)(a:k<I+n):look (cW l I n) k=Z:=by induction l<;>grind[cW,look,eK,dg,bE]
theorem aiq{n i:Nat}(d:aZ P t=J n)(v:a.cells=J vs)(l:vs.length=n)(g:H.get i=J (.cells m r fl e))(w:fl.wr=V)(h:(H.bn r).1<=i)(b:(H.bn r).2=i)(c:I+n<=m.length):AM.storeVar P H t i I a=J (H.dJ i r (.cells (fL m I vs) r fl e)):=by grind[AM.storeVar,dS,bE,Heap.store,dg]
theorem ahg{d:DV}(h:d.aV=V):mn I d ow=(match ow with|.ty e=>[(I,aM.ty e)]|.ex e=>[(I,.ex e)]|_=>[]):=by split<;>simp_all[mn]
theorem ahf{d:DV}(h:d.aV=C):mn I d ow=[]:=by grind[mn]
theorem aEb{n:Nat}{d:DV}{l:List (Nat×aM)}(h:(k,aM.full t)∈mn I d ow++cW l I n):(k,aM.full t)∈l:=by
 rcases List.mem_append.1 h with h|h;.unfold mn at h;split at h<;>simp_all
 .exact(List.mem_filter.1 h).1
theorem aJn{f:Loc}{b Q:LB}{i:Nat}{d:DV}{pv:Pk}(q:HR K φ ω H O.lb O.g)(o:O.at f=J b)(R:ω f.top=J (i,V))(lu:oR K φ ω H f.pk b i)(w:yK P t b I d ow=J Q)(U:cN K φ ω H pv d a ow)(mL:(∃g,lv=J g/\pv=.sl g)\/(lv=Z/\(ow=.no\/ow=.any))):∃H' n,AM.storeVar P H t i I a=J H'/\bQ (λr=>r=i) H H'/\H'.bu=H.bu/\H'.cG=H.cG/\H'.bT=Heap.note H.bu i H.bT/\HR K φ (ω.of (pF f I n lv)) H' (O.setAt f Q).lb (O.setAt f Q).g:=by
 obtain⟨m,fl,e,z,h2,h3,h4,h5,h6⟩:=lu;obtain⟨vs,v1,v2,v3,v4⟩:=U.cells;unfold yK at w;obtain⟨n,hn,w⟩:=aF w;rw[bE,dg]at w;by_cases iw:d.flat.length=n
 . by_cases jV:I+n<=b.cells.length
   . simp only[iw,jV,dM,xi,aR]at w;cases w;have qx:vs.length=n:=ab;have CO:I+n<=m.length:=ab;refine⟨_,n,aiq hn v1 qx z h2.1 h3 h4 CO,yw z,BW ..,xV ..,xh ..,?_⟩;obtain⟨q1,q2,q3,q4,q5⟩:=QD (m':=fL m I vs) (fl':=fl) (e':=e) q R z h4 (aiA (x:=f) (I:=I) (n:=n) (lv:=lv));have Y:∀(y:Loc)(j:Nat)(g:Nat),y.pk j≠.sl g/\∀k,y.pk j≠.tp g k:=λy j g=>⟨λe=>Loc.Aj y j (e▸trivial),λk e=>Loc.Aj y j (e▸trivial)⟩;have F:=yw (m':=fL m I vs) (fl':=fl) (e':=e) z;have L:∀p r b,ω p=J (r,b)->p≠f.top->¬r=i:=λp r b h B e=>by subst e;exact B (q.inj _ _ _ _ _ h R)
     refine HR.FT (S:=λr=>r=i) q o R (bo.refl _) F q1 (F8 q.gV z) q2 q3 q4 q5 (λs=>?_) (λid=>?_) ?_ (λp r b _ B h=>L p r b h B) ?_;.grind[aI.of,xb,Loc.BG]
     .grind[aI.of,xb,Loc.Mc]
     . intro y c d1 E o1 hy hp;refine hp.keep q.inv F (bo.refl _) (aU.refl _) λr b o=>⟨?_,L _ r b o ?_⟩;.unfold aI.of;rw[xb (λj _ _ e=>hy (Loc.BF e).1) (λt _=>Y y c t)];grind
       .cases f<;>cases y<;>simp[Loc.pk,Loc.top]
     . refine⟨fL m I vs,fl,e,nM _ _ _ _,h2.sub (λk t hm=>(aEb hm)),by grind[Ed],by grind[Ed],?_,λc d1 E u v=>?_⟩;.grind[MP,yJ]
       . have u:(km b.cells I d.flat)[c]?=J d1:=u;have T:=u;rw[MP,yI _ _ _ ab,iw]at u;rw[yI _ _ _ ab,qx]at v;by_cases G:I<=c/\c<I+n
         . rw[if_pos G]at u v;rcases v4 with⟨W,X,w3⟩|⟨W,X⟩
           . have nR:n=1:=ai;have ho:c=I:=ab;subst ho;rw[W,Nat.sub_self]at u;rw[X,Nat.sub_self]at v;obtain rfl:d=d1:=bt u;obtain rfl:a=E:=bt v;refine⟨w3,?_⟩;have aMb:∀g,lv=J g->(ω.of (pF f c n lv)) (f.pk c)=ω (.sl g):=by grind[aI.of,aIF]
             have A:cN K φ (ω.of (pF f c n lv)) (H.dJ i i (.cells (fL m c vs) i fl e)) (f.pk c) d a ow:=by
              rcases mL with⟨g,zW,rfl⟩|⟨_,rfl|rfl⟩;.exact U.keep q.inv F (bo.refl _) (aU.refl _) λr b o=>⟨ai,L _ r b o (by cases f<;>simp[Loc.top])⟩
              .exact U
              .exact U
             unfold ew;show cN _ _ _ _ _ _ _ (match(km b.cells c d.flat)[c]? with|some .nl=>aM.any|_=>(look (mn c d ow++cW b.own c n) c).getD .no);rw[T];have M:=UQ b.own (I:=c) (n:=n) (k:=c) (bJ _) ab;have N:d=.nl->cN K φ (ω.of (pF f c n lv)) (H.dJ i i (.cells (fL m c vs) i fl e)) (f.pk c) d a .any:=by intro hd;subst hd;refine⟨rfl,?_⟩;have D:=U;cases ow with|no=>cases D;rfl|any=>exact D.2|full e=>have:=D.1;cases this;rfl|ty e=>have:=D.1;cases this;rfl|ex e=>
              rcases D with⟨_,h⟩|⟨r,_,h⟩;.omega
              .obtain⟨l,_,_,_,_,_,_,h,_⟩:=h.ex;grind
             rw[ahg w3];cases ow with
             |no=>grind|any=>obtain⟨rfl,_⟩:=A;grind|full e=>simp only[jF,M];cases d<;>first|exact N rfl|exact A.1
             |ty e=>grind[look,bE]|ex e=>grind[look,bE]
           .have tb:d1.aV=V:=v3 d1 (dw u);refine⟨tb,?_⟩;have gN:=X.2 _ d1 E u v;unfold ew;show cN _ _ _ _ _ _ _ (match(km b.cells I d.flat)[c]? with|some .nl=>aM.any|_=>(look (mn I d ow++cW b.own I n) c).getD .no);rw[T,ahf W];have M:=UQ b.own (I:=I) (n:=n) (k:=c) G.1 G.2;simp only[jF,M];cases d1<;>first|exact gN|(cases gN;exact⟨rfl,rfl⟩)
         . rw[if_neg G]at u v;obtain⟨k1,k2⟩:=h6 c d1 E u v;refine⟨k1,?_⟩;have va:c<I\/I+n<=c:=ab;have po:ew {cells:=km b.cells I d.flat,own:=mn I d ow++cW b.own I n} c=ew b c:=by
             unfold ew;simp only[T,u];have hM:look (mn I d ow++cW b.own I n) c=look b.own c:=by
              have OU:=afU b.own (I:=I) (n:=n) va;by_cases ib:d.aV=V;.have nR:n=1:=ai;have B:I≠c:=ab;rw[ahg ib];cases ow with|ty e=>show(bif aw I c then _ else _)=_;rw[bE];simp only[B,kM,bS];exact OU|ex e=>show(bif aw I c then _ else _)=_;rw[bE];simp only[B,kM,bS];exact OU|_=>grind
              grind[ahf]
             grind
           rw[po];refine k2.keep q.inv F (bo.refl _) (aU.refl _) λr b o=>⟨?_,L _ r b o (by cases f<;>simp[Loc.pk,Loc.top])⟩;unfold aI.of;rw[xb (λj j1 j2 e=>by grind[Loc.BF]) (λt _=>Y f c t)];grind
   grind
 grind
end
section
variable{P:aG}{ak:cg}{rec:Rec}{cf:bR}{K K':aX}{φ ψ:ch}{ω ω':aI}{H H':Heap}{S:Nat->Prop}
variable{gs cr:aD}{fk:bV->Nat}{later:List aB}{st0 O st':St}{tm:Tr AV}{o:aB}{ao:Nat->ah aq}
def rM(l:ah Nat):Pk->ah Pk:=match l with|some t=>pE t|none=>J
theorem ahP{q:Pk}(a:p.slot)(h:rM lv p=J q):q=p/\∀t,lv=J t->p≠.sl t/\∀j,p≠.tp t j:=by
 unfold rM at h;rcases lv with _|t;.grind
 cases p<;>simp only[Pk.slot]at a<;>grind[pE]
theorem PO(m:du P K φ ao)(n:HR K φ ω H O.lb O.g)(s:bX K φ ω H tm O.sl){d:DV}(q:cR ao O x=J (.dv d ow)):∃a lv p,AM.bB P tm x=J a/\a≠.top/\cN K φ ω H p d a ow/\((∃j,lv=J j/\p=.sl j)\/(lv=Z/\(ow=.no\/ow=.any)))/\bX K φ (ω.of (rM lv)) H tm (aQ leave O x).sl:=by
 obtain⟨a,i,b,c⟩:=qD m s q;rcases c with⟨t,rfl,o,E,h⟩|⟨T,c⟩
 . refine⟨a,_,_,i,b,h,.inl ⟨t,rfl,rfl⟩,?_⟩;have e1:aQ leave O (.tmp t)={O with sl:=put O.sl t (leave (.dv d ow))}:=by grind[aQ]
   rw[e1];exact Q2 n s o E b h
 . have e1:aQ leave O x=O:=by cases x<;>first|rfl|grind
   rw[e1];have k:cN K φ ω H (.sl 0) d a ow/\(ow=.no\/ow=.any):=by
    rcases c with⟨r,e,h⟩|⟨r,f,_,_,e,h⟩|⟨g,l,cells,e1,e,_⟩
    . obtain⟨rfl,rfl⟩:=SV.dv.inj e;unfold tC;split;.cases h;exact⟨⟨rfl,rfl⟩,.inr rfl⟩
      .exact⟨h,.inl rfl⟩
    .obtain⟨rfl,rfl⟩:=SV.dv.inj e;exact⟨h,.inl rfl⟩
    grind
   exact⟨a,_,_,i,b,k.1,.inr ⟨rfl,k.2⟩,s⟩
theorem aiI{i:Nat}(b:o.op=.store t x y)(c:AM.bB P tm x=J (.ptr i I))(d:AM.bB P tm y=J a)(h:AM.storeVar P H t i I a=J H'):dX P ak tm H o=J (.val fo H'):=by simp_all[dX,DH]
theorem Ca(a:HR K φ ω H O.lb O.g)(s:bX K φ ω H tm O.sl)(h:aH O dst (.tp [])=J st'):fK K φ ω H st' (gQ tm dst fo) H:=xz a s h (by simp[fo]) λ_ _ _=>⟨[],rfl,rfl,λj x y h=>ai⟩
theorem aiG(h:o.op=.store t x y):kindOf cf O o.op=.wr:=by rw[h];rfl
theorem UP{a:Bool}(c:H'.bu=H.bu)(f:H'.cG=H.cG)(d:H'.bT=Heap.note H.bu r H.bT)(p:dL ω r){k:Kd}(b:k=.wr):tP ω k a H H':=by refine⟨c,λh=>absurd b h,λh=>absurd b h,λe hr=>?_,λe hr=>.inl ai⟩;rw[d]at hr;rcases vn hr with h|⟨rfl,h⟩<;>grind
theorem aiF(E:du P K φ cf.ao)(f:HR K φ ω H O.lb O.g)(F:bX K φ ω H tm O.sl)(l:o.op=.store t x y){d:DV}{z:Loc}{b c:LB}(L:cR cf.ao O y=J (.dv d ow))(k:O.at z=J b)(G:∀i,ω z.top=J (i,V)->(∀id,z=.g id->φ id=J i)->AM.bB P tm x=J (.ptr i I))(D:yK P t b I d ow=J c)(h:aH {(aQ leave O y).setAt z c with sl:=cK (aQ leave O y).sl} o.dst (.tp [])=J st'):eO P ak rec cf K φ ω H O O st' tm o:=by
 obtain⟨i,g,M,N⟩:=f.at k;obtain⟨a,lv,W,v,S,w,A,B⟩:=PO E f F L;obtain⟨H',n,g1,g2,g3,g4,g5,g6⟩:=aJn f k g M D w A;obtain⟨f1,f2,f3,f4,f5⟩:=mW h;obtain⟨e1,e2,e3,e4⟩:=BB _ O y;have X:((aQ leave O y).setAt z c).lb=(O.setAt z c).lb/\((aQ leave O y).setAt z c).g=(O.setAt z c).g/\((aQ leave O y).setAt z c).n=O.n/\((aQ leave O y).setAt z c).fn=O.fn:=by cases z<;>simp only[St.setAt]<;>rw[e3,e4,e1,e2]<;>exact⟨rfl,rfl,rfl,rfl⟩
 have T:∀p r b,p.slot->ω p=J (r,b)->¬r=i:=λp r b m h e=>by subst e;have:=f.inj _ _ _ _ _ h g;subst this;cases z<;>exact m.elim
 have Q:bX K φ (ω.of (pF z I n lv)) H' tm (cK (aQ leave O y).sl):=by
  refine xa f.inv B g2 (bo.refl _) (aU.refl _) (λp r b m h=>?_) (λs j b h=>?_);.grind[aI.iz,ahP,aI.of,xb,Loc.Aj]
  .obtain⟨q,u,R⟩:=aI.iz h;rw[xb (λj _ _=>(Loc.BG z j s).symm) aT]at u;cases u;cases lv<;>exact R
 refine⟨fo,H',?_,λt U=>ai,?_,ai,ai,UP g3 g4 g5 ⟨_,_,g⟩ (aiG l)⟩;.unfold ff;rw[aiI l (G i g N) v g1];rfl
 .refine fK.trans (ω1:=ω.of (pF z I n lv)) f.inv (bo.refl _) (f.fV g2) (aU.refl _) (g2.xg f.inv λr _ e=>⟨_,_,e▸g⟩) (λp r b h=>let⟨q,_,h⟩:=aI.iz h;.inl ⟨q,b,h⟩) ?_;refine Ca ?_ Q h;grind
theorem QX{i:Nat}(h:i<l.length)(j:Nat):(iC l i v)[j]?=if j=i then J v else l[j]?:=by grind[iC]
theorem MH{i:Nat}(h:i<l.length):(iC l i v).length=l.length:=by grind[iC]
theorem HR.ahB(a:HR K φ ω H lb g){t:Nat}{u:aJ}{f:fM}(z:ω p=J (r,V))(N:p.slot)(n:H.get t=J (.cells m r fl e))(v:(H.bn r).2=t):HR K φ ω (H.dJ t r (.cells u r f e)) lb g:=by
 obtain⟨F,G,q3,q4,q5⟩:=QD (m':=u) (fl':=f) (e':=e) a z n v (src:=J) (λp q y L v=>ai);have w:=yw (m':=u) (fl':=f) (e':=e) n;have B:∀q d b,¬q.slot->ω q=J (d,b)->¬d=r:=λq d b M h e=>by subst e;have:=a.inj _ _ _ _ _ h z;grind
 refine⟨F,G,q3,q4,q5,λs b D=>?_,λk o E=>?_,a.nu,F8 a.gV n⟩;.obtain⟨i,j,l⟩:=a.box s b D;exact⟨i,j,l.keep a.inv w (bo.refl _) (aU.refl _) (B _ i _ (by simp[Pk.slot]) j) λI d c x=>⟨x,B _ d c (by simp[Pk.slot]) x⟩⟩
 .obtain⟨i,j,l,A⟩:=a.js k o E;exact⟨i,j,l,A.keep a.inv w (bo.refl _) (aU.refl _) (B _ i _ (by simp[Pk.slot]) l) λI d c x=>⟨x,B _ d c (by simp[Pk.slot]) x⟩⟩
theorem aGp{e:DV}{s:aq}(h:reshape e s=J el'):el'.flat=s:=by
 unfold reshape at h;split at h;.obtain rfl:=bt h;rfl
 . rename_i c _;rcases a:c.aV with _|_;.grind
   rw[a]at h;obtain rfl:=bt h;cases c<;>first|rfl|grind[DV.aV]
 grind
theorem aH9{x:DV}(h:cR ao O y=J (.dv x ow)):bj ao (aQ share O y) y=J x:=by cases y<;>grind[bj,aQ,share,Cp,lN,cR]
theorem gI.set{i:Nat}{c:aJ}{f:DV}{d:DV}{k0 n:Nat}(h:gI K φ l esz I c)(o:l[i]?=J f)(N:el'.flat=km f.flat k0 d.flat)(p:d.flat.length=n)(z:k0+n<=f.flat.length)(m:bG K φ d.flat vs)(A:∀y,y∈d.flat->y.aV=V):gI K φ (iC l i el') esz I (fL c (I+i*esz+k0) vs)/\I+i*esz+k0+n<=c.length:=by
 obtain⟨g1,g2,g3,g4⟩:=h;have O:=(List.getElem?_eq_some_iff.1 o).1;obtain⟨k1,k2⟩:=g3 i f o;have u:i*esz+esz<=l.length*esz:=by have:(i+1)*esz<=l.length*esz:=lD _ O;grind
 have s:vs.length=n:=by rw[<-m.1];omega
 have L:I+i*esz+k0+n<=c.length:=ab;refine⟨⟨g1,?_,λj x b=>?_,λj x k d1 t b g a=>?_⟩,L⟩;.grind[MH,yJ]
 .grind[QX,km]
 . rw[yI _ _ _ ab,s]at a;rw[QX O]at b;by_cases e:j=i
   . rw[if_pos e]at b;cases b;subst e;rw[N,MP,yI _ _ _ ab,p]at g;by_cases q:k0<=k/\k<k0+n;.rw[if_pos q]at g;rw[if_pos ab]at a;rw[show I+j*esz+k-(I+j*esz+k0)=k-k0 by omega]at a;exact m.2 _ _ _ g a
     grind
   . rw[if_neg e]at b;have B:k<esz:=by grind
     rw[if_neg]at a;.grind
     . rintro⟨v,w⟩;rcases Nat.lt_or_gt_of_ne e with U|r;.have:(j+1)*esz<=i*esz:=lD _ U;grind
       .have:(i+1)*esz<=j*esz:=lD _ r;grind
theorem Kj{i:Nat}{ob:b9}(h:(H.bn r).1<=i)(a:(H.bn r).2=i):((H.dJ i r ob).bn r).1<=i/\((H.dJ i r ob).bn r).2=i:=by grind[Ed,On]
theorem aJu(F:du P K φ cf.ao)(u:HR K φ ω H O.lb O.g)(M:bX K φ ω H tm O.sl)(L:o.op=.store t x y){d g:DV}{s i n:Nat}{w:aq×an×Nat}(hy:cR cf.ao O y=J (.dv d ow))(hx:cR cf.ao O x=J (.se s i I))(v:np (aQ share O y) s=J w)(N:w.1[i]?=J g)(hn:aZ P t=J n)(Q:d.flat.length=n)(jV:I+n<=g.flat.length)(hr:reshape g (km g.flat I d.flat)=J el')(h:aH {aQ share O y with sl:=put (cK (aQ share O y).sl) s (.dv (.ay (iC w.1 i el') w.2.1 w.2.2) (.ex w.2.1))} o.dst (.tp [])=J st'):eO P ak rec cf K φ ω H O O st' tm o:=by
 obtain⟨K1,ω1,z,m,A,R,s5,s6,s7,_⟩:=YV u M y;obtain⟨av,v1,v2,v3⟩:=sF (F.mono z.1 (aU.refl _)) A s5 (aH9 hy);obtain⟨vs,w1,B,w3⟩:=v3.cells;obtain⟨T,x1,_,x3⟩:=qD F M hx;obtain⟨id,a,len,c,esz,e1,e2⟩:∃id a len c esz,tm.get s=J (.sl id a len c esz)/\T=.ptr id (a+i*esz+I):=by
   rcases x3 with⟨t',_,_,_,Y⟩|⟨_,⟨_,e,_⟩|⟨_,_,_,_,e,_⟩|⟨_,_,_,_,e,_⟩⟩;.exact Y
   all_goals grind
 unfold np at v;split at v
 . rename_i l e n0 ad hl;cases v;obtain⟨b0,D,_,U⟩:=A s _ hl;rw[e1]at D;cases D;rcases U with⟨z1,_⟩|⟨r,r1,W⟩;.grind
   . obtain⟨l',pP,qy,dj,c',cells,fl,g1,g2,g3,g4,g5,g6,g7,g8⟩:=W.ex;obtain⟨rfl,rfl,rfl⟩:=DV.ay.inj g1;obtain⟨rfl,rfl,rfl,rfl,rfl⟩:=AV.sl.inj g2;have nN:=aGp hr;obtain⟨t1,t2⟩:=g7.set N nN Q jV B w3;have X:=(List.getElem?_eq_some_iff.1 N).1;have jf:=aiq hn w1 (by rw[<-B.1];omega) g3 g4 g5 g6 t2;have G:=yw (m':=fL cells (a+i*esz+I) vs) (fl':=fl) (e':=e) g3;obtain⟨f1,f2,f3,_⟩:=mW h;obtain⟨f,uh⟩:=R _ _ _ r1;refine⟨fo,H.dJ id r (.cells (fL cells (a+i*esz+I) vs) r fl e),?_,λt ht=>ai,?_,ai,ai,UP (BW ..) (xV ..) (xh ..) ⟨_,f,uh⟩ (aiG L)⟩;.unfold ff;rw[aiI L ai v1 jf];rfl
     . refine fK.trans u.inv z.1 (λj x hj=>by rw[wS,VA g3];exact z.fV m j x hj) (aU.refl _) (G.xg u.inv λr' _ e=>⟨.sl s,f,ai⟩) (λp r b h=>let⟨f,h⟩:=R p r b h;.inl ⟨p,f,h⟩) ?_;refine Ca (O:={aQ _ O y with sl:=put _ s _}) (m.ahB r1 trivial g3 g6) ?_ h;obtain⟨y1,S⟩:=Kj g5 g6;refine YZ m.inv A G (bo.refl _) (aU.refl _) (λp r' b hp k E q=>⟨q,λe=>?_⟩) aT e1 aT ?_;.subst e;exact E (m.inj _ _ _ _ _ q r1)
       . refine .inr ⟨r,r1,⟨_,_,id,a,c,_,fl,rfl,by grind[MH],nM _ _ _ _,g4,y1,S,t1,?_⟩⟩;rw[MH X];rcases g8 with⟨k,E,q⟩|k;.refine .inl ⟨k,S,?_⟩;rw[yJ _ _ _ (by rw[<-B.1,Q];omega)];omega
         .exact .inr k
 grind
theorem aJy(a:du P K φ cf.ao)(k:HR K φ ω H O.lb O.g)(c:bX K φ ω H tm O.sl)(l:o.op=.store t x y)(h:dB P cf.ao fk gs cr later O o=J st'):eO P ak rec cf K φ ω H O O st' tm o:=by unfold dB at h;rw[l]at h;simp only at h;obtain⟨v,p,h⟩:=aF h;cases v with
 |dv d ow=>simp only at h;cases m:cR cf.ao O x with|none=>grind|some F=>rw[m]at h;obtain⟨q,x1,_,x3⟩:=qD (P:=P) a c m;cases F with
  |lp s I=>
   simp only at h;obtain⟨b,A,h⟩:=aF h;obtain⟨f,j,h⟩:=aF h;refine aiF (z:=.l s) a k c l p A (λi hi _=>?_) j (by show aH {aQ leave O y with sl:=cK (aQ leave O y).sl,lb:=put (aQ leave O y).lb s f} o.dst (.tp [])=J st';grind[BB]);rcases x3 with⟨U,_,_,_,u⟩|⟨_,⟨_,e,_⟩|⟨_,_,_,_,e,_⟩|⟨_,_,_,_,e,_⟩⟩;.rw[x1,u i V hi]
   all_goals grind|dv r S=>cases r with
   |ptr id I=>simp only at h;cases B:O.g.get id with|none=>grind|some D=>rw[B]at h;cases D with|box b=>
   simp only at h;obtain⟨f,j,h⟩:=aF h;have E:O.at (.g id)=J b:=by grind[St.at]
   have T:(aQ leave O y).g=O.g:=(BB leave O y).2.2.2;refine aiF (z:=.g id) a k c l p E (λi hi L=>?_) j ?_
   . have N:DR (sB H) φ (.ptr id I) q:=by obtain⟨G,W,_,X⟩:=nX (P:=P) a k c (x:=x) (d:=.ptr id I) (by unfold bj;rw[m];rfl);grind
     cases N<;>simp_all
   .show aH {aQ leave O y with sl:=cK (aQ leave O y).sl,g:=(aQ leave O y).g.set id (.box f)} o.dst (.tp [])=J st';simp_all|_=>simp_all
   |_=>simp at h
  |se s i I=>simp only at h;obtain⟨w,Q,h⟩:=aF h;obtain⟨el,R,h⟩:=aF h;obtain⟨n,M,h⟩:=aF h;grind[bE,dg,aF,aJu]|_=>simp_all
 |_=>simp_all
def BO(K:aX)(b:ch):ah DV->ah AV->Prop|none,Z=>True|some d,J a=>DR K b d a|_,_=>False
def Fq(a:Nat->ah aq)(s:St):ah aK->ah (ah DV)|some x=>(bj a s x).map J|none=>J Z
def Fp(P:aG)(t:Tr AV):ah aK->ah (ah AV)|some x=>(AM.bB P t x).map J|none=>J Z
theorem Vv(g:du P K φ ao)(f:HR K φ ω H O.lb O.g)(s:bX K φ ω H tm O.sl){x:ah aK}{v:ah DV}(h:Fq ao O x=J v):∃c,Fp P tm x=J c/\BO (sB H) φ v c:=by
 rcases x with _|x;.cases h;exact⟨_,rfl,trivial⟩
 have h:(bj _ O x).map _=J v:=h;rcases b:bj ao O x with _|d;.grind
 rw[b]at h;cases h;obtain⟨a,i,_,e⟩:=nX g f s b;exact⟨J a,by show(AM.bB P tm x).map _=_;grind,e⟩
theorem sW{x:ah DV}{b:ah AV}{y d n:Nat}(e:BO K φ x b)(h:nI x y d=J n):(x=Z/\b=Z/\n=d)\/(x≠Z/\b≠Z/\n<=y/\∀c f,n<=c->eX b c f=J n):=by
 unfold nI at h;split at h
 . rename_i k m;rw[dg]at h;by_cases g:m<=y
   . simp only[g,dM,aR]at h;obtain rfl:=bt h;rcases b with _|a;.exact e.elim
     cases e;refine .inr ⟨aO,aO,g,λc f i=>?_⟩;show(bif br m c then J m else Z)=J m;grind[dg]
   grind
 .grind
 . rcases b with _|a;.grind
   exact e.elim
theorem DR.sub{s:aq}{f l h:Nat}{c c':ah Nat}(b:DR K φ (.ay s e esz) (.sl f I s.length c esz))(r:l<=h)(o:h<=s.length)(m:∀k,c'=J k->h-l<=k):DR K φ (.ay ((s.take h).drop l) e esz) (.sl f (I+l*esz) (h-l) c' esz):=by have n:((s.take h).drop l).length=h-l:=ai;rw[<-n]at m|-;cases b with|ay _ _ _ _ _ _ cells g1 p v _ w g=>
 have E:∀i x,((s.take h).drop l)[i]?=J x->s[l+i]?=J x:=by grind
 refine .ay _ e _ f _ c' _ g1 p ?_ m ai λi x j d a q b u=>g _ x j d a (E i x q) b ?_
 . rw[n];have:l*esz+(h-l)*esz=h*esz:=by rw[<-xu];grind
   have t:h*esz<=s.length*esz:=lD _ o;omega
 grind
theorem ML{l:ah aK}{v r:AV}{a b c:ah AV}(d:o.op=.slice t x l hi mx)(j:AM.bB P tm x=J v)(f:Fp P tm l=J a)(g:Fp P tm hi=J b)(i:Fp P tm mx=J c)(h:pD P H t v a b c=J r):dX P ak tm H o=J (.val r H):=by
 have e:dX P ak tm H o=(AM.bB P tm x).bind λv=>(Fp P tm l).bind λl=>(Fp P tm hi).bind λhi=>(Fp P tm mx).bind λmx=>eZ H (pD P H t v l hi mx):=by unfold dX;rw[d];rfl
 grind[eZ]
theorem aIm{l:ah aK}(d:o.op=.slice t x l hi mx)(h:dB P ao fk gs cr later O o=J st'):∃v a b c r,bj ao O x=J v/\Fq ao O l=J a/\Fq ao O hi=J b/\Fq ao O mx=J c/\n8 P t v a b c=J r/\aH O o.dst (.dv r.1 r.2)=J st':=by
 have e:dB P ao fk gs cr later O o=((bj ao O x).bind λv=>(Fq ao O l).bind λl=>(Fq ao O hi).bind λhi=>(Fq ao O mx).bind λmx=>(n8 P t v l hi mx).bind λr=>aH O o.dst (.dv r.1 r.2)):=by unfold dB;rw[d];rfl
 rw[e]at h;obtain⟨v,g,h⟩:=aF h;obtain⟨M,w,h⟩:=aF h;obtain⟨D,B,h⟩:=aF h;obtain⟨f,H,h⟩:=aF h;obtain⟨r,hr,h⟩:=aF h;grind
theorem MK{l i m:ah AV}(h:m≠Z->i≠Z):pD P H t a l i m=sliceB P H t a l i m:=by simp_all[pD]
theorem aIn(hg:du P K φ ao)(u:HR K φ ω H O.lb O.g)(w:bX K φ ω H tm O.sl){lo:ah aK}(G:o.op=.slice t x lo hi mx)(hn:jG O x)(h:dB P ao fk gs cr later O o=J st'):eO P ak rec cf K φ ω H st0 O st' tm o:=by
 obtain⟨v,M6,D,M7,r,hv,wH,Bg,HU,hr,h⟩:=aIm G h;obtain⟨a,Q,_,E⟩:=sF (P:=P) hg w hn hv;obtain⟨Ix,l1,l2⟩:=Vv (P:=P) hg u w wH;obtain⟨s,S,F⟩:=Vv (P:=P) hg u w Bg;obtain⟨N,W,m2⟩:=Vv (P:=P) hg u w HU;have R:∀{z:ah AV},BO (sB H) φ Z z->z=Z:=λ{z}hz=>by cases z;rfl;exact hz.elim
 have aNf:∀{d:DV}{z:ah AV},BO (sB H) φ (J d) z->z≠Z:=λ{d z}hz=>by cases z;exact hz.elim;simp
 unfold n8 at hr;split at hr
 . rename_i elem hu;cases E;have hmh:N≠Z->s≠Z:=by intro x1;cases M7 with|none=>grind|some m=>cases D<;>grind
   have A:((aZ P elem).bind λ_=>(nI M7 0 0).bind λ_=>(nI D 0 0).bind λh=>(nI M6 h 0).bind λ_=>J (DV.nl,aM.any))=J r:=by grind
   obtain⟨sz,fH,A⟩:=aF A;obtain⟨m,hm,A⟩:=aF A;obtain⟨b,B,A⟩:=aF A;obtain⟨l,hM,A⟩:=aF A;cases A;refine qF u w (ML G Q l1 S W (r:=.bC) ?_) h aO λ_ _ _=>⟨rfl,rfl⟩;have em:eX N 0 0=J 0:=by
     rcases sW m2 hm with⟨_,rfl,rfl⟩|⟨_,_,f,p⟩;.rfl
     grind
   have eh:eX s 0 0=J b:=by rcases sW F B with⟨_,rfl,rfl⟩|⟨_,_,f,p⟩;all_goals grind
   have el:eX Ix b 0=J l:=by
     rcases sW l2 hM with⟨_,rfl,rfl⟩|⟨_,_,f,p⟩;.rfl
     grind
   simp_all[MK,sliceB]
 . rename_i elem M e esz hu;obtain⟨n,pj,hr⟩:=aF hr;rw[bE,bE]at hr;by_cases T:n=esz
   . by_cases U:e=elem;.simp only[T,U,dM,xi,aR]at hr;subst T;subst U;have a3':=E;cases a3' with|ay _ _ _ id I c cells g1 he hb hc hl g=>obtain⟨root,fl,i1,i2⟩:=u.dk _ _ _ g1;have hco:=NQ i1 i2;cases M7 with
     |none=>simp only at hr;obtain rfl:=R m2;obtain⟨b,B,hr⟩:=aF hr;cases i:(D.isNone||br b bl)with|false=>grind|true=>rw[i]at hr;simp only[aR]at hr;cases L:nI M6 b 0 with|none=>grind|some l=>
       rw[L]at hr;cases hr;have T4:b<=M.length:=by rcases sW F B with⟨_,_,rfl⟩|⟨_,_,f,_⟩;all_goals omega
       have X:l<=b:=by rcases sW l2 L with⟨_,_,rfl⟩|⟨_,_,f,_⟩;all_goals omega
       have e2:eX Ix b 0=J l:=by
        rcases sW l2 L with⟨_,rfl,rfl⟩|⟨_,_,f,p⟩;.rfl
        grind
       have e1:∀y,(s≠Z->b<=y)->eX s y M.length=J b:=by
        intro y hy;rcases sW F B with⟨_,rfl,rfl⟩|⟨_,q0,f,p⟩;.rfl
        grind
       have sA:s≠Z->b<=bl:=by intro x;rw[dg]at i;cases D<;>simp_all
       cases c with|some c=>have kN:=hc c rfl;refine sJ u w (ML G Q l1 S W (r:=.sl id (I+l*n) (b-l) (J (c-l)) n) ?_) h (E.sub X T4 λk hk=>ai);rw[MK (λx=>absurd rfl x)];unfold sliceB;grind[eX,dg]|none=>refine sJ u w (ML G Q l1 S W (r:=.sl id (I+l*n) (b-l) Z n) ?_) h (E.sub X T4 λk hk=>ai);rw[MK (λx=>absurd rfl x)];simp_all[sliceB,dg]
     |some yn=>cases D with|none=>grind|some rz=>simp only at hr;obtain⟨m,hm,hr⟩:=aF hr;cases i:br m bl with|false=>grind|true=>rw[i]at hr;simp only[aR]at hr;rw[dg]at i;have i:=vu i;obtain⟨b,B,hr⟩:=aF hr;cases L:nI M6 b 0 with|none=>grind|some l=>
        rw[L]at hr;have hr:=bt hr;obtain⟨q0,CO,p⟩:N≠Z/\m<=M.length/\∀Y d',m<=Y->eX N Y d'=J m:=by rcases sW m2 hm with⟨q,_⟩|⟨_,q0,f,p⟩;all_goals grind
        obtain⟨p0,hhm,p2⟩:s≠Z/\b<=m/\∀Y d',b<=Y->eX s Y d'=J b:=by rcases sW F B with⟨q,_⟩|⟨_,q0,f,p⟩;all_goals grind
        have X:l<=b:=by rcases sW l2 L with⟨_,_,rfl⟩|⟨_,_,f,_⟩;all_goals omega
        have e2:eX Ix b 0=J l:=by
         rcases sW l2 L with⟨_,rfl,rfl⟩|⟨_,_,f,p⟩;.rfl
         grind
        have zX:dX P ak tm H o=J (.val (.sl id (I+l*n) (b-l) (J (m-l)) n) H):=by refine ML G Q l1 S W ?_;rw[MK (λ_=>p0)];unfold sliceB;rw[hu];cases c with|some c=>grind[dg]|none=>
         simp only[pj,cQ,bE,dM,aR];have hmb:I+m*n<=cells.length:=by have:m*n<=M.length*n:=lD _ CO;omega
         cases N with|none=>simp_all|some mv=>simp only;have:mC mv bl=J m:=p bl 0 i;grind[dg,dS]
        subst hr;refine qF u w zX h aO λ_ _ _=>?_;have gN:=E.sub (c':=J (m-l)) X (by omega:b<=M.length) λk hk=>ai;show cN K φ ω H _ (.ay ((M.take b).drop l) e n) _ (bif aw b m then .full e else .no);rw[bE];by_cases T3:b=m;.simp only[T3,dM,aR];subst T3;exact⟨gN,_,_,_,_,rfl⟩
        .simp only[T3,kM,bS];exact gN
     grind
   grind
 . rename_i elem id I len e esz hu;obtain⟨n,pj,hr⟩:=aF hr;rw[bE,bE]at hr;by_cases T:n=esz
   . by_cases U:e=elem;.cases M7 with|some m=>simp at hr|none=>obtain rfl:=R m2;simp only[T,U,dM,qU,xi,aR]at hr;subst T;subst U;cases E with|cV _ _ _ _ _ j c hj hc=>obtain⟨b,B,hr⟩:=aF hr;cases i:(D.isNone||br b bl)with|false=>grind|true=>rw[i]at hr;simp only[aR]at hr;cases L:nI M6 b 0 with|none=>grind|some l=>
      rw[L]at hr;cases hr;have T4:b<=len:=by rcases sW F B with⟨_,_,rfl⟩|⟨_,_,f,_⟩;all_goals omega
      have X:l<=b:=by rcases sW l2 L with⟨_,_,rfl⟩|⟨_,_,f,_⟩;all_goals omega
      have e2:eX Ix b 0=J l:=by
       rcases sW l2 L with⟨_,rfl,rfl⟩|⟨_,_,f,p⟩;.rfl
       grind
      have e1:∀y,(s≠Z->b<=y)->eX s y len=J b:=by
       intro y hy;rcases sW F B with⟨_,rfl,rfl⟩|⟨_,q0,f,p⟩;.rfl
       grind
      have sA:s≠Z->b<=bl:=by intro x;rw[dg]at i;cases D<;>simp_all
      refine sJ u w (ML G Q l1 S W (r:=.sl j (I+l*n) (b-l) (c.map (.-l)) n) ?_) h (.cV _ _ _ _ _ _ _ hj λk hk=>by cases c<;>grind);rw[MK (λx=>absurd rfl x)];unfold sliceB;cases c<;>grind[eX,dg]
     .grind
   grind
 grind
theorem Ma(g:du P K φ ao)(f:bX K φ ω H tm O.sl):∀(l:List (Nat×aK))(s:List (Nat×DV)),(∀p,p∈l->jG O p.2)->cu (λ(p:Nat×aK)=>(bj ao O p.2).map λv=>(p.1,v)) l=J s->∃b,cu (λ(p:Nat×aK)=>(AM.bB P tm p.2).map λv=>(p.1,v)) l=J b/\s.length=b.length/\∀(i:Nat)(p:Nat×DV)(q:Nat×AV),s[i]?=J p->b[i]?=J q->p.1=q.1/\DR K φ p.2 q.2:=by intro l;induction l with|nil=>intro s _ h;obtain rfl:=bt (show J []=J s from h);exact⟨[],rfl,rfl,λi p q h=>ai⟩|cons x l m=>
 intro s n h;have c:=h;obtain⟨d,hd,c⟩:=aF c;obtain⟨t,j,c⟩:=aF c;rcases k:bj ao O x.2 with _|d0;.grind
 obtain⟨a,o,_,r⟩:=sF g f (n x gK) k;obtain⟨b,w,y,q3⟩:=m t (λp e=>n p (kG _ e)) j;refine⟨(x.1,a)::b,?_,ai,λi p q e u=>?_⟩<;>grind[cu]
theorem Nf(b:aX)(c:ch)(h:cI P t=J z):∃m,lV P t=J m/\bG b c z.flat m/\∀x,x∈z.flat->x.aV=V:=by obtain⟨a,d,h⟩:=aF h;obtain⟨m,e,f,g⟩:=(Cd (K:=b) (φ:=c) h).cells;grind[lV]
theorem alY(g:du P K φ ao)(b:HR K φ ω H O.lb O.g)(s:bX K φ ω H tm O.sl){a:Array (Nat×aK)}(e:o.op=.build t a)(n:∀p,p∈a.toList->jG O p.2)(h:dB P ao fk gs cr later O o=J st'):eO P ak rec cf K φ ω H st0 O st' tm o:=by
 unfold dB at h;rw[e]at h;obtain⟨z,f,h⟩:=aF h;obtain⟨q,j,h⟩:=aF h;obtain⟨m,w,i,k⟩:=Nf K φ f;obtain⟨u,x,r,q3⟩:=Ma g s _ _ n j;split at h;.obtain⟨c,U,h⟩:=aF h;obtain⟨l,d,h⟩:=aF h;obtain⟨v,f1,f2,f3⟩:=arF q u _ _ _ d i r q3;refine sJ b s ?_ h (f2.agg (f3 k));simp_all[dX,DB,eZ]
 grind
theorem P4{v:ah Bool}(a:HR K φ ω H lb g)(w:p.slot):HR K φ (ω.set p (v.map λb=>(H.next,b))) (H.cP m fl e) lb g:=by
 have o:bQ (λ_=>False) H (H.cP m fl e):=jY H _ _;have A:bg (H.cP m fl e):=we a.inv _ ai;have L:(H.cP m fl e).next=H.next+1:=rfl;have back:∀q r b,ω.set p (v.map λb=>(H.next,b)) q=J (r,b)->(q=p/\r=H.next)\/(q≠p/\ω q=J (r,b)):=by intro q r b h;by_cases e:q=p<;>simp_all[aI.nC,aI.kV]
 refine⟨A,?_,?_,?_,?_,?_,?_,a.nu,M3 a.inv a.gV _ ai⟩;.intro id cells t h;obtain⟨r,u,g1,g2⟩:=a.dk id _ t h;exact⟨r,_,by rw[o.get id (a.inv.get _ _ g1) (λh=>h)];omega,g2⟩
 . intro q z r b c l j;rcases back q r b l with⟨rfl,rfl⟩|⟨_,n⟩
   . rcases back z _ c j with⟨rfl,_⟩|⟨_,d⟩;.rfl
     .have:=a.cw _ _ _ d;omega
   . rcases back z r c j with⟨_,rfl⟩|⟨_,d⟩;.have:=a.cw _ _ _ n;omega
     .exact a.inj _ _ _ _ _ n d
 . intro q r id x f y;obtain⟨cells,t⟩:=x;obtain⟨G,u,g1,_⟩:=a.dk id _ t y;have hid:=a.inv.get _ _ g1;have hr:rootOf (H.cP m fl e) id=rootOf H id:=by unfold rootOf;rw[o.get id hid (λh=>h)]
   rw[hr];rcases back q r _ f with⟨_,rfl⟩|⟨_,d⟩;.have:=qG a.inv hid;omega
   .exact a.clean q r id _ d y
 . intro q r b f;rcases back q r b f with⟨_,rfl⟩|⟨_,d⟩;.omega
   .have:=a.cw _ _ _ d;omega
 .intro s b D;obtain⟨i,l,j⟩:=a.box s b D;have B:∀q,¬q.slot->ω.set p (v.map λb=>(H.next,b)) q=ω q:=λq f=>aI.kV _ _ λe=>f (e▸w);exact⟨i,by grind[Pk.slot],j.keep a.inv o (bo.refl _) (aU.refl _) id λI r c x=>⟨by grind[Pk.slot],id⟩⟩
 .intro k F E;obtain⟨i,l,j,n⟩:=a.js k F E;have B:∀q,¬q.slot->ω.set p (v.map λb=>(H.next,b)) q=ω q:=λq f=>aI.kV _ _ λe=>f (e▸w);exact⟨i,l,by grind[Pk.slot],n.keep a.inv o (bo.refl _) (aU.refl _) id λI r c x=>⟨by grind[Pk.slot],id⟩⟩
theorem ND{c:ah Nat}(a:HR K φ ω H O.lb O.g)(y:bX K φ ω H tm O.sl)(h:aH O dst (.dv (.ay l e esz) (.ex e))=J st')(M:fl.wr=V)(w:gI K φ l esz 0 m)(L:(c=Z/\l.length*esz=m.length)\/c=J l.length):fK K φ ω H st' (gQ tm dst (.sl H.next 0 l.length c esz)) (H.cP m fl e):=by
 have E:(H.cP m fl e).get _=J _:=me H _;have T:(H.cP m fl e).bn H.next=(0,H.next):=A6 (H:=H) a.inv ab;have o:AO K φ (H.cP m fl e) H.next (.ay l e esz) (.sl H.next 0 l.length c esz) e:=by
   refine⟨l,_,_,0,c,m,fl,rfl,rfl,E,M,ai,ai,w,?_⟩;rcases L with⟨f,j⟩|f;.exact .inl ⟨f,ai,ab⟩
   .exact .inr f
 rcases yG h with⟨rfl,rfl⟩|⟨d,rfl,_,hr,rfl⟩
 . have n:=P4 (m:=m) (fl:=fl) (e:=e) (p:=.tp 0 0) (v:=Z) a trivial;have N:bX K φ ω (H.cP m fl e) tm _:=λt R w=>by obtain⟨A,f,j,q⟩:=y t R w;exact⟨A,f,j,q.keep a.inv (jY H _ _) (bo.refl _) (aU.refl _) (λ_ _ _ _ h=>⟨h,id⟩) aT aT aT⟩
   have S:HR K φ ω (H.cP m fl e) st'.lb st'.g:=by
     have B:=n.inv;have u:bQ (λ_=>False) H (H.cP m fl e):=jY H _ _;refine⟨B,n.dk,a.inj,λp r id x g z=>?_,λp r b g=>Nat.lt_succ_of_lt (a.cw p r b g),λs b G=>?_,λk Q P=>?_,a.nu,n.gV⟩
     . obtain⟨cells,D⟩:=x;obtain⟨U,F,g1,_⟩:=a.dk id _ D z;have hr:rootOf (H.cP m fl e) id=rootOf H id:=by unfold rootOf;rw[u.get id (a.inv.get _ _ g1) (λh=>h)]
       rw[hr];exact a.clean p r id _ g z
     .obtain⟨i,f,j⟩:=a.box s b G;exact⟨i,f,j.keep a.inv u (bo.refl _) (aU.refl _) id λI r c x=>⟨x,id⟩⟩
     .obtain⟨i,f,j,q⟩:=a.js k Q P;exact⟨i,f,j,q.keep a.inv u (bo.refl _) (aU.refl _) id λI r c x=>⟨x,id⟩⟩
   exact⟨K,φ,ω,bo.refl _,a.fV (jY H _ (λ_=>False)),aU.refl _,S,N,jY H _ _,λp r b g=>.inl ⟨p,b,g⟩⟩
 . have n:=P4 (m:=m) (fl:=fl) (e:=e) (p:=.sl d) (v:=J V) a trivial;refine⟨K,φ,_,bo.refl _,a.fV (jY H _ (λ_=>False)),aU.refl _,n,?_,jY H _ _,λp r b g=>?_⟩;.refine w9 a.inv y (jY H _ _) (bo.refl _) (aU.refl _) (λp r b _ j _ h=>⟨by grind[aI.kV],id⟩) (λs i b h=>by grind[aI.kV]) aT aT ?_;exact .inr ⟨_,by simp[aI.nC],o⟩
   . by_cases e1:p=.sl d;.grind[aI.nC]
     .rw[aI.kV _ _ e1]at g;exact .inl ⟨p,b,g⟩
theorem ahR{c:aJ}{n:Nat}(b:bG K φ z.flat c)(s:∀x,x∈z.flat->x.aV=V)(m:z.flat.length=n)(f:0<n)(l:Nat):gI K φ (lW l z) n 0 (jA l c):=by
 have k:c.length=n:=by rw[<-b.1];omega
 refine⟨f,by grind[FJ],λi x g=>?_,λi x j d a g hd h=>?_⟩;.grind
 . obtain⟨hi,rfl⟩:i<l/\z=x:=by grind
   have e:j<n:=ai;have U:i*n+j<l*n:=by have:(i+1)*n<=l*n:=lD _ hi;grind
   rw[iZ,YG _ _ _ ai,k]at h;rw[Nat.mul_comm,Nat.mul_add_mod,Nat.mod_eq_of_lt e]at h;exact b.2 j d a hd h
theorem arG{c:Nat}{z:Bool}:∀(f:List (Nat×DV))(s:List (Nat×AV))(l d:aq)(m:aJ),nL (λ(l:aq)(p:Nat×DV)=>bif cm p.1 l.length&&(aw p.2.flat.length c&&(p.2.aV==z))then J (iC l p.1 p.2)else Z) f l=J d->gI K φ l c 0 m->f.length=s.length->(∀(i:Nat)(p:Nat×DV)(q:Nat×AV),f[i]?=J p->s[i]?=J q->p.1=q.1/\DR K φ p.2 q.2)->∃e,zG (λi=>J (iR i c,c)) s m=J e/\gI K φ d c 0 e/\d.length=l.length/\e.length=m.length:=by intro f;induction f with
 |nil=>
 intro s l d m h r o _;rcases s with _|⟨q,s⟩;.obtain rfl:=bt (show J l=J d from h);exact⟨m,rfl,r,rfl,rfl⟩
 grind|cons p f t=>
 intro s l d m h r o j;rcases s with _|⟨q,s⟩;.grind
 obtain⟨e1,e2⟩:=j 0 p q rfl rfl;rw[Ht]at h;obtain⟨l1,E,h⟩:=aF h;rcases g:(cm p.1 l.length&&(aw p.2.flat.length c&&(p.2.aV==z)))with _|_;.grind
 rw[g]at E;cases E;simp only[gD,eK,bE,gZ]at g;obtain⟨w,u,_⟩:=g;obtain⟨vs,I,v,A⟩:=e2.cells;have G:l[p.1]?=J l[p.1]:=dD w;have L:=(r.2.2.1 _ _ G).1;obtain⟨r1,r2⟩:=r.set (k0:=0) (n:=c) (el':=p.2) G (by grind[km]) u ab v A;simp only[iZ,tQ]at r1 r2;obtain⟨e,B,k,D,F⟩:=t s _ d _ h r1 ai λi a b x y=>j (i+1) a b ai ai;have H:vs.length=c:=by rw[<-v.1];omega
 refine⟨e,?_,k,by grind[MH],by grind[yJ]⟩;show((J _).bind _).bind (zG (λi=>J (iR i c,c)) s)=J e;grind[dS,dg]
theorem alX(F:du P K φ ao)(g:HR K φ ω H O.lb O.g)(s:bX K φ ω H tm O.sl){b:Nat}{r:Array (Nat×aK)}(u:o.op=.buildSlice t b r)(L:∀p,p∈r.toList->jG O p.2)(h:dB P ao fk gs cr later O o=J st'):eO P ak rec cf K φ ω H st0 O st' tm o:=by
 unfold dB at h;rw[u]at h;simp only at h;split at h;.rename_i elem X;obtain⟨n,oH,h⟩:=aF h;cases D:(aw n 0||!(br (b*n) 16777216))with|true=>grind|false=>
  rw[D]at h;obtain⟨R,N,h⟩:=aF h;obtain⟨z,M,h⟩:=aF h;rw[bE]at h;by_cases v:z.flat.length=n
  . simp only[v,dM,aR]at h;obtain⟨l,I,h⟩:=aF h;obtain⟨m,Y,w,Q⟩:=Nf K φ M;obtain⟨T,q1,S,q3⟩:=Ma F s _ _ L N;have U:0<n:=by grind
    obtain⟨c,f1,f2,f3,f4⟩:=arG R T _ _ _ I (ahR w Q v U _) S q3;have W:m.length=n:=by rw[<-w.1];omega
    obtain⟨g1,g2,g3,_⟩:=mW h;have f:fK K φ ω H st' (gQ tm o.dst (.sl H.next 0 l.length (J l.length) n)) (H.cP c .ex elem):=by cases E:(aw b 0&&CA gs o.dst)with|false=>rw[E]at h;exact ND g s h rfl f2 (.inr rfl)|true=>rw[E]at h;refine Z1 g s h (.ay l elem n H.next 0 _ c (by simp[aX.add]) U f2.2.1 (λk G=>by cases G;omega) f2.2.2.1 λi x j d a y A B=>(f2.2.2.2 i x j d a y A B).mono (aX.AR (P6 (m:=c) (fl:=.ex) (e:=elem) g).1) (aU.refl _)) (.inr ⟨⟨_,_,_,_,rfl⟩,_,rfl⟩) aO
    refine⟨_,H.cP c .ex _,?_,g1,f,g2,g3,EW _ _ _ _⟩;unfold ff dX;rw[u];simp only[Gh];by_cases q:b=0;.have e1:aw 0 0=V:=rfl;have e2:jA 0 ([]:aJ)=jA 0 m:=rfl;grind
    grind[dS,bE]
  grind
 grind
def As(s i:Nat)(d:ah Nat):Pk->ah Pk:=λp=>if(∃k,d=J k/\p=.sl k)then J (.tp s i)else if p=.tp s i then Z else J p
theorem aIC(s i:Nat)(d:ah Nat):Src (As s i d)where
 inj:=λp q y b a=>by
  unfold As at b a;by_cases e:∃k,d=J k/\p=.sl k
  . rw[if_pos e]at b;cases b;obtain⟨k,f,rfl⟩:=e;by_cases c:∃k,d=J k/\q=.sl k;.obtain⟨g,A,rfl⟩:=c;rw[f]at A;cases A;rfl
    . rw[if_neg c]at a;split at a;.simp at a
      .rename_i h;exact absurd (bt a) h
  . rw[if_neg e]at b;split at b;.simp at b
    . rename_i B;cases b;by_cases c:∃k,d=J k/\q=.sl k;.rw[if_pos c]at a;exact absurd (bt a).symm B
      . rw[if_neg c]at a;split at a;.simp at a
        .exact(bt a).symm
 base:=λp b=>by unfold As;rw[if_neg (λ⟨k,_,h⟩=>b (by rw[h];trivial)),if_neg (λh=>b (by rw[h];trivial))]
theorem aID{s i:Nat}{d:ah Nat}(h:∀k,d=J k->p≠.sl k)(a:p≠.tp s i):As s i d p=J p:=by grind[As]
theorem aIE(s i d:Nat):As s i (J d) (.sl d)=J (.tp s i):=by simp[As]
def Iw(x:DV×aM):DV×aM:=match x.2 with|.ex _=>(.jk,.no)|_=>(x.1,.no)
theorem ay3{q:Pk}{x:DV×aM}(h:cN K φ ω H p x.1 a x.2):cN K φ ω' H q (Iw x).1 a (Iw x).2:=by obtain⟨d,o⟩:=x;cases o with|no=>exact h|any=>obtain⟨b,c⟩:=h;subst b;subst c;exact .nl|full e=>exact h.1|ty e=>exact h.1|ex e=>exact cN.jk h
theorem arp(n:HR K φ ω H O.lb O.g)(G:bX K φ ω H tm O.sl){i:Nat}(X:o.op=.extract x i)(h:dB P ao fk gs cr later O o=J st'):eO P ak rec cf K φ ω H st0 O st' tm o:=by unfold dB at h;rw[X]at h;simp only at h;cases x with
 |tmp s=>simp only at h;cases F:look O.sl s with|none=>simp_all|some A=>rw[F]at h;cases A with
  |tp l=>
  simp only at h;obtain⟨x,L,h⟩:=aF h;obtain⟨a,B,a2,m,rfl,m1,M⟩:=G s _ F;have hi:i<l.length:=(List.getElem?_eq_some_iff.1 L).1;have g:m[i]?=J m[i]:=dD ab;have U:=M i x _ L g;have gh:AM.bB P tm (.tmp s)=J (.cM m):=ahc B aO;have he:dX P ak tm H o=J (.val m[i] H):=by simp_all[dX,Jr,wT,eZ]
  change aH {O with sl:=put O.sl s (.tp (l.take i++Iw x::l.drop (i+1)))} o.dst (.dv x.1 x.2)=J st' at h;obtain⟨f1,f2,f3,f4,f5⟩:=mW h;refine⟨m[i],H,by grind[ff],f1,?_,f2,f3,tP.refl _ _ _⟩;have T:∀j,(l.take i++Iw x::l.drop (i+1))[j]?=if j=i then J (Iw x)else l[j]?:=by grind
  have v:=n.of (aIC s i o.dst);have E:∀p r c,ω.of (As s i o.dst) p=J (r,c)->dL ω r\/H.next<=r:=λp r c w=>let⟨q,_,h⟩:=aI.iz w;.inl ⟨q,c,h⟩;have mid:∀(d:ah Nat),bX K φ (λp=>if(∃k,d=J k/\p=.sl k)then ω p else ω.of (As s i d) p) H tm (put O.sl s (.tp (l.take i++Iw x::l.drop (i+1)))):=by
    intro d;have z:∀p,p≠.tp s i->(if(∃k,d=J k/\p=Pk.sl k)then ω p else ω.of (As s i d) p)=ω p:=by
      intro p w;by_cases e:∃k,d=J k/\p=.sl k;.rw[if_pos e]
      .rw[if_neg e];unfold aI.of;rw[aID (λk u R=>e ⟨k,u,R⟩) w];rfl
    refine I8 n.inv G (bo.refl _) (λp r b f _ _ h=>by rw[z p (f i)];exact h) (λs=>by rw[z _ aO]) B (λ_=>aO) ?_;refine⟨m,rfl,?_,λj y c g D=>?_⟩;.rw[gJ,qa,dE,Jy,<-m1];omega
    . rw[T]at g;by_cases e:j=i;.rw[if_pos e]at g;cases g;subst e;obtain rfl:=bt (D.symm.trans (by assumption:m[j]?=J m[j]));exact ay3 U
      .rw[if_neg e]at g;refine(M j y c g D).uC ?_;exact z _ (by simp;exact e)
  rcases yG h with⟨f,rfl⟩|⟨d,f,_,hr,rfl⟩;.rw[f];rw[f]at v E;refine⟨K,φ,_,bo.refl _,n.fV (bQ.refl (λ_=>False) _),aU.refl _,v,?_,bQ.refl _ _,E⟩;have:=mid Z;intro t A Y;obtain⟨N,g1,g2,g3⟩:=this t A Y;refine⟨N,g1,g2,g3.keep (S:=λ_=>False) n.inv (bQ.refl _ _) (bo.refl _) (aU.refl _) (λp r c _ h=>⟨by rw[if_neg aO]at h;exact h,id⟩) (λs I i' Q _ h=>by rw[if_neg aO];exact h) (λ_ _=>rfl) (λ_ _ _ _ _=>id)⟩
  . rw[f];rw[f]at v E;refine⟨K,φ,_,bo.refl _,n.fV (bQ.refl (λ_=>False) _),aU.refl _,v,?_,bQ.refl _ _,E⟩;refine w9 (S:=λ_=>False) n.inv (mid (J d)) (bQ.refl _ _) (bo.refl _) (aU.refl _) (λp r c _ W _ h=>⟨?_,id⟩) (λs' i' Q h=>?_) (λ_ _ _=>id) (λ_=>U.qC) ?_;.rw[if_neg (λ⟨k,u,e⟩=>by cases u;exact W e)]at h;exact h
    .rw[if_neg (λ⟨k,u,e⟩=>by simp at e)];exact h
    .exact U.uC (by unfold aI.of;rw[aIE];rfl)|_=>simp at h
 |_=>simp at h
theorem wY(H:Heap)(i r:Nat)(o:b9):(H.put i r o).get i=J o:=Tr.lh _ _ _
theorem oO(H:Heap){i:Nat}(r:Nat)(o:b9)(h:j≠i):(H.put i r o).get j=H.get j:=Tr.jr _ _ (Ne.symm h)
theorem aFr(a:bg H){i:Nat}{c d:Nat}(g:H.get i=J (.map es c)):bg (H.put i r (.map fs d)):=by
 refine⟨λj o h=>?_,λj l b m e1 h=>?_,λj l b m e1 h=>?_,a.dp,a.bu⟩
 . by_cases e:j=i;.rw[e];exact a.get _ _ g
   .rw[oO H r _ e]at h;exact a.get j o h
 . by_cases e:j=i;.grind[wY]
   .rw[oO H r _ e]at h;exact a.root j l b _ e1 h
 . by_cases e:j=i;.grind[wY]
   .rw[oO H r _ e]at h;obtain⟨p,f,k,n⟩:=a.nZ j l b _ e1 h;grind[oO]
theorem aKv(u:oX H){i:Nat}{c d:Nat}(k:H.get i=J (.map es c)):oX (H.put i r (.map fs d)):=λj l b fl e h=>by
 by_cases a:j=i;.grind[wY]
 .rw[oO H r _ a]at h;obtain⟨m,f,g⟩:=u j l b fl e h;grind[oO]
theorem ahy{i:Nat}{c d:Nat}(h:H.get i=J (.map es c))(j:Nat):rootOf (H.put i r (.map fs d)) j=rootOf H j:=by grind[rootOf,wY,oO]
theorem ahx{i:Nat}{c d:Nat}(g:H.get i=J (.map es c)):bQ (λx=>x=i) H (H.put i r (.map fs d))where
 next:=bJ _
 get:=λj _ h=>oO H r _ (λx=>h (by subst x;unfold rootOf;rw[g]))
 dp:=λa _ h=>rfl
 root:=λj _=>ahy g j
theorem HR.aHH{f i:Nat}{es:List kX}{fs':List eF}{c:Nat}{y:GO}{d:Nat}(a:HR K φ ω H lb g)(M:φ f=J i)(F:ω (.g f)=J (i,V))(t:H.get i=J (.map fs c))(N:AE K φ ω (H.put i i (.map fs' d)) f y i):HR K φ ω (H.put i i (.map fs' d)) lb (g.set f y):=by
 have u:=ahx (r:=i) (fs:=fs') (d:=d) t;have B:∀q l b,q≠.g f->ω q=J (l,b)->¬l=i:=λq l b E h e=>by subst e;exact E (a.inj _ _ _ _ _ h F)
 refine⟨aFr a.inv t,λj cells e1 D=>?_,a.inj,λp r1 j x w m=>by rw[ahy t];exact a.clean p r1 j x w m,a.cw,λs b A=>?_,λk v n=>?_,λk L=>a.nu k L,aKv a.gV t⟩;.obtain⟨root,G,g1,g2⟩:=a.dk j cells e1 D;have:j≠i:=λe=>aT;exact⟨root,G,by grind[oO],g2⟩
 .obtain⟨j,m,o⟩:=a.box s b A;exact⟨j,m,o.keep (S:=λx=>x=i) a.inv u (bo.refl _) (aU.refl _) (B _ j V aO m) λI l c x=>⟨x,B _ l c aO x⟩⟩
 . have n:look (put g.sE f y) k=J v:=n;rw[lN]at n;by_cases e:k=f;.simp_all
   .rw[if_neg e]at n;obtain⟨j,m,o,z⟩:=a.js k v n;exact⟨j,m,o,z.keep (S:=λx=>x=i) a.inv u (bo.refl _) (aU.refl _) (B _ j V ai o) λI l c x=>⟨x,B _ l c aO x⟩⟩
theorem apj{ih:an->DV->DV->ah Bool}{x y:DV}{b:AV}(h:zD P ih t x y=J V)(d:C0 P t x=V)(e:DR K φ x a)(f:DR K φ y b):sameKey b a=V:=by
 unfold C0 at d;unfold zD at h;split at d;.rename_i c u;cases e;cases f<;>simp[u]at h;subst h;simp[sameKey,yE]
 .rename_i k n g u;cases e;cases f<;>simp[u]at h;obtain⟨rfl,h⟩:=h;rw[zC]at h;have:=vu h;subst this;simp[sameKey,yE,zC]
 .rename_i s u;cases e;cases f<;>simp[u]at h;rw[xN]at h;have:=vu h;subst this;simp[sameKey,yE,xN]
 .simp at d
theorem arR{k:DV}:∀(es:List kX)(i:Nat)(j:Nat)(x:kX),findD P t k es i=J (J (j,x))->gv P 50 t k x.1=J V:=by intro es;induction es with|nil=>simp[findD]|cons e es d=>intro i j x h;have a:((gv P 50 t k e.1).bind λb=>bif b then J (J (i,e))else findD P t k es (i+1))=J (J (j,x)):=h;obtain⟨b,c,a⟩:=aF a;grind
theorem az7(R:du P K φ ao)(u:HR K φ ω H O.lb O.g)(M:bX K φ ω H tm O.sl){k:aK}(L:o.op=.mapUpdate t x k y)(U:jG O k)(W:jG O y)(h:dB P ao fk gs cr later O o=J st'):eO P ak rec cf K φ ω H st0 O st' tm o:=by
 have hK:=u.sub;unfold dB at h;rw[L]at h;simp only at h;split at h;.rename_i Y et r hu m;obtain⟨a,a1,_,a3⟩:=nX (P:=P) R u M m;cases a3 with|map _ i hi=>
  split at h
  . rename_i es c KN;obtain⟨F,HQ,h⟩:=aF h;obtain⟨yv,Ut,h⟩:=aF h;obtain⟨b,b1,_,I⟩:=sF (P:=P) R M U HQ;obtain⟨v,v1,_,v3⟩:=sF (P:=P) R M W Ut;obtain⟨i',q1,N,q2⟩:=u.js _ _ KN;obtain rfl:i=i':=bt (hi.symm.trans q1);obtain⟨fs,p1,A,p3⟩:=q2;have hm:H.jL i=J (fs,c):=by unfold Heap.jL;rw[p1]
    by_cases B:sC P Y F=V
    . simp only[B,aR]at h;obtain⟨rr,pn,h⟩:=aF h;have KT:=afr B I;have he:dX P ak tm H o=(oF P Y b fs 0).bind λ|some (j,e)=>bif sameKey e.1 b then J (.val fo (H.put i i (.map (vp fs j (e.1,v,e.2.2)) c)))else Z|none=>J (.val fo (H.put i i (.map (dF fs [(b,v,c)]) (fg c)))):=by unfold dX;rw[L];simp only[DE];simp only[hu,a1,hm,b1,v1,KT,cQ,aR]<;>rfl
      have fin:∀{f:List eF}{s:List kX}{d:Nat},dX P ak tm H o=J (.val fo (H.put i i (.map f d)))->s.length=f.length->(∀(k:Nat)(x:kX)(y:eF),s[k]?=J x->f[k]?=J y->vW K φ x y)->aH {O with sl:=cK O.sl,g:=O.g.set r (.map s d)} o.dst (.tp [])=J st'->eO P ak rec cf K φ ω H st0 O st' tm o:=by
        intro f s d e1 e2 e3 e4;obtain⟨f1,f2,f3,_⟩:=mW e4;have z:=ahx (r:=i) (fs:=f) (d:=d) p1;have tc:=HR.aHH (es:=es) (fs':=f) (d:=d) (y:=.map s d) u hi N p1 ⟨f,wY _ _ _ _,e2,e3⟩;have kR:bX K φ ω (H.put i i (.map f d)) tm (cK O.sl):=xa (S:=λx=>x=i) u.inv M z (bo.refl _) (aU.refl _) (λp G b X h=>⟨h,λe=>by subst e;have:=u.inj _ _ _ _ _ h N;subst this;exact X.elim⟩) (λ_ _ _ h=>h);refine⟨fo,H.put i i (.map f d),by unfold ff;rw[e1];rfl,f1,?_,f2,f3,?_⟩;.exact fK.trans (H1:=H.put i i (.map f d)) (K1:=K) (φ1:=φ) (ω1:=ω) u.inv (bo.refl _) (u.fV z) (aU.refl _) (z.xg u.inv λG _ e=>⟨.g r,V,by rw[show G=i from e];exact N⟩) (λp r b X=>.inl ⟨p,b,X⟩) (Ca (O:={O with sl:=cK O.sl,g:=O.g.set r (.map s d)}) tc kR e4)
        . refine⟨rfl,λz=>absurd (by rw[L];rfl) z,λz=>absurd (by rw[L];rfl) z,λG hr=>?_,λG hr=>.inl hr⟩;have hr:G∈Heap.note H.bu i H.bT:=hr;rcases vn hr with h|⟨rfl,h⟩;.exact .inl h
          .exact .inr ⟨h,_,V,N⟩
      rcases acY I es fs 0 rr A (λj x y e1 e2=>p3 j x y e1 e2) pn with⟨rfl,g⟩|⟨j,x',y',rfl,g1,g2,_,g4,g5⟩
      . simp only at h;refine fin (f:=fs++[(b,v,c)]) (s:=es++[(F,yv,c)]) (d:=c+1) (by rw[he,g];simp only[cQ,kZ]) (by simp[A]) (λj x y m w=>?_) h;by_cases hj:j<es.length;.rw[mz hj]at m;rw[mz (by rw[<-A];exact hj)]at w;exact p3 j x y m w
        .rw[ov ab]at m;rw[ov ab,<-A]at w;cases D:j-es.length with|zero=>rw[D]at m w;cases m;cases w;exact⟨I,v3,rfl⟩|succ n=>rw[D]at m;simp at m
      . simp only at h;have E:F.aV=V:=by cases u:F.aV with|true=>rfl|false=>simp[u]at h
        rw[E]at h;simp only[aR]at h;have T:C0 P Y F=V:=by
          unfold sC at B;split at B;.simp[DV.aV]at E
          exact B
        have Pb:sameKey y'.1 b=V:=apj (ih:=gv P 49) (arR _ _ _ _ pn) T I g2.1;rw[Nat.sub_zero]at g4 g5;have pS:j<es.length:=(List.getElem?_eq_some_iff.1 g4).1;have eE:∀{α:Type}(l:List α)(v:α),j<l.length->∀q,(l.take j++v::l.drop (j+1))[q]?=if q=j then J v else l[q]?:=by
          intro α l v hl q;by_cases e:q=j;.subst e;rw[if_pos rfl,ov (by rw[qa];omega),qa,Nat.min_eq_left ab,Nat.sub_self];rfl
          . rw[if_neg e];by_cases bU:q<j;.rw[mz (by rw[qa];omega),v7 bU]
            .rw[ov (by rw[qa];omega),qa,Nat.min_eq_left ab];obtain⟨n,hn⟩:∃n,q-j=n+1:=⟨q-j-1,ab⟩;rw[hn,AJ,sS];congr 1;omega
        have Q:∀(l:List eF)(v:eF),vp l j v=l.take j++v::l.drop (j+1):=by intro l v;unfold vp;rw[kZ,pI,ql]
        refine fin (f:=fs.take j++(y'.1,v,y'.2.2)::fs.drop (j+1)) (s:=es.take j++(x'.1,yv,x'.2.2)::es.drop (j+1)) (d:=c) (by rw[he,g1];simp only[cQ,Pb,aR,Q]) ?_ (λq x y m w=>?_) h;.rw[gJ,gJ,qa,qa,dE,dE,Jy,Jy,A]
        . rw[eE _ _ pS]at m;rw[eE _ _ (by rw[<-A];exact pS)]at w;by_cases e:q=j;.rw[if_pos e]at m w;cases m;cases w;exact⟨g2.1,v3,g2.2.2⟩
          .rw[if_neg e]at m w;exact p3 q x y m w
    .simp[B]at h
  .simp at h
 .simp at h
theorem adD(i:bg H){q:Nat}{c:aJ}{e':an}(g:H.get q=J (.cells cl r fl e))(t:Nat)(k:Bool):bg (H.gM r t k c e'):=by
 have hid:=i.get q _ g;have hr:=(i.root _ _ _ _ _ g).1;refine⟨λj o h=>?_,λj l a v e1 h=>?_,λj l a v e1 h=>?_,λa f h=>?_,Nat.le_succ_of_le i.bu⟩
 . show j<H.next+1;by_cases n:j=H.next;.omega
   .rw[lg H r _ k c e' n]at h;have:=i.get j o h;omega
 . by_cases n:j=H.next;.grind[xU,zF]
   . rw[lg H r _ k c e' n]at h;obtain⟨s,p⟩:=i.root j l a _ e1 h;by_cases b:a=r;.subst b;rw[zF];have:=i.get j _ h;omega
     grind[Ho]
 . by_cases n:j=H.next;.subst n;rw[xU]at h;obtain⟨u,d,e2,p⟩:=i.nZ _ _ _ _ _ g;grind[lg]
   .rw[lg H r _ k c e' n]at h;have s:=(i.root j l a _ e1 h).1;have w:=i.get j _ h;obtain⟨u,d,e2,p⟩:=i.nZ j l a _ e1 h;grind[lg]
 . show a<H.next+1/\f.2<H.next+1;by_cases b:a=r;.have m:(H.gM a _ k c e').dp.get a=J (bif k then H.next else t,H.next):=Tr.lh _ _ _;grind
   .have m:(H.gM r t k c e').dp.get a=H.dp.get a:=Tr.jr _ _ (Ne.symm b);rw[m]at h;have:=i.dp a f h;omega
theorem ai3(i:bg H)(u:oX H){d:Nat}{c:aJ}(g:H.get d=J (.cells cl r fl e))(t:Nat)(k:Bool):oX (H.gM r t k c e):=λj l m o e1 h=>by
 by_cases n:j=H.next;.subst n;rw[xU]at h;obtain⟨_,rfl,_,rfl⟩:=b9.cells.inj (bt h);obtain⟨b,f,a⟩:=u _ _ _ _ _ g;exact⟨b,_,by rw[lg H _ _ _ _ _ (by have:=i.get _ _ a;omega)];omega⟩
 .rw[lg H r _ k c e n]at h;obtain⟨b,f,a⟩:=u j l m _ e1 h;exact⟨b,_,by rw[lg H _ _ _ _ _ (by have:=i.get _ _ a;omega)];omega⟩
theorem TC(r f:Nat)(k:Bool)(c:aJ)(e:an):bQ (λx=>x=r) H (H.gM r f k c e)where
 next:=JA _
 get:=λj h _=>lg H r f k c e ab
 dp:=λa _ h=>Ho H r f k c e h
 root:=λj h=>by unfold rootOf;rw[lg H r f k c e ab]
theorem atx(r f:Nat)(k:Bool)(c:aJ)(e:an)(h:j<H.next):rootOf (H.gM r f k c e) j=rootOf H j:=by grind[rootOf,lg]
theorem adC(a:HR K φ ω H lb g){F:Nat}{c:aJ}{v:Bool}(t:H.get F=J (.cells cl r fl e))(E:p.slot)(A:∀q b,ω q≠J (r,b))(Q:v=V->∀j x,K j=J x->rootOf H j≠r):HR K φ (ω.set p (J (r,v))) (H.gM r (H.bn r).1 C c e) lb g:=by
 have y:=TC (H:=H) r (H.bn r).1 C c e;have B:=adD (c:=c) (e':=e) a.inv t (H.bn r).1 C;have N:r<H.next:=by have:=(a.inv.root _ _ _ _ _ t).1;have:=a.inv.get _ _ t;omega
 have R:(H.gM r (H.bn r).1 C c e).next=H.next+1:=rfl;have back:∀q d b,ω.set p (J (r,v)) q=J (d,b)->(q=p/\d=r/\b=v)\/(q≠p/\ω q=J (d,b)):=by grind[aI.nC,aI.kV]
 have O:∀q,¬q.slot->ω.set p (J (r,v)) q=ω q:=λq m=>aI.kV _ _ λe=>m (e▸E);refine⟨B,?_,?_,?_,?_,?_,?_,a.nu,ai3 a.inv a.gV t _ _⟩;.intro j cells e1 h;obtain⟨d,D,g1,g2⟩:=a.dk j _ e1 h;have P:=a.inv.get _ _ g1;grind[lg,zF,Ho]
 . intro q M d b f n o;rcases back q d b n with⟨rfl,rfl,_⟩|⟨_,u⟩;.grind
   . rcases back M d f o with⟨_,rfl,_⟩|⟨_,l⟩;.grind
     .exact a.inj _ _ _ _ _ u l
 . intro q d j x m z;obtain⟨cells,e1⟩:=x;obtain⟨_,_,g1,_⟩:=a.dk j _ e1 z;rw[atx _ _ _ _ _ (a.inv.get _ _ g1)];rcases back q d _ m with⟨_,rfl,w⟩|⟨_,l⟩;.grind
   .exact a.clean q d j _ l z
 . intro q d b m;rcases back q d b m with⟨_,rfl,_⟩|⟨_,l⟩;.omega
   .have:=a.cw _ _ _ l;omega
 .intro s b w;obtain⟨i,n,o⟩:=a.box s b w;exact⟨i,by grind[Pk.slot],o.keep a.inv y (bo.refl _) (aU.refl _) ai λI d f x=>⟨by grind[Pk.slot],λe=>A _ f (e▸x)⟩⟩
 .intro k L G;obtain⟨i,n,o,u⟩:=a.js k L G;exact⟨i,n,by grind[Pk.slot],u.keep a.inv y (bo.refl _) (aU.refl _) ai λI d f x=>⟨by grind[Pk.slot],λe=>A _ f (e▸x)⟩⟩
theorem HR.Uy(a:HR K φ ω H lb g){i:Nat}(f:H.get i=J (.cells cl r fl e))(d:(H.bn r).1<=i)(n:K i=Z)(k:∀q,ω q≠J (r,V)):HR (K.add i (cl,e)) φ ω H lb g:=by
 refine a.uC (aX.AR n) aT (λj cells e1 h=>?_) a.inj (λp r1 j x c b=>?_) a.cw
 . unfold aX.add at h;by_cases x:j=i;.grind
   .rw[if_neg x]at h;exact a.dk j _ e1 h
 . unfold aX.add at b;by_cases y:j=i;.grind[lA]
   .rw[if_neg y]at b;exact a.clean p r1 j x c b
theorem gI.append{c:aJ}(h:gI K φ l esz I c)(k:gI K φ new esz 0 nc)(v:nc.length=new.length*esz):gI K φ (l++new) esz 0 ((c.drop I).take (l.length*esz)++nc)/\((c.drop I).take (l.length*esz)++nc).length=(l.length+new.length)*esz:=by
 obtain⟨f,n,o,p⟩:=h;obtain⟨q,r,s,g⟩:=k;have e:((c.drop I).take (l.length*esz)).length=l.length*esz:=ai;have U:((c.drop I).take (l.length*esz)++nc).length=(l.length+new.length)*esz:=ai;refine⟨⟨f,?_,λi x b=>?_,λi x j d a b hd m=>?_⟩,U⟩;.grind
 .grind
 . by_cases hi:i<l.length
   . rw[mz hi]at b;have u:j<esz:=ai;have t:i*esz+j<l.length*esz:=by have:(i+1)*esz<=l.length*esz:=lD _ hi;grind
     grind
   .rw[ov ab]at b;have E:l.length*esz<=i*esz:=lD _ ab;rw[iZ,ov ab,e]at m;refine g _ x j d a b hd ?_;grind[Nat.sub_mul]
theorem afI(R:du P K φ ao)(S:HR K φ ω H O.lb O.g)(U:bX K φ ω H tm O.sl){k:Nat}(u:bj ao O x=J v)(m:wR k v=J new):∃a,AM.bB P tm x=J a/\qA a=J new.length/\(0<k->(∀y,y∈new->y.flat.length=k)->∃nc,qo H k new.length a=J nc/\gI K φ new k 0 nc/\nc.length=new.length*k):=by
 have p:∀(l:aq)(e esz id I:Nat)(c:ah _)(cells:aJ)(r:Nat)(fl:fM)(B:an),gI K φ l esz I cells->H.get id=J (.cells cells r fl B)->(H.bn r).1<=id->∀w,0<w->(∀y,y∈l->y.flat.length=w)->∃nc,qo H w l.length (.sl id I l.length c esz)=J nc/\gI K φ l w 0 nc/\nc.length=l.length*w:=by
  intro l e esz id I c cells r fl B G L A w z kx;rcases l with _|⟨y,l⟩;.exact⟨[],rfl,⟨z,aO,λi x h=>ai,λi x j d a h=>ai⟩,aO⟩
  have F:esz=w:=by have D:=(G.2.2.1 0 y rfl).1;grind
  obtain⟨a1,a2,a3,a4⟩:=G;refine⟨(cells.drop I).take ((y::l).length*esz),?_,?_,ai⟩
  . unfold qo;have:aw (y::l).length 0=C:=by rfl
    simp only[this,bS,bE];unfold Heap.load;rw[NQ L A];grind[dg,dS,pI,ql]
  grind[gI]
 have dr:∀{a:AV},DR K φ v a->qA a=J new.length/\(0<k->(∀y,y∈new->y.flat.length=k)->∃nc,qo H k new.length a=J nc/\gI K φ new k 0 nc/\nc.length=new.length*k):=by
  intro a hd;unfold wR at m;split at m;.rename_i s;cases q:aw k 1 with|false=>rw[q]at m;simp at m|true=>
    rw[q]at m;cases m;rw[bE]at q;obtain rfl:=vu q;cases hd;have T:ym (λ(b:Nat)=>AV.int .u8 (.ofNat b)) (vL (s.map λb=>DV.int .u8 (.ofNat b)).length s)=s.map λb=>AV.int .u8 (.ofNat b):=by rw[pI,Ac,fZ,AL]
    refine⟨by simp[qA,dS],λ_ _=>⟨s.map λb=>AV.int .u8 (.ofNat b),?_,⟨Nat.one_pos,aO,λi x u=>?_,λi x j d a u hd E=>?_⟩,aO⟩⟩;.exact gY J T
    .rw[jo]at u;obtain⟨b,_,rfl⟩:=Option.map_eq_some_iff.1 u;exact⟨rfl,by simp[DV.flat,DV.aV]⟩
    . rw[jo]at u;obtain⟨b,q,rfl⟩:=Option.map_eq_some_iff.1 u;rcases j with _|j;.simp only[DV.flat,List.getElem?_cons_zero,xw]at hd;subst hd;simp only[Nat.mul_one,iZ,tQ,jo,q,gF,xw]at E;subst E;exact .int _ _
      .simp[DV.flat]at hd
  unfold PS at m;split at m;.cases m;cases hd;exact⟨rfl,λz _=>⟨[],rfl,⟨z,aO,λi x h=>ai,λi x j d a h=>ai⟩,aO⟩⟩
  .cases m;cases hd with|ay l e esz id I c cells g1 F q hc Y g=>obtain⟨r,fl,W,X⟩:=S.dk _ _ _ g1;exact⟨rfl,p _ 0 _ _ _ _ _ _ _ _ ⟨F,q,Y,g⟩ W X _⟩
  grind
 obtain⟨sv,D,M⟩:=aF u;obtain⟨a,N,h4,Q⟩:=qD R U D;refine⟨a,N,?_⟩;cases sv with
 |dv d o=>
  obtain rfl:=bt (show J d=J v from M);rcases Q with⟨t,_,_,_,n⟩|⟨_,⟨d2,e,n⟩|⟨d2,f,_,e1,e2,n⟩|⟨g,l,cells,e,e1,_⟩⟩;.cases o with|no=>exact dr n|any=>obtain⟨rfl,rfl⟩:=n;exact dr .nl|full e=>exact dr n.1|ty e=>exact dr n.1|ex e=>
    rcases n with⟨rfl,rfl⟩|⟨r,_,n⟩;.exact dr .nl
    .obtain⟨l,esz,id,I,c,cells,fl,rfl,rfl,g3,g4,g5,g6,g7,_⟩:=n.ex;obtain rfl:=bt (show J l=J new from m);exact⟨rfl,p _ 0 _ _ _ _ _ _ _ _ g7 g3 g5 _⟩
  all_goals grind|_=>grind[Cp]
end
section
variable{P:aG}{ak:cg}{rec:Rec}{cf:bR}{K K':aX}{φ ψ:ch}{ω ω':aI}{H H':Heap}{S:Nat->Prop}
variable{ao:Nat->ah aq}{gs cr:aD}{fk:bV->Nat}{later:List aB}{st0 O st':St}{tm:Tr AV}{o:aB}
theorem abX:∀(l:aq)(m:aJ),gI K φ l esz 0 m->m.length=l.length*esz->bG K φ (l.flatMap DV.flat) m/\∀x,x∈l.flatMap DV.flat->x.aV=V:=by intro l;induction l with|nil=>intro m _ c;obtain rfl:m=[]:=ZS (by simpa using c);exact⟨bG.nil,aO⟩|cons x l n=>
 intro m h c;obtain⟨g,o,e,f⟩:=h;obtain⟨x1,x2⟩:=e 0 x rfl;have X:m.length=l.length*esz+esz:=by rw[c,dE,Nat.succ_mul]
 have t:=n (m.drop esz) ⟨g,by rw[Jy];omega,λi y b=>e (i+1) y (by simpa using b),λi y j d a e1 e2 e3=>f (i+1) y j d a (by simpa using e1) e2 (by rw[sS]at e3;rw[<-e3];congr 1;rw[Nat.succ_mul];omega)⟩ (by rw[Jy];omega);have hd:bG K φ x.flat (m.take esz):=⟨by rw[qa,x1];omega,λj d a e1 e2=>f 0 x j d a rfl e1 (by
 have k:j<esz:=by rw[<-x1];exact(List.getElem?_eq_some_iff.1 e1).1
 rw[v7 k]at e2;rw[<-e2];congr 1;omega)⟩;refine⟨?_,λy b=>?_⟩;.rw[B5,<-GC esz m];exact hd.append t.1
 .rw[B5,AK]at b;exact b.elim (x2 y) (t.2 y)
theorem newRow{s:aq}{n:Nat}{c:ah Nat}(a:HR K φ ω H O.lb O.g)(I:bX K φ ω H tm O.sl)(N:fl.wr=V)(G:bG K φ s m)(M:∀x,x∈s->x.aV=V)(E:∀k,c=J k->n<=k)(h:aH {O with g:=O.g.alloc (.box ⟨s,[(s.length,.full e)]⟩)} dst (.dv (.cV O.g.next 0 n e esz) .no)=J st'):fK K φ ω H st' (gQ tm dst (.sl H.next 0 n c esz)) (H.cP m fl e):=by
 obtain⟨_,_,_,f4⟩:=mW h;have w:bg (H.cP m fl e):=we a.inv _ (λl r fl Q g=>ai);obtain⟨o,ω',u,z,A,B,R,D⟩:=P5 (y:=.box _) a w (lA (me H _)) λo ω' f i=>aaO (.inr rfl) a.inv N (G.mono (bo.refl _) f) M i;have L:bX K _ _ (H.cP m fl e) tm _:=λt P F=>by obtain⟨v,g1,g2,g3⟩:=I t P F;refine⟨v,g1,g2,g3.keep a.inv (jY H _ _) (bo.refl _) u (λp r b d x=>⟨B p r b ?_ x,id⟩) aT aT aT⟩;rcases d with rfl|⟨j,rfl⟩<;>trivial
 exact fK.trans a.inv (bo.refl _) (a.fV (jY H _ (λ_=>False))) u (jY H _ _) (λp r b d=>by
 rcases D p r b d with⟨q,h⟩|rfl;.exact .inl ⟨q,b,h⟩
 omega) (AS (O:={O with g:=O.g.alloc _}) A L h (DR.cV _ _ _ _ _ _ _ z E))
theorem az2(g:du P K φ ao)(a:HR K φ ω H O.lb O.g)(s:bX K φ ω H tm O.sl){l c:aK}(f:o.op=.makeSlice t l c)(h:dB P ao fk gs cr later O o=J st'):eO P ak rec cf K φ ω H st0 O st' tm o:=by
 unfold dB at h;rw[f]at h;simp only at h;split at h
 . rename_i elem k1 n k2 m E D A;obtain⟨lv,l1,_,l3⟩:=nX (P:=P) g a s D;obtain⟨N,y,_,c3⟩:=nX (P:=P) g a s A;cases l3;cases c3;split at h;.rename_i i z hi F;cases b:(!(aw i.size 0)&&aw n m&&aw z.flat.length i.size&&br (m*i.bytes) bl&&br m bl&&CA gs o.dst)with|false=>rw[b]at h;simp at h|true=>
    rw[b]at h;simp only[aR]at h;simp only[gD,Nj,bE,dg,gZ,qj]at b;obtain⟨⟨⟨⟨⟨r,u⟩,v⟩,w⟩,x⟩,_⟩:=b;subst u;obtain⟨d,L,p,M⟩:=Nf K φ F;have S:0<i.size:=ab;have G:=ahR p M v S n;have j:d.length=i.size:=by rw[<-p.1];omega
    have q:(jA n d).length=(lW n z).length*i.size:=by rw[FJ,j,v8]
    obtain⟨e1,e2⟩:=abX _ _ G q;obtain⟨f1,f2,f3,_⟩:=mW h;refine⟨.sl H.next 0 n (J n) i.size,H.cP (jA n d) .ex elem,?_,f1,newRow a s rfl e1 e2 (λk B=>by cases B;omega) h,f2,f3,EW _ _ _ _⟩;unfold ff dX;rw[f];simp only[Gn];have I:(!(aw i.size 0)&&(br n n&&(br (iR n i.bytes) bl&&br n bl)))=V:=by simp only[gD,Nj,bE,dg,gZ,qj];exact⟨r,bJ _,w,x⟩
    simp only[E,hi,l1,y,I,aR];cases e:aw n 0 with|true=>rw[bE]at e;obtain rfl:=vu e;rfl|false=>simp only[bS,L,cQ,vR,dS,j,bE,dM,aR]
   .simp at h
 .simp at h
end
section
variable{P:aG}{ak:cg}{rec:Rec}{cf:bR}{K K' K1:aX}{φ ψ:ch}{ω ω' ω0:aI}{H H':Heap}{S:Nat->Prop}
variable{gs cr:aD}{fk:bV->Nat}{later:List aB}{st0 O st':St}{tm:Tr AV}{o:aB}{ao:Nat->ah aq}
theorem RP{d:Nat}{v:Bool}{x:DV}{l:cT}(g:bg H)(m:bX K φ ω H tm l)(j:O.sl=cK l)(h:aH O (J d) (.dv x ow)=J st')(c:bo K K1)(k:bQ S H H')(n:HR K1 φ (ω.set (.sl d) (J (r,v))) H' O.lb O.g)(w:∀p r b,p.slot->ω p=J (r,b)->¬S r)(t:a≠.top)(o:cN K1 φ (ω.set (.sl d) (J (r,v))) H' (.sl d) x a ow)(I:sQ ω0 H H' K K1)(R:bQ (dL ω0) H H')(z:dL ω0 r\/H.next<=r)(B:∀p r b,ω p=J (r,b)->dL ω0 r):fK K φ ω0 H st' (tm.ins d a) H':=by
 rcases yG h with⟨e,_⟩|⟨q,e,_,_,rfl⟩;.grind
 . cases e;have f:=xa g m k c (aU.refl _) ai (λ_ _ _ h=>h);refine⟨K1,φ,_,c,I,aU.refl _,n,?_,R,λp A b y=>?_⟩;.rw[j];exact w9 n.inv f (bQ.refl _ _) (bo.refl _) (aU.refl _) (λp r b _ u _ h=>⟨by grind[aI.kV],id⟩) (λs i b h=>by grind[aI.kV]) aT (λ_=>t) o
   grind[aI.nC,aI.kV]
theorem Mt(l:ah Nat):Src (rM l):=match l with|some t=>Y2 t|none=>⟨λp q x h a=>by rw[bt h,bt a],λp _=>rfl⟩
theorem akC{b n:Nat}(h:0<esz)(a:0<n)(r:(br (n*b) bl&&br n bl)=V):nd H elem esz b .bC nc n=J (.sl H.next 0 n Z esz,H.cP nc .op elem):=by grind[nd,AY]
theorem akD{b:Nat}(h:0<esz):nd H elem esz b .bC nc 0=J (.bC,H):=by grind[nd,aw,AY]
theorem Z'{b i l:Nat}{c:ah Nat}(h:0<esz)(r:(br ((l+0)*b) bl&&br (l+0) bl)=V):nd H elem esz b (.sl i I l c esz) nc 0=J (.sl i I l c esz,H):=by grind[nd,AY,JO]
theorem NG{bytes i l n:Nat}(a:0<esz)(b:0<n)(c:(br ((l+n)*bytes) bl&&br (l+n) bl)=V)(g:H.get i=J (.cells cl r fl e))(h:(H.bn r).1<=i):nd H elem esz bytes (.sl i I l (J l) esz) nc n=J (.sl H.next 0 (l+n) Z esz,H.cP ((cl.drop I).take (l*esz)++nc) .op elem):=by grind[nd,AY,JO,dg,kZ,pI,ql]
theorem Z9{b i l n:Nat}(h:0<esz)(a:0<n)(d:(br ((l+n)*b) bl&&br (l+n) bl)=V)(g:H.get i=J (.cells cl r fl elem))(w:fl.wr=V)(e:(H.bn r).1<=i)(c:(H.bn r).2=i)(E:I+l*esz=cl.length):nd H elem esz b (.sl i I l Z esz) nc n=J (.sl H.next 0 (l+n) Z esz,H.gM r (H.bn r).1 C ((cl.drop I).take (l*esz)++nc) elem):=by unfold nd;have S:=Nat.mul_pos a h;grind[dg,dS,bE,eK,kZ,pI,ql]
theorem Z8{a:Array an}{i:TypeInfo}{s x r:AV}{n:Nat}(d:a[0]?.bind P.underlying=J (.slice elem))(h:(∃e2,a[1]?.bind P.underlying=J (.slice e2))\/a[1]?.bind P.underlying=J .string)(g:P.info? elem=J i)(b:cI P elem=J z)(k:z.flat.length=i.size)(l:qA x=J n)(f:qo H i.size n x=J nc)(e:nd H elem i.size i.bytes s nc n=J (r,H')):im P H .append a [s,x]=J (r,H'):=by
 obtain⟨m,o,c,_⟩:=Nf (λ_=>Z) (λ_=>Z) b;have j:aw (eM m) i.size=V:=by rw[dS,<-c.1,k];simp_all
 rcases h with⟨_,h⟩|h;all_goals simp_all[im]
def FX(l:ah Nat)(d:Nat):Pk->ah Pk:=match l with|some t=>tI t d|none=>J
theorem aIB(l:ah Nat)(d:Nat):Src (FX l d):=match l with|some t=>aiz t d|none=>Mt Z
theorem abS{i:Nat}{c:aJ}(h:gI K φ L esz 0 c)(a:K i=J (c,e)):DR K φ (.ay L e esz) (.sl i 0 L.length Z esz):=.ay L e esz i 0 Z c a h.1 h.2.1 (λk h=>ai) h.2.2.1 h.2.2.2
theorem ae4{i:Nat}{y:aJ×an}{a:aI}(b:HR (K.add i y) φ a H' lb g)(e:HR K φ ω H O.lb O.g)(h:dL ω0 (rootOf H' i)\/H.next<=rootOf H' i):sQ ω0 H H' K (K.add i y):=λj x d=>by obtain⟨cells,t⟩:=x;obtain⟨r,fl,c,_⟩:=b.dk j _ t d;refine⟨b.inv.get _ _ c,?_⟩;grind[aX.add]
theorem aki{d:Nat}{c:aJ}{s:cT}(a:HR K φ ω H O.lb O.g)(o:bX K φ ω H tm s)(j:O.sl=cK s)(h:aH O (J d) (.dv (.ay L e esz) (.ty e))=J st')(G:gI K φ L esz 0 c)(l:L.length*esz=c.length)(B:∀p r b,ω p=J (r,b)->dL ω0 r):fK K φ ω0 H st' (tm.ins d (.sl H.next 0 L.length Z esz)) (H.cP c .op e):=by
 have n:=(P6 (m:=c) (fl:=.op) (e:=e) a).1;have E:(H.cP _ _ e).get _=J (.cells c _ .op e):=me H _;have t:(H.cP c .op e).bn H.next=(0,H.next):=A6 (H:=H) a.inv ab;have k:=P4 (m:=c) (fl:=.op) (e:=e) (p:=.sl d) (v:=J C) a trivial;have f:=k.Uy E ai n (λq i=>by
 by_cases e1:q=.sl d;.grind[aI.nC]
 .rw[aI.kV _ _ e1]at i;have:=a.cw _ _ _ i;omega);have g:bo K (K.add _ (c,e)):=aX.AR n;refine RP a.inv o j h g (jY H _ _) f (λ_ _ _ _ _=>id) aO ?_ (ae4 f a (.inr (by grind[lA]))) (jY H _ _) ab B;refine⟨abS (G.mono g (aU.refl _)) (by simp[aX.add]),.inr ⟨_,_,by rw[aI.nC],⟨_,0,_,_,_,_,_,rfl,E,rfl,ai,ai,.inl ⟨rfl,ai,ab⟩⟩⟩⟩
theorem Z0{d:Nat}{l:aJ}{i:Nat}{x:Bool}{F:cT}(a:HR K φ ω H O.lb O.g)(B:bX K φ ω H tm F)(s:O.sl=cK F)(h:aH O (J d) (.dv (.ay L e esz) (bif x then .ex e else .ty e))=J st')(g:H.get i=J (.cells cl r fl e))(M:(H.bn r).1<=i)(P:(H.bn r).2=i)(G:gI K φ L esz 0 l)(w:L.length*esz=l.length)(n:∀q b,ω q≠J (r,b))(U:x=V->∀j y,K j=J y->rootOf H j≠r)(A:dL ω0 r)(D:∀p r b,ω p=J (r,b)->dL ω0 r):fK K φ ω0 H st' (tm.ins d (.sl H.next 0 L.length Z esz)) (H.gM r (H.bn r).1 C l e):=by have hid:=a.inv.get _ _ g;have z:=(P6 (m:=l) (fl:=.op) (e:=e) a).1;have E:(H.gM r (H.bn r).1 C _ e).get _=J (.cells l r _ e):=xU ..;have N:(H.gM r _ C l e).bn r=((H.bn r).1,H.next):=zF ..;have I:Gu (H.gM r (H.bn r).1 C l e) H.next 0 L.length esz r _ l:=.inl ⟨rfl,ai,ab⟩;have T:((H.gM r (H.bn r).1 C l e).bn r).1<=H.next:=ai;have k:=TC (H:=H) r (H.bn r).1 C l e;have R:bQ (dL ω0) H _:=k.xg a.inv λo _ e=>ai;have S:∀p o b,p.slot->ω p=J _->¬o=r:=λp o b _ h e=>n p b (e▸h);cases x with|true=>have f:=adC (c:=l) (p:=.sl d) (v:=V) a g trivial n ab;refine RP a.inv B s h (bo.refl _) k f S aO ?_ (a.fV k) R (.inl A) D;exact .inr ⟨r,aI.nC _ _ _,⟨L,_,_,0,_,_,_,rfl,rfl,E,rfl,T,ai,G,I⟩⟩|false=>have f:=adC (c:=l) (p:=.sl d) (v:=C) a g trivial n ab;have t:=f.Uy E T z (λq Q=>by grind[aI.nC,aI.kV]);have u:bo K (K.add _ (l,e)):=aX.AR z;refine RP a.inv B s h u k t S aO ?_ (ae4 t a (.inl (by grind[lA]))) R (.inl A) D;exact⟨abS (G.mono u (aU.refl _)) (by simp[aX.add]),.inr ⟨r,_,by rw[aI.nC],⟨_,0,_,_,_,_,_,rfl,E,rfl,T,ai,I⟩⟩⟩
theorem akP(B:du P K φ ao)(a:HR K φ ω H O.lb O.g)(D:bX K φ ω H tm O.sl){c:Call}(ho:o.op=.call c)(hc:c.callee=.builtin .append)(jK:c.args.toList=[s,x]){i:TypeInfo}{d:DV}(nT:c.argTypes[0]?.bind P.underlying=J (.slice elem))(qu:(∃e2,c.argTypes[1]?.bind P.underlying=J (.slice e2))\/c.argTypes[1]?.bind P.underlying=J .string)(hi:P.info? elem=J i)(hz:cI P elem=J z)(kh:z.flat.length=i.size)(R:cR ao O s=J (.dv d ow))(ji:bj ao O x=J v)(mf:wR i.size v=J new)(kx:∀y,y∈new->y.flat.length=i.size)(E:qH gs o.dst d ow new=V)(h:(bif V then(fB elem i.size i.bytes d ow new).bind λ_=>aH {aQ leave O s with sl:=cK (aQ leave O s).sl,g:=O.g.alloc (.box ⟨new.flatMap DV.flat,[((new.flatMap DV.flat).length,.full elem)]⟩)} o.dst (.dv (.cV O.g.next 0 new.length elem i.size) .no)else(fB elem i.size i.bytes d ow new).bind λr=>bif o.dst.isSome then aH {aQ leave O s with sl:=cK (aQ leave O s).sl} o.dst (.dv r.1 r.2)else Z)=J st'):eO P ak rec cf K φ ω H st0 O st' tm o:=by
 simp only[aR]at h;unfold qH at E;split at E
 . rename_i e0 e e1 f F;obtain⟨r,hr,w⟩:=aF h;clear h;obtain⟨ax,x1,x2,x3⟩:=afI (P:=P) B a D ji mf;obtain⟨aS,lv,pv,s1,s2,m,s4,s5⟩:=PO (P:=P) B a D R;obtain⟨mJ,xR,X,u⟩:=BB leave O s;have eV:=a.of (Mt lv);have kB:∀p r b,ω.of (rM lv) p=J (r,b)->dL ω r:=λp r b k=>let⟨q,_,h⟩:=aI.iz k;⟨q,b,h⟩;have U:bX K φ (ω.of (rM lv)) H tm (cK (aQ leave O s).sl):=xa (S:=λ_=>False) a.inv s5 (bQ.refl _ _) (bo.refl _) (aU.refl _) (λ_ _ _ _ h=>⟨h,id⟩) (λ_ _ _ h=>h);have Y:cu (AM.bB P tm) c.args.toList=J [aS,ax]:=by rw[jK];show((AM.bB P tm s).bind λb=>((AM.bB P tm x).bind λb=>(J []:ah aJ).bind λt=>J (b::t)).bind λt=>J (b::t))=_;simp_all
   have tr:∀{N:Tr AV}{n:Heap},fK K φ (ω.of (rM lv)) H st' N n->fK K φ ω H st' N n:=λh=>fK.trans a.inv (bo.refl _) (a.fV (bQ.refl (λ_=>False) _)) (aU.refl _) (bQ.refl _ _) (λp r b k=>.inl (kB p r b k)) h;unfold fB at hr;cases A:aw i.size 0 with|true=>rw[A]at hr;simp at hr|false=>
   rw[A]at hr;simp only[bS]at hr;have L:0<i.size:=by grind[bE]
   obtain⟨nc,n1,n2,n3⟩:=x3 L kx;rw[bE,bE]at hr;by_cases iw:e=i.size
   . by_cases jV:e0=elem;.cases G:(br ((([]:aq).length+(f::F).length)*i.bytes) bl&&br (([]:aq).length+(f::F).length) bl)with|false=>rw[G]at hr;simp at hr|true=>subst iw;subst jV;obtain⟨m,qy,dj,afG,pP,hA⟩:=m;cases m with|ay _ _ _ id I cc cells k1 k2 k3 k4 k5 k6=>
      obtain⟨_,_,hl,M,_⟩:=AV.sl.inj hA;have M:cc=J ([]:aq).length:=ai;subst M;obtain⟨root,Tp,i1,i2⟩:=a.dk _ _ _ k1;obtain⟨j,T⟩:=abX _ _ n2 n3;have Q:=NG (H:=H) (elem:=e0) (bytes:=i.bytes) (nc:=nc) (I:=I) L (by simp:0<(f::F).length) G i1 i2;obtain⟨g1,g2,g3,_⟩:=mW w;have W:(cells.drop I).take (([]:aq).length*i.size)++nc=nc:=aO;have l:([]:aq).length+(f::F).length=(f::F).length:=aO;rw[W,l]at Q;refine⟨.sl H.next 0 (f::F).length Z i.size,H.cP nc .op e0,?_,λt ht=>by have:=g1 t ht;simp_all,tr ?_,aT,aT,EW _ _ _ _⟩;.unfold ff;rw[Ct ho hc ⟨aO,aO⟩ Y (Z8 nT qu hi hz kh x2 n1 Q)];rfl
      .exact newRow (O:={aQ leave O s with sl:=cK (aQ leave O s).sl}) (by rw[X,u];exact eV) U rfl j T aO (by rw[u];exact w)
     .simp_all
   .simp_all
 .simp at E
theorem aah(hg:du P K φ ao)(k:HR K φ ω H O.lb O.g)(hs:bX K φ ω H tm O.sl){c:Call}(ho:o.op=.call c)(hc:c.callee=.builtin .append)(jK:c.args.toList=[s,x]){i:TypeInfo}{d:DV}(nT:c.argTypes[0]?.bind P.underlying=J (.slice elem))(qu:(∃e2,c.argTypes[1]?.bind P.underlying=J (.slice e2))\/c.argTypes[1]?.bind P.underlying=J .string)(hi:P.info? elem=J i)(hz:cI P elem=J z)(CR:cR ao O s=J (.dv d ow))(ji:bj ao O x=J v)(h:(bif aw z.flat.length i.size then(wR i.size v).bind λnew=>bif new.all (λy=>aw y.flat.length i.size)then bif qH gs o.dst d ow new then(fB elem i.size i.bytes d ow new).bind λ_=>aH {aQ leave O s with sl:=cK (aQ leave O s).sl,g:=O.g.alloc (.box ⟨new.flatMap DV.flat,[((new.flatMap DV.flat).length,.full elem)]⟩)} o.dst (.dv (.cV O.g.next 0 new.length elem i.size) .no)else(fB elem i.size i.bytes d ow new).bind λr=>bif o.dst.isSome then aH {aQ leave O s with sl:=cK (aQ leave O s).sl} o.dst (.dv r.1 r.2)else Z else Z else Z)=J st'):eO P ak rec cf K φ ω H st0 O st' tm o:=by
 rw[bE]at h;by_cases kh:z.flat.length=i.size;.simp only[kh,dM,aR]at h;obtain⟨new,mf,h⟩:=aF h;cases X:(new.all λy=>aw y.flat.length i.size)with|false=>simp_all|true=>
  rw[X]at h;simp only[aR]at h;have X:∀y,y∈new->y.flat.length=i.size:=λy hy=>by simp_all
  cases ED:qH gs o.dst d ow new with|true=>rw[ED]at h;exact akP (P:=P) hg k hs ho hc jK nT qu hi hz kh CR ji mf X ED h|false=>rw[ED]at h;simp only[bS]at h;obtain⟨r,hr,h⟩:=aF h;cases hd:o.dst with|none=>simp_all|some dd=>
  rw[hd]at h;simp only[RH,aR]at h;obtain⟨ax,x1,x2,x3⟩:=afI (P:=P) hg k hs ji mf;obtain⟨aS,lv,pv,s1,s2,a,s4,s5⟩:=PO (P:=P) hg k hs CR;obtain⟨mJ,xR,Ov,Kp⟩:=BB leave O s;obtain⟨g1,g2,g3,_⟩:=mW h;have eV:=k.of (Mt lv);have kB:∀p r b,ω.of (rM lv) p=J (r,b)->dL ω r:=λp r b w=>let⟨q,_,h⟩:=aI.iz w;⟨q,b,h⟩;have N:bX K φ (ω.of (rM lv)) H tm (cK (aQ leave O s).sl):=xa (S:=λ_=>False) k.inv s5 (bQ.refl _ _) (bo.refl _) (aU.refl _) (λ_ _ _ _ h=>⟨h,id⟩) (λ_ _ _ h=>h);have TP:cu (AM.bB P tm) c.args.toList=J [aS,ax]:=by rw[jK];show((AM.bB P tm s).bind λb=>((AM.bB P tm x).bind λb=>(J []:ah aJ).bind λt=>J (b::t)).bind λt=>J (b::t))=_;simp_all
  have fin:∀{m:AV}{f:Heap},(∀nc,qo H i.size new.length ax=J nc->gI K φ new i.size 0 nc->nc.length=new.length*i.size->0<i.size->nd H elem i.size i.bytes aS nc new.length=J (m,f))->0<i.size->f.bu=H.bu->f.bT=H.bT->(∀r,r∈f.cG->r∈H.cG\/(r<H.bu/\dL ω r))->fK K φ ω H st' (tm.ins dd m) f->eO P ak rec cf K φ ω H st0 O st' tm o:=by
   intro m f e1 h0 D7 e3 e5 e4;obtain⟨nc,n1,G,M⟩:=x3 h0 X;refine⟨m,f,?_,λt ht=>?_,by rw[hd];exact e4,aT,aT,⟨D7,λ_ r hr=>aT,λ_ wB=>?_,λr hr=>.inl aT,e5⟩⟩;.unfold ff;rw[Ct ho hc ⟨aO,aO⟩ TP (Z8 nT qu hi hz kh x2 n1 (e1 nc n1 G M h0))];rfl
   .simp_all
   .refine absurd wB ?_;rw[ho];cases c;grind[isApp]
  unfold fB at hr;cases h0:aw i.size 0 with|true=>simp_all|false=>
   rw[h0]at hr;simp only[bS]at hr;have n:0<i.size:=by grind[bE]
   obtain⟨nc,n1,G,M⟩:=x3 n X;have aMa:∀p r b,ω.of (rM lv) p=J (r,b)->∃q,ω q=J (r,b):=λp r b w=>let⟨q,_,h⟩:=aI.iz w;⟨q,h⟩;have tr:∀{vN:Tr AV}{f:Heap},fK K φ (ω.of (rM lv)) H st' vN f->fK K φ ω H st' vN f:=λh=>fK.trans k.inv (bo.refl _) (k.fV (bQ.refl (λ_=>False) _)) (aU.refl _) (bQ.refl _ _) (λp r b w=>.inl (kB p r b w)) h;cases d with
   |nl=>simp only at hr;cases Y:(br (new.length*i.bytes) bl&&br new.length bl)with|false=>simp_all|true=>
     rw[Y]at hr;simp only[aR]at hr;have has:aS=.bC:=by cases ow with|no=>cases a;rfl|any=>exact a.2|full e=>cases a.1;rfl|ty e=>cases a.1;rfl|ex e=>
      rcases a with⟨_,h⟩|⟨_,_,h⟩;.omega
      .obtain⟨_,_,_,_,_,_,_,h,_⟩:=h.ex;simp_all
     subst has;cases new with|nil=>cases hr;refine fin (m:=.bC) (f:=H) (λnc _ _ _ _=>akD n) n rfl rfl (λ_ h=>.inl h) (tr ?_);exact xz (dst:=J dd) (O:={aQ leave O s with sl:=cK (aQ leave O s).sl}) aT N h aO λ_ _ _=>⟨rfl,rfl⟩|cons u F=>
     cases hr;refine fin (m:=.sl H.next 0 (u::F).length Z i.size) (f:=H.cP nc .op elem) (λR B _ _ _=>?_) n rfl rfl (λ_ h=>.inl h) (tr ?_);.grind[akC]
     .exact ND (dst:=J dd) (O:={aQ leave O s with sl:=cK (aQ leave O s).sl}) aT N h rfl G (.inl ⟨rfl,M.symm⟩)
   |ay l e0 e=>
   simp only at hr;rw[bE,bE]at hr;by_cases iw:e=i.size
   . by_cases jV:e0=elem;.cases Y:(br ((l.length+new.length)*i.bytes) bl&&br (l.length+new.length) bl)with|false=>simp_all|true=>rw[Y]at hr;simp only[iw,jV,dM,xi,aR]at hr;subst iw;subst jV;cases new with
      |nil=>
      cases hr;obtain⟨id,I,A,hAs⟩:∃id I A,aS=.sl id I l.length A i.size:=by cases ow with|no=>cases a<;>simp_all|any=>obtain⟨h,_⟩:=a;simp_all|full e=>have a:=a.1;cases a<;>simp_all|ty e=>have a:=a.1;cases a<;>simp_all|ex e=>
          rcases a with⟨h,_⟩|⟨_,_,h⟩;.simp_all
          .obtain⟨l',pP,id,I,c',_,_,U,W,_⟩:=h.ex;simp_all
      subst hAs;refine fin (f:=H) (λnc _ _ _ _=>Z' n Y) n rfl rfl (λ_ h=>.inl h) ?_;have T:Src (FX lv dd):=aIB lv dd;have aL5:∀s,ω.of (FX lv dd) (.lb s)=ω (.lb s):=λs=>by unfold aI.of;rw[T.base _ (by simp[Pk.slot])];rfl
      have aL6:∀s,ω.of (rM lv) (.lb s)=ω (.lb s):=λs=>by unfold aI.of;rw[(Mt lv).base _ (by simp[Pk.slot])];rfl
      rcases yG h with⟨e,_⟩|⟨d',e,_,_,rfl⟩;.simp_all
      . cases e;refine⟨K,φ,ω.of (FX lv dd),bo.refl _,k.fV (bQ.refl (λ_=>False) _),aU.refl _,?_,?_,bQ.refl _ _,λp r b w=>let⟨q,_,h⟩:=aI.iz w;.inl ⟨q,b,h⟩⟩;.show HR K φ _ H (aQ leave O s).lb (aQ leave O s).g;rw[Ov,Kp];exact k.of T
        . refine w9 (S:=λ_=>False) k.inv N (bQ.refl _ _) (bo.refl _) (aU.refl _) (λp r b U W h3 h=>⟨?_,λh=>h⟩) (λs i b h=>aT) (λ_ _ _ h=>h) (λ_=>aO) ?_
          . obtain⟨q,q1,q2⟩:=aI.iz h;have jv:p.slot:=by rcases h3 with⟨t,rfl⟩|⟨t,j,rfl⟩<;>trivial
            obtain⟨rfl,q3⟩:=ahP jv q1;have:FX lv dd q=J q:=by unfold FX;cases lv<;>grind[tI]
            grind[aI.of]
          . rcases s4 with⟨ts,zW,rfl⟩|⟨_,rfl|rfl⟩;.refine a.uC ?_;simp_all[aI.of,FX,tI]
            .exact a
            .exact a|cons u F=>
      have nR:0<(u::F).length:=aO;have mL:∀{r b},ω pv=J (r,b)->(ow≠.no/\ow≠.any)->∀q b',ω.of (rM lv) q≠J (r,b'):=by
        intro r b w gw q b' hq;obtain⟨q0,y1,y2⟩:=aI.iz hq;obtain rfl:=k.inj _ _ _ _ _ y2 w;rcases s4 with⟨ts,zW,rfl⟩|⟨_,h|h⟩;.rw[zW]at y1;have y1:pE ts q=J (.sl ts):=y1;cases q<;>simp only[pE]at y1;all_goals simp_all
        all_goals grind
      have wM:({aQ leave O s with sl:=cK (aQ leave O s).sl}:St).lb=O.lb/\({aQ leave O s with sl:=cK (aQ leave O s).sl}:St).g=O.g:=⟨Ov,Kp⟩;have Q:HR K φ (ω.of (rM lv)) H ({aQ leave O s with sl:=cK (aQ leave O s).sl}:St).lb ({aQ leave O s with sl:=cK (aQ leave O s).sl}:St).g:=aT;have E:(l++u::F).length=l.length+(u::F).length:=gJ;cases ow with
      |no=>simp_all|any=>simp_all|ty e1=>
        simp only at hr;rw[bE]at hr;by_cases L:e1=e0;.simp only[L,dM,aR]at hr;subst L;cases hr;obtain⟨a,s3'⟩:=a;cases a with|ay _ _ _ id I A cells k1 k2 k3 k4 k5 k6=>
            obtain⟨root,Tp,i1,i2⟩:=k.dk _ _ _ k1;have iG:gI K φ l i.size I cells:=⟨k2,k3,k5,k6⟩;obtain⟨D,z2⟩:=iG.append G M;have fresh:A=J l.length->eO P ak rec cf K φ ω H st0 O st' tm o:=by
              intro qp;subst qp;refine fin (m:=.sl H.next 0 (l.length+(u::F).length) Z i.size) (f:=H.cP ((cells.drop I).take (l.length*i.size)++nc) .op e1) (λR B _ _ _=>?_) n rfl rfl (λ_ h=>.inl h) ?_;.grind[NG]
              .rw[<-E];exact aki (O:={aQ leave O s with sl:=cK (aQ leave O s).sl}) Q s5 rfl h D ai kB
            rcases s3' with hd|⟨r,b,r1,r2⟩;.grind
            . obtain⟨qy,dj,afG,c',pP,Sj,fl',t1,t2,t3,t4,_,t5⟩:=r2.ex;obtain⟨rfl,rfl,hl,rfl,rfl⟩:=AV.sl.inj t1;subst hl;rcases t5 with⟨rfl,t6,t7⟩|t5
              . rw[i1]at t2;obtain⟨rfl,rfl,rfl,_⟩:=b9.cells.inj (bt t2);refine fin (m:=.sl H.next 0 (l.length+(u::F).length) Z i.size) (f:=H.gM root (H.bn root).1 C ((cells.drop I).take (l.length*i.size)++nc) e1) (λR B _ _ _=>?_) n rfl rfl (λ_ h=>by
                rcases vn h with h|⟨U,W⟩;.grind
                .subst U;exact .inr ⟨W,_,b,r1⟩) ?_;.grind[Z9]
                .rw[<-E];exact Z0 (x:=C) (O:={aQ leave O s with sl:=cK (aQ leave O s).sl}) Q s5 rfl h i1 t4 t6 D ai (mL r1 ⟨aO,aO⟩) (λh=>aT) ⟨_,b,r1⟩ kB
              simp_all
        simp_all|full e1=>
        simp only at hr;rw[bE]at hr;by_cases L:e1=e0;.simp only[L,dM,aR]at hr;subst L;cases hr;obtain⟨a,qy,dj,afG,pP,hA⟩:=a;cases a with|ay _ _ _ id I A cells k1 k2 k3 k4 k5 k6=>
            obtain⟨_,_,hl,qp,_⟩:=AV.sl.inj hA;have qp:A=J l.length:=ai;subst qp;obtain⟨root,Tp,i1,i2⟩:=k.dk _ _ _ k1;have iG:gI K φ l i.size I cells:=⟨k2,k3,k5,k6⟩;obtain⟨D,z2⟩:=iG.append G M;refine fin (m:=.sl H.next 0 (l.length+(u::F).length) Z i.size) (f:=H.cP ((cells.drop I).take (l.length*i.size)++nc) .op e1) (λR B _ _ _=>?_) n rfl rfl (λ_ h=>.inl h) (tr ?_);.grind[NG]
            .rw[<-E];exact ND (dst:=J dd) (O:={aQ leave O s with sl:=cK (aQ leave O s).sl}) Q N h rfl D (.inl ⟨rfl,ai⟩)
        simp_all|ex e1=>
        simp only at hr;rw[bE]at hr;by_cases L:e1=e0
        . simp only[L,dM,aR]at hr;subst L;cases hr;rcases a with⟨hd,_⟩|⟨r,r1,r2⟩;.simp_all
          . obtain⟨l',pP,id,I,A,cells,Tp,t1,t2,t3,t4,t5,t6,t7,t8⟩:=r2.ex;obtain⟨rfl,_,rfl⟩:=DV.ay.inj t1;subst t2;obtain⟨D,z2⟩:=t7.append G M;rcases t8 with⟨rfl,_,t9⟩|rfl
            . refine fin (m:=.sl H.next 0 (l.length+(u::F).length) Z i.size) (f:=H.gM r (H.bn r).1 C ((cells.drop I).take (l.length*i.size)++nc) e1) (λR B _ _ _=>?_) n rfl rfl (λ_ h=>by
                rcases vn h with h|⟨U,W⟩;.simp_all
                .subst U;exact .inr ⟨W,_,V,r1⟩) ?_;.grind[Z9]
              .rw[<-E];exact Z0 (x:=V) (O:={aQ leave O s with sl:=cK (aQ leave O s).sl}) Q s5 rfl h t3 t5 t6 D (by rw[E];exact z2.symm) (mL r1 ⟨aO,aO⟩) (λ_ j y hj=>k.clean _ _ _ _ r1 hj) ⟨_,V,r1⟩ kB
            . refine fin (m:=.sl H.next 0 (l.length+(u::F).length) Z i.size) (f:=H.cP ((cells.drop I).take (l.length*i.size)++nc) .op e1) (λR B _ _ _=>?_) n rfl rfl (λ_ h=>.inl h) (tr ?_);.rw[n1]at B;cases B;exact NG n nR Y t3 t5
              .rw[<-E];exact ND (dst:=J dd) (O:={aQ leave O s with sl:=cK (aQ leave O s).sl}) Q N h rfl D (.inl ⟨rfl,by rw[E];exact z2.symm⟩)
        simp_all
     simp_all
   simp_all|_=>simp at hr
 simp_all
theorem akO(g:du P K φ ao)(k:HR K φ ω H O.lb O.g)(l:bX K φ ω H tm O.sl){c:Call}(b:o.op=.call c)(a:c.callee=.builtin .append)(j:c.args.toList=[s,x])(h:dB P ao fk gs cr later O o=J st'):eO P ak rec cf K φ ω H st0 O st' tm o:=by
 unfold dB at h;rw[b]at h;simp only[a,j]at h;split at h
 . rename_i elem e2 n q;split at h;.rename_i i z d ow v hi e R f;exact aah (P:=P) g k l b a j n (.inl ⟨_,q⟩) hi e R f h
   .simp at h
 . rename_i elem n q;split at h;.rename_i i z d ow v hi e R f;exact aah (P:=P) g k l b a j n (.inr q) hi e R f h
   .simp at h
 .simp at h
end
section
variable{P:aG}{ak:cg}{rec:Rec}{cf:bR}{K K':aX}{φ ψ:ch}{ω ω':aI}{H H':Heap}{S:Nat->Prop}
variable{ao:Nat->ah aq}{gs cr:aD}{fk:bV->Nat}{later:List aB}{st0 O st':St}{tm:Tr AV}{o:aB}
theorem aJr{i:Nat}(g:H.get i=J (.cells m r fl e))(w:fl.wr=V)(h:(H.bn r).1<=i)(a:(H.bn r).2=i)(b:I+vs.length<=m.length):H.store i I vs=J (H.dJ i r (.cells (fL m I vs) r fl e)):=by grind[dS,bE,Heap.store,dg]
theorem arH{x:Loc}{b:LB}{i:Nat}{a:aq}(c:HR K φ ω H O.lb O.g)(g:O.at x=J b)(q:ω x.top=J (i,V))(W:oR K φ ω H x.pk b i)(G:bG K φ a vs)(U:∀y,y∈a->y.aV=V)(jV:I+a.length<=b.cells.length):∃H',H.store i I vs=J H'/\bQ (λr=>r=i) H H'/\H'.bu=H.bu/\H'.cG=H.cG/\H'.bT=Heap.note H.bu i H.bT/\HR K φ (ω.of (pF x I a.length Z)) H' (O.setAt x {cells:=km b.cells I a,own:=cW b.own I a.length}).lb (O.setAt x {cells:=km b.cells I a,own:=cW b.own I a.length}).g:=by
 obtain⟨m,fl,e,f,D,M,E,h5,P⟩:=W;have qx:vs.length=a.length:=G.1.symm;generalize Q:a.length=n at*;have CO:I+n<=m.length:=ab;refine⟨_,aJr f D.1 M E ab,yw f,BW ..,xV ..,xh ..,?_⟩;obtain⟨q1,q2,q3,q4,q5⟩:=QD (m':=fL m I vs) (fl':=fl) (e':=e) c q f E (aiA (x:=x) (I:=I) (n:=n) (lv:=Z));have Y:∀(y:Loc)(j:Nat)(z:Nat),y.pk j≠.sl z/\∀k,y.pk j≠.tp z k:=λy j z=>⟨λe=>Loc.Aj y j (e▸trivial),λk e=>Loc.Aj y j (e▸trivial)⟩;have w:=yw (m':=fL m I vs) (fl':=fl) (e':=e) f;have A:∀p r b,ω p=J (r,b)->p≠x.top->¬r=i:=λp r b h B e=>by subst e;exact B (c.inj _ _ _ _ _ h q)
 refine HR.FT (S:=λr=>r=i) c g q (bo.refl _) w q1 (F8 c.gV f) q2 q3 q4 q5 (λs=>?_) (λid=>?_) ?_ (λp r b _ B h=>A p r b h B) ?_;.unfold aI.of;rw[xb (λj _ _=>(Loc.BG x j s).symm) aO];rfl
 .unfold aI.of;rw[xb (λj _ _=>(Loc.Mc x j id).symm) aO];rfl
 . intro y d d1 o o1 T R;refine R.keep c.inv w (bo.refl _) (aU.refl _) λr b g=>⟨?_,A _ r b g ?_⟩;.unfold aI.of;rw[xb (λj _ _ e=>T (Loc.BF e).1) (λt _=>Y y d t)];grind
   .cases x<;>cases y<;>simp[Loc.pk,Loc.top]
 . refine⟨fL m I vs,fl,e,nM _ _ _ _,D.drop _ _,by grind[Ed],by grind[Ed],?_,λd d1 o u v=>?_⟩;.grind[MP,yJ]
   . have u:(km b.cells I a)[d]?=J d1:=u;have F:=u;rw[MP,yI _ _ _ ab,Q]at u;rw[yI _ _ _ ab,qx]at v;by_cases l:I<=d/\d<I+n;.rw[if_pos l]at u v;have tb:d1.aV=V:=U d1 (dw u);refine⟨tb,?_⟩;have N:=G.2 _ d1 o u v;unfold ew;show cN _ _ _ _ _ _ _ (match(km b.cells I a)[d]? with|some .nl=>aM.any|_=>(look (cW b.own I n) d).getD .no);rw[F];have L:=UQ b.own (I:=I) (n:=n) (k:=d) l.1 l.2;simp only[L];cases d1<;>first|exact N|(cases N;exact⟨rfl,rfl⟩)
     . rw[if_neg l]at u v;obtain⟨k1,k2⟩:=P d d1 o u v;refine⟨k1,?_⟩;have va:d<I\/I+n<=d:=ab;have X:ew {cells:=km b.cells I a,own:=cW b.own I n} d=ew b d:=by unfold ew;simp only[F,u,afU b.own (I:=I) (n:=n) va]
       rw[X];refine k2.keep c.inv w (bo.refl _) (aU.refl _) λr b g=>⟨?_,A _ r b g (by cases x<;>simp[Loc.pk,Loc.top])⟩;unfold aI.of;rw[xb (λj j1 j2 e=>by grind[Loc.BF]) (λt _=>Y x d t)];grind
theorem aGi{c:aJ}(a:bG K φ z.flat c):∀n:Nat,bG K φ ((lW n z).flatMap DV.flat) (jA n c):=λn=>by induction n with|zero=>exact bG.nil|succ n i=>rw[List.replicate_succ,B5];show bG K φ _ (dF c (jA n c));rw[kZ];exact a.append i
theorem amX(hg:du P K φ cf.ao)(d:HR K φ ω H O.lb O.g)(B:bX K φ ω H tm O.sl){c:Call}(m:o.op=.call c)(l:c.callee=.builtin .clear)(T:c.args.toList=[x])(h:dB P cf.ao fk gs cr later O o=J st'):eO P ak rec cf K φ ω H O O st' tm o:=by
 have E:kindOf cf O o.op=.wr:=by rw[m];cases c;obtain rfl:=l;rfl
 unfold dB at h;rw[m]at h;simp only[l,T]at h;split at h
 . rename_i elem G;obtain⟨v,hv,h⟩:=aF h;obtain⟨a,a1,_,N⟩:=nX (P:=P) hg d B hv;have F:cu (AM.bB P tm) c.args.toList=J [a]:=by rw[T];show((AM.bB P tm x).bind λb=>(J []:ah aJ).bind λt=>J (b::t))=_;simp_all
   cases v with|nl=>cases N;obtain⟨f1,f2,f3,_⟩:=mW h;refine⟨fo,H,?_,f1,Ca d B h,f2,f3,tP.refl _ _ _⟩;unfold ff;rw[Ct (v:=fo) (H':=H) m l ⟨aO,aO⟩ F (by simp[im,G])];rfl|cV id I n e esz=>
     simp only at h;split at h;.rename_i b z Q hz;cases A:(br (I+n*esz) b.cells.length&&aw z.flat.length esz)with|false=>rw[A]at h;simp at h|true=>rw[A]at h;simp only[aR]at h;simp only[gD,bE,dg,gZ]at A;obtain⟨L,M⟩:=A;cases N with|cV _ _ _ _ _ i cc hi qp=>
      obtain⟨Y,z1,X,z3⟩:=Nf K φ hz;have kh:Y.length=esz:=by rw[<-X.1];omega
      have W:O.at (.g id)=J b:=by show(match O.g.get id with|some (.box b)=>J b|_=>Z)=J b;rw[Q]
      obtain⟨R,D,i2,i3⟩:=d.at W;have KQ:R=i:=by have:=i3 id rfl;rw[hi]at this;exact(bt this).symm
      subst KQ;have nN:((lW n z).flatMap DV.flat).length=n*esz:=by rw[List.length_flatMap];simp[M]
      have f:bG K φ ((lW n z).flatMap DV.flat) (jA n Y)/\∀y,y∈(lW n z).flatMap DV.flat->y.aV=V:=by
       refine⟨?_,λy hy=>?_⟩;.exact aGi X n
       .obtain⟨w,w1,w2⟩:=List.mem_flatMap.1 hy;exact z3 y ((List.mem_replicate.1 w1).2▸w2)
      obtain⟨H',g1,g2,g3,g4,g5,g6⟩:=arH (x:=.g id) (I:=I) d W D i2 f.1 f.2 ab;rw[nN]at g6;obtain⟨f1,f2,f3,f4,f5⟩:=mW h;have cB:∀p r b,p.slot->ω p=J (r,b)->¬r=R:=λp r b u h e=>by subst e;have:=d.inj _ _ _ _ _ h D;subst this;exact u.elim
      cases U:aw n 0 with|true=>
       rw[bE]at U;have U:=vu U;subst U;have HF:({cells:=km b.cells I ((lW 0 z).flatMap DV.flat),own:=cW b.own I (0*esz)}:LB)=b:=by
        have e1:km b.cells I ((lW 0 z).flatMap DV.flat)=b.cells:=by simp[km]
        have e2:cW b.own I (0*esz)=b.own:=by unfold cW;rw[List.filter_eq_self];intro y _;rw[eK,dg];simp;omega
        rw[e1,e2]
       rw[HF]at h;have zM:HR K φ ω H O.lb (O.g.set id (.box b)):=by
        have same:∀k,(O.g.set id (.box b)).get k=O.g.get k:=λk=>by
         show look (put O.g.sE id (.box b)) k=look O.g.sE k;rw[lN];by_cases e:k=id;.subst e;rw[if_pos rfl];exact Q.symm
         .rw[if_neg e]
        exact⟨d.inv,d.dk,d.inj,d.clean,d.cw,d.box,λk ob E=>d.js k ob (by rw[<-same k];exact E),d.nu,d.gV⟩
       refine⟨fo,H,?_,f1,?_,f2,f3,tP.refl _ _ _⟩;.unfold ff;rw[Ct (v:=fo) (H':=H) m l ⟨aO,aO⟩ F (by simp[im,G,bE])];rfl
       .refine Ca (O:={O with sl:=cK O.sl,g:=O.g.set id (.box b)}) zM ?_ h;exact xa (S:=λ_=>False) d.inv B (bQ.refl _ _) (bo.refl _) (aU.refl _) (λ_ _ _ _ h=>⟨h,λh=>h⟩) (λ_ _ _ h=>h)|false=>
       have iV:bX K φ (ω.of (pF (.g id) I (n*esz) Z)) H' tm (cK O.sl):=by refine xa d.inv B g2 (bo.refl _) (aU.refl _) (λp r b u h=>⟨by unfold aI.of;rw[xb (λj _ _ e=>Loc.Aj (.g id) j (e▸u)) aO];exact h,cB p r b u h⟩) (λs j b h=>?_);.obtain⟨q,L,M⟩:=aI.iz h;rw[xb (λj _ _=>(Loc.BG (.g id) j s).symm) aO]at L;cases L;exact M
       refine⟨fo,H',?_,f1,?_,f2,f3,UP g3 g4 g5 ⟨_,_,D⟩ E⟩;.unfold ff;rw[Ct (v:=fo) (H':=H') m l ⟨aO,aO⟩ F (by simp[im,G,U,z1,dS,kh,bE,g1])];rfl
       .refine fK.trans (ω1:=ω.of (pF (.g id) I (n*esz) Z)) d.inv (bo.refl _) (d.fV g2) (aU.refl _) (g2.xg d.inv λr _ e=>⟨_,_,e▸D⟩) (λp r b h=>let⟨q,_,h⟩:=aI.iz h;.inl ⟨q,b,h⟩) ?_;exact Ca (O:={O with sl:=cK O.sl,g:=O.g.set id _}) g6 iV h
     .simp at h|_=>simp at h
 .simp at h
end
section
variable{P:aG}{ak:cg}{rec:Rec}{cf:bR}{K K' K1:aX}{φ ψ:ch}{ω ω' ω0:aI}{H H':Heap}{S:Nat->Prop}
variable{gs cr:aD}{fk:bV->Nat}{later:List aB}{st0 O st':St}{tm:Tr AV}{o:aB}{ao:Nat->ah aq}
theorem MI(t:Tr AV):∀(l:List aK)(K:aX)(ω:aI)(O:St),HR K φ ω H O.lb O.g->bX K φ ω H t O.sl->∃K' ω',ou ω H K K'/\HR K' φ ω' H (l.foldl (aQ share) O).lb (l.foldl (aQ share) O).g/\bX K' φ ω' H t (l.foldl (aQ share) O).sl/\(∀q r b,ω' q=J (r,b)->∃a,ω q=J (r,a))/\(∀x,x∈l->jG (l.foldl (aQ share) O) x)/\(l.foldl (aQ share) O).n=O.n/\(l.foldl (aQ share) O).fn=O.fn/\∀y,jG O y->jG (l.foldl (aQ share) O) y:=by intro l;induction l with|nil=>grind[ou.refl]|cons x l B=>
 intro K ω O w A;obtain⟨K1,c,e,i,k,m,D,E,F,n⟩:=YV w A x;obtain⟨g,d,f,o,s,G,I,L,M,u⟩:=B K1 c _ i k;refine⟨g,d,⟨e.1.trans f.1,λj x z=>?_⟩,o,s,λq r b h=>?_,λy N=>?_,ai,ai,λy h=>u y (n y h)⟩
 . rcases f.2 j x z with h|⟨p,b,h⟩;.exact e.2 j x h
   .obtain⟨a,v⟩:=m p _ b h;exact .inr ⟨p,a,v⟩
 all_goals grind
theorem eO.of(l:HR K φ ω H st0.lb st0.g)(i:ou ω H K K1)(n:HR K1 φ ω' H O.lb O.g)(c:∀q r b,ω' q=J (r,b)->∃a,ω q=J (r,a))(x:O.n=st0.n)(w:O.fn=st0.fn)(h:eO P ak rec cf K1 φ ω' H st0 O st' tm o):eO P ak rec cf K φ ω H st0 st0 st' tm o:=by obtain⟨v,H',j,s,k,t,u,e⟩:=h;exact⟨v,H',j,λd hd=>ai,fK.trans l.inv i.1 (i.fV n) (aU.refl _) (bQ.refl _ _) (λp r b m=>let⟨a,h⟩:=c p r b m;.inl ⟨p,a,h⟩) k,ab,ai,⟨e.bu,e.wl,e.gl,λr hr=>(e.wall r hr).imp_right λ⟨h,p,b,g⟩=>let⟨a,f⟩:=c p r b g;⟨h,p,a,f⟩,λr hr=>(e.adw r hr).imp_right λ⟨h,p,b,g⟩=>let⟨a,f⟩:=c p r b g;⟨h,p,a,f⟩⟩⟩
theorem aDM(L:du P K φ cf.ao)(w:HR K φ ω H O.lb O.g)(M:bX K φ ω H tm O.sl)(h:dB P cf.ao fk gs cr later ((handsOn o.op).foldl (aQ share) O) o=J st'):eO P ak rec cf K φ ω H O O st' tm o:=by obtain⟨K1,n,v,a,j,A,B,D,E,_⟩:=MI tm (handsOn o.op) K ω O w M;have z:=L.mono v.1 (aU.refl φ);have up:eO P ak rec cf K1 φ n H O ((handsOn o.op).foldl (aQ share) O) st' tm o->eO P ak rec cf K φ ω H O O st' tm o:=λh=>eO.of w v a A D E h;cases d:o.op with
 |move x=>grind[aAt]|assign x=>grind[ak3]|pick c x y=>grind[aEL,handsOn,eJ]|alloc e=>grind[aku]|box e x=>grind[alN,handsOn,eJ]|build t parts=>grind[alY,handsOn,eJ]|buildSlice t len parts=>grind[alX,handsOn,eJ]|load t x=>grind[azB]|store t x y=>grind[handsOn,aJy]|nilCheck x=>grind[aAS]|binOp op t x y u=>grind[alw]|unOp op t x=>grind[aKt]|convert s t x=>grind[ank]|makeFunc f first p=>cases f with|func f=>exact up (as2 z a j d (λx m=>B x (by rw[d]at m|-;exact m)) h)|_=>simp_all[dB]
 |makeSlice t l c=>exact up (az2 z a j d h)|makeMap t r=>
  rcases r with _|r;.grind[az1]
  simp_all[dB]|slice t x lo hi mx=>grind[aIn,handsOn,eJ]|fieldAddr s x f=>grind[arz]|indexAddr t x y=>grind[awM]|index t x y=>grind[awO]|lookup t x k ok=>grind[azM]|mapUpdate t x k y=>grind[az7,handsOn,eJ]|extract x i=>grind[arp]|call c=>have g:=h;unfold dB at g;rw[d]at g;have G:=g;clear G;cases I:c.callee with
  |builtin F=>cases F with
   |clear=>
   simp only[I]at g;split at g;.rename_i x m;exact up (eO.of (st0:=_) a (ou.refl _ _ _) a (λ_ _ b h=>⟨b,h⟩) rfl rfl (amX z a j d I m h)|>λq=>q)
   .simp at g|min=>exact up (aAf z a j d I h)|max=>exact up (aAc z a j d I h)|_=>grind[azc,akO]
  |_=>grind
 |_=>unfold dB at h;rw[d]at h;simp at h
end
def qc(b:aI)(H a:Heap):Prop:=a.bu=H.bu/\(∀r,r∈a.bT->r∈H.bT\/(r<H.bu/\dL b r))/\∀r,r∈a.cG->r∈H.cG\/(r<H.bu/\dL b r)
structure Nx(K:aX)(φ:ch)(ω:aI)(H:Heap)(K':aX)(ψ:ch)(ω':aI)(H':Heap):Prop where
 ext:bo K K'
 dk:sQ ω H H' K K'
 mS:aU φ ψ
 keep:bQ (dL ω) H H'
 lG:∀p r b,ω' p=J (r,b)->dL ω r\/H.next<=r
 log:qc ω H H'
section
variable{P:aG}{ak:cg}{rec:Rec}{cf:bR}{K K' K1 K2:aX}{φ ψ φ1 φ2:ch}{ω ω' ω0 ω1 ω2:aI}{H H' H1 H2:Heap}{S:Nat->Prop}{lb:dV}{g:GH}{O st' st0:St}{tm:Tr AV}{o:aB}
theorem qc.refl(a:aI)(H:Heap):qc a H H:=⟨rfl,λ_ h=>.inl h,λ_ h=>.inl h⟩
theorem qc.trans(i:bg H)(a:qc ω H H1)(d:∀p r b,ω1 p=J (r,b)->dL ω r\/H.next<=r)(b:qc ω1 H1 H2):qc ω H H2:=by
 have t:=i.bu;have g:∀r,r<H1.bu/\dL ω1 r->r<H.bu/\dL ω r:=by
   rintro r⟨e,p,c,f⟩;rw[a.1]at e;rcases d p r c f with h|h;.exact⟨e,h⟩
   .omega
 refine⟨b.1.trans a.1,λr hr=>?_,λr hr=>?_⟩
 . rcases b.2.1 r hr with h|h;.exact a.2.1 r h
   .exact .inr (g r h)
 . rcases b.2.2 r hr with h|h;.exact a.2.2 r h
   .exact .inr (g r h)
theorem Nx.refl(a:HR K φ ω H lb g):Nx K φ ω H K φ ω H:=⟨bo.refl _,a.fV (bQ.refl (λ_=>False) _),aU.refl _,bQ.refl _ _,λp r b h=>.inl ⟨p,b,h⟩,qc.refl _ _⟩
theorem sQ.trans(a:sQ ω H H1 K K1)(g:∀p r b,ω1 p=J (r,b)->dL ω r\/H.next<=r)(y:H.next<=H1.next)(k:bQ S H1 H2)(b:sQ ω1 H1 H2 K1 K2):sQ ω H H2 K K2:=λj x f=>by
 obtain⟨d,h⟩:=b j x f;refine⟨d,?_⟩;rcases h with h|⟨p,c,h⟩|h;.obtain⟨e,i⟩:=a j x h;rw[k.root j e];omega
 all_goals grind
theorem Nx.trans(i:bg H)(a:Nx K φ ω H K1 φ1 ω1 H1)(b:Nx K1 φ1 ω1 H1 K2 φ2 ω2 H2):Nx K φ ω H K2 φ2 ω2 H2 where
 ext:=a.ext.trans b.ext
 dk:=a.dk.trans a.lG a.keep.next b.keep b.dk
 mS:=a.mS.trans b.mS
 keep:=a.keep.trans i a.lG b.keep
 lG:=λp r c h=>by
  rcases b.lG p r c h with⟨q,d,h⟩|h;.exact a.lG _ _ _ h
  .exact .inr (fX a.keep.next h)
 log:=a.log.trans i a.lG b.log
structure Ok(K:aX)(φ:ch)(ω:aI)(H:Heap)(O:St)(tm:Tr AV):Prop where
 hr:HR K φ ω H O.lb O.g
 sl:bX K φ ω H tm O.sl
theorem eO.nx(h:eO P ak rec cf K φ ω H st0 O st' tm o):∃v H' K' ψ ω',ff P ak rec tm H o=J (.val v H')/\(∀d,o.dst=J d->d<O.n)/\Nx K φ ω H K' ψ ω' H'/\Ok K' ψ ω' H' st' (gQ tm o.dst v)/\st'.n=O.n/\st'.fn=O.fn/\tP ω (kindOf cf st0 o.op) (isApp o.op) H H':=by obtain⟨v,H',k,l,⟨K',ψ,ω',b,c,e,f,g,i,j⟩,m,n,a⟩:=h;exact⟨v,H',K',ψ,_,k,l,⟨b,c,e,i,j,a.bu,a.wall,a.adw⟩,⟨f,g⟩,m,n,a⟩
theorem fK.nx{tm':Tr AV}(h:fK K φ ω H st' tm' H')(l:qc ω H H'):∃K' ψ ω',Nx K φ ω H K' ψ ω' H'/\Ok K' ψ ω' H' st' tm':=by obtain⟨K',ψ,ω',a,b,c,d,e,f,g⟩:=h;exact⟨K',ψ,_,⟨a,b,c,f,g,l⟩,⟨d,e⟩⟩
theorem Df:∀{l:aq}{i:Nat}{d:DV},cA l=V->l[i]?=J d->d.pure=V:=by intro l;induction l<;>grind[cA]
theorem ahw{d x:DV}(h:d.pure=V)(a:d.flat[j]?=J x):x.pure=V:=by cases d with|agg l=>exact Df (l:=l) (by grind[DV.pure]) a|_=>
 rcases j with _|j;.cases a;exact h
 simp[DV.flat]at a
theorem DR.pure{d:DV}(h:DR K φ d a)(p:d.pure=V):DR K ψ d a:=by induction h with|bool b=>exact .bool b|int k n=>exact .int k n|str s=>exact .str s|nl=>exact .nl|ay l e esz id I c cells h w u v z _ q=>refine .ay l e _ id _ c _ h w u v z λi x j d a o g t=>q i x j d a o g t ?_;grind[ahw,Df,DV.pure]|ptr id I i h=>grind[DV.pure]|eN=>exact .eN|map r i h=>grind[DV.pure]|fR=>exact .fR|func f l1 l2 E F o g _ _ B D=>simp only[DV.pure,gD]at p;exact .func f l1 l2 E F o g (λi d a x y=>B i d a x y (Df p.1 x)) (λi d a x y=>D i d a x y (Df p.2 x))|dT l i h=>grind[DV.pure]|cV=>grind[DV.pure]|nilFunc=>exact .nilFunc|agg l m h A _ q=>exact .agg l m h A λi d a x y=>q i d a x y (Df (by grind[DV.pure]) x)|jk a h g=>grind[DV.pure]
theorem cN.pure{d:DV}(h:cN K φ ω H p d a ow)(g:d.pure=V):cN K ψ ω H p d a ow:=by cases ow with|no=>exact DR.pure h g|any=>exact h|full e=>exact⟨DR.pure h.1 g,h.2⟩|ty e=>exact⟨DR.pure h.1 g,h.2⟩|ex e=>refine Or.imp_right ?_ h;rintro⟨r,b,f⟩;obtain⟨l,esz,id,I,c,cells,fl,rfl,g2,g3,g4,g5,g6,g7,g8⟩:=f.ex;refine⟨r,b,⟨l,_,id,_,c,_,fl,rfl,g2,g3,g4,g5,g6,⟨g7.1,g7.2.1,g7.2.2.1,λi x j d a b f k=>(g7.2.2.2 i x j d a b f k).pure ?_⟩,g8⟩⟩;exact ahw (Df (by simpa[DV.pure]using g) b) f
theorem aEO:∀{l:aq}{i:Nat}{d:DV},Md l=V->l[i]?=J d->d.plain=V:=by intro l;induction l<;>grind[Md]
theorem DR.plain{d:DV}(h:DR K φ d a)(p:d.plain=V):DR K' ψ d a:=by induction h with|bool b=>exact .bool b|int k n=>exact .int k n|str s=>exact .str s|nl=>exact .nl|eN=>exact .eN|fR=>exact .fR|nilFunc=>exact .nilFunc|agg l m h c _ e=>exact .agg l m h c λi d a x y=>e i d a x y (aEO (by grind[DV.plain]) x)|_=>grind[DV.plain]
theorem cN.plain{d:DV}(h:cN K φ ω H p d a ow)(b:d.plain=V):DR K' ψ d a:=by cases ow with|no=>exact DR.plain h b|any=>obtain⟨rfl,rfl⟩:=h;exact .nl|full e=>exact DR.plain h.1 b|ty e=>exact DR.plain h.1 b|ex e=>
 rcases h with⟨rfl,rfl⟩|⟨r,g,f⟩;.exact .nl
 .obtain⟨l,esz,id,I,c,cells,fl,rfl,_⟩:=f.ex;grind[DV.plain]
theorem HR.frame(a:HR K φ ω H lb g)(k:bQ S H H')(o:bg H')(u:oX H')(j:∀p r b,ω p=J (r,b)->¬S r)(T:∀id x,K id=J x->¬S (rootOf H id)):HR K φ ω H' lb g where
 inv:=o
 dk:=λid cells e h=>by
  obtain⟨r,fl,d,f⟩:=a.dk id cells e h;have hid:=a.inv.get _ _ d;have hr:=T id _ h;have q:=hr;rw[lA d]at q;have E:r<H.next:=by have:=(a.inv.root _ _ _ _ _ d).1;omega
  exact⟨r,fl,by rw[k.get id hid hr];exact d,by rw[k.dp r E q];exact f⟩
 inj:=a.inj
 clean:=λp r id x t l=>by obtain⟨cells,e⟩:=x;obtain⟨y,fl,d,_⟩:=a.dk id cells e l;rw[k.root id (a.inv.get _ _ d)];exact a.clean p r id _ t l
 cw:=λp r b h=>gi (a.cw p r b h) k.next
 box:=λs b n=>by obtain⟨i,d,f⟩:=a.box s b n;exact⟨i,d,f.keep a.inv k (bo.refl _) (aU.refl _) (j _ _ _ d) λI r c x=>⟨x,j _ _ _ x⟩⟩
 js:=λid w v=>by obtain⟨i,d,f,m⟩:=a.js id w v;exact⟨i,d,f,m.keep a.inv k (bo.refl _) (aU.refl _) (j _ _ _ f) λI r c x=>⟨x,j _ _ _ x⟩⟩
 nu:=a.nu
 gV:=u
structure jS(H H':Heap):Prop where
 tr:H'.tr=H.tr
 dp:H'.dp=H.dp
 next:H'.next=H.next
theorem jS.get(s:jS H H')(i:Nat):H'.get i=H.get i:=by unfold Heap.get;rw[s.tr]
theorem jS.bn(s:jS H H')(r:Nat):H'.bn r=H.bn r:=by unfold Heap.bn;rw[s.dp]
theorem jS.rootOf(s:jS H H')(i:Nat):rootOf H' i=rootOf H i:=by unfold AM.rootOf;rw[s.get]
theorem jS.keep(s:jS H H')(S:Nat->Prop):bQ S H H':=⟨by rw[s.next];omega,λid _ _=>s.get id,λr _ _=>s.bn r,λid _=>s.rootOf id⟩
theorem jS.symm(s:jS H H'):jS H' H:=⟨s.tr.symm,s.dp.symm,s.next.symm⟩
theorem jS.trans(s:jS H H1)(t:jS H1 H2):jS H H2:=⟨t.tr.trans s.tr,t.dp.trans s.dp,t.next.trans s.next⟩
theorem jS.hinv(s:jS H H')(i:bg H)(t:H'.bu<=H'.next):bg H':=by
 refine⟨λid o h=>?_,λid l r fl e h=>?_,λid l r fl e h=>?_,λr f h=>?_,t⟩;.rw[s.get]at h;rw[s.next];exact i.get id o h
 .rw[s.get]at h;rw[s.bn];exact i.root id l r fl e h
 .rw[s.get]at h;obtain⟨c,b,a,d⟩:=i.nZ id l r fl e h;exact⟨c,_,a,by rw[s.get];omega⟩
 .rw[s.dp]at h;rw[s.next];exact i.dp r f h
theorem jS.gV(s:jS H H')(u:oX H):oX H':=λid l r fl e h=>by rw[s.get]at h;obtain⟨a,f,b⟩:=u id l r fl e h;exact⟨a,_,by rw[s.get];omega⟩
theorem Ok.same(s:jS H H')(e:H'.bu<=H'.next)(h:Ok K φ ω H O tm):Ok K φ ω H' O tm where
 hr:=h.hr.frame (S:=λ_=>False) (s.keep _) (s.hinv h.hr.inv e) (s.gV h.hr.gV) (λ_ _ _ _=>id) (λ_ _ _=>id)
 sl:=λt v l=>by obtain⟨a,b,c,d⟩:=h.sl t v l;exact⟨a,b,c,d.keep (S:=λ_=>False) h.hr.inv (s.keep _) (bo.refl _) (aU.refl _) (λ_ _ _ _ h=>⟨h,id⟩) (λ_ _ _ _ _ h=>h) (λ_ _=>rfl) (λ_ _ _ _ _=>id)⟩
theorem aij(H:Heap):jS H H.fresh:=⟨rfl,rfl,rfl⟩
theorem aHf(H a:Heap):jS a (H.resume a):=⟨rfl,rfl,rfl⟩
end
section
variable{P:aG}{K K':aX}{φ ψ φ0:ch}{ω ω' ω0 fW:aI}{H H':Heap}{lb:dV}{g g':GH}{O st':St}{tm:Tr AV}
def bk(u:Bool)(d:ah Nat):Pk->Bool×Pk|.sl t=>if d=J t then(C,.sl 0)else(V,.sl t)|.tp t j=>if d=J t then(C,.tp 0 j)else(V,.tp t j)|.g id=>(u,.g id)|.gc id I=>(u,.gc id I)|p=>(V,p)
theorem alA{u:Bool}{d:ah Nat}:∀p q,bk u d p=bk u d q->p=q:=by intro p q h;cases p<;>cases q<;>simp only[bk]at h<;>grind
theorem alz{u:Bool}{d:ah Nat}(h:(bk u d p).1=V):(bk u d p).2=p/\(u=V\/(∀id,p≠.g id)/\∀id I,p≠.gc id I):=by cases p<;>grind[bk]
def wm(u:Bool)(d:ah Nat)(a f:aI):aI:=λp=>bif(bk u d p).1 then a (bk u d p).2 else f (bk u d p).2
theorem GY{u:Bool}{d:ah Nat}{b:Bool}(h:wm u d ω fW p=J (r,b)):((bk u d p).1=V/\ω p=J (r,b)/\(u=V\/(∀id,p≠.g id)/\∀id I,p≠.gc id I))\/((bk u d p).1=C/\fW (bk u d p).2=J (r,b)):=by grind[wm,alz]
structure vV(pure:Bool)(K:aX)(φ:ch)(ω:aI)(H:Heap)(lb:dV)(g:GH)(φ0:ch)(ω0:aI)(K':aX)(ψ:ch)(fW:aI)(H':Heap)(g':GH):Prop where
 hh:HR K φ ω H lb g
 nx:Nx K φ0 ω0 H K' ψ fW H'
 hc:HR K' ψ fW H' [] g'
 mS:pure=C->φ0=φ
 ret:∀p r b,(pure=V\/(∀id,p≠.g id)/\∀id I,p≠.gc id I)->ω p=J (r,b)->¬dL ω0 r
def ch.back(p:Bool)(a b:ch):ch:=bif p then a else b
def GH.back(p:Bool)(g a:GH):GH:=bif p then g else a
theorem vV.ext{p:Bool}(c:vV p K φ ω H lb g φ0 ω0 K' ψ fW H' g'):aU φ (ch.back p φ ψ):=by cases p with|true=>exact aU.refl _|false=>have:=c.nx.mS;rw[c.mS rfl]at this;exact this
theorem vV.hr{u:Bool}(c:vV u K φ ω H lb g φ0 ω0 K' ψ fW H' g')(d:ah Nat):HR K' (ch.back u φ ψ) (wm u d ω fW) H' lb (GH.back u g g'):=by
 obtain⟨f,nx,j,t,P⟩:=c;have B:=vV.ext ⟨f,nx,j,t,P⟩;have L:∀{r:Nat}{b:Bool}{p q:Pk}{n:Bool},ω p=J (r,b)->(u=V\/(∀id,p≠.g id)/\∀id I,p≠.gc id I)->fW q=J (r,n)->False:=by
   intro r b p q n k l a;rcases nx.lG q r n a with h|h;.grind
   .have:=f.cw _ _ _ k;omega
 refine⟨j.inv,j.dk,?_,?_,?_,?_,?_,?_,j.gV⟩
 . intro p q r b n k l;rcases GY k with⟨k1,a,z⟩|⟨k1,a⟩
   . rcases GY l with⟨k2,m,_⟩|⟨_,m⟩;.exact f.inj _ _ _ _ _ a m
     grind
   . rcases GY l with⟨_,m,D⟩|⟨k2,m⟩;.grind
     .exact alA p q (Prod.ext ai (j.inj _ _ _ _ _ a m))
 . intro p r id x o v;rcases GY o with⟨_,a,z⟩|⟨_,a⟩
   . obtain⟨k1,k2⟩:=nx.dk id x v;have hr:=f.cw _ _ _ a;rcases k2 with k2|k2|k2;.obtain⟨cells,e⟩:=x;obtain⟨E,fl,g1,_⟩:=f.dk id _ e k2;rw[nx.keep.root id (f.inv.get _ _ g1)];exact f.clean p r id _ a k2
     all_goals grind
   .exact j.clean _ r id x a v
 . intro p r b o;rcases GY o with⟨_,a,_⟩|⟨_,a⟩;.exact gi (f.cw _ _ _ a) nx.keep.next
   .exact j.cw _ _ _ a
 .intro s b A;obtain⟨i,k,l⟩:=f.box s b A;refine⟨i,k,l.keep f.inv nx.keep nx.ext B ai λI r c x=>⟨x,P (.lc s _) r c aT x⟩⟩
 .intro id y w;cases u with|true=>obtain⟨i,k,l,a⟩:=f.js id y w;exact⟨i,k,l,a.keep f.inv nx.keep nx.ext (aU.refl _) ai λI r c x=>⟨x,P _ r c (.inl rfl) x⟩⟩|false=>obtain⟨i,k,l,a⟩:=j.js id y w;exact⟨i,k,l,a.keep j.inv (bQ.refl _ _) (bo.refl _) (aU.refl _) (λh=>h) λI r c x=>⟨x,λh=>h⟩⟩
 .intro id hid;cases u with|true=>exact f.nu id hid|false=>exact j.nu id hid
def jR(K:aX)(b:ch)(c:aI)(H:Heap)(v:SV)(a:AV):Prop:=match v with|.dv d o=>cN K b c H (.sl 0) d a o|.tp l=>∃m,a=.cM m/\l.length=m.length/\∀(j:Nat)(x:DV×aM)(y:AV),l[j]?=J x->m[j]?=J y->cN K b c H (.tp 0 j) x.1 y x.2|_=>False
theorem jR.pure{v:SV}(h:jR K φ ω H v a)(p:v.pure=V):jR K ψ ω H v a:=by cases v with|dv d o=>exact cN.pure h p|tp l=>obtain⟨m,c,e,f⟩:=h;refine⟨m,c,e,λj x y a b=>(f j x y a b).pure ?_⟩;exact List.all_eq_true.1 p x ai|_=>exact h.elim
theorem jR.qC{v:SV}(h:jR K φ ω H v a):a≠.top:=by cases v with|dv d o=>exact cN.qC h|tp l=>obtain⟨m,b,_⟩:=h;grind|_=>exact h.elim
theorem vV.ok{u:Bool}{v:SV}(c:vV u K φ ω H O.lb O.g φ0 ω0 K' ψ fW H' g')(q:bX K φ ω H tm O.sl)(k:jR K' ψ fW H' v a)(f:u=V->v.pure=V)(h:aH {O with sl:=cK O.sl,g:=GH.back u O.g g'} dst v=J st'):Ok K' (ch.back u φ ψ) (wm u dst ω fW) H' st' (gQ tm dst a):=by
 have n:jR K' (ch.back u φ ψ) fW H' v a:=by cases u with|true=>exact k.pure (f rfl)|false=>exact k
 have o:=by
   refine xa c.hh.inv q c.nx.keep c.nx.ext c.ext (λp r b f h=>⟨?_,?_⟩) (λs i b h=>h);.cases p<;>first|exact h|exact f.elim
   .exact c.ret p r b (.inr ⟨λid e=>by subst e;exact f,λid I e=>by subst e;exact f⟩) h
 rcases yG h with⟨rfl,rfl⟩|⟨d,rfl,_,_,rfl⟩;.exact⟨c.hr _,o⟩
 . refine⟨c.hr _,?_⟩;refine w9 c.hc.inv o (bQ.refl _ _) (bo.refl _) (aU.refl _) (λp r b t w z h=>⟨?_,id⟩) (λs i b h=>h) aT (λ_=>k.qC) ?_;.grind[wm,bk]
   .cases v with|dv x ow=>exact cN.uC (by simp[wm,bk]) n|tp l=>obtain⟨m,k1,k2,k3⟩:=n;exact⟨m,k1,k2,λj x y a b=>(k3 j x y a b).uC (by simp[wm,bk])⟩|_=>exact n.elim
theorem vV.lG{u:Bool}{d:ah Nat}(c:vV u K φ ω H lb g φ0 ω0 K' ψ fW H' g')(f:∀p r b,ω p=J (r,b)->dL ωo r)(e:∀r,dL ω0 r->dL ωo r):∀p r b,wm u d ω fW p=J (r,b)->dL ωo r\/H.next<=r:=by
 intro p r b h;rcases GY h with⟨_,a,_⟩|⟨_,a⟩;.grind
 .exact(c.nx.lG _ _ _ a).imp_left (e r)
theorem Nx.up{o:ch}{g:aX}{e:aI}{d:ch}(t:bg H)(n:Nx K φ0 ω0 H K' ψ fW H')(f:∀r,dL ω0 r->dL ωo r)(q:bo g K)(I:sQ ωo H H g K)(i:aU o d)(s:∀p r b,e p=J (r,b)->dL ωo r\/H.next<=r):Nx g o ωo H K' d e H' where
 ext:=q.trans n.ext
 dk:=λj x u=>by
  obtain⟨k,c⟩:=n.dk j x u;refine⟨k,?_⟩;rcases c with c|c|c;.obtain⟨l,m⟩:=I j x c;rw[n.keep.root j l];exact m
  .exact .inr (.inl (f _ c))
  .exact .inr (.inr c)
 mS:=i
 keep:=n.keep.xg t λr _ h=>f r h
 lG:=s
 log:=⟨n.log.1,λr hr=>(n.log.2.1 r hr).imp_right λ⟨a,b⟩=>⟨a,f r b⟩,λr hr=>(n.log.2.2 r hr).imp_right λ⟨a,b⟩=>⟨a,f r b⟩⟩
end
section
variable{P:aG}{K K' K2:aX}{φ ψ φ0:ch}{ω ω' ω0 fW:aI}{H H':Heap}{lb:dV}{g g':GH}{O st':St}{tm:Tr AV}
theorem Fc:∀{l:aq}{i:Nat}{d:DV},jl e l=V->l[i]?=J d->d.gS e=V:=by intro l;induction l<;>grind[jl]
theorem U8{d x:DV}(h:d.gS e=V)(a:d.flat[j]?=J x):x.gS e=V:=by cases d with|agg l=>exact Fc (l:=l) (by grind[DV.gS]) a|_=>
 rcases j with _|j;.cases a;exact h
 simp[DV.flat]at a
theorem DR.gS{E:an->Prop}(L:∀id cells e,K' id=J (cells,e)->¬E e->K2 id=J (cells,e)){d:DV}(h:DR K' φ d a)(M:∀e,E e->d.gS e=V):DR K2 φ d a:=by induction h with
 |bool b=>exact .bool b|int k n=>exact .int k n|str s=>exact .str s|nl=>exact .nl|ay l e esz id I c cells h A v z B _ t=>
 have p:∀o,E o->e≠o/\jl o l=V:=λo w=>by grind[DV.gS,bE]
 refine .ay l e _ id _ c _ ai A v z B λi x j d a x1 x2 x3=>t i x j d a x1 x2 x3 λo w=>?_;exact U8 (Fc (p o w).2 x1) x2|ptr id I i h=>exact .ptr id _ i h|eN=>exact .eN|map r i h=>exact .map r i h|fR=>exact .fR|func f l1 l2 H K p q _ _ F G=>
 have u:∀o,E o->jl o l1=V/\jl o l2=V:=λo w=>by grind[DV.gS]
 exact .func f l1 l2 H K p q (λi d a x y=>F i d a x y λo w=>Fc (u o w).1 x) (λi d a x y=>G i d a x y λo w=>Fc (u o w).2 x)|dT l i h=>exact .dT l i h|cV a b c d e i f h g=>exact .cV a b c d e i f h g|nilFunc=>exact .nilFunc|agg l m h D _ t=>exact .agg l m h D λi d a x y=>t i d a x y λo w=>Fc (by grind[DV.gS]) x|jk a h q=>exact .jk a h q
def Th(l:List (DV×aM))(j:Nat)(e:an):Prop:=∃d n,l[j]?=J (.ay d e n,.ty e)/\jl e d=V/\∀k y,l[k]?=J y->k=j\/y.1.gS e=V
theorem aiU{l:List (DV×aM)}{x:DV×aM}(i:l[j]?=J x):(xd l j x=x/\∀e,¬Th l j e)\/∃d e n,x=(.ay d e n,.ty e)/\xd l j x=(.ay d e n,.ex e)/\Th l j e:=by
 obtain⟨d,o⟩:=x;have no:(∀dd e n,d=.ay dd e n->o≠.ty e)->∀e,¬Th l j e:=by rintro h e⟨dd,n,f,_⟩;grind
 cases d with
 |ay d e n=>cases o with
  |ty e1=>unfold xd;simp only;cases c:(aw e e1&&(jl e d&&l.zipIdx.all _))with|true=>simp only[gD,bE,gZ]at c;obtain⟨rfl,a,b⟩:=c;refine .inr ⟨d,e,n,rfl,rfl,d,n,i,a,λk y g=>?_⟩;have:=List.all_eq_true.1 b _ (List.mk_mem_zipIdx_iff_getElem?.2 g);grind|false=>refine .inl ⟨rfl,?_⟩;rintro m⟨dd,p,f,a,b⟩;grind[bE]
  |_=>exact .inl ⟨rfl,aT⟩
 |_=>exact .inl ⟨by unfold xd;rfl,no λ_ _ _ e=>by simp at e⟩
open Classical in def aX.less(K a:aX)(E:an->Prop):aX:=λi=>match a i with|some (c,e)=>if K i=Z/\E e then Z else J (c,e)|none=>Z
open Classical in def Jc(l:List (DV×aM))(a:aI):aI:=λp=>match p with|.tp 0 j=>if∃e,Th l j e then(a (.tp 0 j)).map λx=>(x.1,V)else a (.tp 0 j)|p=>a p
theorem MV{l:List (DV×aM)}{b:Bool}(h:Jc l ω p=J (r,b)):∃a,ω p=J (r,a)/\(a=b\/∃j e,p=.tp 0 j/\Th l j e):=by
 unfold Jc at h;split at h
 . rename_i j;split at h;.cases o:ω _<;>grind
   grind
 grind
theorem HR.bare(c:HR K' ψ fW H' [] g'):HR K' (λ_=>Z) fW H' [] .empty where
 inv:=c.inv
 dk:=c.dk
 inj:=c.inj
 clean:=c.clean
 cw:=c.cw
 box:=λs b h=>by simp[look]at h
 js:=λid o h=>by simp[GH.get,GH.empty,look]at h
 nu:=λ_ _=>rfl
 gV:=c.gV
theorem ahv{th:Bool}{v:SV}(S:HR K φ ω H lb g)(t:Nx K (λ_=>Z) ω0 H K' ψ fW H')(f:HR K' ψ fW H' [] g')(hv:jR K' ψ fW H' v a)(T:v.pure=V)(R:th=V->∀r,¬dL ω0 r):∃K2 z,Nx K (λ_=>Z) ω0 H K2 (λ_=>Z) z H'/\HR K2 (λ_=>Z) z H' [] .empty/\jR K2 (λ_=>Z) z H' (qJ th v) a:=by have D:Nx K _ _ H K' (λ_=>Z) _ H':=⟨t.ext,t.dk,aU.refl _,t.keep,t.lG,t.log⟩;have N:jR K' (λ_=>Z) _ H' v a:=hv.pure T;cases v with
 |tp l=>
 rcases th with _|_;.exact⟨K',fW,D,f.bare,N⟩
 have R:=R rfl;let E:an->Prop:=λe=>∃j,Th l j e;have X:∀i x,K.less K' E i=J x->K' i=J x/\(K i=Z->¬E x.2):=by
   intro i x h;unfold aX.less at h;split at h;.rename_i c e w;split at h<;>grind
   grind
 have Q:∀id cells e,K' id=J (cells,e)->¬E e->K.less K' E id=J (cells,e):=by grind[aX.less]
 have lJ:bo K (K.less K' E):=λid x h=>by obtain⟨c,e⟩:=x;unfold aX.less;rw[t.ext id _ h];grind
 have mf:=λp r b h=>(t.lG p r b h).resolve_left (R r);obtain⟨m,rfl,m1,m2⟩:=N;refine⟨_,Jc l _,⟨lJ,λj x hj=>t.dk j x (X j x hj).1,aU.refl _,t.keep,λp r b h=>let⟨L,O,_⟩:=MV h;t.lG p r L O,t.log⟩,?_,?_⟩
 . refine⟨f.inv,λid cells e h=>f.dk id cells e (X _ _ h).1,λp q r b c A h2=>?_,λp r id x T hx=>?_,λp r b h=>let⟨L,O,_⟩:=MV h;f.cw p r L O,λs b h=>by grind[look],λid o h=>by grind[GH.get,GH.empty,look],λ_ _=>rfl,f.gV⟩;.obtain⟨b1,k1,_⟩:=MV A;obtain⟨b2,k2,_⟩:=MV h2;exact f.inj _ _ _ _ _ k1 k2
   . obtain⟨kS,oK⟩:=X id x hx;obtain⟨L,k1,k2⟩:=MV T;rcases k2 with rfl|⟨j,e,rfl,P⟩;.exact f.clean p r id x k1 kS
     .intro hr;have EC:=mf _ _ _ k1;obtain⟨cells,u⟩:=x;obtain⟨root,fl,g1,_⟩:=f.dk id cells u kS;rw[lA g1]at hr;subst hr;cases w:K id with|some y=>obtain⟨c2,e2⟩:=y;obtain⟨r2,xR,g2,_⟩:=S.dk id c2 e2 w;have bU:=S.inv.get _ _ g2;have B:=t.keep.root id bU;rw[lA g1,lA g2]at B;have:=(S.inv.root _ _ _ _ _ g2).1;omega|none=>
         obtain⟨d,n,hl,_,_⟩:=P;obtain⟨y,W⟩:∃y,m[j]?=J y:=⟨m[j]'ai,dD _⟩;have U:=m2 j _ y hl W;rcases U.2 with h|⟨r3,b3,k3,k4⟩;.grind
         .have:r3=root:=ai;subst this;obtain⟨id3,_,_,_,_,_,_,_,t2,_⟩:=k4.ex;obtain⟨_,_,u1⟩:=f.gV _ _ _ _ _ t2;obtain⟨_,_,u2⟩:=f.gV _ _ _ _ _ g1;rw[u1]at u2;obtain⟨_,_,_,rfl⟩:=b9.cells.inj (bt u2);exact oK w ⟨j,d,n,hl,ab,ab⟩
 . refine⟨m,rfl,?_,λj x y hx W=>?_⟩;.simp_all
   . have Pp:∃x0,l[j]?=J x0/\x=xd l j x0:=by grind
     obtain⟨x0,Li,rfl⟩:=Pp;have U:=m2 j x0 y Li W;rcases aiU Li with⟨A,h2⟩|⟨d,e,n,rfl,A,P⟩
     . rw[A];have M:∀e,E e->x0.1.gS e=V:=by rintro e⟨k,w⟩;have hk0:=w;obtain⟨_,_,_,_,B⟩:=w;grind
       have kN:Jc l fW (.tp 0 j)=fW (.tp 0 j):=by grind[Jc]
       obtain⟨d,o⟩:=x0;cases o with|no=>exact DR.gS Q U M|any=>exact U|ty e=>exact⟨DR.gS Q U.1 M,U.2.imp_right λ⟨r,b,k1,k2⟩=>⟨r,b,ai,k2⟩⟩|full e=>exact⟨DR.gS Q U.1 M,U.2⟩|ex e=>refine U.imp_right λ⟨r,k1,k2⟩=>⟨r,ai,?_⟩;obtain⟨l2,esz,id,I,c,cells,fl,rfl,t2,t3,t4,t5,t6,t7,t8⟩:=k2.ex;refine⟨l2,esz,id,I,c,cells,fl,rfl,t2,t3,t4,t5,t6,⟨t7.1,t7.2.1,t7.2.2.1,λi x k d a F G y3=>DR.gS Q (t7.2.2.2 i x k d a F G y3) λu Y=>?_⟩,t8⟩;have:=M u Y;simp only[DV.gS,gD]at this;exact U8 (Fc this.2 F) G
     . rw[A];obtain⟨gN,B⟩:=U;rcases B with B|⟨r,b,k1,k2⟩;.grind
       . refine .inr ⟨r,?_,?_⟩;.unfold Jc;simp only;rw[if_pos ⟨e,P⟩,k1];rfl
         . obtain⟨id,I,len,c,esz,cells,fl,t1,t2,t3,t4,t5,t6⟩:=k2.ex;subst t1;have hE:∀u,E u->jl u d=V:=by rintro u⟨k,w⟩;obtain⟨d',n',h5,h6,h7⟩:=w;grind[DV.gS]
           cases gN with|ay _ _ _ _ _ _ Sj z1 z2 z3 z4 z5 z6=>obtain⟨_,_,g1,_⟩:=f.dk _ _ _ z1;rw[t2]at g1;obtain⟨rfl,_,_,_⟩:=b9.cells.inj (bt g1);exact⟨d,n,id,I,c,cells,fl,rfl,rfl,t2,t3,t4,t5,⟨z2,z3,z5,λi x k dd a F G y3=>DR.gS Q (z6 i x k dd a F G y3) λu Y=>U8 (Fc (hE u Y) F) G⟩,t6⟩
 |_=>exact⟨K',fW,D,f.bare,N⟩
end
def Ev(P:aG)(k:cg)(f:bV)(S:aJ)(H:Heap)(a:AV)(b:Heap):Prop:=k f S H=J (J (a,b))\/(k f S H=Z/\∃fr,wx P f S=J fr/\∃n,AM.run P k n fr H=J (.ret a b))
def ZV(P:aG)(k:cg)(i:Nat)(S:aJ)(H:Heap)(a:AV)(b:Heap):Prop:=∃fr,ur P k (.yield i) S H=J (.call fr H)/\∃n,AM.run P k n fr H=J (.ret a b)
def oQ(K:aX)(b:ch)(c:aI)(H:Heap)(r:aq)(o:aM)(S:aJ):Prop:=r.length=S.length/\∀(i:Nat)(d:DV)(a:AV),r[i]?=J d->S[i]?=J a->cN K b c H (.sl i) d a (if i=0 then o else .no)
def qN(P:aG)(k:cg)(j:bR)(r:dR):Prop:=∀f args ow g v l,r (.call f args ow g)=J (.val v l)->∀K e i H S,HR K e i H [] g->du P K (λ_=>Z) j.ao->oQ K e i H args ow S->∃a c d h b,Ev P k f S H a c/\(j.iK f args=Z->k f S H=Z)/\Nx K e i H d h b c/\HR d h b c [] l/\jR d h b c v a
def wa(P:aG)(k:cg)(m:bR)(r:dR):Prop:=∀l args g v h,r (.dT l args g)=J (.val v h)->∀K d j H S i,HR K d j H [] g->du P K (λ_=>Z) m.ao->bG K d args S->d l=J i->∃a c e f b,ZV P k i S H a c/\Nx K d j H e f b c/\HR e f b c [] h/\jR e f b c v a
section
variable{P:aG}{ak:cg}{rec:dR}{cf:bR}{K K' K1 K2:aX}{φ ψ φ0:ch}{ω ω' ω0 fW ω1:aI}{H H':Heap}{lb:dV}{g g':GH}{O st' st2:St}{tm:Tr AV}
def ly(p:Bool):Pk->ah Pk|.g id=>bif p then Z else J (.g id)|.gc id I=>bif p then Z else J (.gc id I)|_=>Z
theorem L4{u:Bool}{q:Pk}(h:ly u p=J q):q=p/\u=C/\((∃id,p=.g id)\/∃id I,p=.gc id I):=by cases p<;>grind[ly]
theorem HR.callee(a:HR K φ ω H lb g)(u:Bool):HR K (bif u then(λ_=>Z)else φ) (ω.of (ly u)) H [] (bif u then .empty else g):=by
 obtain⟨f,c3,j⟩:=Vm a (src:=ly _) (λp q y d e=>by grind[L4]);refine⟨a.inv,a.dk,f,c3,j,λs b h=>by grind[look],λid o h=>?_,λid hid=>?_,a.gV⟩;.cases u with|true=>grind[GH.get,GH.empty,look]|false=>obtain⟨i,d,e,k⟩:=a.js id o h;exact⟨i,d,e,k.keep a.inv (bQ.refl _ _) (bo.refl _) (aU.refl _) (λh=>h) λI r c x=>⟨x,λh=>h⟩⟩
 .cases u with|true=>rfl|false=>exact a.nu id hid
theorem HR.amT{b:Bool}(d:HR K φ ω H lb g)(n:p.slot)(v:∀q b,ω q≠J (r,b))(u:r<H.next)(N:b=V->∀j x,K j=J x->rootOf H j≠r):HR K φ (ω.set p (J (r,b))) H lb g:=by
 have back:∀q a c,ω.set p (J (r,b)) q=J (a,c)->(q=p/\a=r/\c=b)\/(q≠p/\ω q=J (a,c)):=by grind[aI.nC,aI.kV]
 refine d.uC (bo.refl _) (λq f=>aI.kV _ _ λe=>f (e▸n)) d.dk ?_ ?_ ?_
 . intro q s a c i k l;rcases back q a c k with⟨rfl,rfl,_⟩|⟨_,m⟩;.grind
   . rcases back s a i l with⟨_,rfl,_⟩|⟨_,h⟩;.grind
     .exact d.inj _ _ _ _ _ m h
 . intro q a j x f o;rcases back q a _ f with⟨_,rfl,t⟩|⟨_,h⟩;.grind
   .exact d.clean q a j x h o
 . intro q a c f;rcases back q a c f with⟨_,rfl,_⟩|⟨_,h⟩;.omega
   .exact d.cw _ _ _ h
theorem aFm(h:bG K φ l m)(p:cA l=V):bG K ψ l m:=⟨h.1,λi d a x y=>(h.2 i d a x y).pure (Df p x)⟩
theorem aaZ(hC:qN P ak cf rec){f:bV}{s:aq}{S:aJ}{v:SV}{T:GH}{fa:ah (Nat×Bool)}(u:Ok K φ ω H st2 tm)(hg:du P K φ cf.ao)(cZ:du P K (λ_=>Z) cf.ao)(G:kb cf rec f s ow st2.g (λv g=>J (v,g))=J (v,T))(jx:aH {st2 with sl:=cK st2.sl,g:=T} dst v=J st')(X:∀r b,fa=J (r,b)->(∀q c,ω q≠J (r,c))/\r<H.next/\(b=V->∀j x,K j=J x->rootOf H j≠r))(su:ow.yh=V->fa=Z)(jK:∀(ω0:aI),ω0 (.sl 0)=fa->oQ K φ ω0 H s ow S)(Y:∀p r b,ω p=J (r,b)->dL ωo r)(wL:∀r b,fa=J (r,b)->dL ωo r):∃a H' K' ψ ω',Ev P ak f S H a H'/\(cf.iK f s=Z->ak f S H=Z)/\Ok K' ψ ω' H' st' (gQ tm dst a)/\(∀(t:aX),bo t K->sQ ωo H H t K->Nx t φ ωo H K' ψ ω' H')/\(cf.eQ f=V->fa=Z->(∀r,r∈H'.bT->r∈H.bT)/\∀r,r∈H'.cG->r∈H.cG):=by
 have hb:=u.hr.callee (cf.eQ f);have CG:∀q r b,(ω.of (ly (cf.eQ f))) q=J (r,b)->ω q=J (r,b)/\cf.eQ f=C/\((∃id,q=.g id)\/∃id I,q=.gc id I):=by grind[aI.iz,L4]
 have U:∀q r b,((ω.of (ly (cf.eQ f))).set (.sl 0) fa) q=J (r,b)->(q=.sl 0/\fa=J (r,b))\/(ω q=J (r,b)/\cf.eQ f=C/\((∃id,q=.g id)\/∃id I,q=.gc id I)):=by intro q r b h;by_cases e:q=.sl 0<;>grind[aI.nC,aI.kV]
 have L:HR K (bif cf.eQ f then(λ_=>Z)else φ) ((ω.of (ly (cf.eQ f))).set (.sl 0) fa) H [] (bif cf.eQ f then .empty else st2.g):=by
  rcases fa with _|x
  . have:(ω.of (ly (cf.eQ f))).set (.sl 0) Z=ω.of (ly (cf.eQ f)):=by
     funext q;by_cases e:q=.sl 0;.subst e;rfl
     grind[aI.kV]
    grind
  obtain⟨r,b⟩:=x;obtain⟨k1,k2,k3⟩:=X r b rfl;exact hb.amT trivial (λq c h=>k1 q c (CG q r c h).1) k2 k3
 have D:=jK ((ω.of (ly (cf.eQ f))).set (.sl 0) fa) (aI.nC _ _ _);have CP:∀p r b,(cf.eQ f=V\/(∀id,p≠.g id)/\∀id I,p≠.gc id I)->ω p=J (r,b)->¬dL ((ω.of (ly (cf.eQ f))).set (.sl 0) fa) r:=by
  rintro p r b n h⟨q,c,M⟩;rcases U q r c M with⟨_,h1⟩|⟨h1,h2,h3⟩;.grind
  .have:=u.hr.inj _ _ _ _ _ h h1;grind
 have O1:∀r,dL ((ω.of (ly (cf.eQ f))).set (.sl 0) fa) r->dL ωo r:=by rintro r⟨q,c,M⟩;grind
 have fin:∀(K':aX)(ψ:ch)(fW:aI)(H':Heap)(g':GH)(a:AV),Ev P ak f S H a H'->(cf.iK f s=Z->ak f S H=Z)->Nx K (bif cf.eQ f then(λ_=>Z)else φ) ((ω.of (ly (cf.eQ f))).set (.sl 0) fa) H K' ψ fW H'->HR K' ψ fW H' [] g'->jR K' ψ fW H' v a->(cf.eQ f=V->v.pure=V)->T=GH.back (cf.eQ f) st2.g g'->∃a H' K' ψ ω',Ev P ak f S H a H'/\(cf.iK f s=Z->ak f S H=Z)/\Ok K' ψ ω' H' st' (gQ tm dst a)/\(∀(t:aX),bo t K->sQ ωo H H t K->Nx t φ ωo H K' ψ ω' H')/\(cf.eQ f=V->fa=Z->(∀r,r∈H'.bT->r∈H.bT)/\∀r,r∈H'.cG->r∈H.cG):=by
  intro K' ψ fW H' g' a e1 e0 e2 e3 e4 e5 e6;subst e6;have c:vV (cf.eQ f) K φ ω H st2.lb st2.g (bif cf.eQ f then(λ_=>Z)else φ) ((ω.of (ly (cf.eQ f))).set (.sl 0) fa) K' ψ fW H' g':=⟨u.hr,e2,e3,λh=>ai,CP⟩;refine⟨a,H',K',_,_,e1,e0,c.ok u.sl e4 e5 jx,λt W hI=>e2.up u.hr.inv O1 W hI c.ext (c.lG Y O1),λn hn=>?_⟩;have wJ:∀r,¬dL ((ω.of (ly (cf.eQ f))).set (.sl 0) fa) r:=by rintro r⟨q,b,M⟩;grind
  exact⟨λr hr=>(e2.log.2.1 r hr).resolve_right λh=>wJ r h.2,λr hr=>(e2.log.2.2 r hr).resolve_right λh=>wJ r h.2⟩
 unfold kb at G;cases n:cf.eQ f with
 |true=>rw[n]at G;simp only[aR]at G;cases cU:cA s with|false=>grind|true=>rw[cU]at G;simp only[aR]at G;obtain⟨m,hr,G⟩:=aF G;cases m with|out o=>grind|val w F=>simp only at G;cases E:w.pure with|false=>grind|true=>
     rw[E]at G;obtain⟨hv,Ep⟩:=il (bt G);rw[n]at L;have A:oQ K (λ_=>Z) ((ω.of (ly (cf.eQ f))).set (.sl 0) fa) H s ow S:=⟨D.1,λi d a x y=>(D.2 i d a x y).pure (Df cU x)⟩;rw[n]at A;obtain⟨a,H',K1,B,ω1,O,N,b2,Q,R⟩:=hC f s ow .empty w F hr K (λ_=>Z) _ H S L cZ A;obtain⟨K2,ω2,d1,d2,d3⟩:=ahv (th:=cf.qJ f&&ow.yh) u.hr b2 Q R E (λh r⟨q,b,M⟩=>by grind);subst hv;have Ib:(qJ (cf.qJ f&&ow.yh) w).pure=V:=by cases w with
     |tp l=>unfold qJ;cases(cf.qJ f&&ow.yh)with|false=>grind|true=>show(List.map (λx=>xd l x.2 x.1) l.zipIdx).all (λx=>x.1.pure)=V;refine List.all_eq_true.2 λy hy=>?_;obtain⟨z,hz,rfl⟩:=List.mem_map.1 hy;obtain⟨x0,k⟩:=z;have Li:=List.mk_mem_zipIdx_iff_getElem?.1 hz;have:=List.all_eq_true.1 E x0 (dw Li);grind[aiU]
     |_=>exact E
     have m:=fin K2 (λ_=>Z) ω2 H' .empty a O N ai d2 d3 (λ_=>Ib) (by rw[n];exact Ep.symm);grind
 |false=>rw[n]at G;simp only[bS]at G;obtain⟨m,hr,G⟩:=aF G;cases m with|out o=>grind|val w F=>obtain⟨rfl,rfl⟩:=il (bt G);rw[n]at L D;obtain⟨a,H',K1,B,ω1,O,N,b2,Q,R⟩:=hC f s ow st2.g w F hr K φ _ H S L cZ D;have m:=fin K1 B ω1 H' F a O N ai Q R (λh=>ai) (by rw[n];rfl);grind
end
end Go.VM
namespace Go.AM
open Go
variable{r:AA}{v:AV}{H H' H1 H2 a:Heap}{k:List Item}{cs:List dh}{l:Nat}{out:Out}{p:Pl}{rec:Rec}{tm:Tr AV}{w:aW}{φ:bc}{F:dh}
structure qP(ops:Array aB)(ord:aD):Prop where
 nodup:ord.Nodup
 all:∀i,i<ops.size↔i∈ord
 before:∀(a b:aD)(i:Nat)(o:aB),ord=a++i::b->ops[i]?=J o->∀e,e∈o.after.toList->tU .any e=V->e.on∈a
def Ju(P:aG)(a:cg)(e:Rec):Prop:=∀(o:Array aB)(fr:cD)(H:Heap)(r:AN),vD o.toList=V->vG P a e o o.toList 0 [] fr H=J r->∀(φ:bc)(w:aW)(F:dh)(cs:List dh)(d:aD)(k:List Item),bg H->bM gC φ H w->iP P φ->fr.mode=.run->iM φ fr F (.inRegion o d::k)->qP o d->JB P φ H w fr F cs (.inRegion o []::k) r
section
variable{P:aG}{φ:bc}{H:Heap}{w:aW}
theorem abL(e:m8 P rec){f:cD}{F':dh}(i:bg H)(s:bM gC φ H w)(g:iP P φ)(c:step P (fc F cs w)=.next (fc F' cs w))(a:iM φ {f with todo:=k} F' k)(b:F'.fn=F.fn)(h:rec {f with todo:=k} H=J out):kp P φ H w f F cs out:=kp.after i s (fT.refl i s) (Steps.one c) rfl b (e _ H out h φ w F' cs i s g a)
theorem iM.to{f:cD}{a:List Item}(h:iM φ f F a)(k:List Item):iM φ {f with todo:=k} {F with todo:=k} k:=⟨h.fn,h.tmps,λ_=>rfl,h.defers,h.mode,h.kind,h.round⟩
theorem Zu(e:m8 P rec){f:cD}(i:bg H)(s:bM gC φ H w)(g:iP P φ)(m:f.mode=.run)(a:iM φ f F f.todo)(c:∀(F:dh),F.mode=.run->F.todo=f.todo->(stepG P V {frame:=F,callers:=cs,status:=.running,dying:=Z} w).bare=.go {frame:={F with todo:=k},callers:=cs,status:=.running,dying:=Z} w)(h:rec {f with todo:=k} H=J out):kp P φ H w f F cs out:=abL e i s g (F':={F with todo:=k}) (step_lone_go (c F (a.run m) (a.todo m))) (a.to k) rfl h
theorem aGr{n:Func}{j:cD}(I:bM gC φ H w)(y:iM φ j F k)(h:IT P n j H=J v):∃u,(results n F.tmps).run P w=.ok u w/\VR φ v u:=by
 unfold IT at h;simp only[ja]at h;obtain⟨g,T,N⟩:=h;obtain⟨h1,h2⟩:=E3 T;have q:∃s:List aC,s.length=g.length/\∀(i:Nat)(x:oy)(u:aC)(a:AV),n.results.toList[i]?=J x->s[i]?=J u->g[i]?=J a->((match x with|.tmp t=>pure (F.tmps.getD t undef)|.cell a t=>do Go.loadVar t (<-asAddr (F.tmps.getD a undef)):Sem aC)).run P w=.ok u w/\VR φ a u:=by
  have R:∀(l:List oy)(S:aJ),cu (λ|.tmp t=>J (j.tmp t)|.cell a t=>match j.tmp a with|.ptr id o=>AM.loadVar P H t id o|_=>Z) l=J S->∃s:List aC,s.length=S.length/\∀(i:Nat)(x:oy)(u:aC)(a:AV),l[i]?=J x->s[i]?=J u->S[i]?=J a->((match x with|.tmp t=>pure (F.tmps.getD t undef)|.cell a t=>do Go.loadVar t (<-asAddr (F.tmps.getD a undef)):Sem aC)).run P w=.ok u w/\VR φ a u:=by intro l;induction l with|nil=>simp[EZ]|cons x l O=>
   intro S h;rw[PX]at h;obtain⟨a,d,h⟩:=aF h;obtain⟨t,M,h⟩:=aF h;cases h;obtain⟨s,B,D⟩:=O t M;have A:∃u,((match x with|.tmp t=>pure (F.tmps.getD t undef)|.cell a t=>do Go.loadVar t (<-asAddr (F.tmps.getD a undef)):Sem aC)).run P w=.ok u w/\VR φ a u:=by cases x with|tmp t=>simp only at d;cases d;exact⟨F.tmps.getD t undef,by rfl,y.tmps.2 t⟩|cell c t=>
    simp only at d;have m:=y.tmps.2 c;have e:j.tmp c=(j.tmps.get c).getD fo:=rfl;rw[<-e]at m;split at d;.rename_i id o hid;rw[hid]at m;simp only;generalize F.tmps.getD c undef=cv at m|-;cases m with|ptr _ _ p G=>obtain⟨u,l1,l2⟩:=afM (P:=P) I G trivial d;grind[asAddr]
    grind
   obtain⟨u,X,Y⟩:=A;refine⟨u::s,ai,λi x' u' a' e1 e2 e3=>?_⟩;cases i<;>grind
  grind
 obtain⟨s,B,D⟩:=q;have K:(n.results.mapM (λ|.tmp t=>pure (F.tmps.getD t undef)|.cell a t=>do Go.loadVar t (<-asAddr (F.tmps.getD a undef)):oy->Sem aC)).run P w=.ok s.toArray w:=by have hm:=aif (P:=P) (w:=w) (f:=(λ|.tmp t=>pure (F.tmps.getD t undef)|.cell a t=>do Go.loadVar t (<-asAddr (F.tmps.getD a undef)):oy->Sem aC)) n.results.toList s ab (λi x u A z=>by grind);simp_all[Array.mapM_eq_mapM_toList]
 have L:ba φ g s:=⟨B.symm,λi a u d z=>by have U:i<n.results.toList.length:=ai;exact(D i _ u a (dD U) z d).2⟩;have Q:(results n F.tmps).run P w=.ok (if h:s.toArray.size=1 then s.toArray[0]else .tuple s.toArray) w:=by unfold results;rw[Sem.run_bind];exact gY (λr=>Result.andThen r (λa W=>Sem.run P (pure (if h:a.size=1 then a[0]else Value.tuple a)) W)) K
 refine⟨_,Q,?_⟩;cases g with|nil=>grind[ba.cM]|cons a g=>cases g with|nil=>obtain⟨u,t,rfl,e1,e2⟩:=L.cons_inv;grind|cons b g=>
  subst N;have E:¬s.toArray.size=1:=by grind
  rw[dif_neg E];exact L.cM _ rfl
theorem LJ(s:bM gC φ H w)(a:φ l=J p)(g:H.get l=J (.loop r)):p.base=0/\∃R:Loop,w.heap[p.aY]?=J (.loop R)/\GG φ r R:=s.obj l p _ a trivial (by intro b c f e h;grind) g
theorem VB(i:bg H)(s:bM gC φ H w){r':AA}(a:Loop)(h:φ l=J p)(g:H.get l=J (.loop r))(L:GG φ r' a):fT φ H w φ (H.put l l (.loop r')) (World.eU w p.aY (.loop a)):=by obtain⟨b,R,c,d⟩:=LJ s h g;exact QC i s _ h g rfl rfl ⟨b,a,QW w (s.stat.cw l p h).1 _,L⟩
theorem afF{f:cD}{jump:ah bF}(q:bg H)(s:bM gC φ H w)(m:f.mode=.run)(a:iM φ f F f.todo)(k:f.roundOf=J l)(g:H.get l=J (.loop r))(j:∀(F:dh)(c:dh)(rest:List dh)(b:Nat)(v:aC)(i:aW),F.mode=.run->F.todo=f.todo->F.roundOf=J b->F.kind=.normal->(Instr.endRound b jump).run P w=.ok v i->(stepG P V {frame:=F,callers:=c::rest,status:=.running,dying:=Z} w).bare=.go {frame:=c.finish v,callers:=rest,status:=.running,dying:=Z} i):kp P φ H w f F cs (.ret (.bool jump.isNone) (H.put l l (.loop {r with state:=(if jump.isNone then .ready else .done),pending:=jump}))):=by
 have n:=a.round;rw[k]at n;rcases E:F.roundOf with _|b;.grind[zg]
 rw[E]at n;obtain⟨p,d,rfl⟩:=n;obtain⟨u,R,o,h⟩:=LJ s d g;have A:=VB q s (r':={r with state:=(if jump.isNone then .ready else .done),pending:=jump}) {R with state:=(if jump.isNone then .ready else .done),pending:=jump} d g ⟨rfl,rfl,h.fn,h.tmps,h.params,h.assign,h.body,h.defers⟩;have t:(Instr.endRound p.aY jump).run P w=.ok (.bool jump.isNone) (World.eU w p.aY (.loop {R with state:=(if jump.isNone then .ready else .done),pending:=jump})):=by have e1:(getObj _).run P w=.ok _ w:=yD o aO;simp_all[I5,Instr.endRound,Instr.getLoop]
 refine⟨φ,_,_,A,.bool _,λx=>ai,λ_ c rest e=>?_⟩;subst e;exact Steps.one (step_lone_go (j F c _ _ _ _ (a.run m) (a.todo m) E a.kind t))
theorem aaz(W:m8 P rec){fr f:cD}{o:Array aB}(i:bg H)(s:bM gC φ H w)(g:iP P φ)(l:fr.todo=k)(e:JB P φ H w fr F cs (.inRegion o []::k) (.next f H1))(h:rec f H1=J out):kp P φ H w fr F cs out:=by
 obtain⟨d,c,a,q,p,f1,m,n⟩:=e;have t:=f1.run m.mode;have j:step P (fc a cs c)=.next (fc {a with todo:=k} cs c):=step_lone_go (by simp[stepG,tJ,t,f1.todo m.mode]);have b:iM d f {a with todo:=k} f.todo:=by rw[m.todo,l];exact⟨f1.fn,f1.tmps,λ_=>rfl,f1.defers,f1.mode,f1.kind,f1.round⟩
 exact kp.after i s p (q.trans (Steps.one j)) m.round n (W _ H1 _ h d c _ cs p.1 p.2.1 (g.mono p.2.2.ext) b)
theorem fT.drew{b:bc}{a:aW}(h:fT φ H w.drew b H' a):fT φ H w b H' a:=⟨h.1,h.2.1,(hQ.drew (S:=gC) ⟨h.1,h.2.1.up (λ_ _=>trivial),h.2.2⟩).2.2⟩
theorem YF{b:cg}(e:m8 P rec)(I:jH P b)(n:qQ P)(N:Ju P b rec)(p:∀(o:Array aB)(t:Nat),vD o.toList=V->qP o (Region.schedule (P.follows .mixedOrders) o t)){fr:cD}{f:Nat}{o:Array aB}{d:Bool}(i:bg H)(s:bM gC φ H w)(g:iP P φ)(m:fr.mode=.run)(q:fr.todo=.code (.region f o d)::k)(a:iM φ fr F fr.todo)(h:xF P b rec fr H o d k=J out):kp P φ H w fr F cs out:=by
 obtain⟨⟨r,H1⟩,hr,j⟩:=aF h;have u:=a.run m;have v:=a.todo m;rcases d with _|_;.have c:step P (fc F cs w)=.next (fc {F with todo:=.inRegion o (tO o.size)::k} cs w):=step_lone_go (by simp_all[stepG,tJ]);have E:iM φ {fr with todo:=k} {F with todo:=.inRegion o (tO o.size)::k} (.inRegion o (List.range' 0 o.toList.length)::k):=⟨a.fn,a.tmps,λ_=>by simp[List.range_eq_range'],a.defers,a.mode,a.kind,a.round⟩;exact kp.after i s (fT.refl i s) (Steps.one c) rfl rfl (aaz e (fr:={fr with todo:=k}) i s g rfl (aGT e I n _ 0 (by rfl) _ H _ hr φ w _ cs i s g m E) j)
 rcases O:vD o.toList with _|_;.grind
 rw[O]at hr;have c:step P (fc F cs w)=.next (fc {F with todo:=.inRegion o (Region.schedule (P.follows .mixedOrders) o (w.tape w.drawn (.order F.fn f)))::k} cs w.drew):=step_lone_go (by simp_all[stepG,tJ,Question.forced,Question.cut]);have l:=N _ _ H _ O hr φ _ {F with todo:=.inRegion _ (Region.schedule (P.follows .mixedOrders) o (w.tape w.drawn (.order F.fn f)))::k} cs _ k i s.drew g m ⟨a.fn,a.tmps,λ_=>rfl,a.defers,a.mode,a.kind,a.round⟩ aT;exact kp.after i s (fT.refl i s.drew).drew (Steps.one c) rfl rfl (aaz e (fr:={fr with todo:=k}) i s.drew g rfl l j)
theorem yX.append{b:aD}{c:List Deferred}:∀{l:aD}{m:List Deferred},yX φ l m->yX φ b c->yX φ (l++b) (m++c)|[],[],_,k=>k|_::_,_::_,⟨a,r⟩,k=>⟨a,r.append k⟩|[],_::_,r,_|_::_,[],r,_=>r.elim
theorem aFL{ak:cg}(eW:m8 P rec)(hn:qQ P){o:cD}{f:aK}{d:Array Tmp}{s b:bF}(hi:bg H)(U:bM gC φ H w)(hg:iP P φ)(hm:o.mode=.run)(ht:o.todo=.code (.rangeFunc f d s b)::k)(E:iM φ o F o.todo)(h:JM P ak rec o H f d s b k=J out):kp P φ H w o F cs out:=by
 have ta:=E.run hm;have tj:=E.todo hm;rw[ht]at tj;unfold JM at h;split at h
 . rename_i g first z hf;dsimp only at h;obtain⟨m,Y,S⟩:=aF h;clear h;have hr:=Frame.reads F;have wF:=(fE hg hr (λt e=>by subst e;exact E.tmps.2 t) hf).1;have OW:∃B j W mark,fT φ H w B m.2.2 j/\B m.1=J W/\yX B m.2.1 mark/\((F.roundOf=Z/\mark=[{target:=.collected w.heap.size,args:=#[]}]/\W.aY=w.heap.size/\j=World.push w (.deferred (J [])))\/(∃pb R,F.roundOf=J pb/\j=w/\mark=[]/\(getObj pb).run P w=.ok (.loop R) w/\R.defers=W.aY)):=by have pn:=E.round;cases eC:o.roundOf with
     |none=>rw[eC]at Y pn;simp only at Y;cases Y;cases CE:F.roundOf with|some b=>grind[zg]|none=>obtain⟨h1,S,T⟩:=LQ (P:=P) hi U (.deferred V) (.deferred (J [])) rfl ⟨rfl,wX w _⟩;exact⟨_,_,_,[{target:=.collected w.heap.size,args:=#[]}],⟨T.1,T.2.1.up (λ_ _=>.inl trivial),T.2.2⟩,S,⟨⟨_,S,rfl⟩,trivial⟩,.inl ⟨rfl,rfl,rfl,rfl⟩⟩
     |some l=>rw[eC]at Y pn;simp only at Y;cases CE:F.roundOf with|none=>grind[zg]|some b=>
         rw[CE]at pn;obtain⟨p,hp,rfl⟩:=pn;split at Y;.rename_i r nO;cases Y;obtain⟨h0,R,h1,L⟩:=LJ U hp nO;obtain⟨q,hq,Ug⟩:=L.defers;exact⟨φ,w,q,[],fT.refl hi U,hq,trivial,.inr ⟨p.aY,R,rfl,rfl,rfl,yD h1 aO,Ug⟩⟩
         grind
   obtain⟨B,j,W,mark,p1,Uf,avh,avS⟩:=OW;have OE:=E.mono p1.2.2.ext;obtain⟨n1,n2,n3⟩:=LQ (P:=P) p1.1 p1.2.1 (.loop {state:=.ready,pending:=Z,fn:=o.fn,n:=o.n,tmps:=o.tmps,params:=d.toList,assign:=s,body:=b,defers:=m.1}) (.loop {state:=.ready,pending:=Z,fn:=F.fn,tmps:=F.tmps,params:=d,assign:=s,body:=b,defers:=W.aY}) rfl ⟨rfl,_,wX j _,⟨rfl,rfl,OE.fn,OE.tmps,rfl,rfl,rfl,W,Uf,rfl⟩⟩;obtain⟨I,CT⟩:∃I,I=World.push j (.loop {state:=.ready,pending:=Z,fn:=F.fn,tmps:=F.tmps,params:=d,assign:=s,body:=b,defers:=W.aY}):=⟨_,rfl⟩;obtain⟨A,Q⟩:∃A,A=fp B m.2.2.next ⟨j.heap.size,0,0,0⟩:=⟨_,rfl⟩;rw[<-CT,<-Q]at n3;rw[<-Q]at n2;rw[<-CT]at n1;have p2:fT B m.2.2 j A _ I:=⟨n3.1,n3.2.1.up (λ_ _=>.inl trivial),n3.2.2⟩;have O:=p1.trans hi U p2;have ad3:(Instr.enterLoop F.fn F.tmps d s b F.roundOf).run P w=.ok (j.heap.size,mark) I:=by
     rcases avS with⟨e1,e2,e3,e4⟩|⟨pb,R,e1,e2,e3,e4,e5⟩
     . have su:(newObj (.deferred (J []))).run P w=.ok w.heap.size j:=by rw[e4];rfl
       simp_all[Instr.enterLoop]
     simp_all[Instr.enterLoop,Instr.getLoop]
   split at S
   . rename_i c Hc fG;obtain⟨⟨v,H3⟩,va,T⟩:=aF S;clear S;unfold xI at fG;split at fG;.simp_all
     . simp only[ja]at fG;obtain⟨c',Bf,hy⟩:=fG;obtain⟨rfl,rfl⟩:=fh.call.inj hy;have hfe:∃K M:Array aC,F.eval f=.func (.func g) K M/\ba A first K.toList/\ba A z M.toList:=by generalize F.eval f=fv at wF;cases wF with|func _ _ _ K M h1 S g1 g2=>exact⟨K,M,rfl,ba.mono O.2.2.ext ⟨ab,λi a v x y=>g1 i a v x ai⟩,ba.mono O.2.2.ext ⟨ab,λi a v x y=>g2 i a v x ai⟩⟩
       obtain⟨K,M,hfe,iw,jV⟩:=hfe;have Ut:VR A (.yield m.2.2.next) (.func (.yield j.heap.size) #[] #[]):=VR.yield m.2.2.next ⟨j.heap.size,0,0,0⟩ n2;have jK:ba A (dF (dF first [.yield m.2.2.next]) z) ((K++#[Value.func (.yield j.heap.size) #[] #[]])++M).toList:=by rw[kZ,kZ,Array.toList_append,Array.toList_append];exact(iw.append (ba.cons Ut (ba.nil _))).append jV
       obtain⟨e1,e4,e7,fn,bd,e5,e6⟩:=J9 Bf jK;have hcf:=JR hn e5 e6 ((K++#[Value.func (.yield j.heap.size) #[] #[]])++M) I;obtain⟨G,hG⟩:∃G:dh,G={F with todo:=.inRangeFunc j.heap.size::k,defers:=mark++F.defers}:=⟨_,rfl⟩;have cj:step P (fc F cs w)=.next (fc (Frame.enter P g ((K++#[Value.func (.yield j.heap.size) #[] #[]])++M) .normal) (G::cs) I):=by
         have wB:∀(D:Sem Next),D.run P I=.ok (.enter g ((K++#[Value.func (.yield j.heap.size) #[] #[]])++M)) I->(stepG.apply P V G cs Z D I).bare=.go {frame:=Frame.enter P g ((K++#[Value.func (.yield j.heap.size) #[] #[]])++M) .normal,callers:=G::cs,status:=.running,dying:=Z} I:=by simp_all[stepG.apply]
         refine step_lone_go ?_;have ui:G.eval f=F.eval f:=by rw[hG];rfl
         obtain⟨Ffn,Ft,aLs,Fd,Fm,Fk,Fr⟩:=F;simp only at ta tj ad3 hG;subst ta;subst tj;simp only[stepG,tJ,Sem.runT_fst,ad3,GStep.bare_after];rw[<-hG];exact wB _ (by have hyc:∀v,G.eval (.const v)=v:=λ_=>rfl;grind[resolve,Deferred.ofValue,invoke])
       obtain⟨ψ3,X,u,p3,v3,s3⟩:=kp.back (eW c' _ _ va A I _ (G::cs) O.1 O.2.1 (hg.mono O.2.2.ext) e1);have hGF:iM A {o with todo:=k,defers:=dF m.2.1 o.defers} G (.inRangeFunc j.heap.size::k):=by rw[hG,kZ];exact⟨E.fn,E.tmps.mono O.2.2.ext,λ_=>rfl,(avh.mono p2.2.2.ext).append (E.defers.mono O.2.2.ext),E.mode,E.kind,E.round.mono O.2.2.ext⟩
       have hGm:G.mode=.run:=aT;have Qi:=O.trans hi U p3;have pg:G.finish u={G with todo:=.endRangeFunc j.heap.size::k}:=by rw[hG];rfl
       rw[pg]at s3;split at T
       . rename_i r nO;have hp3:ψ3 m.2.2.next=J ⟨j.heap.size,0,0,0⟩:=p3.2.2.ext _ _ n2;obtain⟨h0,R,hR,L⟩:=LJ Qi.2.1 hp3 nO;have mM:r.state≠.busy:=by grind
         have EA:=VB Qi.1 Qi.2.1 (r':={r with state:=.exhausted}) {R with state:=.exhausted} hp3 nO ⟨rfl,L.pending,L.fn,L.tmps,L.params,L.assign,L.body,L.defers⟩;have Qj:=Qi.trans hi U EA;have wE:(Instr.endLoop j.heap.size).run P X=.ok R.pending (World.eU X j.heap.size (.loop {R with state:=.exhausted})):=by
          have e1:(getObj j.heap.size).run P X=.ok (.loop R) X:=yD hR aO;have e2:=λaa=>I5 (P:=P) (o':=aa) hR aO;have e3:R.state≠.busy:=by rw[L.state];omega
          simp_all[Instr.endLoop,Instr.getLoop]
         have zV:step P (fc {G with todo:=.endRangeFunc j.heap.size::k} cs X)=.next (fc {G with todo:=(R.pending.map Item.code).toList++k} cs (World.eU X j.heap.size (.loop {R with state:=.exhausted}))):=by have r1:=Sem.runT_fst P (Instr.endLoop j.heap.size) X #[];rw[wE]at r1;exact step_lone_go (by simp_all[stepG,tJ])
         have aeL:=(Steps.head cj s3).trans (Steps.one zV);have hF4:∀N,iM ψ3 {o with todo:=N,defers:=dF m.2.1 o.defers} {G with todo:=N} N:=λN=>have x:=hGF.mono p3.2.2.ext
          ⟨x.fn,x.tmps,λ_=>rfl,x.defers,x.mode,x.kind,x.round⟩;have aMH:=L.pending;have aMc:∀N,(R.pending.map Item.code).toList++k=N->rec {o with todo:=N,defers:=dF m.2.1 o.defers} (H3.put m.2.2.next m.2.2.next (.loop {r with state:=.exhausted}))=J out->kp P φ H w o F cs out:=by intro N CM h4;rw[CM]at aeL;exact kp.after (fr1:={o with todo:=N,defers:=dF m.2.1 o.defers}) hi U Qj aeL rfl ai (eW _ _ out h4 ψ3 _ _ cs Qj.1 Qj.2.1 (hg.mono Qj.2.2.ext) (hF4 N))
         have h5:(match r.pending with|some c=>rec {o with todo:=.code c::k,defers:=dF m.2.1 o.defers} (H3.put m.2.2.next m.2.2.next (.loop {r with state:=.exhausted}))|none=>rec {o with todo:=k,defers:=dF m.2.1 o.defers} (H3.put m.2.2.next m.2.2.next (.loop {r with state:=.exhausted})))=J out:=by cases cj:r.state<;>rw[cj]at T<;>first|exact T|simp_all
         grind
       grind
   grind
 grind
theorem aJZ(i:bg H)(s:bM gC φ H w){r:Nat}(a:φ r=J p)(g:H.get r=J (.deferred V)):∃c,(Instr.takeDeferred p.aY).run P w=.ok [] c/\fT φ H w φ (H.put r r (.deferred C)) c:=by obtain⟨d,b⟩:=s.obj r p _ a trivial (by intro l j f e h;grind) g;have e1:(getObj _).run P w=.ok _ w:=yD b aO;have e2:=λo=>I5 (P:=P) (o':=o) b aO;exact⟨_,by simp_all[Instr.takeDeferred],QC i s _ a g rfl rfl ⟨d,QW w (s.stat.cw r p a).1 _⟩⟩
theorem aGY{y:cg}(W:m8 P rec)(oI:jH P y)(hn:qQ P)(gN:Ju P y rec)(OV:∀(o:Array aB)(t:Nat),vD o.toList=V->qP o (Region.schedule (P.follows .mixedOrders) o t)){f:cD}(n:f.mode=.run)(h:uN P y rec f H=J out)(i:bg H)(s:bM gC φ H w)(m:iP P φ)(d:iM φ f F f.todo):kp P φ H w f F cs out:=by
 have M:=d.run n;have x:=d.todo n;have N:∀(j:ah bF),afn f.todo=j->(j=Z\/j=J .ret)->(∀(F:dh)(cs:List dh)(w:aW),F.mode=.run->F.todo=f.todo->F.roundOf=Z->(stepG P V {frame:=F,callers:=cs,status:=.running,dying:=Z} w).bare=.go {frame:={F with mode:=.returning},callers:=cs,status:=.running,dying:=Z} w)->(∀(F:dh)(c:dh)(rest:List dh)(b:Nat)(v:aC)(w D:aW),F.mode=.run->F.todo=f.todo->F.roundOf=J b->F.kind=.normal->(Instr.endRound b j).run P w=.ok v D->(stepG P V {frame:=F,callers:=c::rest,status:=.running,dying:=Z} w).bare=.go {frame:=c.finish v,callers:=rest,status:=.running,dying:=Z} D)->wj rec f H=J out->kp P φ H w f F cs out:=by
   intro j T hj wM zV h;unfold wj at h;split at h;.rename_i q;have z:=step_lone_go (wM F cs w M x (d.aA8 q));exact kp.after (fr1:={f with mode:=.returning}) i s (fT.refl i s) (Steps.one z) rfl rfl (W _ H out h φ w {F with mode:=.returning} cs i s m ⟨d.fn,d.tmps,λhh=>by grind[cD.QR],d.defers,rfl,d.kind,d.round⟩)
   grind[afF]
 unfold uN at h;split at h;.rename_i g;refine N Z (by rw[g];rfl) (.inl rfl) ?_ ?_ h;all_goals simp_all[stepG,tJ,doReturn]
 .rename_i k g;refine N (J .ret) (by rw[g];rfl) (.inr rfl) ?_ ?_ h;all_goals simp_all[stepG,tJ,doReturn]
 iterate 5·rename_i g;exact Zu W i s m n d (λF u A=>by simp_all[stepG,tJ]) h
 . rename_i c a b k g;have hr:=Frame.reads F;rw[g]at x;unfold xD at h;split at h;iterate 2
     . rename_i S;have K:=(fE m hr (λt e=>by subst e;exact d.tmps.2 t) S).1;refine abL W i s m ?_ (d.to _) ?_ h;rotate_left;.rfl
       refine step_lone_go ?_;generalize HG:F.eval c=cv at K;cases K;simp_all[stepG,tJ]
   simp_all
 iterate 4·rename_i g;exact Zu W i s m n d (λF u A=>by simp_all[stepG,tJ]) h
 . rename_i id k g;unfold xE at h;split at h;.rename_i k' X;exact Zu W i s m n d (λF u A=>by simp_all[stepG,tJ]) h
   . rename_i X;split at h;.simp_all
     . rename_i l q;split at h;.rename_i r O;cases h;exact afF (jump:=J (.exit id)) i s n d q O (λF c rest b v D u A h3 h4 h5=>by simp_all[stepG,tJ,doReturn])
       simp_all
 .grind[YF]
 .grind[aFL]
 . rename_i k g;rw[g]at x;unfold AX at h;split at h
   . rename_i l q;split at h
     . rename_i r O;split at h;.rename_i z;have B:=d.round;rw[q]at B;cases G:F.roundOf with|none=>grind[zg]|some b=>
        rw[G]at B;obtain⟨p,I,rfl⟩:=B;obtain⟨h0,R,u,L⟩:=LJ s I O;have E:=VB i s (r':={r with state:=.busy}) {R with state:=.busy} I O ⟨rfl,L.pending,L.fn,L.tmps,L.params,L.assign,L.body,L.defers⟩;have Q:R.state=.ready:=by rw[L.state,z]
        have U:(Instr.beginRound p.aY).run P w=.ok () (World.eU w p.aY (.loop {R with state:=.busy})):=by have e1:(getObj p.aY).run P w=.ok (.loop R) w:=yD u aO;simp_all[I5,Instr.beginRound,Instr.getLoop]
        have Y:step P (fc F cs w)=.next (fc {F with todo:=k} cs (World.eU w p.aY (.loop {R with state:=.busy}))):=by
         refine step_lone_go ?_;have pg:F.finish undef={F with todo:=k}:=by grind[Frame.finish]
         simp[stepG,tJ,M,x,G,stepG.apply,U,pg]
        exact kp.after (fr1:={f with todo:=k}) i s E (Steps.one Y) rfl rfl (W _ _ out h φ _ _ cs E.1 E.2.1 m (d.to k))
       simp_all
     simp_all
   simp_all
 grind
theorem aKz(W:m8 P rec){f:cD}(m:f.mode=.returning)(h:D0 P rec f H=J out)(i:bg H)(s:bM gC φ H w)(l:iP P φ)(a:iM φ f F f.todo):kp P φ H w f F cs out:=by
 have t:=a.mode.trans m;unfold D0 at h;split at h;.grind
 . rename_i k;have r:=a.defers;split at h
   . rename_i d q hd;rw[hd]at r;rcases b:F.defers with _|⟨e,c⟩;.rw[b]at r;exact r.elim
     rw[b]at r;obtain⟨⟨p,n,rfl⟩,I⟩:=r;split at h;.rename_i R;obtain⟨g,t1,t3⟩:=aJZ (P:=P) i s n R;have j:step P (fc F cs w)=.next (fc {F with defers:=c} cs g):=step_lone_go (by simp_all[stepG,unwind]);exact kp.after i s t3 (Steps.one j) rfl rfl (W _ _ _ h φ g _ cs t3.1 t3.2.1 l ⟨a.fn,a.tmps,a.todo,I,a.mode,a.kind,a.round⟩)
     grind
   . rename_i hd;have b:F.defers=[]:=by
      rw[hd]at r;rcases b:F.defers with _|⟨e,c⟩;.rfl
      rw[b]at r;exact r.elim
     rw[Tx]at h;obtain⟨fn,y,h⟩:=aF h;simp only[ja]at h;obtain⟨v,o,rfl⟩:=h;obtain⟨u,r1,r2⟩:=aGr s a o;exact⟨φ,w,u,fT.refl i s,r2,λ_=>⟨F,Steps.refl P _,rfl,t,b,a.kind,fn,by rw[a.fn];omega,r1⟩,λB=>absurd k B⟩
theorem alL{a:cg}(e:m8 P rec)(I:jH P a)(n:qQ P)(g:Ju P a rec)(O:∀(o:Array aB)(t:Nat),vD o.toList=V->qP o (Region.schedule (P.follows .mixedOrders) o t)):m8 P (body P a rec):=by intro fr H out h φ w F cs i s c b;grind[body,aGY,aKz]
theorem aGL{a:cg}(I:jH P a)(b:qQ P)(g:∀rec,m8 P rec->Ju P a rec)(O:∀(o:Array aB)(t:Nat),vD o.toList=V->qP o (Region.schedule (P.follows .mixedOrders) o t)):∀n,m8 P (AM.run P a n):=by intro n;induction n with|zero=>intro fr H out h;simp_all[AM.run]|succ n i=>exact alL i I b (g _ i) O
end
inductive Kind where|skip|quiet|act deriving DecidableEq
structure db where
 fr:Nat->cD
 H:Nat->Heap
 H':Nat->Heap
 v:Nat->AV
 K:Nat->Kind
def db.gu(R:db)(P:aG)(i:Nat)(o:aB):jn:=⟨eA P (R.fr i).tmps (R.H i) o,(R.H' i).bT⟩
structure JC(P:aG)(ak:cg)(rec:Rec)(ops:Array aB)(R:db)(i:Nat)(o:aB):Prop where
 slot:sL (R.fr i) o.dst (R.v i)=J (R.fr (i+1))skip:R.K i=.skip->vP ops (R.fr i).tmps o=J C/\R.v i=fo/\R.H (i+1)=R.H i
 run:R.K i≠.skip->vP ops (R.fr i).tmps o=J V/\ff P ak rec (R.fr i).tmps (R.H i).fresh o=J (.val (R.v i) (R.H' i))quiet:R.K i=.quiet->nY o.op=V/\R.H (i+1)=R.H i
 act:R.K i=.act->nY o.op=C/\R.H (i+1)=(R.H i).resume (R.H' i)/\rk ops o i (R.gu P i o) (R.H' i)=V/\sI o (R.H' i)=V/\within (R.gu P i o)=V
structure JE(P:aG)(ak:cg)(rec:Rec)(ops:Array aB)(R:db):Prop where
 step:∀(i:Nat)(o:aB),ops[i]?=J o->JC P ak rec ops R i o
 pair:∀(i k:Nat)(o q:aB),ops[i]?=J o->ops[k]?=J q->i<k->R.K i=.act->R.K k=.act->apart (R.gu P i o) (R.gu P k q)=V\/qK ops.toList i k=V
section
variable{P:aG}{ak:cg}{rec:Rec}{ops:Array aB}
def db.put(R:db)(j:Nat)(f:cD)(a b:Heap)(d:AV)(c:Kind):db:={fr:=λi=>if i=j then f else R.fr i,H:=λi=>if i=j then a else R.H i,H':=λi=>if i=j then b else R.H' i,v:=λi=>if i=j then d else R.v i,K:=λi=>if i=j then c else R.K i}
theorem FN{o:aB}{l:List aB}{j:Nat}{g:List (Nat×jn)}{f:cD}:vG P ak rec ops (o::l) j g f H=(vP ops f.tmps o).bind λw=>bif !w then(sL f o.dst fo).bind λf=>vG P ak rec ops l (fg j) g f H else(ff P ak rec f.tmps H.fresh o).bind λ|.val v H'=>(sL f o.dst v).bind λa=>bif nY o.op then vG P ak rec ops l (fg j) g a H else bif kY (λ(e:Nat×jn)=>apart e.2 ⟨eA P f.tmps H o,H'.bT⟩||qK ops.toList e.1 j) g&&(rk ops o j ⟨eA P f.tmps H o,H'.bT⟩ H'&&(sI o H'&&within ⟨eA P f.tmps H o,H'.bT⟩))then vG P ak rec ops l (fg j) ((j,⟨eA P f.tmps H o,H'.bT⟩)::g) a (H.resume H')else Z:=by simp[vG,aiV]
theorem aKU:∀(l:List aB)(j:Nat)(g:List (Nat×jn))(fr:cD)(H:Heap)(r:AN),ops.toList.drop j=l->vG P ak rec ops l j g fr H=J r->∃R:db,R.fr j=fr/\R.H j=H/\r=.next (R.fr (j+l.length)) (R.H (j+l.length))/\(∀(i:Nat)(o:aB),j<=i->ops[i]?=J o->JC P ak rec ops R i o)/\(∀(i k:Nat)(o q:aB),j<=i->ops[i]?=J o->ops[k]?=J q->i<k->R.K i=.act->R.K k=.act->apart (R.gu P i o) (R.gu P k q)=V\/qK ops.toList i k=V)/\(∀(e:Nat×jn)(k:Nat)(q:aB),e∈g->j<=k->ops[k]?=J q->R.K k=.act->apart e.2 (R.gu P k q)=V\/qK ops.toList e.1 k=V):=by intro l;induction l with
 |nil=>
 intro j g fr H r I h;cases h;have O:ops.size<=j:=by simp_all
 have A:∀(i:Nat)(o:aB),j<=i->ops[i]?=J o->False:=λi o d p=>by grind
 exact⟨⟨λ_=>fr,λ_=>H,λ_=>H,λ_=>fo,λ_=>.skip⟩,rfl,rfl,rfl,λi o d p=>(A i o d p).elim,λi k o q d p=>(A i o d p).elim,λe k q _ b m=>(A k q b m).elim⟩|cons o l z=>
 intro j g fr H r I h;have p:ops[j]?=J o:=by have:(ops.toList.drop j)[0]?=J o:=ai;grind
 have X:ops.toList.drop (j+1)=l:=by have:(ops.toList.drop j).drop 1=l:=ai;grind[DL]
 have a:=h;simp only[FN]at a;clear h;have u:∀(f:cD)(H1 n:Heap)(v:AV)(K:Kind)(y:List (Nat×jn))(R:db),R.fr (j+1)=f->R.H (j+1)=H1->r=.next (R.fr (j+1+l.length)) (R.H (j+1+l.length))->(∀(i:Nat)(o:aB),j+1<=i->ops[i]?=J o->JC P ak rec ops R i o)->(∀(i k:Nat)(o q:aB),j+1<=i->ops[i]?=J o->ops[k]?=J q->i<k->R.K i=.act->R.K k=.act->apart (R.gu P i o) (R.gu P k q)=V\/qK ops.toList i k=V)->(∀(e:Nat×jn)(k:Nat)(q:aB),e∈y->j+1<=k->ops[k]?=J q->R.K k=.act->apart e.2 (R.gu P k q)=V\/qK ops.toList e.1 k=V)->(∀e,e∈g->e∈y)->(K=.act->(j,(⟨eA P fr.tmps H o,n.bT⟩:jn))∈y)->(K=.act->∀e,e∈g->apart e.2 ⟨eA P fr.tmps H o,n.bT⟩=V\/qK ops.toList e.1 j=V)->JC P ak rec ops (R.put j fr H n v K) j o->∃R:db,R.fr j=fr/\R.H j=H/\r=.next (R.fr (j+(o::l).length)) (R.H (j+(o::l).length))/\(∀(i:Nat)(o:aB),j<=i->ops[i]?=J o->JC P ak rec ops R i o)/\(∀(i k:Nat)(o q:aB),j<=i->ops[i]?=J o->ops[k]?=J q->i<k->R.K i=.act->R.K k=.act->apart (R.gu P i o) (R.gu P k q)=V\/qK ops.toList i k=V)/\(∀(e:Nat×jn)(k:Nat)(q:aB),e∈g->j<=k->ops[k]?=J q->R.K k=.act->apart e.2 (R.gu P k q)=V\/qK ops.toList e.1 k=V):=by
  intro f H1 n v K y R e1 e2 e3 e4 e5 e6 e7 e8 e9 wv;have hd:∀(i:Nat)(q:aB),i≠j->(R.put j fr H n v K).gu P i q=R.gu P i q:=λi q d=>by grind[db.gu,db.put]
  have x:∀i,i≠j->(R.put j fr H n v K).K i=R.K i:=λi d=>by grind[db.put]
  have G:∀q,(R.put j fr H n v K).gu P j q=⟨eA P fr.tmps H q,n.bT⟩:=λq=>by simp[db.gu,db.put]
  have F:(R.put j fr H n v K).K j=K:=by simp[db.put]
  refine⟨R.put j fr H n v K,by simp[db.put],by simp[db.put],?_,?_,?_,?_⟩;.grind[db.put]
  . intro i q d m;by_cases c:i=j;.grind
    . have s:=e4 i q ab m;have t:¬(i+1=j):=ab;refine⟨?_,?_,?_,?_,?_⟩;.simpa[db.put,c,t]using s.slot
      .intro b;rw[x i c]at b;simpa[db.put,c,t]using s.skip b
      .intro b;rw[x i c]at b;simpa[db.put,c,t]using s.run b
      .intro b;rw[x i c]at b;simpa[db.put,c,t]using s.quiet b
      .intro b;rw[x i c]at b;have:=s.act b;grind[db.put]
  .grind
  .intro e k q D b m N;grind
 obtain⟨w,L,a⟩:=aF a;cases w with
 |false=>
  simp only[vU,aR]at a;obtain⟨f,E,a⟩:=aF a;obtain⟨R,e1,e2,e3,e4,e5,e6⟩:=z (j+1) g f H r X a;refine u f H H fo .skip g R e1 e2 e3 e4 e5 e6 (λe h=>h) (λh=>ai) (λh=>ai) ⟨?_,?_,?_,?_,?_⟩;.grind[db.put]
  .grind[db.put]
  all_goals simp[db.put]|true=>simp only[xk,bS]at a;obtain⟨⟨v,H'⟩,M,a⟩:=aF a;obtain⟨f,E,a⟩:=aF a;cases m:nY o.op with
  |true=>
    rw[m]at a;simp only[aR]at a;obtain⟨R,e1,e2,e3,e4,e5,e6⟩:=z (j+1) g f H r X a;refine u f H H' v .quiet g R e1 e2 e3 e4 e5 e6 (λe h=>h) (λh=>ai) (λh=>ai) ⟨?_,?_,?_,?_,?_⟩;.grind[db.put]
    .simp[db.put]
    .grind[db.put]
    .grind[db.put]
    simp[db.put]|false=>rw[m]at a;simp only[bS]at a;generalize B:(kY (λ(e:Nat×jn)=>apart e.2 ⟨eA P fr.tmps H o,H'.bT⟩||qK ops.toList e.1 j) g&&(rk ops o j ⟨eA P fr.tmps H o,H'.bT⟩ H'&&(sI o H'&&within ⟨eA P fr.tmps H o,H'.bT⟩)))=cond at a;cases cond with|false=>grind|true=>
      simp only[aR]at a;simp only[gD,qf,AH,yU]at B;obtain⟨R,e1,e2,e3,e4,e5,e6⟩:=z (j+1) _ f _ r X a;refine u f _ H' v .act _ R e1 e2 e3 e4 e5 e6 (λe h=>kG _ h) (λ_=>gK) (λ_ e D=>B.1 e D) ⟨?_,?_,?_,?_,?_⟩;.simpa[db.put,e1]using E
      .intro b;simp[db.put]at b
      .intro _;simp[db.put,L,M]
      .intro b;simp[db.put]at b
      grind[db.gu,db.put]
theorem aKV{f:cD}{r:AN}(h:vG P ak rec ops ops.toList 0 [] f H=J r):∃R:db,R.fr 0=f/\R.H 0=H/\r=.next (R.fr ops.size) (R.H ops.size)/\JE P ak rec ops R:=by obtain⟨R,e1,e2,e3,e4,e5,_⟩:=aKU _ 0 [] f H r (by rfl) h;exact⟨R,e1,e2,ai,⟨λi o a=>e4 i o ab a,λi k o q a b=>e5 i k o q ab a b⟩⟩
end
def gj(H a:Heap):Prop:=H.tr=a.tr/\H.dp=a.dp/\H.next=a.next
theorem gj.refl(H:Heap):gj H H:=⟨rfl,rfl,rfl⟩
theorem gj.symm{b:Heap}(h:gj a b):gj b a:=⟨h.1.symm,h.2.1.symm,h.2.2.symm⟩
theorem gj.trans{b c:Heap}(h:gj a b)(k:gj b c):gj a c:=⟨h.1.trans k.1,h.2.1.trans k.2.1,h.2.2.trans k.2.2⟩
theorem gj.get{b:Heap}(h:gj a b)(i:Nat):a.get i=b.get i:=by unfold Heap.get;rw[h.1]
theorem gj.bn{b:Heap}(h:gj a b)(r:Nat):a.bn r=b.bn r:=by unfold Heap.bn;rw[h.2.1]
theorem gj.root{b:Heap}(h:gj a b)(i:Nat):rootOf a i=rootOf b i:=by unfold rootOf;rw[h.get]
theorem gj.ro{b:Heap}(h:gj a b)(i:Nat):fI a i↔fI b i:=by unfold fI;rw[h.get]
theorem gj.alive{b:Heap}(h:gj a b)(i:Nat):jb a i↔jb b i:=by
 unfold jb;rw[h.get];constructor;.intro x l r f e g;rw[<-h.bn];grind
 .intro x l r f e g;rw[h.bn];grind
theorem gj.fresh(H:Heap):gj H.fresh H:=⟨rfl,rfl,rfl⟩
theorem gj.resume(a H:Heap):gj (a.resume H) H:=⟨rfl,rfl,rfl⟩
theorem Stat.Dn{n:Nat}(c:gj H1 H2)(h:Stat φ H1 n):Stat φ H2 n where
 cw:=λid p e=>by rw[<-c.get];exact h.cw id p e
 len:=λid p l r f e a b=>h.len id p l r f e a (by rw[c.get];exact b)
 inj:=λi j p q a b e ro=>by rw[<-c.root,<-c.root];exact h.inj i j p q a b e (λx=>ro ((c.ro i).1 x))
 mono:=λi j p q a b e ro k=>h.mono i j p q a b e (ro.imp (λx y=>x ((c.ro i).1 y)) (λx y=>x ((c.ro j).1 y))) k
theorem bM.Dn{S:Nat->Prop}(c:gj H1 H2)(h:bM S φ H1 w):bM S φ H2 w:=⟨h.stat.Dn c,λid p o a b e g=>h.obj id p o a (by rw[c.root];omega) ((c.alive id).2 e) (by rw[c.get];omega)⟩
theorem bg.Dn(c:gj H1 H2)(h:bg H1)(t:H2.bu<=H2.next):bg H2 where
 get:=λid o g=>by rw[<-c.2.2];exact h.get id o (by rw[c.get];exact g)
 root:=λid l r a e g=>by rw[<-c.bn];exact h.root id l r a e (by rw[c.get];exact g)
 nZ:=λid l r a e g=>by obtain⟨i,b,d,x⟩:=h.nZ id l r a e (by rw[c.get];exact g);exact⟨i,b,d,by rw[<-c.get];exact x⟩
 dp:=λr f g=>by rw[<-c.2.2];exact h.dp r f (by rw[c.2.1];exact g)
 bu:=t
theorem bg.fresh(h:bg H):bg H.fresh:=h.Dn (gj.fresh H).symm (bJ _)
structure AF(H H':Heap):Prop where
 inv:bg H'
 next:H.next<=H'.next
 root:∀id,id<H.next->rootOf H' id=rootOf H id
 view:∀id o,id<H.next->rootOf H id∉H'.bT->H.get id=J o->H'.get id=J o/\(jb H id↔jb H' id)ro:∀id,id<H.next->fI H id->fI H' id
 keep:∀id o,id<H.next->H.get id=J o->∃o',H'.get id=J o'/\qO o o'
theorem AF.of{f:bc}{e:aW}(i:bg H)(h:fT φ H.fresh w f H' e):AF H H' where
 inv:=h.1
 next:=h.2.2.next
 root:=λid hid=>h.2.2.root id hid
 view:=λid o hid d g=>by obtain⟨a,b,c⟩:=h.2.2.view id o hid (qG i hid) d g;exact⟨a,b,c⟩
 ro:=λid hid hr=>h.2.2.ro id hid hr
 keep:=λid o hid g=>h.2.2.keep id o hid g
theorem AF.ahM(i:bg H')(c:gj H H'):AF H H' where
 inv:=i
 next:=Nat.le_of_eq c.2.2
 root:=λid _=>(c.root id).symm
 view:=λid o _ _ h=>⟨by rw[<-c.get];exact h,c.alive id⟩
 ro:=λid _ hr=>(c.ro id).1 hr
 keep:=λid o _ h=>⟨o,by rw[<-c.get];exact h,qO.refl o⟩
section
variable{P:aG}{ak:cg}{rec:Rec}{ops:Array aB}
def KH(H:Heap)(x:ah fh):Prop:=∀v H',x=J (.val v H')->H'=H
theorem KH.n:KH H Z:=λ_ _ h=>ai
theorem KH.o(v:ah AV):KH H (eZ H v):=λ_ _ h=>(ml h).2.symm
theorem KH.b{b:Type}{x:ah b}{f:b->ah fh}(h:∀a,KH H (f a)):KH H (x.bind f):=λ_ _ g=>by obtain⟨a,_,c⟩:=aF g;exact h a _ _ c
theorem KH.c{c:Bool}{a b:ah fh}(h:KH H a)(d:KH H b):KH H (bif c then a else b):=ai
theorem aFF{o:aB}(q:nY o.op=V)(h:dX P ak tm H o=J (.val v H')):H'=H:=by suffices KH H _ from this _ _ h;unfold dX;split<;>first
 |(rename_i e;rw[e]at q;cases q;done)
 | (try simp only[DF,B2,DB,DG,Gf,Gp,Gl,DC,Gj,B0,DD,Jr]
    repeat' first|exact KH.n|exact KH.o _|(apply KH.b;intro a)|apply KH.c|(dsimp only;done)|split)
theorem aDO{o:aB}(h:ff P ak rec tm H o=J (.val v H')):∀c,o.op≠.defer c:=by grind[ff,dX]
theorem Vq{o:aB}(q:nY o.op=V)(h:ff P ak rec tm H o=J (.val v H')):H'=H:=by obtain⟨x,a,h⟩:=aF h;obtain⟨b,H1,rfl⟩:=Ta (λc e=>by grind[nY]) x a;grind[aFF]
def db.HX(R:db)(i:Nat):Heap:=match R.K i with|.act=>R.H' i|_=>(R.H i).fresh
theorem aje{R:db}(a:JE P ak rec ops R){i:Nat}{o:aB}(b:ops[i]?=J o):gj (R.H (i+1)) (R.HX i):=by
 have s:=a.step i o b;unfold db.HX;rcases h:R.K i with _|_|_;.rw[(s.skip h).2.2];exact(gj.fresh _).symm
 .rw[(s.quiet h).2];exact(gj.fresh _).symm
 rw[(s.act h).2.1];simp[gj.resume]
theorem aKW(W:m8 P rec)(oI:jH P ak)(T:qQ P){R:db}(E:JE P ak rec ops R){cs:List dh}(Q:bg (R.H 0))(Y:bM gC φ (R.H 0) w)(N:iP P φ)(S:(R.fr 0).mode=.run)(hF:iM φ (R.fr 0) F (.inRegion ops (List.range' 0 ops.size)::k)):∀j,j<=ops.size->(∃g w' G,bg (R.H j)/\bM gC g (R.H j) w'/\Ext φ g/\(∀id,(R.H 0).next<=id->id<(R.H j).next->∃p,g id=J p)/\iM g (R.fr j) G (.inRegion ops (List.range' j (ops.size-j))::k))/\jS (R.fr 0) (R.fr j)/\(R.fr j).defers=(R.fr 0).defers/\(R.fr j).n=(R.fr 0).n/\(R.fr j).fn=(R.fr 0).fn/\(∀i,i<j->AF (R.H i) (R.HX i)):=by intro j;induction j with|zero=>intro _;exact⟨⟨φ,w,F,Q,Y,Ext.refl φ,λid r l=>ab,ab⟩,⟨S,rfl,rfl⟩,rfl,rfl,rfl,λi h=>ab⟩|succ j ih=>
 intro hj;obtain⟨⟨g,w1,H,q,s1,x1,v1,f1⟩,m,m3,m4,m5,M⟩:=ih ab;have f:ops[j]?=J _:=mX ab;generalize ops[j]=o at f;have st:=E.step j o f;obtain⟨sm,sd,sn,sf⟩:=aHU st.slot m.mode;have x:=aje E f;have v:List.range' j (ops.size-j)=j::List.range' (j+1) (ops.size-(j+1)):=by have:ops.size-j=(ops.size-(j+1))+1:=ab;grind[List.range'_succ]
 rw[v]at f1;have s:jS _ _/\(R.fr _).defers=(R.fr 0).defers/\(R.fr _).n=(R.fr 0).n/\(R.fr _).fn=(R.fr 0).fn:=⟨m.trans sm,sd.trans m3,sn.trans m4,sf.trans m5⟩;by_cases K:R.K j=.skip
 . obtain⟨r,l,B⟩:=st.skip K;have A:=st.slot;rw[l]at A;obtain⟨g1,_⟩:=Ou f m.mode A f1 Jj;refine⟨ai,s.1,s.2.1,s.2.2.1,s.2.2.2,λi kP=>?_⟩;by_cases e:i=j
   . subst e;have:R.HX i=(R.H i).fresh:=by grind[db.HX]
     rw[this];exact AF.ahM q.fresh (gj.fresh _).symm
   grind
 . obtain⟨r,l⟩:=st.run K;have ta:=f1.run m.mode;have tj:=f1.todo m.mode;have hw:=Jo r (λa b d _ _=>f1.tmps.2 d);have u6:∀y,y∈o.op.operands.toList->fj g _ H.eval y:=λy _ t e=>by subst e;exact f1.tmps.2 t
   have I:=Vs (cs:=cs) W oI T q.fresh (s1.Dn (gj.fresh _).symm) (N.mono x1) ta tj f hw u6 l;obtain⟨χ,w2,u,c,v2,_⟩:=I;have z:gj (R.HX j) (R.H' j):=by
     unfold db.HX;rcases n:R.K j with _|_|_;.grind
     .rw[Vq (st.quiet n).1 l];simp[gj.refl]
     simp[gj.refl]
   obtain⟨g1,_⟩:=Ou f m.mode st.slot (f1.mono c.2.2.ext) v2;have L:AF (R.H j) (R.HX j):=by
     unfold db.HX;rcases n:R.K j with _|_|_;.grind
     .exact AF.ahM q.fresh (gj.fresh _).symm
     grind[AF.of]
   have O:(R.H (j+1)).bu<=(R.H (j+1)).next:=by
     rcases n:R.K j with _|_|_;.grind
     .rw[(st.quiet n).2];exact q.bu
     rw[(st.act n).2.1];show(R.H j).bu<=(R.H' j).next;have:=c.2.2.next;exact fX q.bu this
   refine⟨⟨χ,w2,_,(c.1.Dn (x.trans z).symm O),c.2.1.Dn (x.trans z).symm,x1.trans c.2.2.ext,?_,g1⟩,s.1,s.2.1,s.2.2.1,s.2.2.2,λi kP=>?_⟩;rotate_left;by_cases e:i=j;.grind
   .grind
   intro id B D;rw[(x.trans z).2.2]at D;by_cases U:id<(R.H j).next;.obtain⟨p,X⟩:=v1 id B U;exact⟨p,c.2.2.ext _ _ X⟩
   .exact c.2.2.cover id (Nat.le_of_not_lt U) D
end
end Go.AM
