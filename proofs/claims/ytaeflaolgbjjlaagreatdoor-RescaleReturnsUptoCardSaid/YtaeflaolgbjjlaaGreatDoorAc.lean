/- Proved: the operations of the value machine answer as the abstract machine does (a part of the proof of RescaleReturnsUptoCardSaid, whose theorem stands in the last text), under the relation that is defined here. -/
import Derived.Test.YtaeflaolgbjjlaaGreatDoorAb
open Option renaming some->J,none->Z
open Bool renaming true->V,false->C
open Go renaming TypeId->an,Oper->aB,Program->aG,Operand->aK,FuncId->bV,IntKind->fN
open Nat renaming beq->aw,ble->br,blt->cm,succ->fg
noncomputable section
set_option linter.all false
namespace Go.VM
open Go Go.AM
variable{a:AV}{k:DV}{g:GH}{I r:Nat}{R:Nat->Prop}{p:Pk}{sv:SV}{m m':aJ}{x y:aK}{ow:aM}{dst:ah Tmp}{e e' t:an}{lb:dV}{fl fl':fM}
section
variable{P:aG}{ak:cg}{rec:Rec}{cf:bR}{K K':aX}{φ ψ:ch}{ω ω':aI}{H H':Heap}
variable{ao:Nat->ah aq}{gs cr:aD}{fk:bV->Nat}{later:List aB}{st0 O st':St}{tm:Tr AV}{o:aB}
theorem xz(c:HR K φ ω H O.lb O.g)(s:bX K φ ω H tm O.sl)(h:aH O dst sv=J st')(f:a≠.top)(v:∀d,dst=J d->FI d sv=C->ma K φ ω H (tm.ins d a) d sv a):fK K φ ω H st' (gQ tm dst a) H:=by
 rcases yG h with⟨rfl,rfl⟩|⟨t,rfl,_,hr,rfl⟩;.exact⟨K,φ,ω,bo.refl _,c.fV (bQ.refl (λ_=>False) _),aU.refl _,c,s,bQ.refl _ _,λp r b e=>.inl ⟨p,b,e⟩⟩
 .exact⟨K,φ,ω,bo.refl _,c.fV (bQ.refl (λ_=>False) _),aU.refl _,c,w9 c.inv s (bQ.refl _ _) (bo.refl _) (aU.refl _) (λ_ _ _ _ _ _ h=>⟨h,id⟩) aT aT (λ_=>f) (v t rfl hr),bQ.refl _ _,λp r b e=>.inl ⟨p,b,e⟩⟩
def free:SV->Prop|.dv _ .no|.dv _ .any|.lp ..|.ev _|.sr _|.se ..|.gr ..|.hd _=>True|_=>False
theorem ma.copy{t d:Nat}(f:free sv)(h:ma K φ ω H tm t sv a)(r:FI d sv=C):ma K φ ω H (tm.ins d a) d sv a:=by
 have B:=Dj r;rcases sv with⟨x,o⟩|l|⟨s,I⟩|x|s|⟨s,i,I⟩|⟨id,I⟩|n|_;.cases o<;>first|exact h|exact f.elim
 .exact f.elim
 .exact h
 .exact h
 .show(tm.ins d a).get s=J a;rw[Tr.jr _ _ ai];exact h
 .obtain⟨id,b,len,c,e,g1,g2⟩:=h;exact⟨id,b,len,c,_,by grind[Tr.jr],g2⟩
 .exact h
 .exact h
 exact f.elim
theorem ZZ(n:du P K φ ao)(o:HR K φ ω H O.lb O.g)(s:bX K φ ω H tm O.sl)(p:cR ao O x=J sv)(i:free sv)(h:aH O dst sv=J st'):∃a,AM.bB P tm x=J a/\fK K φ ω H st' (gQ tm dst a) H:=by
 obtain⟨a,j,k,m⟩:=qD n s p;refine⟨a,j,xz o s h k λd _ hr=>?_⟩;rcases m with⟨t,_,_,_,b⟩|⟨_,⟨q,rfl,b⟩|⟨q,f,_,_,rfl,b⟩|⟨g,l,cells,e,rfl,rfl,b,r,c⟩⟩;.exact b.copy i hr
 . unfold tC at i|-;split;.cases b;exact⟨rfl,rfl⟩
   .exact b
 .exact b
 .exact⟨g,0,_,e,by rfl,b,by simp[DV.flat];rw[c.1];omega,by grind[DV.flat],by show bG K φ l ((cells.drop 0).take l.length);rw[xp,c.1,AL];omega⟩
theorem Z2(u:du P K φ ao)(c:HR K φ ω H O.lb O.g)(s:bX K φ ω H tm O.sl)(k:cR ao O x=J sv)(h:aH (aQ leave O x) dst sv=J st'):∃a,AM.bB P tm x=J a/\fK K φ ω H st' (gQ tm dst a) H:=by
 obtain⟨a,m,n,i⟩:=qD u s k;rcases i with⟨t,rfl,v,E,o⟩|⟨B,i⟩
 . have T:sv≠.dd:=by intro e;have D:(match look O.sl t with|some .dd=>Z|r=>r)=J _:=k;grind
   have e1:aQ leave O (.tmp t)={O with sl:=put O.sl t (leave sv)}:=by grind[aQ]
   rw[e1]at h;rcases yG h with⟨rfl,rfl⟩|⟨d,rfl,_,hr,rfl⟩;.refine⟨a,m,K,φ,_,bo.refl _,c.fV (bQ.refl (λ_=>False) _),aU.refl _,c.of (Y2 t),?_,bQ.refl _ _,λp r b j=>let⟨q,_,h⟩:=aI.iz j;.inl ⟨q,b,h⟩⟩;exact Q2 c s v E n o
   .obtain⟨ω',w,y,z⟩:=af6 c s v E T n o (Dj hr);exact⟨a,m,K,φ,_,bo.refl _,c.fV (bQ.refl (λ_=>False) _),aU.refl _,w,y,bQ.refl _ _,λp r b j=>let⟨q,h⟩:=z p r b j;.inl ⟨q,b,h⟩⟩
 . have e1:aQ leave O x=O:=by cases x<;>first|rfl|grind
   rw[e1]at h;refine ZZ u c s k ?_ h;rcases i with⟨A,rfl,_⟩|⟨A,f,_,_,rfl,_⟩|⟨g,l,cells,e,rfl,_⟩;.unfold tC;split<;>trivial
   .trivial
   .trivial
theorem af8(b:o.op=.move x\/o.op=.assign x)(h:AM.bB P tm x=J a):dX P ak tm H o=J (.val a H):=by unfold dX;simp only[DF];rcases b with b|b<;>rw[b]<;>simp only[h,eZ,gF]
theorem ak3(g:du P K φ ao)(c:HR K φ ω H O.lb O.g)(s:bX K φ ω H tm O.sl)(e:o.op=.assign x)(h:dB P ao fk gs cr later O o=J st'):eO P ak rec cf K φ ω H st0 O st' tm o:=by
 unfold dB at h;rw[e]at h;obtain⟨sv,f,h⟩:=aF h;obtain⟨a,i,b⟩:=Z2 g c s f h;obtain⟨f1,f2,f3,_⟩:=mW h;have n:(aQ leave O x).n=O.n/\(aQ leave O x).fn=O.fn:=by unfold aQ;grind
 exact⟨a,H,by simp_all[ff,af8],λd hd=>ai,b,ab,ai,tP.refl _ _ _⟩
theorem BB(f:SV->SV)(s:St)(x:aK):(aQ f s x).n=s.n/\(aQ f s x).fn=s.fn/\(aQ f s x).lb=s.lb/\(aQ f s x).g=s.g:=by unfold aQ;grind
theorem LG{x:DV}{n:Nat}(h:mQ x=J n)(b:DR K φ x a):nv a=J n:=by
 unfold mQ at h;split at h;iterate 3·cases b;exact h
 grind
theorem akh(j:du P K φ ao){x:DV}(c:HR K φ ω H O.lb O.g)(l:bX K φ ω H tm O.sl)(v:cR ao O y=J (.dv x ow))(h:aH (aQ share O y) dst (.dv x .no)=J st'):∃a,AM.bB P tm y=J a/\fK K φ ω H st' (gQ tm dst a) H:=by
 obtain⟨t,q,s,d,e,m,n,w,z,_⟩:=YV c l y;have o:bj ao (aQ share O y) y=J x:=by unfold bj;cases y<;>grind[aQ,share,Cp,lN,cR]
 obtain⟨a,f,u,g⟩:=sF (j.mono s.1 (aU.refl _)) e n o;exact⟨a,f,fK.trans c.inv s.1 (s.fV d) (aU.refl _) (bQ.refl _ _) (λp r b k=>let⟨i,h⟩:=m p r b k;.inl ⟨p,i,h⟩) (AS d e h g)⟩
theorem aIr{l a:cT}(h:∀u,look l u=look a u)(s:bX K φ ω H tm l):bX K φ ω H tm a:=λt sv b=>s t sv ai
theorem aAt(m:du P K φ ao)(c:HR K φ ω H O.lb O.g)(s:bX K φ ω H tm O.sl)(ho:o.op=.move x)(h:dB P ao fk gs cr later O o=J st'):eO P ak rec cf K φ ω H st0 O st' tm o:=by unfold dB at h;rw[ho]at h;simp only at h;obtain⟨sv,k,h⟩:=aF h;have fin:∀{a:AV},AM.bB P tm x=J a->(∀d,o.dst=J d->d<O.n)->fK K φ ω H st' (gQ tm o.dst a) H->st'.n=O.n->st'.fn=O.fn->eO P ak rec cf K φ ω H st0 O st' tm o:=λj I Y B h5=>⟨_,H,by simp_all[ff,af8],I,Y,B,h5,tP.refl _ _ _⟩;cases hd:o.dst with|none=>rw[hd]at h;cases h;obtain⟨a,j,I,_⟩:=qD m s k;refine fin j (λd e=>aT) ?_ rfl rfl;rw[hd];exact⟨K,φ,ω,bo.refl _,c.fV (bQ.refl (λ_=>False) _),aU.refl _,c,s,bQ.refl _ _,λp r b v=>.inl ⟨p,b,v⟩⟩|some d=>
 rw[hd]at h;simp only at h;have take:∀{z:St},aH (aQ leave O x) (J d) sv=J z->z=st'->eO P ak rec cf K φ ω H st0 O st' tm o:=by grind[Z2,mW,BB]
 have copy:free sv->aH O (J d) sv=J st'->eO P ak rec cf K φ ω H st0 O st' tm o:=by grind[ZZ,mW]
 split at h;.simp_all
 . rename_i dd ow;have T:∀n,mQ dd=J n->aH O (J d) (.hd n)=J st'->eO P ak rec cf K φ ω H st0 O st' tm o:=by
    intro n M h;obtain⟨f1,f2,f3,_⟩:=mW h;have hv:bj ao O x=J dd:=by unfold bj;rw[k];rfl
    obtain⟨a,A,f,g⟩:=nX (P:=P) m c s hv;exact fin A (λi e'=>f1 i (hd.symm.trans e')) (by rw[hd];exact xz c s h f λ_ _ _=>LG M g) f2 f3
   have U:∀t,x=.tmp t->aH O (J d) (.sr t)=J st'->eO P ak rec cf K φ ω H st0 O st' tm o:=by
    intro t Q h;obtain⟨a,A,f,g⟩:=qD (P:=P) m s k;obtain⟨f1,f2,f3,_⟩:=mW h;rcases g with⟨t',e1,_,F,_⟩|⟨T',_⟩
    . rw[Q]at e1;obtain rfl:=Operand.tmp.inj e1;have X:fK K φ ω H st' (gQ tm (J d) a) H:=by refine xz c s h f λi lx hr=>?_;show(tm.ins i a).get t=J a;grind[Tr.jr,Dj]
      simp_all
    simp_all
   have W:aH (aQ share O x) (J d) (.dv dd .no)=J st'->eO P ak rec cf K φ ω H st0 O st' tm o:=by grind[akh,mW,BB]
   have R:∀e,ow=.ex e->(aH O (J d) (.dv dd ow)).map (λO=>aQ (λ_=>.sr d) O x)=J st'->eO P ak rec cf K φ ω H st0 O st' tm o:=by intro e he h;cases j:aH O (J d) (.dv dd ow)with|none=>simp_all|some y=>
      rw[j]at h;cases h;obtain⟨f1,f2,f3,_⟩:=mW j;obtain⟨g1,g2,g3,g4⟩:=BB (λ_=>SV.sr d) y x;obtain⟨a,A,f,g⟩:=qD (P:=P) m s k;refine fin A (λi e'=>f1 i (hd.symm.trans e')) ?_ ai ai;rw[hd];show fK K φ ω H (aQ (λ_=>SV.sr d) y x) (gQ tm (J d) a) H;rcases g with⟨t,rfl,D,F,B⟩|⟨_,⟨x',e1,_⟩|⟨_,_,_,_,e1,_⟩|⟨_,_,_,_,e1,_⟩⟩
      . rcases yG j with⟨e1,_⟩|⟨i,e1,_,hr,rfl⟩;.grind
        . cases e1;by_cases L:t=d
          . subst L;have e2:aQ (λ_=>SV.sr t) {O with sl:=put (ij O.sl t) t (.dv dd ow)} (.tmp t)={O with sl:=put (put (ij O.sl t) t (.dv dd ow)) t (.sr t)}:=by simp[aQ,lN]
            rw[e2];have iI:bX K φ ω H (tm.ins t a) (put (ij O.sl t) t (.dv dd ow)):=w9 (S:=λ_=>False) c.inv s (bQ.refl _ _) (bo.refl _) (aU.refl _) (λ_ _ _ _ _ _ h=>⟨h,id⟩) (λ_ _ _ h=>h) (λ_ _ _=>id) (λ_=>f) B;exact⟨K,φ,ω,bo.refl _,c.fV (bQ.refl (λ_=>False) _),aU.refl _,c,I8 c.inv iI (bo.refl _) (λ_ _ _ _ _ _ h=>h) (λ_=>rfl) (Tr.lh _ _ _) (λ_=>f) (Tr.lh _ _ _),bQ.refl _ _,λp r b v=>.inl ⟨p,b,v⟩⟩
          . obtain⟨ω',m1,m2,m3⟩:=af6 c s D F aO f B (Dj hr);have bU:look (put (ij O.sl d) d (SV.dv dd ow)) t=J (.dv dd ow):=by rw[lN,if_neg L];unfold ij;rw[qB O.sl (pr d),D];rfl
            have e2:aQ (λ_=>SV.sr d) {O with sl:=put (ij O.sl d) d (.dv dd ow)} (.tmp t)={O with sl:=put (put (ij O.sl d) d (.dv dd ow)) t (.sr d)}:=by grind[aQ]
            rw[e2];have G:(tm.ins d a).get t=J a:=by grind[Tr.jr]
            have s2:=I8 (sv:=.sr d) c.inv m2 (bo.refl _) (λ_ _ _ _ _ _ h=>h) (λ_=>rfl) G (λ_=>f) (Tr.lh _ _ _);refine⟨K,φ,ω',bo.refl _,c.fV (bQ.refl (λ_=>False) _),aU.refl _,m1,aIr (λu=>?_) s2,bQ.refl _ _,λp r b v=>let⟨q,h⟩:=m3 p r b v;.inl ⟨q,b,h⟩⟩;rw[lN,lN,lN,lN];by_cases E:u=t;.grind
            . rw[if_neg E,if_neg E];by_cases w:u=d;.grind
              .rw[if_neg w,if_neg w];unfold ij;rw[qB (put O.sl t _) (pr d),qB O.sl (pr d),lN,if_neg E]
      all_goals grind[tC]
   split at h;.grind
   .simp_all
   .obtain⟨n,M,h⟩:=aF h;simp_all
   .simp_all
   .exact copy trivial h
   simp_all
 .rename_i n1 n2;refine copy ?_ h;cases sv with
   |tp l=>exact absurd rfl (n1 _)|dv a b=>exact absurd rfl (n2 _ _)|dd=>
    exfalso;obtain⟨a,_,_,g⟩:=qD (P:=P) m s k;rcases g with⟨t,rfl,D,_⟩|⟨_,⟨_,e,_⟩|⟨_,_,_,_,e,_⟩|⟨_,_,_,_,e,_⟩⟩;.have N:(match look O.sl t with|some .dd=>Z|r=>r)=J SV.dd:=k;rw[D]at N;simp at N
    .simp at e
    .simp at e
    .simp at e|_=>trivial
end
section
variable{P:aG}{ak:cg}{rec:Rec}{cf:bR}{K K':aX}{φ ψ:ch}{ω ω':aI}{H H':Heap}{S:Nat->Prop}
variable{ao:Nat->ah aq}{gs cr:aD}{fk:bV->Nat}{later:List aB}{st0 O st':St}{tm:Tr AV}{o:aB}
theorem jY(H:Heap)(o:b9)(S:Nat->Prop):bQ S H (H.alloc o)where
 next:=JA _
 get:=λid h _=>nq H o ab
 dp:=λr _ _=>rfl
 root:=λid h=>by unfold rootOf;rw[nq H o ab]
theorem M3(i:bg H)(u:oX H)(o:b9)(c:∀l r fl e,o=.cells l r fl e->r=H.next):oX (H.alloc o):=λid l r fl e h=>by
 by_cases n:id=H.next;.grind[me]
 .rw[nq H o n]at h;obtain⟨b,fl',a⟩:=u id l r fl e h;exact⟨b,_,by rw[nq H o (by have:=i.get _ _ a;omega)];omega⟩
theorem aIs{l:cT}{d:Nat}(q:bg H)(w:bX K φ ω H tm l)(k:bQ S H H')(o:bo K K')(a:aU φ ψ)(v:∀p r b,p.slot->ω p=J (r,b)->ω' p=J (r,b)/\¬S r)(A:∀s,s≠d->ω' (.lb s)=ω (.lb s))(z:∀id i,φ id=J i->¬S (rootOf H i)):bX K' ψ ω' H' tm (Ee l d):=by
 intro t sv h;unfold Ee at h;rw[qB l _]at h;rcases f:look l t with _|n;.grind
 obtain⟨c,e,g,m⟩:=w t _ f;by_cases hd:sv=.dd;.subst hd;exact⟨c,e,λx=>absurd rfl x,trivial⟩
 . have y:n=sv/\∀s I,n=.lp s I->s≠d:=by cases n<;>grind[vl,bE]
   obtain⟨rfl,B⟩:=y;exact⟨c,e,g,m.keep q k o a (λp r b u=>v p r b (by rcases u with rfl|⟨j,rfl⟩<;>trivial)) aT aT ai⟩
theorem aAI{d:Nat}{l:aq}(f:HR K φ ω H O.lb O.g)(G:bX K φ ω H tm O.sl)(D:bG K φ l m)(T:∀x,x∈l->x.aV=V):fK K φ ω H {O with sl:=put (ij (Ee O.sl d) d) d (.lp d 0),lb:=put O.lb d ⟨l,[]⟩} (tm.ins d (.ptr H.next 0)) (H.cP m .ex e):=by
 have u:bQ (λ_=>False) H (H.cP m .ex e):=jY H _ _;have B:bg (H.cP m .ex e):=we f.inv _ aT;let ω':aI:=λp=>match p with|.lb s=>if s=d then J (H.next,V)else ω (.lb s)|.lc s I=>if s=d then Z else ω (.lc s I)|p=>ω p;have A:ω' (.lb d)=J (H.next,V):=ai;have back:∀p r b,ω' p=J (r,b)->(p=.lb d/\r=H.next/\b=V)\/(p≠.lb d/\ω p=J (r,b)):=by grind
 have L:∀id x,K id=J x->rootOf (H.cP m .ex e) id=rootOf H id/\rootOf H id<H.next:=by intro id x g;obtain⟨z,e'⟩:=x;obtain⟨r,fl,g1,_⟩:=f.dk id z e' g;have hid:=f.inv.get _ _ g1;refine⟨?_,qG f.inv hid⟩;unfold rootOf;rw[u.get id hid (λh=>h)]
 have P:HR K φ ω' (H.cP m .ex e) (put O.lb d ⟨l,[]⟩) O.g:=by
   refine⟨B,?_,?_,?_,?_,?_,?_,f.nu,M3 f.inv f.gV _ aT⟩;.intro id z e' g;obtain⟨r,fl,g1,g2⟩:=f.dk id z e' g;exact⟨r,fl,by rw[u.get id (f.inv.get _ _ g1) (λh=>h)];omega,g2⟩
   . intro p q r b c x y;rcases back p r b x with⟨rfl,rfl,_⟩|⟨v,j⟩
     . rcases back q _ c y with⟨rfl,_,_⟩|⟨_,n⟩;.rfl
       .have:=f.cw _ _ _ n;omega
     . rcases back q r c y with⟨rfl,rfl,_⟩|⟨_,n⟩;.have:=f.cw _ _ _ j;omega
       .exact f.inj _ _ _ _ _ j n
   . intro p r id x t g;obtain⟨v,j⟩:=L id x g;rw[v];rcases back p r _ t with⟨_,rfl,_⟩|⟨_,n⟩;.omega
     .exact f.clean p r id x n g
   . intro p r b t;have S:(H.cP m .ex e).next=H.next+1:=rfl;rcases back p r b t with⟨_,rfl,_⟩|⟨_,n⟩;.omega
     .have:=f.cw _ _ _ n;omega
   . intro s b w;rw[lN]at w;by_cases e1:s=d
     . rw[if_pos e1]at w;cases w;subst e1;refine⟨_,A,m,_,e,me H _,⟨rfl,aO⟩,?_,?_,D.1,λI x a g F=>⟨ai,?_⟩⟩;.show(H.bn _).1<=H.next;rw[A6 f.inv ab];omega
       .show(H.bn _).2=H.next;rw[A6 f.inv ab]
       .have hr:=D.2 _ x a g F;have M:=g;unfold ew;rw[M];cases x<;>first|exact hr|(cases hr;exact⟨rfl,rfl⟩)
     .rw[if_neg e1]at w;obtain⟨i,v,j⟩:=f.box s b w;refine⟨i,ai,j.keep f.inv u (bo.refl _) (aU.refl _) id λI r c x=>⟨ai,id⟩⟩
   .intro k o Q;obtain⟨i,v,j,E⟩:=f.js k o Q;exact⟨i,v,j,E.keep f.inv u (bo.refl _) (aU.refl _) id λI r c x=>⟨x,id⟩⟩
 refine⟨K,φ,_,bo.refl _,f.fV u,aU.refl _,P,?_,jY H _ _,λp r b t=>?_⟩;.have N:bX K φ ω' _ tm (Ee _ d):=aIs f.inv G u (bo.refl _) (aU.refl _) (λp r b t h=>⟨by cases p<;>first|exact h|exact t.elim,id⟩) ai aT;exact w9 B N (bQ.refl _ _) (bo.refl _) (aU.refl _) (λ_ _ _ _ _ _ h=>⟨h,id⟩) aT aT aT (by intro i b R;grind)
 . rcases back p r b t with⟨_,rfl,_⟩|⟨_,h⟩;.omega
   .exact .inl ⟨p,b,h⟩
theorem P5{x:b9}{y:GO}(d:HR K φ ω H lb g)(B:bg (H.alloc x))(M:rootOf (H.alloc x) H.next=H.next)(u:∀(a:ch)(ω':aI),aU φ a->(∀I,ω' (.gc g.next I)=Z)->AE K a ω' (H.alloc x) g.next y H.next):∃a ω',aU φ a/\a g.next=J H.next/\HR K a ω' (H.alloc x) lb (g.alloc y)/\(∀p r b,p.slot->ω p=J (r,b)->ω' p=J (r,b))/\(∀s,ω' (.lb s)=ω (.lb s))/\∀p r b,ω' p=J (r,b)->(∃q,ω q=J (r,b))\/r=H.next:=by
 have m:bQ (λ_=>False) H (H.alloc x):=jY H _ _;let a:=λk=>if k=g.next then J H.next else φ k;let ω':aI:=λp=>match p with|.g k=>if k=g.next then J (H.next,V)else ω (.g k)|.gc k I=>if k=g.next then Z else ω (.gc k I)|p=>ω p;have f:aU φ a:=λk i h=>by
   by_cases e:k=g.next;.rw[d.nu k ab]at h;grind
   grind
 have w:a g.next=J H.next:=ai;have back:∀p r b,ω' p=J (r,b)->(p=.g g.next/\r=H.next/\b=V)\/(p≠.g g.next/\ω p=J (r,b)):=by grind
 have G:∀k y,K k=J y->rootOf (H.alloc x) k=rootOf H k/\rootOf H k<H.next:=by intro k y u;obtain⟨A,e'⟩:=y;obtain⟨r,fl,g1,_⟩:=d.dk k A e' u;have hid:=d.inv.get _ _ g1;refine⟨?_,qG d.inv hid⟩;unfold rootOf;rw[m.get k hid (λh=>h)]
 refine⟨_,ω',f,w,⟨B,?_,?_,?_,?_,?_,?_,?_,M3 d.inv d.gV _ (λl r fl e g=>by grind[lA,me])⟩,?_,λs=>rfl,?_⟩;.intro k A e' F;obtain⟨r,fl,g1,g2⟩:=d.dk k A e' F;exact⟨r,fl,by rw[m.get k (d.inv.get _ _ g1) (λh=>h)];omega,g2⟩
 . intro p q r b c x y;rcases back p r b x with⟨rfl,rfl,_⟩|⟨n,o⟩
   . rcases back q _ c y with⟨rfl,_,_⟩|⟨_,j⟩;.rfl
     .have:=d.cw _ _ _ j;omega
   . rcases back q r c y with⟨rfl,rfl,_⟩|⟨_,j⟩;.have:=d.cw _ _ _ o;omega
     .exact d.inj _ _ _ _ _ o j
 . intro p r k y t u;obtain⟨n,o⟩:=G k y u;rw[n];rcases back p r _ t with⟨_,rfl,_⟩|⟨_,j⟩;.omega
   .exact d.clean p r k y j u
 . intro p r b t;have L:(H.alloc x).next=H.next+1:=rfl;rcases back p r b t with⟨_,rfl,_⟩|⟨_,j⟩;.omega
   .have:=d.cw _ _ _ j;omega
 .intro s b E;obtain⟨i,n,o⟩:=d.box s b E;exact⟨i,n,o.keep d.inv m (bo.refl _) f id λI r c x=>⟨x,id⟩⟩
 . intro k z v;have v:look (put _ _ y) k=J z:=v;rw[lN]at v;by_cases e:k=g.next;.subst e;grind
   .rw[if_neg e]at v;obtain⟨i,n,o,D⟩:=d.js k z v;refine⟨i,f _ _ n,ai,D.keep d.inv m (bo.refl _) f id λI r c x=>⟨ai,id⟩⟩
 .intro k m;have m:g.next+1<=k:=m;show(if k=g.next then _ else _)=_;rw[if_neg ab];exact d.nu k ab
 .intro p r b t h;cases p<;>first|exact h|exact t.elim
 grind
theorem aaO{c:aq}{p:Nat->Pk}{o:List (Nat×aM)}(g:o=[]\/o=[(c.length,.full e)])(l:bg H)(n:fl.wr=V)(d:bG K φ c m)(q:∀x,x∈c->x.aV=V)(i:∀I,ω (p I)=Z):oR K φ ω (H.cP m fl e) p ⟨c,o⟩ H.next:=by
 refine⟨m,_,e,me H _,⟨n,λk t h=>by rcases g with rfl|rfl<;>simp_all⟩,?_,?_,d.1,λI x a b f=>⟨ai,?_⟩⟩;.show(H.bn _).1<=H.next;grind[A6]
 .show(H.bn _).2=H.next;grind[A6]
 . have hr:=d.2 _ x a b f;have j:=b;have U:=(List.getElem?_eq_some_iff.1 b).1;have E:look o I=Z:=by
    rcases g with rfl|rfl;.rfl
    .show(bif aw c.length I then _ else _)=Z;rw[bE,xK (by have:I<c.length:=U;omega)];rfl
   unfold ew;rw[j];simp only[E];cases x<;>first|exact hr|(cases hr;exact⟨rfl,rfl⟩)
theorem aAH{d:Nat}{c:aq}(a:HR K φ ω H O.lb O.g)(B:bX K φ ω H tm O.sl)(A:bG K φ c m)(D:∀x,x∈c->x.aV=V):fK K φ ω H {O with sl:=put (ij O.sl d) d (.dv (.ptr O.g.next 0) .no),g:=O.g.alloc (.box ⟨c,[]⟩)} (tm.ins d (.ptr H.next 0)) (H.cP m .ex e):=by
 have s:bg (H.cP m .ex e):=we a.inv _ (λl r fl e' g=>ai);obtain⟨n,ω',o,u,v,w,E,z⟩:=P5 (y:=.box _) a s (lA (me H _)) λn ω' i k=>aaO (.inl rfl) a.inv rfl (A.mono (bo.refl _) i) D k;refine⟨K,_,_,bo.refl _,a.fV (jY H _ (λ_=>False)),o,v,?_,jY H _ _,λp r b f=>?_⟩;.refine w9 a.inv B (jY H _ _) (bo.refl _) o (λp r b _ _ f h=>⟨w p r b ?_ h,id⟩) aT aT aT (DR.ptr _ _ _ u);rcases f with⟨t,rfl⟩|⟨t,j,rfl⟩<;>trivial
 . rcases z p r b f with⟨q,h⟩|rfl;.exact .inl ⟨q,b,h⟩
   omega
theorem agi{f:Bool}{c:aq}(a:HR K φ ω H O.lb O.g)(s:bX K φ ω H tm O.sl)(b:bG K φ c m)(i:∀x,x∈c->x.aV=V)(h:C5 f O dst c=J st'):(∀d,dst=J d->d<O.n)/\fK K φ ω H st' (gQ tm dst (.ptr H.next 0)) (H.cP m .ex e)/\st'.n=O.n/\st'.fn=O.fn:=by
 unfold C5 at h;rcases dst with _|d;.grind
 simp only[eK]at h;by_cases hd:d<O.n;.simp only[hd,dM,aR]at h;cases f with|true=>cases h;exact⟨λt e=>ai,aAH a s b i,rfl,rfl⟩|false=>cases h;exact⟨λt e=>ai,aAI a s b i,rfl,rfl⟩
 grind
theorem EW(k:Kd)(a:Bool)(H:Heap)(o:b9):tP ω k a H (H.alloc o):=⟨rfl,λ_ _ h=>h,λ_ _ _ h=>h,λ_ h=>.inl h,λ_ h=>.inl h⟩
theorem aku(c:HR K φ ω H O.lb O.g)(s:bX K φ ω H tm O.sl)(d:o.op=.alloc e)(h:dB P ao fk gs cr later O o=J st'):eO P ak rec cf K φ ω H st0 O st' tm o:=by unfold dB at h;rw[d]at h;obtain⟨z,b,h⟩:=aF h;obtain⟨a,i,b⟩:=aF b;obtain⟨m,j,f,g⟩:=(Cd b).cells;obtain⟨f1,f2,f3,f4⟩:=agi (e:=e) c s f g h;refine⟨_,_,?_,f1,f2,f3,f4,EW _ _ _ _⟩;simp_all[ff,dX,Ge,lV]
theorem alN(g:du P K φ ao)(c:HR K φ ω H O.lb O.g)(s:bX K φ ω H tm O.sl)(d:o.op=.box e x)(n:jG O x)(h:dB P ao fk gs cr later O o=J st'):eO P ak rec cf K φ ω H st0 O st' tm o:=by unfold dB at h;rw[d]at h;obtain⟨z,f,h⟩:=aF h;obtain⟨a,k,l,b⟩:=sF g s n f;obtain⟨m,p,i,j⟩:=b.cells;obtain⟨f1,f2,f3,f4⟩:=agi (e:=e) c s i j h;refine⟨_,_,?_,f1,f2,f3,f4,EW _ _ _ _⟩;simp_all[ff,dX,Gg]
end
section
variable{P:aG}{K K':aX}{φ ψ:ch}{ω ω':aI}{H H':Heap}{S:Nat->Prop}
open Classical in def aX.plus(K:aX)(H:Heap)(R:Nat->Prop):aX:=λi=>match K i with|some x=>J x|none=>if R (rootOf H i)/\(H.bn (rootOf H i)).2=i/\(H.bn (rootOf H i)).1<=i then sB H i else Z
open Classical in def aI.plus(a:aI)(R:Nat->Prop):aI:=λp=>(a p).map λx=>(x.1,if R x.1 then C else x.2)
theorem aX.oN(K:aX)(H:Heap)(R:Nat->Prop):bo K (K.plus H R):=λi x h=>by grind[aX.plus]
theorem aX.Vz{K:aX}{H:Heap}{j:Nat}{x:aJ×an}(h:K.plus H R j=J x):K j=J x\/R (rootOf H j):=by grind[aX.plus]
theorem aI.Fx{b:Bool}(h:ω.plus R p=J (r,b)):∃a,ω p=J (r,a)/\(b=V->a=V/\¬R r):=by cases o:ω p<;>grind[aI.plus]
theorem aI.Qo{b:Bool}(h:ω p=J (r,b)):∃a,ω.plus R p=J (r,a)/\(¬R r->a=b):=by grind[aI.plus]
theorem Qn(a:HR K φ ω H lb g)(R:Nat->Prop)(m:∀r,R r->∃p,ω p=J (r,V)):(∀i cells e,K.plus H R i=J (cells,e)->∃root fl,H.get i=J (.cells cells root fl e)/\(H.bn root).1<=i)/\(∀p q r b c,ω.plus R p=J (r,b)->ω.plus R q=J (r,c)->p=q)/\(∀p r i x,ω.plus R p=J (r,V)->K.plus H R i=J x->rootOf H i≠r)/\∀p r b,ω.plus R p=J (r,b)->r<H.next:=by
 refine⟨?_,?_,?_,?_⟩;.intro i cells e h;unfold aX.plus at h;cases k:K i with|some x=>rw[k]at h;cases h;exact a.dk i _ e k|none=>grind[sB,lA]
 .intro p q r b c d f;obtain⟨j,k1,_⟩:=aI.Fx d;obtain⟨l,k2,_⟩:=aI.Fx f;exact a.inj _ _ _ _ _ k1 k2
 .intro p r i x d f;obtain⟨j,k1,k2⟩:=aI.Fx d;obtain⟨rfl,n⟩:=k2 rfl;unfold aX.plus at f;cases k:K i with|some y=>exact a.clean p r i y k1 k|none=>grind
 .intro p r b h;obtain⟨j,k1,_⟩:=aI.Fx h;exact a.cw _ _ _ k1
theorem cN.Me{d:DV}{o:aM}(n:∀r,ω p=J (r,V)->¬R r)(h:cN K φ ω H p d a o):cN (K.plus H R) φ (ω.plus R) H p d a o:=by cases o with|no=>exact DR.mono (aX.oN _ _ _) (aU.refl _) h|any=>exact h|full e=>exact⟨DR.mono (aX.oN _ _ _) (aU.refl _) h.1,h.2⟩|ty e=>refine⟨DR.mono (aX.oN _ _ _) (aU.refl _) h.1,h.2.imp id ?_⟩;rintro⟨r,b,f,g⟩;obtain⟨k,j,_⟩:=aI.Qo (R:=R) f;grind|ex e=>refine Or.imp id ?_ h;rintro⟨r,f,g⟩;obtain⟨k,j,m⟩:=aI.Qo f;have:=m (n r f);subst this;obtain⟨l,s,i,I,c,cells,fl,g1,g2,g3,g4,g5,g6,g7,g8⟩:=g.ex;exact⟨r,j,⟨l,_,i,_,c,_,fl,g1,g2,g3,g4,g5,g6,g7.mono (aX.oN _ _ _) (aU.refl _),g8⟩⟩
theorem cN.Fw(s:HR K φ ω H lb g){d:DV}{o:aM}(P:∀r,ω p=J (r,V)->R r)(h:cN K φ ω H p d a o):cN (K.plus H R) φ (ω.plus R) H p d a (n7 o)/\DR (K.plus H R) φ d a:=by cases o with|no=>exact⟨DR.mono (aX.oN _ _ _) (aU.refl _) h,DR.mono (aX.oN _ _ _) (aU.refl _) h⟩|any=>obtain⟨rfl,rfl⟩:=h;exact⟨⟨rfl,rfl⟩,.nl⟩|full e=>exact⟨⟨DR.mono (aX.oN _ _ _) (aU.refl _) h.1,h.2⟩,DR.mono (aX.oN _ _ _) (aU.refl _) h.1⟩|ty e=>refine⟨⟨DR.mono (aX.oN _ _ _) (aU.refl _) h.1,h.2.imp id ?_⟩,DR.mono (aX.oN _ _ _) (aU.refl _) h.1⟩;rintro⟨r,b,f,m⟩;obtain⟨u,v,_⟩:=aI.Qo (R:=R) f;grind|ex e=>
 rcases h with⟨rfl,rfl⟩|⟨r,f,m⟩;.exact⟨⟨.nl,.inl rfl⟩,.nl⟩
 . obtain⟨i,cells,M,Q,⟨fl,L⟩,D,F,G⟩:=m.dk s f;obtain⟨l,z,t,I,c,S,fl',g1,g2,g3,g4,g5,g6,g7,g8⟩:=m.ex;have E:bo (K.add (H.bn r).2 (S,e)) (K.plus H R):=by
    intro j y n;unfold aX.add at n;by_cases q:j=(H.bn r).2
    . have A:=q.trans g6;subst A;have U:=lA g3;unfold aX.plus;have O:K j=Z:=by
       rcases B:K j with _|x;.rfl
       exact absurd U (s.clean p r j x f B)
      grind[Pt]
    .rw[if_neg q]at n;exact aX.oN _ _ _ j y n
   have N:DR (K.plus H R) φ d a:=by subst g1;subst g2;refine .ay l e _ t _ c _ (E t _ (by grind[aX.add])) g7.1 g7.2.1 ?_ g7.2.2.1 λk x j d a x1 x2 x3=>(g7.2.2.2 k x j d a x1 x2 x3).mono (aX.oN _ _ _) (aU.refl _);rcases g8 with⟨w,_⟩|w<;>grind
   obtain⟨u,v,_⟩:=aI.Qo (R:=R) f;exact⟨⟨N,aT⟩,N⟩
end
section
variable{P:aG}{ak:cg}{rec:Rec}{cf:bR}{K K':aX}{φ ψ:ch}{ω ω':aI}{H H':Heap}{S:Nat->Prop}
variable{ao:Nat->ah aq}{gs cr:aD}{fk:bV->Nat}{later:List aB}{st0 O st':St}{tm:Tr AV}{o:aB}
inductive Loc where|l(s:Nat)|g(id:Nat)deriving DecidableEq
def Loc.pk:Loc->Nat->Pk|.l s,I=>.lc s I|.g id,I=>.gc id I
def Loc.top:Loc->Pk|.l s=>.lb s|.g id=>.g id
theorem Loc.aKg{x y:Loc}(h:x.top=y.top):x=y:=by cases x<;>cases y<;>simp_all[Loc.top]
theorem Loc.aKf{x:Loc}{i:Nat}(h:Pk.g i=x.top):x=.g i:=by cases x<;>grind[Loc.top]
def St.at(t:St):Loc->ah LB|.l s=>look t.lb s|.g id=>match t.g.get id with|some (.box b)=>J b|_=>Z
def St.setAt(t:St)(x:Loc)(b:LB):St:=match x with|.l s=>{t with lb:=put t.lb s b}|.g id=>{t with g:=t.g.set id (.box b)}
theorem YQ(s:St)(x:Loc)(b:LB):(s.setAt x b).n=s.n/\(s.setAt x b).fn=s.fn/\(s.setAt x b).sl=s.sl:=by cases x<;>exact⟨rfl,rfl,rfl⟩
theorem HR.at{x:Loc}{b:LB}(d:HR K φ ω H O.lb O.g)(h:O.at x=J b):∃i,ω x.top=J (i,V)/\oR K φ ω H x.pk b i/\∀id,x=.g id->φ id=J i:=by
 rcases x with s|id;.obtain⟨i,c,a⟩:=d.box s b h;exact⟨i,c,a,λid e=>ai⟩
 unfold St.at at h;simp only at h;split at h;.rename_i j g;cases h;obtain⟨i,c,a,f⟩:=d.js id _ g;exact⟨i,a,f,λq e=>ai⟩
 grind
theorem HR.FT{x:Loc}{b b':LB}{i:Nat}(B:HR K φ ω H O.lb O.g)(hb:O.at x=J b)(hi:ω x.top=J (i,V))(T:bo K K')(k:bQ S H H')(U:bg H')(hu:oX H')(X:∀id cells e,K' id=J (cells,e)->∃root fl,H'.get id=J (.cells cells root fl e)/\(H'.bn root).1<=id)(G:∀p q r b c,ω' p=J (r,b)->ω' q=J (r,c)->p=q)(z:∀p r id x,ω' p=J (r,V)->K' id=J x->rootOf H' id≠r)(W:∀p r b,ω' p=J (r,b)->r<H'.next)(ye:∀s,ω' (.lb s)=ω (.lb s))(P:∀id,ω' (.g id)=ω (.g id))(N:∀y I d a o,y≠x->cN K φ ω H (Loc.pk y I) d a o->cN K' φ ω' H' (Loc.pk y I) d a o)(hS:∀p r b,(∃s,p=.lb s)\/(∃id,p=.g id)->p≠x.top->ω p=J (r,b)->¬S r)(lu:oR K' φ ω' H' x.pk b' i):HR K' φ ω' H' (O.setAt x b').lb (O.setAt x b').g:=by
 have f:∀(y:Loc)(n:LB)(j:Nat),y≠x->ω y.top=J (j,V)->oR K φ ω H y.pk n j->oR K' φ ω' H' y.pk n j:=by intro y n j hy M h;obtain⟨m,fl,e,t,w,A,Y,Q,L⟩:=h;have E:¬S j:=hS y.top j V (by cases y;exact .inl ⟨_,rfl⟩;exact .inr ⟨_,rfl⟩) (λe=>hy (Loc.aKg e)) M;have hid:=B.inv.get _ _ t;have hf:=k.dp j hid E;refine⟨m,fl,e,?_,w,ai,ai,Q,λI d a u v=>⟨(L I d a u v).1,N y I d a _ hy (L I d a u v).2⟩⟩;rw[k.get j hid (by grind[lA])];omega
 have aLT:∀(id:Nat)(D:GO)(j:Nat),x≠.g id->ω (.g id)=J (j,V)->AE K φ ω H id D j->AE K' φ ω' H' id D j:=by intro id D j hx M h;have E:¬S j:=hS (.g id) j V (.inr ⟨_,rfl⟩) (λe=>hx (Loc.aKf e)) M;cases D with|box n=>exact f (.g id) n j (λe=>hx e.symm) M h|map es Sv=>obtain⟨fs,t,w,A⟩:=h;refine⟨fs,?_,w,λj x y a b=>⟨(A j x y a b).1.mono T (aU.refl _),(A j x y a b).2.1.mono T (aU.refl _),(A j x y a b).2.2⟩⟩;rw[k.get j (B.inv.get _ _ t) (by grind[rootOf])];omega|loop r=>obtain⟨R,t,w,A,Y,Q,L,h7,h8,h9⟩:=h;refine⟨R,?_,w,A,Y,Q,L,h7,h8,h9.mono T (aU.refl _)⟩;rw[k.get j (B.inv.get _ _ t) (by grind[rootOf])];omega
 cases x with|l s0=>
 refine⟨U,X,G,z,W,λs n h=>?_,λid D h=>?_,B.nu,hu⟩
 . have h:look (put O.lb s0 b') s=J n:=h;rw[lN]at h;by_cases e:s=s0;.rw[if_pos e]at h;cases h;subst e;exact⟨i,by rw[ye];exact hi,lu⟩
   .rw[if_neg e]at h;obtain⟨j,t,w⟩:=B.box s n h;exact⟨j,ai,f (.l s) n j (λx=>e (Loc.l.inj x)) t w⟩
 .obtain⟨j,t,w,A⟩:=B.js id D h;grind|g F=>
 refine⟨U,X,G,z,W,λs n h=>?_,λid D h=>?_,B.nu,hu⟩;.obtain⟨j,t,w⟩:=B.box s n h;exact⟨j,ai,f (.l s) n j aO t w⟩
 . have h:look (put O.g.sE F (.box b')) id=J D:=h;rw[lN]at h;by_cases e:id=F;.rw[if_pos e]at h;cases h;subst e;obtain⟨j,t,w,A⟩:=B.at hb;have:j=i:=ai;subst this;exact⟨j,A id rfl,by rw[P];exact hi,lu⟩
   .rw[if_neg e]at h;obtain⟨j,t,w,A⟩:=B.js id D h;grind
theorem Loc.BF{x y:Loc}{i j:Nat}(h:x.pk i=y.pk j):x=y/\i=j:=by cases x<;>cases y<;>simp_all[Loc.pk]
theorem Loc.Aj(x:Loc)(i:Nat):¬(x.pk i).slot:=by cases x<;>exact id
theorem Loc.BG(x:Loc)(i s:Nat):x.pk i≠.lb s:=by cases x<;>simp[Loc.pk]
theorem Loc.Mc(x:Loc)(i s:Nat):x.pk i≠.g s:=by cases x<;>simp[Loc.pk]
theorem ais{g:cT}(D:bX K φ ω H tm g)(f:∀p r,p.slot->ω p=J (r,V)->¬R r):bX (K.plus H R) φ (ω.plus R) H tm g:=by
 intro t sv B;obtain⟨a,q,w,c⟩:=D t sv B;refine⟨a,q,w,?_⟩;rcases sv with⟨d,o⟩|l|⟨s,I⟩|d|s|⟨s,i,I⟩|⟨id,I⟩|n|_;.exact cN.Me (λr h=>f (.sl t) r trivial h) c
 .obtain⟨m,g1,g2,g3⟩:=c;exact⟨m,g1,g2,λj x y u v=>cN.Me (λr h=>f (.tp t j) r trivial h) aT⟩
 .intro i b A;obtain⟨k,z,_⟩:=aI.Fx A;exact c i k z
 .obtain⟨id,I,cells,e,g1,g2,g3,g4,g5⟩:=c;exact⟨id,_,_,e,g1,aX.oN _ _ _ _ _ g2,g3,g4,g5.mono (aX.oN _ _ _) (aU.refl _)⟩
 .exact c
 .exact c
 .exact c
 .exact c
 trivial
theorem aD8(b:LB)(o:Nat):ew {b with own:=b.own.map λ(x:Nat×aM)=>(x.1,n7 x.2)} o=n7 (ew b o):=by unfold ew;cases b.cells[o]? with|none=>dsimp only;rw[qB b.own n7];cases look b.own o<;>rfl|some d=>cases d<;>first|rfl|(dsimp only;rw[qB b.own n7];cases look b.own o<;>rfl)
theorem afV{a:Type}(l:List (Nat×a))(f:Nat->Bool){n:Nat}(h:f n=V):look (l.filter λx=>f x.1) n=look l n:=by induction l<;>grind[look,bE]
theorem afT(l:List (Nat×aM)){n:Nat}(h:n≠I):look (cW l I 1) n=look l n:=by refine afV l (λk=>cm k _||br _ k) ?_;grind[eK,dg]
theorem alO{x:Loc}{b:LB}{i:Nat}(c:HR K φ ω H O.lb O.g)(M:bX K φ ω H tm O.sl)(F:O.at x=J b)(G:ω x.top=J (i,V))(N:oR K φ ω H x.pk b i):∃K' ω',ou ω H K K'/\HR K' φ ω' H (O.setAt x {b with own:=b.own.map λ(x:Nat×aM)=>(x.1,n7 x.2)}).lb (O.setAt x {b with own:=b.own.map λ(x:Nat×aM)=>(x.1,n7 x.2)}).g/\bX K' φ ω' H tm O.sl/\(∀p r b,ω' p=J (r,b)->∃k,ω p=J (r,k))/\∀m,(∃r fl e,H.get i=J (.cells m r fl e))->bG K' φ b.cells m:=by
 let R:Nat->Prop:=λr=>∃I,ω (x.pk I)=J (r,V);have q:∀r,R r->∃p,ω p=J (r,V):=λr⟨I,h⟩=>⟨_,h⟩;have P:∀p r,(∀I,p≠x.pk I)->ω p=J (r,V)->¬R r:=λp r g h⟨I,f⟩=>g I (c.inj _ _ _ _ _ h f);obtain⟨w,z,c3,A⟩:=Qn c R q;have e2:∀p,(∀I,p≠x.pk I)->ω.plus R p=ω p:=by
   intro p g;unfold aI.plus;rcases h:ω p with _|y;.rfl
   obtain⟨r,Q⟩:=y;have:¬R r:=λ⟨I,f⟩=>g I (c.inj _ _ _ _ _ h f);grind
 obtain⟨m,fl,e,l,f,D,E,n,o⟩:=N;refine⟨_,_,⟨aX.oN _ _ _,λj x L=>(aX.Vz L).imp_right λh=>let⟨p,h⟩:=q _ h;⟨p,_,h⟩⟩,?_,ais M λp r g h=>P p r (λI e=>Loc.Aj x I (e▸g)) h,λp r b h=>let⟨k,B,_⟩:=aI.Fx h;⟨k,B⟩,?_⟩
 . refine HR.FT (S:=λ_=>False) c F G (aX.oN _ _ _) (bQ.refl _ _) c.inv c.gV w z c3 A (λs=>e2 _ λI=>(Loc.BG x I s).symm) (λid=>e2 _ λI=>(Loc.Mc x I id).symm) ?_ (λ_ _ _ _ _ _=>id) ?_;.grind[cN.Me,Loc.BF]
   .refine⟨m,fl,e,l,f.share,D,E,n,λI d a u v=>⟨(o I d a u v).1,?_⟩⟩;grind[aD8,cN.Fw]
 .rintro m'⟨r,fl',e',t⟩;rw[l]at t;obtain⟨rfl,_⟩:=b9.cells.inj (bt t);exact⟨n,λI d a u v=>(cN.Fw c (λr hr=>⟨I,hr⟩) (o I d a u v).2).2⟩
theorem amD{x:Loc}{b:LB}{i:Nat}{d:DV}{r0 M F}(c:HR K φ ω H O.lb O.g)(hs:bX K φ ω H tm O.sl)(U:O.at x=J b)(W:ω x.top=J (i,V))(lu:oR K φ ω H x.pk b i)(A:H.get i=J (.cells m r0 M F))(z:b.cells[I]?=J d)(T:m[I]?=J a)(Y:ew b I=.ex e):∃K' ω',ou ω H K K'/\HR K' φ ω' H (O.setAt x {b with own:=(I,.ty e)::cW b.own I 1}).lb (O.setAt x {b with own:=(I,.ty e)::cW b.own I 1}).g/\bX K' φ ω' H tm O.sl/\(∀p r b,ω' p=J (r,b)->∃l,ω p=J (r,l))/\DR K' φ d a:=by
 let R:Nat->Prop:=λr=>ω (x.pk I)=J (r,V);have w:∀r,R r->∃p,ω p=J (r,V):=λr h=>⟨_,h⟩;have va:∀p r,p≠x.pk I->ω p=J (r,V)->¬R r:=λp r k h g=>k (c.inj _ _ _ _ _ h g);obtain⟨B,D,c3,E⟩:=Qn c R w;have e2:∀p,p≠x.pk I->ω.plus R p=ω p:=by
   intro p k;unfold aI.plus;rcases h:ω p with _|y;.rfl
   obtain⟨r,bb⟩:=y;have:¬R r:=λg=>k (c.inj _ _ _ _ _ h g);grind
 obtain⟨m',fl',e',q,g,P,Q,S,t⟩:=lu;rw[q]at A;obtain⟨rfl,_⟩:=b9.cells.inj (bt A);have L:=cN.Fw c (R:=R) (λr hr=>hr) (t I d a z T).2;refine⟨_,_,⟨aX.oN _ _ _,λj x X=>(aX.Vz X).imp_right λh=>let⟨p,h⟩:=w _ h;⟨p,V,h⟩⟩,?_,ais hs λp r k h=>va p r (λe=>Loc.Aj x I (e▸k)) h,λp r b h=>let⟨l,N,_⟩:=aI.Fx h;⟨l,N⟩,L.2⟩;refine HR.FT c U W (aX.oN _ _ _) (bQ.refl _ _) c.inv c.gV B D c3 E (λs=>e2 _ (Loc.BG x _ s).symm) (λid=>e2 _ (Loc.Mc x _ id).symm) ?_ (λ_ _ _ _ _ _=>id) ?_;.grind[cN.Me,Loc.BF]
 . refine⟨m',fl',e',q,g.anO _ _,P,Q,S,λf o n u v=>⟨(t f o n u v).1,?_⟩⟩;by_cases G:f=I
   . subst G;obtain rfl:d=o:=ai;obtain rfl:a=n:=ai;rw[Y]at L;unfold ew;show cN _ _ _ _ _ _ _ (match b.cells[f]? with|some .nl=>aM.any|_=>(look ((f,aM.ty e)::cW b.own f 1) f).getD .no);rw[z];have oH:d≠.nl:=by grind[ew]
     cases d<;>first|exact absurd rfl oH|(simp only[look,bE,dM,aR,DS];exact L.1)
   grind[ew,look,bE,afT,cN.Me,Loc.BF]
theorem NQ{i:Nat}{r f e}(h:H.get i=J (.cells m r f e))(l:(H.bn r).1<=i):H.cellsOf i=J m:=by grind[Heap.cellsOf,dg]
theorem afL{i n:Nat}{r f e}(h:H.get i=J (.cells m r f e))(l:(H.bn r).1<=i)(c:AM.isAgg P t=J V)(a:aZ P t=J n)(b:I+n<=m.length):AM.loadVar P H t i I=J (AV.agg ((m.drop I).take n)):=by
 unfold AM.loadVar;have:H.load i I n=J ((m.drop I).take n):=by unfold Heap.load;rw[NQ h l];grind[dg,dS,pI,ql]
 grind
theorem UN{i:Nat}{r f e}(g:H.get i=J (.cells m r f e))(l:(H.bn r).1<=i)(b:AM.isAgg P t=J C)(h:m[I]?=J a):AM.loadVar P H t i I=J a:=by unfold AM.loadVar;rw[b];simp only[NQ g l,cQ,wT,h]
def Au(x:Loc)(o:Nat)(d:ah Nat):Pk->ah Pk:=λp=>if(∃k,d=J k/\p=.sl k)then J (x.pk o)else if p=x.pk o then Z else J p
theorem aIG{x:Loc}{d:ah Nat}:∀p q y,Au x I d p=J y->Au x I d q=J y->p=q:=by
 intro p q y h b;unfold Au at h b;by_cases a:∃k,d=J k/\p=.sl k;.grind
 . rw[if_neg a]at h;split at h;.grind
   .by_cases c:∃k,d=J k/\q=.sl k<;>grind
theorem aIH(x:Loc)(o d:Nat):Au x o (J d) (.sl d)=J (x.pk o):=by simp[Au]
theorem FY{x:Loc}{d:ah Nat}(h:∀k,d=J k->p≠.sl k)(a:p≠x.pk I):Au x I d p=J p:=by grind[Au]
theorem Vm(a:HR K φ ω H lb g){src:Pk->ah Pk}(k:∀p q y,src p=J y->src q=J y->p=q):(∀p q r b c,ω.of src p=J (r,b)->ω.of src q=J (r,c)->p=q)/\(∀p r id x,ω.of src p=J (r,V)->K id=J x->rootOf H id≠r)/\∀p r b,ω.of src p=J (r,b)->r<H.next:=by
 refine⟨λp q r b c x y=>?_,λp r id x d f=>?_,λp r b d=>?_⟩;.obtain⟨l,i,h⟩:=aI.iz x;obtain⟨q0,j,e⟩:=aI.iz y;obtain rfl:=a.inj _ _ _ _ _ h e;grind
 .obtain⟨_,_,h⟩:=aI.iz d;exact a.clean _ _ _ _ h f
 .obtain⟨_,_,h⟩:=aI.iz d;exact a.cw _ _ _ h
theorem cN.uC{q:Pk}{d:DV}{o:aM}(h:ω' q=ω p)(c:cN K φ ω H p d a o):cN K φ ω' H q d a o:=by cases o with|no=>exact c|any=>exact c|full e=>exact c|ty e=>exact⟨c.1,c.2.imp id λ⟨r,b,x1,x2⟩=>⟨r,b,ai,x2⟩⟩|ex e=>exact Or.imp id aT c
theorem aD6(b:LB)(c:aq){n:Nat}(h:n≠I)(a:c[n]?=b.cells[n]?):ew {cells:=c,own:=cW b.own I 1} n=ew b n:=by grind[ew,afT]
theorem aa4{f:Loc}{b:LB}{i:Nat}{B l:DV}{r0 fl e0}(o:HR K φ ω H O.lb O.g)(W:bX K φ ω H tm O.sl)(hb:O.at f=J b)(hi:ω f.top=J (i,V))(lu:oR K φ ω H f.pk b i)(R:H.get i=J (.cells m r0 fl e0))(Q:b.cells[I]?=J B)(ha:m[I]?=J a)(ho:ew b I=ow)(lx:DR K φ l a)(ib:l.aV=V)(HY:l≠.nl)(h:aH (O.setAt f {cells:=iC b.cells I l,own:=cW b.own I 1}) dst (.dv B ow)=J st'):fK K φ ω H st' (gQ tm dst a) H:=by
 obtain⟨m',fl',e',M,N,F,h4,h5,P⟩:=lu;rw[M]at R;obtain⟨rfl,_⟩:=b9.cells.inj (bt R);have U:=(P I B a Q ha).2;rw[ho]at U;obtain⟨c2,c3,c4⟩:=Vm o (aIG (x:=f) (I:=I) (d:=dst));have cB:∀k,dst=J k->∀y j,Loc.pk y j≠.sl k:=λk _ y j e=>Loc.Aj y j (e▸trivial);have T:I<b.cells.length:=(List.getElem?_eq_some_iff.1 Q).1;have G:∀n,n≠I->(iC b.cells I l)[n]?=b.cells[n]?:=by grind[iC]
 have A:(iC b.cells I l)[I]?=J l:=by grind[iC]
 have X:HR K φ (ω.of (Au f I dst)) H (O.setAt f {cells:=iC b.cells I l,own:=cW b.own I 1}).lb (O.setAt f {cells:=iC b.cells I l,own:=cW b.own I 1}).g:=by
   refine HR.FT (S:=λ_=>False) o hb hi (bo.refl _) (bQ.refl _ _) o.inv o.gV o.dk c2 c3 c4 (λs=>?_) (λid=>?_) ?_ (λ_ _ _ _ _ _=>id) ?_;.unfold aI.of;rw[FY (λk _=>aO) (Loc.BG f I s).symm];rfl
   .unfold aI.of;rw[FY (λk _=>aO) (Loc.Mc f I id).symm];rfl
   .intro y g d1 E o1 hy z;exact z.uC (by grind[aI.of,FY,Loc.BF])
   . refine⟨m',fl',e',M,N.drop _ _,F,h4,?_,λg d1 E u v=>?_⟩;.grind[iC]
     . have u:(iC b.cells I l)[g]?=J d1:=u;by_cases D:g=I
       . subst D;rw[A]at u;cases u;obtain rfl:a=E:=ai;refine⟨ib,?_⟩;have:ew {cells:=iC b.cells g l,own:=cW b.own g 1} g=.no:=by
          unfold ew;show(match(iC b.cells g l)[g]? with|some .nl=>aM.any|_=>(look (cW b.own g 1) g).getD .no)=_;rw[A];have Bk:look (cW b.own g 1) g=Z:=by unfold cW;induction b.own<;>grind[look,eK,dg,bE]
          grind
         rw[this];exact lx
       .rw[G g D]at u;obtain⟨k1,k2⟩:=P g d1 E u v;refine⟨k1,?_⟩;rw[aD6 b _ D (G g D)];exact k2.uC (by grind[aI.of,FY,Loc.BF])
 have cV:(O.setAt f {cells:=iC b.cells I l,own:=cW b.own I 1}).sl=O.sl:=(YQ O f _).2.2;have L:∀p r c,ω.of (Au f I dst) p=J (r,c)->dL ω r\/H.next<=r:=λp r c z=>let⟨q,_,h⟩:=aI.iz z;.inl ⟨q,c,h⟩;have w:∀p r c,p.slot->(∀k,dst=J k->p≠.sl k)->ω p=J (r,c)->ω.of (Au f I dst) p=J (r,c):=by intro p r c z hk h;unfold aI.of;rw[FY hk (λe=>Loc.Aj f I (e▸z))];grind
 rcases yG h with⟨rfl,rfl⟩|⟨k,rfl,_,hr,rfl⟩;.refine⟨K,φ,_,bo.refl _,o.fV (bQ.refl (λ_=>False) _),aU.refl _,X,?_,bQ.refl _ _,L⟩;rw[cV];intro t sv hl;obtain⟨Y,g1,g2,g3⟩:=W t sv hl;refine⟨Y,g1,g2,g3.keep (S:=λ_=>False) o.inv (bQ.refl _ _) (bo.refl _) (aU.refl _) (λp r c z h=>⟨w p r c (by rcases z with rfl|⟨j,rfl⟩<;>trivial) (λk e=>ai) h,id⟩) (λs g i' b' _ h=>?_) (λ_ _=>rfl) (λ_ _ _ _ _=>id)⟩;grind[aI.iz,FY,Loc.BG]
 . refine⟨K,φ,_,bo.refl _,o.fV (bQ.refl (λ_=>False) _),aU.refl _,X,?_,bQ.refl _ _,L⟩;show bX _ _ _ _ _ (put (ij (O.setAt f _).sl k) k (.dv B ow));rw[cV];refine w9 (S:=λ_=>False) o.inv W (bQ.refl _ _) (bo.refl _) (aU.refl _) (λp r c _ N F h=>⟨w p r c ?_ (λk' e=>ai) h,id⟩) (λs i' b' h=>?_) (λ_ _ _=>id) (λ_=>U.qC) ?_;.rcases F with⟨t,rfl⟩|⟨t,j,rfl⟩<;>trivial
   .obtain⟨q,q1,q2⟩:=aI.iz h;rw[FY (λk e=>aO) (Loc.BG f I s).symm]at q1;grind
   .exact U.uC (by simp[aI.of,aIH])
theorem HR.same{x:Loc}{b:LB}{i:Nat}(a:HR K φ ω H O.lb O.g)(c:O.at x=J b)(d:ω x.top=J (i,V))(l:oR K φ ω H x.pk b i):HR K φ ω H (O.setAt x b).lb (O.setAt x b).g:=HR.FT (S:=λ_=>False) a c d (bo.refl _) (bQ.refl _ _) a.inv a.gV a.dk a.inj a.clean a.cw (λ_=>rfl) (λ_=>rfl) (λ_ _ _ _ _ _ h=>h) (λ_ _ _ _ _ _=>id) l
theorem QY{l:aq}{i:Nat}{d:DV}(h:l[i]?=J d):iC l i d=l:=by grind[iC,DM,GC]
theorem aD7{b:LB}{d:DV}(a:b.cells[I]?=J d)(h:ew b I≠.any):d≠.nl:=by grind[ew]
theorem cN.jk{d:DV}(h:cN K φ ω H p d a (.ex e)):DR K φ .jk a:=by
 rcases h with⟨_,rfl⟩|⟨r,_,b⟩;.exact .jk _ rfl rfl
 .obtain⟨l,s,id,I,c,cells,fl,_,rfl,_⟩:=b.ex;exact .jk _ rfl rfl
theorem afJ{x:Loc}{b:LB}{i:Nat}{u:iF}{r:SV×LB}(f:HR K φ ω H O.lb O.g)(B:bX K φ ω H tm O.sl)(o:O.at x=J b)(q:ω x.top=J (i,V))(j:oR K φ ω H x.pk b i)(l:fD P u t b I=J r)(h:aH (O.setAt x r.2) dst r.1=J st'):∃a,AM.loadVar P H t i I=J a/\fK K φ ω H st' (gQ tm dst a) H:=by have D:=j;obtain⟨m,fl,e,s,h2,T,h4,h5,W⟩:=D;have cV:∀F,(O.setAt x F).sl=O.sl:=λF=>(YQ O x F).2.2;unfold fD at l;cases N:AM.isAgg P t with|none=>grind|some Y=>rw[N]at l;cases Y with
 |true=>
 simp only at l;obtain⟨n,A,l⟩:=aF l;rw[dg]at l;by_cases jt:I+n<=b.cells.length;.simp only[jt,dM,aR]at l;cases l;obtain⟨X,S,w,z,s3,Q,R⟩:=alO f B o q j;have hd:=R m ⟨_,fl,e,s⟩;refine⟨_,afL s T N A ab,fK.trans f.inv w.1 (w.fV z) (aU.refl _) (bQ.refl _ _) (λp r c L=>let⟨E,G⟩:=Q p r c L;.inl ⟨p,E,G⟩) (AS z ai h ?_)⟩;exact((hd.drop I).take n).agg λy hy=>by obtain⟨k,hk⟩:=List.mem_iff_getElem?.1 (RD (RE hy));have kA:k<m.length:=ai;exact(W k y m[k] hk (dD kA)).1
 grind|false=>simp only at l;cases hd:b.cells[I]? with|none=>grind|some d=>
 rw[hd]at l;obtain⟨HZ,_⟩:=List.getElem?_eq_some_iff.1 hd;have v:m[I]?=J m[I]:=dD ab;obtain⟨ib,U⟩:=W I d _ hd v;refine⟨_,UN s T N v,?_⟩;have plain:∀(sv:DV)(ow:aM),ew b I=ow->(∀e,ow≠.ex e)->aH (O.setAt x b) dst (.dv d .no)=J st'->fK K φ ω H st' (gQ tm dst m[I]) H:=by intro _ ow g cB h;rw[g]at U;refine AS (HR.same f o q j) ai h ?_;cases ow with|no=>exact U|any=>obtain⟨rfl,hx⟩:=U;rw[hx];exact .nl|full e=>exact U.1|ty e=>exact U.1|ex e=>grind
 have share:∀e,ew b I=.ex e->aH (O.setAt x {b with own:=(I,.ty e)::cW b.own I 1}) dst (.dv d .no)=J st'->fK K φ ω H st' (gQ tm dst m[I]) H:=by intro e g h;obtain⟨X,S,w,z,s3,Q,R⟩:=amD f B o q j s hd v g;exact fK.trans f.inv w.1 (w.fV z) (aU.refl _) (bQ.refl _ _) (λp r c L=>let⟨E,G⟩:=Q p r c L;.inl ⟨p,E,G⟩) (AS z ai h R)
 have M:oP u b I d (ew b I)=r:=bt l;cases g:ew b I with
 |ex e=>rw[g]at M;cases u with
  |take=>subst M;exact aa4 f B o q j s hd v g (cN.jk (by rw[g]at U;omega)) rfl aO h|len=>have M:(match mQ d with|some n=>(SV.hd n,b)|none=>(.dv d .no,{b with own:=(I,.ty e)::cW b.own I 1}))=r:=M;cases A:mQ d with|none=>grind|some n=>rw[A]at M;subst M;refine xz (HR.same f o q j) ai h U.qC λ_ _ _=>?_;exact(LG A (cN.look f U):nv m[I]=J n)
  |none=>subst M;exact share e g h|ref=>subst M;exact share e g h|copy=>subst M;exact share e g h
 |ty e=>rw[g]at M;cases u with|take=>
  subst M;have gN:DR K φ d m[I]:=by rw[g]at U;exact U.1
  refine aa4 f B o q j s hd v g gN ib (aD7 hd ai) ?_;rw[QY hd];exact h|none=>subst M;exact plain d _ g aO h|len=>subst M;exact plain d _ g aO h|ref=>subst M;exact plain d _ g aO h|copy=>subst M;exact plain d _ g aO h
 |full e=>rw[g]at M;cases u<;>(subst M;exact plain d _ g aO h)|no=>rw[g]at M;cases u<;>(subst M;exact plain d _ g aO h)|any=>rw[g]at M;cases u with|take=>subst M;rw[g]at U;refine xz (HR.same f o q j) aT h (by rw[U.2];simp) λ_ _ _=>U|none=>subst M;exact plain d _ g aO h|len=>subst M;exact plain d _ g aO h|ref=>subst M;exact plain d _ g aO h|copy=>subst M;exact plain d _ g aO h
theorem azC{i:Nat}(b:o.op=.load t x)(c:AM.bB P tm x=J (.ptr i I))(h:AM.loadVar P H t i I=J a):dX P ak tm H o=J (.val a H):=by simp_all[dX,Gk,eZ]
theorem ahl{b:aq}{c:aJ}{base:Nat}{d:DV}(w:∀(j:Nat)(y:DV)(a:AV),b[j]?=J y->c[base+j]?=J a->DR K φ y a)(f:base+b.length<=c.length)(u:∀y,y∈b->y.aV=V)(h:kU P t b I=J d){i r g e}(o:H.get i=J (.cells c r g e))(l:(H.bn r).1<=i):∃a,AM.loadVar P H t i (base+I)=J a/\DR K φ d a:=by
 unfold kU at h;split at h
 . rename_i q;obtain⟨n,p,h⟩:=aF h;rw[dg]at h;by_cases m:I+n<=b.length;.simp only[m,dM,aR]at h;cases h;refine⟨_,afL o l q p ab,?_⟩;refine bG.agg ⟨ai,λj y a s k=>?_⟩ λy s=>u y ai;grind
   grind
 .obtain⟨v,_⟩:=List.getElem?_eq_some_iff.1 h;have k:c[base+I]?=J _:=dD ab;grind[UN]
 grind
theorem aEE{d:DV}(h:(∃n,AM.isAgg P t=J V/\aZ P t=J n/\d.aV=C/\d.flat.length=n)\/(AM.isAgg P t=J C/\d.aV=V)):kU P t d.flat 0=J d:=by
 unfold kU;rcases h with⟨n,a,b,e,c⟩|⟨a,b⟩;.rw[a];simp only[b,cQ];rw[dg];simp only[c,iZ,bJ,dM,aR,xp];rw[<-c,AL];cases d<;>first|rfl|simp[DV.aV]at e
 .rw[a];cases d<;>first|rfl|grind[DV.aV]
theorem azB(S:du P K φ ao)(q:HR K φ ω H O.lb O.g)(A:bX K φ ω H tm O.sl)(Y:o.op=.load t x)(h:dB P ao fk gs cr later O o=J st'):eO P ak rec cf K φ ω H st0 O st' tm o:=by unfold dB at h;rw[Y]at h;simp only at h;cases M:cR ao O x with|none=>grind|some sv=>
 rw[M]at h;obtain⟨a,a1,a2,D⟩:=qD (P:=P) S A M;have fin:∀{i I:Nat}{b:AV}{f:St}{v:SV},a=.ptr i I->AM.loadVar P H t i I=J b->fK K φ ω H st' (gQ tm o.dst b) H->aH f o.dst v=J st'->f.n=O.n->f.fn=O.fn->eO P ak rec cf K φ ω H st0 O st' tm o:=by intro i I b f v e1 e2 e3 e4 e5 e6;subst e1;obtain⟨f1,f2,f3,_⟩:=mW e4;exact⟨b,H,by unfold ff;rw[azC Y a1 e2];rfl,λd hd=>ai,e3,ab,ai,tP.refl _ _ _⟩
 have N:∀(u:iF)(y:Loc)(b:LB)(I:Nat)(r:SV×LB),O.at y=J b->(∀i,ω y.top=J (i,V)->(∀id,y=.g id->φ id=J i)->a=.ptr i I)->fD P u t b I=J r->aH (O.setAt y r.2) o.dst r.1=J st'->eO P ak rec cf K φ ω H st0 O st' tm o:=by intro u y b I r w hp W jx;obtain⟨i,L,i2,i3⟩:=q.at w;grind[afJ,YQ]
 cases sv with
 |lp s I=>
  simp only at h;obtain⟨b,w,h⟩:=aF h;obtain⟨r,hr,h⟩:=aF h;refine N _ (.l s) b I r w (λi T _=>?_) hr h;rcases D with⟨t',_,_,_,p⟩|⟨_,⟨_,e,_⟩|⟨_,_,_,_,e,_⟩|⟨_,_,_,_,e,_⟩⟩;.exact p i V T
  all_goals grind|ev d=>
  simp only at h;have ui:∃id I cells e,a=.ptr id I/\K id=J (cells,e)/\I+d.flat.length<=cells.length/\(∀y,y∈d.flat->y.aV=V)/\bG K φ d.flat ((cells.drop I).take d.flat.length):=by
    rcases D with⟨t',_,_,_,p⟩|⟨_,⟨_,e,_⟩|⟨_,_,_,_,e,_⟩|⟨g,l,cells,e,e1,e2,p,h5,h6⟩⟩;.exact p
    all_goals grind[DV.flat,bG]
  obtain⟨id,I,cells,e,e1,e2,e3,e4,e5⟩:=ui;obtain⟨r,fl,g1,g2⟩:=q.dk _ _ _ e2;have jx:aH O o.dst (.dv d .no)=J st'/\kU P t d.flat 0=J d:=by grind[aF,bE,aEE]
  obtain⟨b,E,b2⟩:=ahl (base:=I) (λj y c k R=>e5.2 j y c k (by grind)) e3 e4 jx.2 g1 g2;grind[AS]|se s i I=>
  simp only at h;obtain⟨y,k,h⟩:=aF h;obtain⟨d,hd,h⟩:=aF h;obtain⟨d',hp,pg⟩:=aF h;have La:∃id B len c z,tm.get s=J (.sl id B len c z)/\a=.ptr id (B+i*z+I):=by
    rcases D with⟨t',_,_,_,p⟩|⟨_,⟨_,e,_⟩|⟨_,_,_,_,e,_⟩|⟨_,_,_,_,e,_⟩⟩;.exact p
    all_goals grind
  obtain⟨id,B,len,c,z,e1,e2⟩:=La;unfold np at k;split at k
  . rename_i l e n e' W;cases k;obtain⟨b0,E,_,b3⟩:=A s _ W;rw[e1]at E;cases E;rcases b3 with⟨x1,_⟩|⟨r,_,b4⟩;.simp_all
    . obtain⟨l',pP,qy,dj,c',cells,fl,g1,g2,g3,g4,g5,g6,g7,g8⟩:=b4.ex;obtain⟨rfl,rfl,rfl⟩:=DV.ay.inj g1;obtain⟨rfl,rfl,rfl,rfl,rfl⟩:=AV.sl.inj g2;have gO:=(List.getElem?_eq_some_iff.1 hd).1;obtain⟨k1,k2⟩:=g7.2.2.1 i d hd;have X:i*z+z<=l.length*z:=by have:(i+1)*z<=l.length*z:=lD _ gO;grind
      have w:=g7.2.1;obtain⟨b,x1,x2⟩:=ahl (base:=B+i*z) (I:=I) (λj y c k R=>g7.2.2.2 i d j y c hd k R) ab k2 hp g3 g5;grind[AS]
  simp_all|dv d0 ow0=>cases d0 with
  |ptr id I=>
    simp only at h;have G:∃i,φ id=J i/\a=.ptr i I:=by
      have gN:DR (sB H) φ (.ptr id I) a:=by obtain⟨a',x1,_,x3⟩:=nX (P:=P) S q A (x:=x) (d:=.ptr id I) (by unfold bj;rw[M];rfl);simp_all
      cases gN<;>simp_all
    obtain⟨i0,L,i2⟩:=G;cases kO:O.g.get id with|none=>simp_all|some ob=>rw[kO]at h;cases ob with
      |box b=>
      simp only at h;have rl:O.at (.g id)=J b:=by grind[St.at]
      have aLv:∀(u:iF),((fD P u t b I).bind λr=>aH {O with g:=O.g.set id (.box r.2)} o.dst r.1)=J st'->eO P ak rec cf K φ ω H st0 O st' tm o:=by intro u h;obtain⟨r,hr,h⟩:=aF h;exact N u (.g id) b I r rl (λi _ T=>aT) hr h
      split at h
      . rename_i e gw ht;obtain⟨j,j1,j2,j3⟩:=q.at rl;have U:=j3 id rfl;rw[L]at U;cases U;obtain⟨m,fl,e',g1,g2,g3,g4,g5,g6⟩:=j2;rw[eK]at h;have Q:I<b.cells.length:=by grind
        simp only[Q,dM,aR]at h;have F:m[I]?=J m[I]:=dD ab;have cU:=(g6 I _ _ (dD Q) F).2;refine fin i2 (UN g1 g3 ht F) (xz q A h cU.qC λ_ _ _=>?_) h rfl rfl;exact⟨i0,m,i0,fl,e',L,g1,F⟩
      grind|_=>simp_all
  |_=>simp at h
 |_=>simp_all
theorem qF(f:HR K φ ω H O.lb O.g)(s:bX K φ ω H tm O.sl)(g:dX P ak tm H o=J (.val a H))(h:aH O o.dst sv=J st')(t:a≠.top)(v:∀d,o.dst=J d->FI d sv=C->ma K φ ω H (tm.ins d a) d sv a):eO P ak rec cf K φ ω H st0 O st' tm o:=by obtain⟨b,c,e,_⟩:=mW h;exact⟨a,H,by grind[ff],b,xz f s h t v,c,e,tP.refl _ _ _⟩
theorem JG(u:du P K φ ao)(j:HR K φ ω H O.lb O.g)(v:bX K φ ω H tm O.sl)(w:cR ao O x=J sv):∃a,AM.bB P tm x=J a/\a≠.top/\(match sv with|.lp s I=>∀i b,ω (.lb s)=J (i,b)->a=.ptr i I|.ev d=>∃id I cells e,a=.ptr id I/\K id=J (cells,e)/\I+d.flat.length<=cells.length/\(∀y,y∈d.flat->y.aV=V)/\bG K φ d.flat ((cells.drop I).take d.flat.length)|.se s i I=>∃id k len c z,tm.get s=J (.sl id k len c z)/\a=.ptr id (k+i*z+I)|.sr s=>tm.get s=J a|.dv d o=>DR (sB H) φ d a|.hd n=>nv a=J n|.gr id I=>∃i m root fl e,φ id=J i/\H.get i=J (.cells m root fl e)/\m[I]?=J a|_=>True):=by
 obtain⟨a,p,q,r⟩:=qD u v w;refine⟨a,p,q,?_⟩;rcases r with⟨t,_,_,_,h⟩|⟨_,⟨d,rfl,h⟩|⟨d,f,_,_,rfl,h⟩|⟨g,l,cells,e,rfl,rfl,h,A,B⟩⟩;.cases sv with|dv d o=>exact cN.look j h|tp l=>grind|dd=>grind|_=>exact h
 .exact h.mono j.sub (aU.refl _)
 .exact h.mono j.sub (aU.refl _)
 grind[DV.flat,bG]
theorem ahk{c:aq}{d:DV}(h:kU P t c I=J d)(s:∀y,y∈c->y.aV=V):∃_:I+d.flat.length<=c.length,(∀y,y∈d.flat->y.aV=V)/\d.flat=(c.drop I).take d.flat.length:=by
 unfold kU at h;split at h
 . obtain⟨n,i,h⟩:=aF h;rw[dg]at h;by_cases e:I+n<=c.length;.simp only[e,dM,aR]at h;cases h;have l:((c.drop I).take n).length=n:=ai;exact⟨by show I+((c.drop I).take n).length<=_;omega,λy f=>s y (RD (RE f)),by show(c.drop I).take n=(c.drop I).take ((c.drop I).take n).length;grind⟩
   grind
 . obtain⟨a,b⟩:=List.getElem?_eq_some_iff.1 h;have j:=s d (b▸GA a);have g:d.flat=[d]:=by cases d<;>first|rfl|grind[DV.aV]
   grind[DM]
 grind
theorem arz(E:du P K φ ao)(g:HR K φ ω H O.lb O.g)(j:bX K φ ω H tm O.sl){s:an}{f:Nat}(v:o.op=.fieldAddr s x f)(h:dB P ao fk gs cr later O o=J st'):eO P ak rec cf K φ ω H st0 O st' tm o:=by unfold dB at h;rw[v]at h;simp only at h;cases L:P.underlying s with|none=>simp_all|some u=>rw[L]at h;cases u with
 |struct q=>simp only at h;obtain⟨p,D,h⟩:=aF h;obtain⟨n,W,h⟩:=aF h;cases n with|zero=>simp_all|succ n=>cases w:cR ao O x with|none=>simp_all|some sv=>
  rw[w]at h;obtain⟨a,R,S,m⟩:=JG (P:=P) E g j w;have ex:∀{i I:Nat},a=.ptr i I->dX P ak tm H o=J (.val (.ptr i (I+p.offset)) H):=by intro i I e;subst e;unfold dX;rw[v];simp only[DC];grind[eZ]
  cases sv with
  |lp b I=>simp only at h;obtain⟨y,B,h⟩:=aF h;obtain⟨i,r,_⟩:=g.box b y B;exact qF g j (ex (m i V r)) h aO λd _ _=>λX T U=>aT|dv d0 ow=>cases d0 with
   |ptr id I=>simp only at h;cases m with|ptr _ _ i r=>exact qF g j (ex rfl) h aO λd _ _=>DR.ptr id _ i r
   |_=>simp at h
  |se t i I=>simp only at h;obtain⟨id,M,len,c,z,e1,e2⟩:=m;refine qF g j (ex e2) h aO λd _ hr=>⟨id,M,len,c,z,?_,ai⟩;rw[Tr.jr _ _ (λe=>Dj hr t (.inr ⟨_,_,rfl⟩) e.symm)];omega|ev d0=>cases d0 with
   |agg l=>
   simp only at h;obtain⟨d1,F,h⟩:=aF h;obtain⟨id,I,cells,e,e1,e2,e3,e4,e5⟩:=m;obtain⟨k,Q,N⟩:=ahk F (by simpa[DV.flat]using e4);refine qF g j (ex e1) h aO λd _ _=>⟨id,I+p.offset,cells,e,rfl,e2,?_,Q,?_⟩;.have:p.offset+d1.flat.length<=l.length:=k;have A:I+l.length<=cells.length:=e3;omega
   .have G:bG K φ l ((cells.drop I).take l.length):=e5;have:=(G.drop p.offset).take d1.flat.length;rw[List.drop_take,DL,List.take_take,Nat.min_eq_left ab,<-N]at this;exact this|_=>simp at h
  |_=>simp at h
 |_=>simp at h
theorem Ct{b:Builtin}{c:Call}{a:aJ}{v:AV}(f:o.op=.call c)(e:c.callee=.builtin b)(d:b≠.recover/\b≠.panic)(h:cu (AM.bB P tm) c.args.toList=J a)(g:im P H b c.argTypes a=J (v,H')):dX P ak tm H o=J (.val v H'):=by simp_all[dX,BZ,yA,ur]
theorem azc(M:du P K φ ao)(g:HR K φ ω H O.lb O.g)(k:bX K φ ω H tm O.sl){c:Call}(A:o.op=.call c)(v:c.callee=.builtin .len)(B:c.args.toList=[x])(h:dB P ao fk gs cr later O o=J st'):eO P ak rec cf K φ ω H st0 O st' tm o:=by
 unfold dB at h;rw[A]at h;simp only[v,B]at h;obtain⟨sv,U,h⟩:=aF h;obtain⟨a,a1,a2,f⟩:=JG (P:=P) M g k U;have Q:cu (AM.bB P tm) c.args.toList=J [a]:=by rw[B];show((AM.bB P tm x).bind λb=>(J []:ah aJ).bind λt=>J (b::t))=_;simp_all
 have fin:∀(n:Nat),im P H .len c.argTypes [a]=J (hJ n,H)->aH O o.dst (.dv (goN n) .no)=J st'->eO P ak rec cf K φ ω H st0 O st' tm o:=λn G L=>sJ g k (Ct A v ⟨aO,aO⟩ Q G) L (.int _ _);cases R:c.argTypes[0]?.bind P.underlying with|none=>simp_all|some u=>
 rw[R]at h;have Q1:∀(e:an)(n:Nat),u=.slice e->nv a=J n->im P H .len c.argTypes [a]=J (hJ n,H):=by simp_all[im]
 cases u with
 |array n e=>cases sv with|dv d ow=>exact fin n (by simp_all[im]) h|_=>simp_all
 |string=>cases sv with
  |dv d ow=>cases d with|str s=>cases f;exact fin s.length (by simp_all[im,dS]) h|_=>simp at h
  |_=>simp_all
 |slice e=>cases sv with
  |dv d ow=>obtain⟨n,z,h⟩:=aF h;grind[LG]|hd n=>grind|sr s=>
  obtain⟨y,q,h⟩:=aF h;unfold np at q;split at q;.rename_i l e' n e2 N;obtain rfl:=bt q;obtain⟨b0,r,_,E⟩:=k s _ N;have f:tm.get s=J a:=f;rw[f]at r;obtain rfl:=bt r;exact fin l.length (Q1 e _ rfl (LG (K:=sB H) (φ:=φ) (x:=.ay l e' n) rfl (cN.look g (p:=.sl s) (o:=.ex e2) E))) h
  simp_all|gr id I=>obtain⟨d,hd,h⟩:=aF h;obtain⟨n,z,X⟩:=aF h;obtain⟨i,m,root,fl,e2,g1,g2,g3⟩:=f;unfold Ea at hd;cases D:O.g.get id with|none=>simp_all|some W=>rw[D]at hd;cases W with
   |box b=>
   simp only at hd;have Y:O.at (.g id)=J b:=by unfold St.at;simp only[D]
   obtain⟨j,j1,S,T⟩:=g.at Y;have w:=T id rfl;rw[g1]at w;obtain rfl:=bt w;obtain⟨m',fl',e',k1,k2,k3,k4,k5,k6⟩:=S;rw[g2]at k1;obtain⟨rfl,_⟩:=b9.cells.inj (bt k1);split at hd;.rename_i F e3 xX gw;obtain rfl:=bt hd;exact fin n (Q1 e _ rfl (LG z (cN.look g (k6 I F a xX g3).2))) X
   .simp at hd|_=>simp at hd
  |_=>simp at h
 |_=>cases sv<;>simp at h
theorem aEL(g:du P K φ ao)(e:HR K φ ω H O.lb O.g)(s:bX K φ ω H tm O.sl){c:aK}(k:o.op=.pick c x y)(n:jG O x)(l:jG O y)(h:dB P ao fk gs cr later O o=J st'):eO P ak rec cf K φ ω H st0 O st' tm o:=by
 unfold dB at h;rw[k]at h;simp only at h;split at h;.rename_i b j;obtain⟨p,m,_,c3⟩:=nX g e s j;cases c3;cases b with|true=>obtain⟨v,f,h⟩:=aF h;obtain⟨a,i,_,d⟩:=sF g s n f;refine sJ e s ?_ h d;simp_all[dX,B2,eZ]|false=>obtain⟨v,f,h⟩:=aF h;obtain⟨a,i,_,d⟩:=sF g s l f;refine sJ e s ?_ h d;simp_all[dX,B2,eZ]
 grind
theorem Uz{l:an}{k:fN}{i d a e n:Nat}{c:ah Nat}(b:o.op=.indexAddr t x y)(g:AM.bB P tm y=J (.int k (.ofNat i)))(f:AM.bB P tm x=J (.sl d I a c e))(u:P.underlying t=J (.slice l))(h:aZ P l=J n)(j:n=e)(m:i<a):dX P ak tm H o=J (.val (.ptr d (I+i*e)) H):=by unfold dX;rw[b];simp only[B0];have:(cm i a&&aw n e)=V:=aT;simp only[g,f,u,h,cQ,this,aR,eZ,gF];rfl
theorem afa{e:an}{k:fN}{i d l n:Nat}(a:o.op=.indexAddr t x y)(c:AM.bB P tm y=J (.int k (.ofNat i)))(b:AM.bB P tm x=J (.ptr d I))(u:P.underlying t=J (.array l e))(h:aZ P e=J n)(f:i<l):dX P ak tm H o=J (.val (.ptr d (I+i*n)) H):=by unfold dX;rw[a];simp only[B0];have:cm i l=V:=aT;simp only[c,b,u,h,cQ,this,aR,eZ,gF];rfl
theorem awM(R:du P K φ ao)(q:HR K φ ω H O.lb O.g)(p:bX K φ ω H tm O.sl)(D:o.op=.indexAddr t x y)(h:dB P ao fk gs cr later O o=J st'):eO P ak rec cf K φ ω H st0 O st' tm o:=by
 unfold dB at h;rw[D]at h;simp only at h;split at h;.rename_i kk i hi;obtain⟨iv,M,_,i3⟩:=nX (P:=P) R q p hi;cases i3;cases E:P.underlying t with|none=>grind|some u=>rw[E]at h;cases T:cR ao O x with|none=>grind|some sv=>rw[T]at h;have gh:=qD (P:=P) R p T;obtain⟨a,w,a2,A⟩:=JG (P:=P) R q p T;cases u with
 |slice m=>cases sv with
  |dv d ow=>cases d with
   |ay l e b=>simp only at h;obtain⟨n,v,h⟩:=aF h;cases f:(aw n b&&aw e m)with|false=>grind|true=>rw[f]at h;simp only[gD,bE,gZ,aR]at f h;obtain⟨cB,_⟩:=f;cases A with|ay _ _ _ id I c cells q1 q2 q3 q4 q5 q6=>
     have F:i<l.length->dX P ak tm H o=J (.val (.ptr id (I+i*b)) H):=λg=>Uz D M w E v cB g;have aLK:((l[i]?).bind λd=>aH O o.dst (.ev d))=J st'->DR K φ (.ay l e b) (.sl id I l.length c b)->eO P ak rec cf K φ ω H st0 O st' tm o:=by intro h gN;obtain⟨d,hd,h⟩:=aF h;have g:=(List.getElem?_eq_some_iff.1 hd).1;refine qF q p (F g) h aO λ_ _ _=>?_;cases gN with|ay _ _ _ _ _ _ N w1 w2 w3 w4 w5 w6=>
      have hm:i*b+b<=l.length*b:=by have:(i+1)*b<=l.length*b:=lD _ g;grind
      refine⟨id,I+i*b,N,e,rfl,w1,ai,(w5 i d hd).2,⟨ai,λj z a hz ha=>?_⟩⟩;grind
     have aNd:∀s,x=.tmp s->(bif cm i l.length then aH O o.dst (.se s i 0)else Z)=J st'->eO P ak rec cf K φ ω H st0 O st' tm o:=by
      intro s X h;rw[eK]at h;by_cases g:i<l.length
      . simp only[g,dM,aR]at h;obtain⟨a',G,h2,Q⟩:=gh;rw[w]at G;cases G;rcases Q with⟨s',e1,_,eE,_⟩|⟨T',_⟩;.rw[X]at e1;obtain rfl:=Operand.tmp.inj e1;refine qF q p (F g) h aO λd _ hr=>⟨id,I,l.length,c,b,?_,rfl⟩;rw[Tr.jr _ _ (λe=>Dj hr s (.inr ⟨_,_,rfl⟩) e.symm)];omega
        grind
      grind
     have plain:(∀e',ow≠.ex e')\/(∀s,x≠.tmp s)->DR K φ (.ay l e b) (.sl id I l.length c b):=by
      intro L;obtain⟨a',G,h2,Q⟩:=gh;rw[w]at G;cases G;rcases Q with⟨s,X,_,_,B⟩|⟨_,⟨d,e1,B⟩|⟨_,_,_,_,e1,B⟩|⟨_,_,_,_,e1,_⟩⟩
      . rcases L with L|L;.cases ow with|no=>exact B|any=>have:=B.1;grind|full e'=>exact B.1|ty e'=>exact B.1|ex e'=>grind
        grind
      all_goals grind
     grind|cV id I len e b=>simp only at h;obtain⟨n,v,h⟩:=aF h;cases f:(aw n b&&aw e m&&cm i len)with|false=>grind|true=>rw[f]at h;simp only[gD,bE,eK,gZ,aR]at f h;cases A with|cV _ _ _ _ _ j c S jV=>exact qF q p (Uz D M w E v f.1.1 f.2) h aO λ_ _ _=>.ptr _ _ _ S
   |_=>simp at h
  |sr s=>
   simp only at h;obtain⟨y2,U,h⟩:=aF h;obtain⟨n,v,W⟩:=aF h;unfold np at U;split at U;.rename_i l e n2 e2 hl;cases U;cases f:(aw n n2&&(aw e m&&cm i l.length))with|false=>simp_all|true=>
     rw[f]at W;simp only[gD,bE,eK,gZ,aR]at f W;obtain⟨b0,Y,_,b3⟩:=p s _ hl;have A:tm.get s=J a:=A;rw[A]at Y;cases Y;rcases b3 with⟨x1,_⟩|⟨r,_,b4⟩;.simp_all
     .obtain⟨l',pP,qy,dj,c',cells,fl,g1,g2,_⟩:=b4.ex;obtain⟨rfl,rfl,rfl⟩:=DV.ay.inj g1;subst g2;refine qF q p (Uz D M w E v f.1 f.2.2) W aO λd _ hr=>⟨qy,dj,l.length,c',n2,?_,rfl⟩;grind[Tr.jr,Dj]
   grind|_=>simp_all
 |array len m=>cases sv with
  |ev d0=>cases d0 with
   |agg l=>
   simp only at h;obtain⟨n,v,h⟩:=aF h;rw[eK]at h;by_cases g:i<len
   . simp only[g,dM,aR]at h;obtain⟨d1,L,h⟩:=aF h;obtain⟨id,I,cells,e,e1,e2,e3,e4,e5⟩:=A;subst e1;obtain⟨k,yc,te⟩:=ahk L (by grind[DV.flat]);refine qF q p (afa D M w E v g) h aO λd _ _=>⟨id,I+i*n,cells,e,rfl,e2,?_,yc,?_⟩;.have:i*n+d1.flat.length<=l.length:=k;have e3':I+l.length<=cells.length:=e3;omega
     .have G8:bG K φ l ((cells.drop I).take l.length):=e5;have:=(G8.drop (i*n)).take d1.flat.length;grind[List.drop_take,DL]
   simp_all|_=>simp at h
  |lp s I=>
   simp only at h;obtain⟨n,v,h⟩:=aF h;rw[eK]at h;by_cases g:i<len;.simp only[g,dM,aR]at h;obtain⟨bx,hb,h⟩:=aF h;obtain⟨j,S,_⟩:=q.box s bx hb;have e1:=A j V S;subst e1;exact qF q p (afa D M w E v g) h aO λd _ _=>λi' c' cH=>aT
   simp_all|dv d ow=>simp_all|_=>simp_all
 |_=>cases sv<;>simp at h
 grind
theorem ai0(e:du P K φ ao)(f:HR K φ ω H O.lb O.g)(s:bX K φ ω H tm O.sl){l:List aK}{x y:DV}(h:cu (bj ao O) l=J [x,y]):∃a b,cu (AM.bB P tm) l=J [a,b]/\DR (sB H) φ x a/\DR (sB H) φ y b:=by cases l with|nil=>grind[cu]|cons p l=>have c:((bj ao O p).bind λb=>(cu (bj ao O) l).bind λt=>J (b::t))=J [x,y]:=h;obtain⟨d,hd,c⟩:=aF c;obtain⟨t,k,c⟩:=aF c;obtain⟨rfl,rfl⟩:=List.cons.inj (bt c);cases l with|nil=>grind[cu]|cons q l=>have E:((bj ao O q).bind λb=>(cu (bj ao O) l).bind λt=>J (b::t))=J [y]:=k;obtain⟨d2,m,E⟩:=aF E;obtain⟨t2,u,E⟩:=aF E;obtain⟨rfl,rfl⟩:=List.cons.inj (bt E);cases l with|nil=>obtain⟨a,n,_,i⟩:=nX (P:=P) e f s hd;obtain⟨b,o,_,j⟩:=nX (P:=P) e f s m;refine⟨a,b,?_,i,j⟩;show((AM.bB P tm p).bind λb=>(((AM.bB P tm q).bind λb=>(J []:ah aJ).bind λt=>J (b::t))).bind λt=>J (b::t))=_;simp_all|cons r l=>have g:((bj ao O r).bind λb=>(cu (bj ao O) l).bind λt=>J (b::t))=J []:=u;obtain⟨_,_,g⟩:=aF g;obtain⟨_,_,g⟩:=aF g;simp_all
theorem aAc(g:du P K φ ao)(b:HR K φ ω H O.lb O.g)(s:bX K φ ω H tm O.sl){c:Call}(d:o.op=.call c)(a:c.callee=.builtin .max)(h:dB P ao fk gs cr later O o=J st'):eO P ak rec cf K φ ω H st0 O st' tm o:=by
 unfold dB at h;rw[d]at h;simp only[a]at h;obtain⟨l,e,h⟩:=aF h;split at h;.obtain⟨x,y,m,f,i⟩:=ai0 g b s e;cases f;cases i;refine sJ b s (Ct d a ⟨aO,aO⟩ m ?_) h (.int _ _);rfl
 grind
theorem aAf(g:du P K φ ao)(b:HR K φ ω H O.lb O.g)(s:bX K φ ω H tm O.sl){c:Call}(d:o.op=.call c)(a:c.callee=.builtin .min)(h:dB P ao fk gs cr later O o=J st'):eO P ak rec cf K φ ω H st0 O st' tm o:=by
 unfold dB at h;rw[d]at h;simp only[a]at h;obtain⟨l,e,h⟩:=aF h;split at h;.obtain⟨x,y,m,f,i⟩:=ai0 g b s e;cases f;cases i;refine sJ b s (Ct d a ⟨aO,aO⟩ m ?_) h (.int _ _);rfl
 grind
theorem P8{i:Nat}(a:o.op=.nilCheck x)(h:AM.bB P tm x=J (.ptr i I)):dX P ak tm H o=J (.val (.ptr i I) H):=by simp_all[dX,DG,eZ]
theorem aAS(p:du P K φ ao)(b:HR K φ ω H O.lb O.g)(j:bX K φ ω H tm O.sl)(g:o.op=.nilCheck x)(h:dB P ao fk gs cr later O o=J st'):eO P ak rec cf K φ ω H st0 O st' tm o:=by unfold dB at h;rw[g]at h;obtain⟨sv,q,h⟩:=aF h;obtain⟨a,k,t,f⟩:=JG p b j q;cases sv with
 |lp s I=>obtain⟨m,n,h⟩:=aF h;obtain⟨i,l,_⟩:=b.box s m n;have e:=f i _ l;subst e;exact qF b j (P8 g k) h aO λd _ _=>f|ev d=>obtain⟨id,I,cells,e,e1,e2⟩:=f;subst e1;exact qF b j (P8 g k) h aO λ_ _ _=>⟨id,_,_,e,rfl,e2⟩|se s i I=>obtain⟨id,r,len,c,z,e1,e2⟩:=f;subst e2;refine qF b j (P8 g k) h aO λd _ hr=>⟨id,r,len,c,_,?_,rfl⟩;rw[Tr.jr _ _ (λe=>Dj hr s aT e.symm)];omega|dv d0 ow=>cases d0 with
  |ptr id I=>cases f with|ptr _ _ i l=>exact qF b j (P8 g k) h aO λd _ _=>DR.ptr id _ i l
  |_=>simp at h
 |_=>grind
theorem P6(a:HR K φ ω H lb g):K H.next=Z/\HR (K.add H.next (m,e)) φ ω (H.cP m fl e) lb g:=by
 have o:K H.next=Z:=by
   rcases d:K _ with _|x;.rfl
   obtain⟨r,fl',g1,_⟩:=a.dk _ _ _ d;have:=a.inv.get _ _ g1;omega
 have q:bo K (K.add _ (m,e)):=aX.AR o;have d:bQ (λ_=>False) H (H.cP m fl e):=jY H _ _;have t:bg (H.cP m fl e):=we a.inv _ aT;have E:(H.cP m fl e).get _=J _:=me H _;refine⟨o,t,?_,a.inj,?_,?_,?_,?_,a.nu,M3 a.inv a.gV _ aT⟩
 . intro id cells e' h;unfold aX.add at h;by_cases x:id=H.next;.rw[if_pos x]at h;obtain⟨rfl,rfl⟩:=il (bt h);subst x;refine⟨_,fl,E,?_⟩;show(H.bn _).1<=H.next;rw[A6 a.inv ab];omega
   .rw[if_neg x]at h;obtain⟨r,fl',g1,g2⟩:=a.dk id _ e' h;exact⟨r,_,by rw[d.get id (a.inv.get _ _ g1) (λh=>h)];omega,g2⟩
 . intro p r id x f j;have hr:=a.cw _ _ _ f;unfold aX.add at j;by_cases y:id=H.next;.grind[lA]
   . rw[if_neg y]at j;obtain⟨cells,e'⟩:=x;obtain⟨A,fl',g1,_⟩:=a.dk id _ e' j;have hid:=a.inv.get _ _ g1;have:rootOf (H.cP m fl e) id=rootOf H id:=by unfold rootOf;rw[d.get id hid (λh=>h)]
     rw[this];exact a.clean p r id _ f j
 .intro p r b f;have:=a.cw _ _ _ f;have B:(H.cP m fl e).next=H.next+1:=rfl;omega
 .intro s b v;obtain⟨i,l,n⟩:=a.box s b v;exact⟨i,l,n.keep a.inv d q (aU.refl _) id λI r c x=>⟨x,id⟩⟩
 .intro k z w;obtain⟨i,l,n,u⟩:=a.js k z w;exact⟨i,l,n,u.keep a.inv d q (aU.refl _) id λI r c x=>⟨x,id⟩⟩
theorem Z1{x:DV}(d:HR K φ ω H O.lb O.g)(z:bX K φ ω H tm O.sl)(h:aH O dst (.dv x ow)=J st')(f:DR (K.add H.next (m,e)) φ x a)(w:ow=.no\/ZP a/\∃t,ow=.full t:=by first|exact .inl rfl|skip)(o:a≠.top:=by simp):fK K φ ω H st' (gQ tm dst a) (H.cP m fl e):=by
 obtain⟨v,n⟩:=P6 d;have l:bo K (K.add _ (m,e)):=aX.AR v;have A:bX _ φ ω (H.cP m fl e) tm _:=λt sv u=>by obtain⟨g,c,i,k⟩:=z t sv u;exact⟨g,c,i,k.keep d.inv (jY H _ _) l (aU.refl _) (λ_ _ _ _ h=>⟨h,id⟩) aT aT aT⟩
 exact fK.trans d.inv l (λj x s=>by obtain⟨cells,t⟩:=x;obtain⟨r,fl',c,_⟩:=n.dk j _ t s;refine⟨n.inv.get _ _ c,?_⟩;grind[aX.add,lA,me]) (aU.refl _) (jY H _ _) (λp r b y=>.inl ⟨p,b,y⟩) (xz n A h o λ_ _ _=>by
 rcases w with rfl|⟨q,t,rfl⟩;.exact f
 .exact⟨f,q⟩)
theorem al7{s:aD}{c:Nat}(K:aX)(l:ch):DR (K.add c (s.map λb=>AV.int .u8 (.ofNat b),e)) l (.ay (s.map λb=>.int .u8 (.ofNat b)) e 1) (.sl c 0 (s.map λb=>DV.int .u8 (.ofNat b)).length Z 1):=by
 refine .ay _ e 1 c 0 _ (s.map λb=>AV.int .u8 (.ofNat b)) (by simp[aX.add]) ab aO aT ?_ ?_;.intro i x h;rw[jo]at h;obtain⟨b,_,rfl⟩:=Option.map_eq_some_iff.mp h;exact⟨rfl,λy g=>by simp[DV.flat]at g;subst g;rfl⟩
 . intro i x j d a h hd f;rw[jo]at h;obtain⟨b,k,rfl⟩:=Option.map_eq_some_iff.mp h;rcases j with _|j;.cases hd;rw[show 0+i*1+0=i by omega,jo,k]at f;cases f;exact .int _ _
   grind[DV.flat]
theorem ank(j:du P K φ ao)(c:HR K φ ω H O.lb O.g)(f:bX K φ ω H tm O.sl){r d:an}(i:o.op=.convert r d x)(h:dB P ao fk gs cr later O o=J st'):eO P ak rec cf K φ ω H st0 O st' tm o:=by
 unfold dB at h;rw[i]at h;simp only at h;obtain⟨v,m,h⟩:=aF h;obtain⟨a,p,_,g⟩:=nX (P:=P) j c f m;split at h;.rename_i u k t n l hd;cases g;refine sJ c f ?_ h (.int _ _);simp_all[dX,Gi,eZ]
 . rename_i e s l hd;cases g;split at h;.rename_i q;obtain⟨f1,f2,f3,_⟩:=mW h;refine⟨.sl H.next 0 (s.map λb=>DV.int .u8 (.ofNat b)).length Z 1,H.cP (s.map λb=>AV.int .u8 (.ofNat b)) .ro e,?_,f1,Z1 c f h (al7 K φ),f2,f3,EW _ _ _ _⟩;unfold ff dX;rw[i];simp only[Gi];grind[Ac,dS]
   simp_all
 simp_all
theorem awO(g:du P K φ ao)(c:HR K φ ω H O.lb O.g)(d:bX K φ ω H tm O.sl)(j:o.op=.index t x y)(h:dB P ao fk gs cr later O o=J st'):eO P ak rec cf K φ ω H st0 O st' tm o:=by
 unfold dB at h;rw[j]at h;simp only at h;split at h
 . rename_i q i f;obtain⟨v,p,_,l⟩:=nX g c d f;cases l;split at h;.rename_i s u k;obtain⟨b,n,h⟩:=aF h;obtain⟨a,m,_,e⟩:=nX g c d k;cases e;refine sJ c d ?_ h (.int _ _);simp_all[dX,DD,wT,eZ]
   grind
 grind
theorem az1(a:HR K φ ω H O.lb O.g)(A:bX K φ ω H tm O.sl)(z:o.op=.makeMap t Z)(h:dB P ao fk gs cr later O o=J st'):eO P ak rec cf K φ ω H st0 O st' tm o:=by
 unfold dB at h;rw[z]at h;obtain⟨f1,f2,f3,_⟩:=mW h;have E:(H.alloc (.map [] 0)).get H.next=J (.map [] 0):=me H _;have m:bg (H.alloc (.map [] 0)):=we a.inv _ (λl r fl e' g=>ai);obtain⟨d,ω',f,n,s,u,G,v⟩:=P5 (y:=.map [] 0) a m (by grind[rootOf]) λd ω' B D=>⟨[],E,rfl,λk x y e=>ai⟩;have F:bX K _ _ (H.alloc (.map [] 0)) tm _:=λt sv w=>by obtain⟨i,g1,g2,g3⟩:=A t sv w;refine⟨i,g1,g2,g3.keep a.inv (jY H _ _) (bo.refl _) f (λp r b c x=>⟨u p r b ?_ x,id⟩) aT aT aT⟩;rcases c with rfl|⟨j,rfl⟩<;>trivial
 refine⟨.map H.next,H.alloc (.map [] 0),?_,f1,?_,f2,f3,EW _ _ _ _⟩;.simp_all[ff,dX,Gm]
 .exact fK.trans a.inv (bo.refl _) (a.fV (jY H _ (λ_=>False))) f (jY H _ _) (λp r b c=>by
 rcases v p r b c with⟨q,h⟩|rfl;.exact .inl ⟨q,b,h⟩
 omega) (AS (O:={O with g:=O.g.alloc _}) s F h (DR.map _ _ n))
end
section
variable{P:aG}{K:aX}{φ:ch}
theorem acY(p:DR K φ k a):∀(c:List kX)(s:List eF)(i:Nat)(r:ah (Nat×kX)),c.length=s.length->(∀(j:Nat)(x:kX)(y:eF),c[j]?=J x->s[j]?=J y->vW K φ x y)->findD P t k c i=J r->(r=Z/\oF P t a s i=J Z)\/∃j x y,r=J (j,x)/\oF P t a s i=J (J (j,y))/\vW K φ x y/\i<=j/\c[j-i]?=J x/\s[j-i]?=J y:=by intro c;induction c with
 |nil=>intro s i r q _ h;cases s with|nil=>exact .inl ⟨(bt h).symm,rfl⟩|cons f s=>grind
 |cons e c u=>intro s i r q hr h;cases s with|nil=>grind|cons f s=>have d:((gv P 50 t k e.1).bind λb=>bif b then J (J (i,e))else findD P t k c (i+1))=J r:=h;obtain⟨b,m,d⟩:=aF d;have n:=hr 0 e f rfl rfl;have l:=SR (P:=P) 50 t _ _ b _ _ m p n.1;have o:oF P t a (f::s) i=(mI P 50 t a f.1).bind λb=>bif b then J (J (i,f))else oF P t a s (fg i):=rfl;rw[o,l];cases b with|true=>grind|false=>
 rcases u s (i+1) r ai (λj x y a b=>hr (j+1) x y a b) d with⟨rfl,g⟩|⟨j,x,y,rfl,g1,g2,g3,g4,g5⟩;.grind
 .refine .inr ⟨j,x,y,rfl,g1,g2,ab,?_,?_⟩;all_goals grind
end
section
variable{P:aG}{ak:cg}{rec:Rec}{cf:bR}{K K':aX}{φ ψ:ch}{ω ω':aI}{H H':Heap}{S:Nat->Prop}
variable{ao:Nat->ah aq}{gs cr:aD}{fk:bV->Nat}{later:List aB}{st0 O st':St}{tm:Tr AV}{o:aB}
theorem afq(n:Nat)(h:C0 P t k=V)(b:DR K φ k a):It P (n+1) t a=V:=by
 unfold C0 at h;split at h;iterate 3·cases b;show Br P _ t _=V;simp_all[Br]
 grind
theorem afr(h:sC P t k=V)(c:DR K φ k a):pW P t a=V:=by
 unfold sC at h;split at h
 . rename_i i s u;obtain⟨m,rfl,r,sm⟩:=c.xA;show Br P (It P 4) t _=V;unfold Br;rw[u];simp only[qf,AH,yU]at h|-;intro f e;have:=h f e;split at this;.rename_i v g;obtain⟨b,d,hr⟩:=Vx g r sm;rw[d];exact .inr (afq 3 this hr)
   grind
 .exact afq 4 h c
theorem tp2{t:Nat}{d e:DV}{b:AV}(f:DR K φ d a)(g:DR K φ e b):ma K φ ω H tm t (.tp [(d,.no),(e,.no)]) (.cM [a,b]):=by refine⟨_,rfl,rfl,λj x y h c=>?_⟩;match j with|0=>cases h;cases c;exact f|1=>cases h;cases c;exact g|j+2=>simp at h
theorem azM(A:du P K φ ao)(d:HR K φ ω H O.lb O.g)(s:bX K φ ω H tm O.sl){k:aK}{l:Bool}(B:o.op=.lookup t x k l)(h:dB P ao fk gs cr later O o=J st'):eO P ak rec cf K φ ω H st0 O st' tm o:=by
 have v:=d.sub;unfold dB at h;rw[B]at h;simp only at h;split at h;.rename_i D L r S U;obtain⟨a,E,_,F⟩:=nX (P:=P) A d s U;cases F with|map _ i M=>
  split at h
  . rename_i I c N;obtain⟨X,Q,h⟩:=aF h;obtain⟨b,G,_,u⟩:=nX (P:=P) A d s Q;obtain⟨W,q1,_,q2⟩:=d.js _ _ N;obtain rfl:i=W:=bt (M.symm.trans q1);obtain⟨n,Y,p2,p⟩:=q2;have R:H.jL i=J (n,c):=by unfold Heap.jL;rw[Y]
    by_cases q:sC P D X=V
    . simp only[q,aR]at h;obtain⟨rr,pn,h⟩:=aF h;have T:=afr q u;have m:dX P ak tm H o=(oF P D b n 0).bind λ|some (_,e)=>eZ H (J (bif l then .cM [e.2.1,.bool V]else e.2.1))|none=>(yT P L).bind λz=>eZ H (J (bif l then .cM [z,.bool C]else z)):=by unfold dX;rw[B];simp only[B1];simp only[S,E,R,G,T,gF,cQ,aR]<;>rfl
      rcases acY u I n 0 rr p2 (λj x y e1 e2=>⟨(p j x y e1 e2).1.mono v (aU.refl _),(p j x y e1 e2).2.1.mono v (aU.refl _),(p j x y e1 e2).2.2⟩) pn with⟨rfl,g⟩|⟨j,x,y,rfl,g1,_,_,g4,g5⟩;.simp only at h;obtain⟨z,f,h⟩:=aF h;unfold cI at f;obtain⟨az,w,f⟩:=aF f;cases l with|false=>exact sJ d s (by rw[m,g];simp only[cQ,w,eZ,gF,bS]) h (Cd f)|true=>exact qF d s (by rw[m,g];simp only[cQ,w,eZ,gF,aR]) h aO λ_ _ _=>tp2 (Cd f) (.bool _)
      .cases l with|false=>exact sJ d s (by rw[m,g1];simp only[cQ,eZ,gF,bS]) h (p _ x y g4 g5).2.1|true=>exact qF d s (by rw[m,g1];simp only[cQ,eZ,gF,aR]) h aO λ_ _ _=>tp2 (p _ x y g4 g5).2.1 (.bool _)
    .simp[q]at h
  .simp at h
 .simp at h
end
section
variable{P:aG}{K K':aX}{φ ψ:ch}{ω ω':aI}{H H':Heap}{S:Nat->Prop}{tm:Tr AV}{O:St}
theorem QA(b:bg H){i:Nat}(g:H.get i=J (.cells m r fl e))(p:(H.bn r).2=i):bg (H.dJ i r (.cells m' r fl' e')):=by
 have hid:=b.get i _ g;have D:=b.root _ _ _ _ _ g;have t:((H.dJ i r (.cells m' r fl' e')).bn r).2=i:=by grind[Ed,On]
 refine⟨λj o h=>?_,λj l a n e1 h=>?_,λj l a n e1 h=>?_,λa f h=>?_,by rw[BW,wS];exact b.bu⟩
 . rw[wS];by_cases c:j=i;.omega
   .rw[nr H r _ c]at h;exact b.get j o h
 . by_cases c:j=i;.grind[nM]
   .rw[nr H r _ c]at h;obtain⟨q,s⟩:=b.root j l a _ e1 h;grind[Hp]
 . have back:∀a,(∃k fl' e',H.get a=J (.cells k a fl' e'))->∃l2 x e2,(H.dJ i r (.cells m' r fl' e')).get a=J (.cells l2 a x e2):=by grind[nM,nr]
   by_cases c:j=i;.subst c;rw[nM]at h;obtain⟨_,rfl,_,_⟩:=b9.cells.inj (bt h);exact back r (b.nZ _ _ _ _ _ g)
   .rw[nr H r _ c]at h;exact back a (b.nZ j l a _ e1 h)
 . rw[wS];unfold Heap.dJ at h;rw[bE]at h;by_cases d:r=i;.simp only[d,dM,aR]at h;exact b.dp a f h
   . simp only[d,kM,bS]at h;by_cases e1:a=r;.grind[Tr.lh]
     .rw[Tr.jr _ _ (Ne.symm e1)]at h;exact b.dp a f h
theorem F8(u:oX H){i:Nat}(g:H.get i=J (.cells m r fl e)):oX (H.dJ i r (.cells m' r fl' e)):=λj l a d e1 h=>by
 have back:∀{a e1},(∃c fl',H.get a=J (.cells c a fl' e1))->∃l2 x,(H.dJ i r (.cells m' r fl' e)).get a=J (.cells l2 a x e1):=by grind[nM,nr]
 by_cases b:j=i;.subst b;rw[nM]at h;obtain⟨_,rfl,_,rfl⟩:=b9.cells.inj (bt h);exact back (u _ _ _ _ _ g)
 .rw[nr H r _ b]at h;exact back (u j l a _ e1 h)
theorem VA{i:Nat}(h:H.get i=J (.cells m r fl e))(j:Nat):rootOf (H.dJ i r (.cells m' r fl' e')) j=rootOf H j:=by grind[nM,rootOf,nr]
theorem yw{i:Nat}(g:H.get i=J (.cells m r fl e)):bQ (λx=>x=r) H (H.dJ i r (.cells m' r fl' e'))where
 next:=by rw[wS];exact bJ _
 get:=λj _ h=>nr H r _ (λx=>h (by rw[x,lA g]))
 dp:=λa _ h=>Hp H i r _ h
 root:=λj _=>VA g j
theorem bQ.xg(i:bg H){T:Nat->Prop}(k:bQ S H H')(h:∀r,r<H.next->S r->T r):bQ T H H' where
 next:=k.next
 get:=λid hid n=>k.get id hid λx=>n (h _ (qG i hid) x)
 dp:=λr hr n=>k.dp r hr λx=>n (h r hr x)
 root:=k.root
theorem QD(a:HR K φ ω H lb g){i:Nat}(o:ω p=J (r,V))(n:H.get i=J (.cells m r fl e))(l:(H.bn r).2=i){src:Pk->ah Pk}(s:∀p q y,src p=J y->src q=J y->p=q):bg (H.dJ i r (.cells m' r fl' e'))/\(∀j cells e1,K j=J (cells,e1)->∃root f,(H.dJ i r (.cells m' r fl' e')).get j=J (.cells cells root f e1)/\((H.dJ i r (.cells m' r fl' e')).bn root).1<=j)/\(∀p q r1 b c,ω.of src p=J (r1,b)->ω.of src q=J (r1,c)->p=q)/\(∀p r1 j x,ω.of src p=J (r1,V)->K j=J x->rootOf (H.dJ i r (.cells m' r fl' e')) j≠r1)/\∀p r1 b,ω.of src p=J (r1,b)->r1<(H.dJ i r (.cells m' r fl' e')).next:=by obtain⟨k,c3,t⟩:=Vm a s;refine⟨QA a.inv n l,λj cells e1 d=>?_,k,λp r1 j x u v=>by grind[VA],λp r1 b h=>by grind[wS]⟩;obtain⟨root,f,g1,g2⟩:=a.dk j _ e1 d;have B:=a.clean p r j _ o d;grind[lA,nr,Hp]
theorem xa{l:cT}(u:bg H)(z:bX K φ ω H tm l)(k:bQ S H H')(q:bo K K')(c:aU φ ψ)(y:∀p r b,p.slot->ω p=J (r,b)->ω' p=J (r,b)/\¬S r)(A:∀s i b,ω' (.lb s)=J (i,b)->ω (.lb s)=J (i,b)):bX K' ψ ω' H' tm (cK l):=by
 intro t sv h;unfold cK at h;rw[qB l _]at h;rcases f:look l t with _|n;.grind
 rw[f]at h;cases h;obtain⟨d,g,m,o⟩:=z t _ f;have gen:(∀id I,n≠.gr id _)->∃a,tm.get t=J a/\(n≠.dd->a≠.top)/\ma K' ψ _ H' tm t _ a:=λv=>⟨d,g,m,o.keep u k q c (λp r b w=>y p r b (by rcases w with rfl|⟨j,rfl⟩<;>trivial)) aT aT (λid I i e _=>absurd e (v id I))⟩;cases n with|gr id I=>exact⟨d,g,λx=>absurd rfl x,trivial⟩|_=>exact gen aT
theorem YZ{l:cT}{c:Nat}(v:bg H)(A:bX K φ ω H tm l)(k:bQ S H H')(u:bo K K')(d:aU φ ψ)(z:∀p r b,p.slot->(∀j,p≠.tp c j)->p≠.sl c->ω p=J (r,b)->ω' p=J (r,b)/\¬S r)(B:∀s i b,ω' (.lb s)=J (i,b)->ω (.lb s)=J (i,b))(E:tm.get c=J a)(D:sv≠.dd->a≠.top)(G:ma K' ψ ω' H' tm c sv a):bX K' ψ ω' H' tm (put (cK l) c sv):=by
 intro t F h;rw[lN]at h;by_cases e:t=c;.grind
 . rw[if_neg e]at h;unfold cK at h;rw[qB l _]at h;rcases g:look l t with _|n;.grind
   rw[g]at h;cases h;obtain⟨f,m,o,q⟩:=A t _ g;have gen:(∀id I,n≠.gr id _)->∃a,tm.get t=J a/\(n≠.dd->a≠.top)/\ma K' ψ _ H' tm t _ a:=λw=>⟨f,m,o,q.keep v k u d (λp r b y=>z p r b (by rcases y with rfl|⟨j,rfl⟩<;>trivial) ai ai) aT aT (λid I i e _=>absurd e (w id I))⟩;cases n with|gr id I=>exact⟨f,m,λx=>absurd rfl x,trivial⟩|_=>exact gen aT
theorem AV.amF(h:a.aV=V)(t:a≠.top):a.cells=J [a]:=by cases a<;>first|rfl|exact absurd rfl t|grind[AV.aV]
theorem MP(l:aq)(o:Nat)(v:aq):km l o v=fL l o v:=by rw[Dt];rfl
end
end Go.VM
