/- Proved: the operations of the value machine answer as the abstract machine does (a part of the proof of FeasiblePlansUptoCardSaid, whose theorem stands in the last text), under the relation that is defined here. -/
import Derived.Test.YtilblajffdkccaaGreatDoorAb
open Option renaming some->J,none->Z
open Bool renaming true->V,false->C
open Bool renaming noConfusion->mK
open Go renaming TypeId->al,Value->aB,Oper->aC,Operand->aH,Program->aM,World->aT,Code->bz,FuncId->bS,Frame->cZ,lone->eT,IntKind->gZ,MapEntry->kZ
open Go.Builtin renaming zeroCells->nR,firstCells->oE,append_->s8,copy_->zF
open Go.Lib renaming compact->tb
open Go.Op renaming operands->eB,mapUpdate->rC
open Go.Proofs.Tryz renaming prog->eS
open Go.Region renaming binds->uq
open Go.stepG renaming exec->ug
open Int renaming ofNat->dI,sub->nS
open List renaming rec->kG,append->qA
open Nat renaming beq->aw,ble->bV,blt->cM,succ->eU,add->im,mul->jD
open SizeOf renaming sizeOf->kb
open UInt8 renaming toNat->nU
noncomputable section set_option linter.all false
namespace Go.VM
open Go Go.AM
section
variable{P:aM}{ak:bZ}{rec:Rec}{cf:cj}{K K':aY}{O ψ:bY}{ω ω':aG}{H H':Heap}
variable{aq:Nat->ah aA}{gs cr:an}{fk:bS->Nat}{later:List aC}{cB M st':St}{tm:Tr AV}{o:aC}
theorem DG(f:SV->SV)(s:St)(x:aH):(aQ f s x).n=s.n/\(aQ f s x).fn=s.fn/\(aQ f s x).lb=s.lb/\(aQ f s x).g=s.g:=by unfold aQ;grind
theorem Mj{x:DV}{a:AV}{n:Nat}(h:pK x=J n)(b:DR K O x a):nN a=J n:=by
 unfold pK at h;split at h;.cases b;exact h
 .cases b;exact h
 grind
theorem alP(k:dD P K O aq){d:ah Tmp}{x:DV}{o:aX}{y:aH}(c:HR K O ω H M.lb M.g)(m:ch K O ω H tm M.sl)(z:cP aq M y=J (.dv x o))(h:aJ (aQ share M y) d (.dv x .no)=J st'):∃a,AM.bu P tm y=J a/\gY K O ω H st' (iz tm d a) H:=by
 obtain⟨v,u,s,e,f,q,t,A,B,_⟩:=Z3 c m y;have n:bp aq (aQ share M y) y=J x:=by unfold bp;cases y<;>grind[aQ,share,CV,mC,cP]
 obtain⟨a,g,w,i⟩:=sU (k.mono s.1 (aU.refl _)) f t n;exact⟨a,g,gY.trans c.inv s.1 (s.gN e) (aU.refl _) (bM.refl _ _) (λp r b l=>let⟨j,h⟩:=q p r b l;.inl ⟨p,j,h⟩) (BF e f h i)⟩
theorem aH0{l a:cT}(h:∀u,look l u=look a u)(s:ch K O ω H tm l):ch K O ω H tm a:=λt v b=>s t v aj
theorem aBs(m:dD P K O aq)(c:HR K O ω H M.lb M.g)(s:ch K O ω H tm M.sl){x:aH}(ho:o.op=.move x)(h:dM P aq fk gs cr later M o=J st'):eW P ak rec cf K O ω H cB M st' tm o:=by unfold dM at h;rw[ho]at h;simp only at h;obtain⟨F,k,h⟩:=aE h;have fin:∀{a:AV},AM.bu P tm x=J a->(∀d,o.dst=J d->d<M.n)->gY K O ω H st' (iz tm o.dst a) H->st'.n=M.n->st'.fn=M.fn->eW P ak rec cf K O ω H cB M st' tm o:=λj Q h3 D h5=>⟨_,H,by simp_all[fP,ahM],Q,h3,D,h5,wK.refl _ _ _⟩;cases hd:o.dst with|none=>rw[hd]at h;cases h;obtain⟨a,j,Q,_⟩:=qV m s k;refine fin j (λd e=>aP) ?_ rfl rfl;rw[hd];exact⟨K,O,ω,bl.refl _,c.gN (bM.refl (λ_=>False) _),aU.refl _,c,s,bM.refl _ _,λp r b v=>.inl ⟨p,b,v⟩⟩|some d=>
 rw[hd]at h;simp only at h;have take:∀{A:St},aJ (aQ leave M x) (J d) F=J A->A=st'->eW P ak rec cf K O ω H cB M st' tm o:=by grind[abH,qq,DG]
 have copy:free F->aJ M (J d) F=J st'->eW P ak rec cf K O ω H cB M st' tm o:=by grind[abF,qq]
 split at h;.simp_all
 . rename_i dd w;have Y:∀n,pK dd=J n->aJ M (J d) (.hd n)=J st'->eW P ak rec cf K O ω H cB M st' tm o:=by
    intro n R h;obtain⟨f1,f2,f3,_⟩:=qq h;have hv:bp aq M x=J dd:=by unfold bp;rw[k];rfl
    obtain⟨a,B,f,g⟩:=qm (P:=P) m c s hv;exact fin B (λi G=>f1 i (hd.symm.trans G)) (by rw[hd];exact Ab c s h f λ_ _ _=>Mj R g) f2 f3
   have aOa:∀t,x=.tmp t->aJ M (J d) (.sr t)=J st'->eW P ak rec cf K O ω H cB M st' tm o:=by
    intro t U h;obtain⟨a,B,f,g⟩:=qV (P:=P) m s k;obtain⟨f1,f2,f3,_⟩:=qq h;rcases g with⟨t',e1,_,N,_⟩|⟨Vy,_⟩
    . rw[U]at e1;obtain rfl:=Operand.tmp.inj e1;have afD:gY K O ω H st' (iz tm (J d) a) H:=by refine Ab c s h f λi ik hr=>?_;show(tm.ins i a).get t=J a;grind[Tr.jF,DT]
      simp_all
    simp_all
   have aOf:aJ (aQ share M x) (J d) (.dv dd .no)=J st'->eW P ak rec cf K O ω H cB M st' tm o:=by grind[alP,qq,DG]
   have W:∀e,w=.ex e->(aJ M (J d) (.dv dd w)).map (λM=>aQ (λ_=>.sr d) M x)=J st'->eW P ak rec cf K O ω H cB M st' tm o:=by intro e he h;cases j:aJ M (J d) (.dv dd w)with|none=>simp_all|some z=>
      rw[j]at h;cases h;obtain⟨f1,f2,f3,_⟩:=qq j;obtain⟨g1,g2,g3,g4⟩:=DG (λ_=>SV.sr d) z x;obtain⟨a,B,f,g⟩:=qV (P:=P) m s k;refine fin B (λi G=>f1 i (hd.symm.trans G)) ?_ aj aj;rw[hd];show gY K O ω H (aQ (λ_=>SV.sr d) z x) (iz tm (J d) a) H;rcases g with⟨t,rfl,E,N,D⟩|⟨_,⟨x',e1,_⟩|⟨_,_,_,_,e1,_⟩|⟨_,_,_,_,e1,_⟩⟩
      . rcases zg j with⟨e1,_⟩|⟨i,e1,_,hr,rfl⟩;.grind
        . cases e1;by_cases L:t=d
          . subst L;have e2:aQ (λ_=>SV.sr t) {M with sl:=put (iG M.sl t) t (.dv dd w)} (.tmp t)={M with sl:=put (put (iG M.sl t) t (.dv dd w)) t (.sr t)}:=by simp[aQ,mC]
            rw[e2];have km:ch K O ω H (tm.ins t a) (put (iG M.sl t) t (.dv dd w)):=xJ (S:=λ_=>False) c.inv s (bM.refl _ _) (bl.refl _) (aU.refl _) (λ_ _ _ _ _ _ h=>⟨h,id⟩) (λ_ _ _ h=>h) (λ_ _ _=>id) (λ_=>f) D;exact⟨K,O,ω,bl.refl _,c.gN (bM.refl (λ_=>False) _),aU.refl _,c,Jv c.inv km (bl.refl _) (λ_ _ _ _ _ _ h=>h) (λ_=>rfl) (Tr.lL _ _ _) (λ_=>f) (Tr.lL _ _ _),bM.refl _ _,λp r b v=>.inl ⟨p,b,v⟩⟩
          . obtain⟨ω',m1,m2,m3⟩:=ahK c s E N aO f D (DT hr);have bX:look (put (iG M.sl d) d (SV.dv dd w)) t=J (.dv dd w):=by rw[mC,if_neg L];unfold iG;rw[qT M.sl (pJ d),E];rfl
            have e2:aQ (λ_=>SV.sr d) {M with sl:=put (iG M.sl d) d (.dv dd w)} (.tmp t)={M with sl:=put (put (iG M.sl d) d (.dv dd w)) t (.sr d)}:=by grind[aQ]
            rw[e2];have X:(tm.ins d a).get t=J a:=by grind[Tr.jF]
            have s2:=Jv (sv:=.sr d) c.inv m2 (bl.refl _) (λ_ _ _ _ _ _ h=>h) (λ_=>rfl) X (λ_=>f) (Tr.lL _ _ _);refine⟨K,O,ω',bl.refl _,c.gN (bM.refl (λ_=>False) _),aU.refl _,m1,aH0 (λu=>?_) s2,bM.refl _ _,λp r b v=>let⟨q,h⟩:=m3 p r b v;.inl ⟨q,b,h⟩⟩;rw[mC,mC,mC,mC];by_cases I:u=t;.grind
            . rw[if_neg I,if_neg I];by_cases y:u=d;.grind
              .rw[if_neg y,if_neg y];unfold iG;rw[qT (put M.sl t _) (pJ d),qT M.sl (pJ d),mC,if_neg I]
      all_goals grind[tW]
   split at h;.grind
   .simp_all
   .obtain⟨n,R,h⟩:=aE h;simp_all
   .simp_all
   .exact copy trivial h
   simp_all
 .rename_i n1 n2;refine copy ?_ h;cases F with
   |tp l=>exact absurd rfl (n1 _)|dv a b=>exact absurd rfl (n2 _ _)|dd=>
    exfalso;obtain⟨a,_,_,g⟩:=qV (P:=P) m s k;rcases g with⟨t,rfl,E,_⟩|⟨_,⟨_,e,_⟩|⟨_,_,_,_,e,_⟩|⟨_,_,_,_,e,_⟩⟩;.have T:(match look M.sl t with|some .dd=>Z|r=>r)=J SV.dd:=k;rw[E]at T;simp at T
    .simp at e
    .simp at e
    .simp at e|_=>trivial
end
section
variable{P:aM}{ak:bZ}{rec:Rec}{cf:cj}{K K':aY}{O ψ:bY}{ω ω':aG}{H H':Heap}{S:Nat->Prop}
variable{aq:Nat->ah aA}{gs cr:an}{fk:bS->Nat}{later:List aC}{cB M st':St}{tm:Tr AV}{o:aC}
theorem lx(H:Heap)(o:bQ)(S:Nat->Prop):bM S H (H.alloc o)where
 next:=J' _
 get:=λid h _=>nE H o ae
 dh:=λr _ _=>rfl
 root:=λid h=>by unfold rootOf;rw[nE H o ae]
theorem NN(i:ba H)(u:po H)(o:bQ)(d:∀l r f e,o=.cells l r f e->r=H.next):po (H.alloc o):=λid l r f e h=>by
 by_cases n:id=H.next;.grind[mS]
 .rw[nE H o n]at h;obtain⟨c,a,b⟩:=u id l r f e h;exact⟨c,_,by rw[nE H o (by have:=i.get _ _ b;omega)];omega⟩
theorem aH1{l:cT}{d:Nat}(u:ba H)(z:ch K O ω H tm l)(k:bM S H H')(q:bl K K')(a:aU O ψ)(y:∀p r b,p.slot->ω p=J (r,b)->ω' p=J (r,b)/\¬S r)(E:∀s,s≠d->ω' (.lb s)=ω (.lb s))(D:∀id i,O id=J i->¬S (rootOf H i)):ch K' ψ ω' H' tm (E3 l d):=by
 intro t v h;unfold E3 at h;rw[qT l _]at h;rcases g:look l t with _|o;.grind
 obtain⟨c,e,m,n⟩:=z t _ g;by_cases hd:v=.dd;.subst hd;exact⟨c,e,λx=>absurd rfl x,trivial⟩
 . have A:o=v/\∀s f,o=.lp s f->s≠d:=by cases o<;>grind[vW,bN]
   obtain⟨rfl,B⟩:=A;exact⟨c,e,m,n.keep u k q a (λp r b w=>y p r b (by rcases w with rfl|⟨j,rfl⟩<;>trivial)) aP aP aj⟩
theorem aBB{d:Nat}{l:aA}{m:aD}{e:al}(f:HR K O ω H M.lb M.g)(N:ch K O ω H tm M.sl)(G:bH K O l m)(W:∀x,x∈l->x.bj=V):gY K O ω H {M with sl:=put (iG (E3 M.sl d) d) d (.lp d 0),lb:=put M.lb d ⟨l,[]⟩} (tm.ins d (.ptr H.next 0)) (H.cO m .ex e):=by
 have v:bM (λ_=>False) H (H.cO m .ex e):=lx H _ _;have E:ba (H.cO m .ex e):=xY f.inv _ aP;let ω':aG:=λp=>match p with|.lb s=>if s=d then J (H.next,V)else ω (.lb s)|.lc s j=>if s=d then Z else ω (.lc s j)|p=>ω p;have D:ω' (.lb d)=J (H.next,V):=aj;have back:∀p r b,ω' p=J (r,b)->(p=.lb d/\r=H.next/\b=V)\/(p≠.lb d/\ω p=J (r,b)):=by grind
 have P:∀id x,K id=J x->rootOf (H.cO m .ex e) id=rootOf H id/\rootOf H id<H.next:=by intro id x g;obtain⟨A,B⟩:=x;obtain⟨r,F,g1,_⟩:=f.di id A B g;have hid:=f.inv.get _ _ g1;refine⟨?_,qZ f.inv hid⟩;unfold rootOf;rw[v.get id hid (λh=>h)]
 have R:HR K O ω' (H.cO m .ex e) (put M.lb d ⟨l,[]⟩) M.g:=by
   refine⟨E,?_,?_,?_,?_,?_,?_,f.oQ,NN f.inv f.iJ _ aP⟩;.intro id A B g;obtain⟨r,F,g1,g2⟩:=f.di id A B g;exact⟨r,F,by rw[v.get id (f.inv.get _ _ g1) (λh=>h)];omega,g2⟩
   . intro p q r b c x y;rcases back p r b x with⟨rfl,rfl,_⟩|⟨w,n⟩
     . rcases back q _ c y with⟨rfl,_,_⟩|⟨_,t⟩;.rfl
       .have:=f.cq _ _ _ t;omega
     . rcases back q r c y with⟨rfl,rfl,_⟩|⟨_,t⟩;.have:=f.cq _ _ _ n;omega
       .exact f.inj _ _ _ _ _ n t
   . intro p r id x u g;obtain⟨w,n⟩:=P id x g;rw[w];rcases back p r _ u with⟨_,rfl,_⟩|⟨_,t⟩;.omega
     .exact f.clean p r id x t g
   . intro p r b u;have U:(H.cO m .ex e).next=H.next+1:=rfl;rcases back p r b u with⟨_,rfl,_⟩|⟨_,t⟩;.omega
     .have:=f.cq _ _ _ t;omega
   . intro s b z;rw[mC]at z;by_cases e1:s=d
     . rw[if_pos e1]at z;cases z;subst e1;refine⟨_,D,m,_,e,mS H _,rfl,?_,?_,G.1,λj x a g L=>⟨aj,?_⟩⟩;.show(H.bh _).1<=H.next;rw[BS f.inv ae];omega
       .show(H.bh _).2=H.next;rw[BS f.inv ae]
       .have hr:=G.2 _ x a g L;have Q:=g;unfold fg;rw[Q];cases x<;>first|exact hr|(cases hr;exact⟨rfl,rfl⟩)
     .rw[if_neg e1]at z;obtain⟨i,w,n⟩:=f.box s b z;refine⟨i,aj,n.keep f.inv v (bl.refl _) (aU.refl _) id λj r c x=>⟨aj,id⟩⟩
   .intro k o T;obtain⟨i,w,n,I⟩:=f.kj k o T;exact⟨i,w,n,I.keep f.inv v (bl.refl _) (aU.refl _) id λj r c x=>⟨x,id⟩⟩
 refine⟨K,O,_,bl.refl _,f.gN v,aU.refl _,R,?_,lx H _ _,λp r b u=>?_⟩;.have S:ch K O ω' _ tm (E3 _ d):=aH1 f.inv N v (bl.refl _) (aU.refl _) (λp r b u h=>⟨by cases p<;>first|exact h|exact u.elim,id⟩) aj aP;exact xJ E S (bM.refl _ _) (bl.refl _) (aU.refl _) (λ_ _ _ _ _ _ h=>⟨h,id⟩) aP aP aP (by intro i b hi;grind)
 . rcases back p r b u with⟨_,rfl,_⟩|⟨_,h⟩;.omega
   .exact .inl ⟨p,b,h⟩
theorem Ww{g:GH}{F:dX}{x:bQ}{y:GO}(d:HR K O ω H F g)(G:ba (H.alloc x))(Q:rootOf (H.alloc x) H.next=H.next)(v:∀(a:bY)(ω':aG),aU O a->(∀o,ω' (.gc g.next o)=Z)->Br K a ω' (H.alloc x) g.next y H.next):∃a ω',aU O a/\a g.next=J H.next/\HR K a ω' (H.alloc x) F (g.alloc y)/\(∀p r b,p.slot->ω p=J (r,b)->ω' p=J (r,b))/\(∀s,ω' (.lb s)=ω (.lb s))/\∀p r b,ω' p=J (r,b)->(∃q,ω q=J (r,b))\/r=H.next:=by
 have m:bM (λ_=>False) H (H.alloc x):=lx H _ _;let a:=λk=>if k=g.next then J H.next else O k;let ω':aG:=λp=>match p with|.g k=>if k=g.next then J (H.next,V)else ω (.g k)|.gc k o=>if k=g.next then Z else ω (.gc k o)|p=>ω p;have f:aU O a:=λk i h=>by
   by_cases e:k=g.next;.rw[d.oQ k ae]at h;grind
   grind
 have A:a g.next=J H.next:=aj;have back:∀p r b,ω' p=J (r,b)->(p=.g g.next/\r=H.next/\b=V)\/(p≠.g g.next/\ω p=J (r,b)):=by grind
 have N:∀k y,K k=J y->rootOf (H.alloc x) k=rootOf H k/\rootOf H k<H.next:=by intro k y v;obtain⟨B,D⟩:=y;obtain⟨r,E,g1,_⟩:=d.di k B D v;have hid:=d.inv.get _ _ g1;refine⟨?_,qZ d.inv hid⟩;unfold rootOf;rw[m.get k hid (λh=>h)]
 refine⟨_,ω',f,A,⟨G,?_,?_,?_,?_,?_,?_,?_,NN d.inv d.iJ _ (λl r E e g=>by grind[mF,mS])⟩,?_,λs=>rfl,?_⟩;.intro k B D M;obtain⟨r,E,g1,g2⟩:=d.di k B D M;exact⟨r,E,by rw[m.get k (d.inv.get _ _ g1) (λh=>h)];omega,g2⟩
 . intro p q r b c x y;rcases back p r b x with⟨rfl,rfl,_⟩|⟨n,t⟩
   . rcases back q _ c y with⟨rfl,_,_⟩|⟨_,j⟩;.rfl
     .have:=d.cq _ _ _ j;omega
   . rcases back q r c y with⟨rfl,rfl,_⟩|⟨_,j⟩;.have:=d.cq _ _ _ t;omega
     .exact d.inj _ _ _ _ _ t j
 . intro p r k y u v;obtain⟨n,t⟩:=N k y v;rw[n];rcases back p r _ u with⟨_,rfl,_⟩|⟨_,j⟩;.omega
   .exact d.clean p r k y j v
 . intro p r b u;have P:(H.alloc x).next=H.next+1:=rfl;rcases back p r b u with⟨_,rfl,_⟩|⟨_,j⟩;.omega
   .have:=d.cq _ _ _ j;omega
 .intro s b L;obtain⟨i,n,t⟩:=d.box s b L;exact⟨i,n,t.keep d.inv m (bl.refl _) f id λo r c x=>⟨x,id⟩⟩
 . intro k z w;have w:look (put _ _ y) k=J z:=w;rw[mC]at w;by_cases e:k=g.next;.subst e;grind
   .rw[if_neg e]at w;obtain⟨i,n,t,I⟩:=d.kj k z w;refine⟨i,f _ _ n,aj,I.keep d.inv m (bl.refl _) f id λo r c x=>⟨aj,id⟩⟩
 .intro k m;have m:g.next+1<=k:=m;show(if k=g.next then _ else _)=_;rw[if_neg ae];exact d.oQ k ae
 .intro p r b u h;cases p<;>first|exact h|exact u.elim
 grind
theorem am4{c:aA}{m:aD}{e:al}{p:Nat->Pk}(i:ba H)(h:bH K O c m)(j:∀x,x∈c->x.bj=V)(f:∀o,ω (p o)=Z):pW K O ω (H.cO m .ex e) p ⟨c,[]⟩ H.next:=by
 refine⟨m,_,e,mS H _,rfl,?_,?_,h.1,λo x a b d=>⟨aj,?_⟩⟩;.show(H.bh _).1<=H.next;grind[BS]
 .show(H.bh _).2=H.next;grind[BS]
 .have hr:=h.2 _ x a b d;have l:=b;unfold fg;rw[l];cases x<;>first|exact hr|(cases hr;exact⟨rfl,rfl⟩)
theorem aBA{d:Nat}{c:aA}{m:aD}{e:al}(a:HR K O ω H M.lb M.g)(B:ch K O ω H tm M.sl)(A:bH K O c m)(D:∀x,x∈c->x.bj=V):gY K O ω H {M with sl:=put (iG M.sl d) d (.dv (.ptr M.g.next 0) .no),g:=M.g.alloc (.box ⟨c,[]⟩)} (tm.ins d (.ptr H.next 0)) (H.cO m .ex e):=by
 have s:ba (H.cO m .ex e):=xY a.inv _ (λl r F E g=>aj);obtain⟨n,ω',o,u,v,w,G,z⟩:=Ww (y:=.box _) a s (mF (mS H _)) λn ω' i k=>am4 a.inv (A.mono (bl.refl _) i) D k;refine⟨K,_,_,bl.refl _,a.gN (lx H _ (λ_=>False)),o,v,?_,lx H _ _,λp r b f=>?_⟩;.refine xJ a.inv B (lx H _ _) (bl.refl _) o (λp r b _ _ f h=>⟨w p r b ?_ h,id⟩) aP aP aP (DR.ptr _ _ _ u);rcases f with⟨t,rfl⟩|⟨t,j,rfl⟩<;>trivial
 . rcases z p r b f with⟨q,h⟩|rfl;.exact .inl ⟨q,b,h⟩
   omega
theorem ahP{u:Bool}{s:ah Tmp}{c:aA}{m:aD}{e:al}(a:HR K O ω H M.lb M.g)(f:ch K O ω H tm M.sl)(b:bH K O c m)(j:∀x,x∈c->x.bj=V)(h:DA u M s c=J st'):(∀d,s=J d->d<M.n)/\gY K O ω H st' (iz tm s (.ptr H.next 0)) (H.cO m .ex e)/\st'.n=M.n/\st'.fn=M.fn:=by
 unfold DA at h;rcases s with _|d;.grind
 simp only[fB]at h;by_cases hd:d<M.n;.simp only[hd,eu,aL]at h;cases u with|true=>cases h;exact⟨λt e=>aj,aBA a f b j,rfl,rfl⟩|false=>cases h;exact⟨λt e=>aj,aBB a f b j,rfl,rfl⟩
 grind
theorem Mm(k:Kd)(a:Bool)(H:Heap)(o:bQ):wK ω k a H (H.alloc o):=⟨rfl,λ_ _ h=>h,λ_ _ _ h=>h,λ_ h=>.inl h,λ_ h=>.inl h⟩
theorem alY(d:HR K O ω H M.lb M.g)(s:ch K O ω H tm M.sl){c:al}(f:o.op=.alloc c)(h:dM P aq fk gs cr later M o=J st'):eW P ak rec cf K O ω H cB M st' tm o:=by unfold dM at h;rw[f]at h;obtain⟨z,b,h⟩:=aE h;obtain⟨a,j,b⟩:=aE b;obtain⟨m,k,g,i⟩:=(Hp b).cells;obtain⟨f1,f2,f3,f4⟩:=ahP (e:=c) d s g i h;refine⟨_,_,?_,f1,f2,f3,f4,Mm _ _ _ _⟩;simp_all[fP,dV,GL,mJ]
theorem am5(g:dD P K O aq)(d:HR K O ω H M.lb M.g)(s:ch K O ω H tm M.sl){b:al}{x:aH}(f:o.op=.box b x)(n:jN M x)(h:dM P aq fk gs cr later M o=J st'):eW P ak rec cf K O ω H cB M st' tm o:=by unfold dM at h;rw[f]at h;obtain⟨z,i,h⟩:=aE h;obtain⟨a,l,p,c⟩:=sU g s n i;obtain⟨m,q,j,k⟩:=c.cells;obtain⟨f1,f2,f3,f4⟩:=ahP (e:=b) d s j k h;refine⟨_,_,?_,f1,f2,f3,f4,Mm _ _ _ _⟩;simp_all[fP,dV,GN]
end
section
variable{P:aM}{K K':aY}{O ψ:bY}{ω ω':aG}{H H':Heap}{S:Nat->Prop}
open Classical in def aY.plus(K:aY)(H:Heap)(R:Nat->Prop):aY:=λi=>match K i with|some x=>J x|none=>if R (rootOf H i)/\(H.bh (rootOf H i)).2=i/\(H.bh (rootOf H i)).1<=i then sQ H i else Z
open Classical in def aG.plus(a:aG)(R:Nat->Prop):aG:=λp=>(a p).map λx=>(x.1,if R x.1 then C else x.2)
theorem aY.pN(K:aY)(H:Heap)(R:Nat->Prop):bl K (K.plus H R):=λi x h=>by grind[aY.plus]
theorem aY.aiK{K:aY}{H:Heap}{R:Nat->Prop}{j:Nat}{x:aD×al}(h:K.plus H R j=J x):K j=J x\/R (rootOf H j):=by grind[aY.plus]
theorem aG.Gb{R:Nat->Prop}{p:Pk}{r:Nat}{b:Bool}(h:ω.plus R p=J (r,b)):∃a,ω p=J (r,a)/\(b=V->a=V/\¬R r):=by cases o:ω p<;>grind[aG.plus]
theorem aG.Q1{R:Nat->Prop}{p:Pk}{r:Nat}{b:Bool}(h:ω p=J (r,b)):∃a,ω.plus R p=J (r,a)/\(¬R r->a=b):=by grind[aG.plus]
theorem W8{m:dX}{g:GH}(a:HR K O ω H m g)(R:Nat->Prop)(o:∀r,R r->∃p,ω p=J (r,V)):(∀i cells e,K.plus H R i=J (cells,e)->∃root l,H.get i=J (.cells cells root l e)/\(H.bh root).1<=i)/\(∀p q r b c,ω.plus R p=J (r,b)->ω.plus R q=J (r,c)->p=q)/\(∀p r i x,ω.plus R p=J (r,V)->K.plus H R i=J x->rootOf H i≠r)/\∀p r b,ω.plus R p=J (r,b)->r<H.next:=by
 refine⟨?_,?_,?_,?_⟩;.intro i cells e h;unfold aY.plus at h;cases k:K i with|some x=>rw[k]at h;cases h;exact a.di i _ e k|none=>grind[sQ,mF]
 .intro p q r b c d f;obtain⟨j,k1,_⟩:=aG.Gb d;obtain⟨n,k2,_⟩:=aG.Gb f;exact a.inj _ _ _ _ _ k1 k2
 .intro p r i x d f;obtain⟨j,k1,k2⟩:=aG.Gb d;obtain⟨rfl,s⟩:=k2 rfl;unfold aY.plus at f;cases k:K i with|some y=>exact a.clean p r i y k1 k|none=>grind
 .intro p r b h;obtain⟨j,k1,_⟩:=aG.Gb h;exact a.cq _ _ _ k1
theorem cJ.MT{f:Nat->Prop}{p:Pk}{d:DV}{a:AV}{o:aX}(t:∀r,ω p=J (r,V)->¬f r)(h:cJ K O ω H p d a o):cJ (K.plus H f) O (ω.plus f) H p d a o:=by cases o with|no=>exact DR.mono (aY.pN _ _ _) (aU.refl _) h|any=>exact h|full e=>exact⟨DR.mono (aY.pN _ _ _) (aU.refl _) h.1,h.2⟩|ty e=>refine⟨DR.mono (aY.pN _ _ _) (aU.refl _) h.1,h.2.imp id ?_⟩;rintro⟨r,b,g,j⟩;obtain⟨m,k,_⟩:=aG.Q1 (R:=f) g;grind|ex e=>refine Or.imp id ?_ h;rintro⟨r,g,j⟩;obtain⟨m,k,q⟩:=aG.Q1 g;have:=q (t r g);subst this;obtain⟨l,s,i,u,c,cells,n,g1,g2,g3,g4,g5,g6,g7,g8⟩:=j.ex;exact⟨r,k,⟨l,_,i,_,c,_,n,g1,g2,g3,g4,g5,g6,g7.mono (aY.pN _ _ _) (aU.refl _),g8⟩⟩
theorem cJ.Q0{R:Nat->Prop}{I:dX}{g:GH}(s:HR K O ω H I g){p:Pk}{d:DV}{a:AV}{o:aX}(X:∀r,ω p=J (r,V)->R r)(h:cJ K O ω H p d a o):cJ (K.plus H R) O (ω.plus R) H p d a (rf o)/\DR (K.plus H R) O d a:=by cases o with|no=>exact⟨DR.mono (aY.pN _ _ _) (aU.refl _) h,DR.mono (aY.pN _ _ _) (aU.refl _) h⟩|any=>obtain⟨rfl,rfl⟩:=h;exact⟨⟨rfl,rfl⟩,.nl⟩|full e=>exact⟨⟨DR.mono (aY.pN _ _ _) (aU.refl _) h.1,h.2⟩,DR.mono (aY.pN _ _ _) (aU.refl _) h.1⟩|ty e=>refine⟨⟨DR.mono (aY.pN _ _ _) (aU.refl _) h.1,h.2.imp id ?_⟩,DR.mono (aY.pN _ _ _) (aU.refl _) h.1⟩;rintro⟨r,b,f,m⟩;obtain⟨v,A,_⟩:=aG.Q1 (R:=R) f;grind|ex e=>
 rcases h with⟨rfl,rfl⟩|⟨r,f,m⟩;.exact⟨⟨.nl,.inl rfl⟩,.nl⟩
 . obtain⟨i,cells,W,Y,⟨P,U⟩,G,Q,S⟩:=m.di s f;obtain⟨l,z,t,M,c,T,w,g1,g2,g3,g4,g5,g6,g7,g8⟩:=m.ex;have N:bl (K.add (H.bh r).2 (T,e)) (K.plus H R):=by
    intro j y n;unfold aY.add at n;by_cases q:j=(H.bh r).2
    . have D:=q.trans g6;subst D;have L:=mF g3;unfold aY.plus;have F:K j=Z:=by
       rcases E:K j with _|x;.rfl
       exact absurd L (s.clean p r j x f E)
      grind[VX]
    .rw[if_neg q]at n;exact aY.pN _ _ _ j y n
   have u:DR (K.plus H R) O d a:=by subst g1;subst g2;refine .ay l e _ t _ c _ (N t _ (by grind[aY.add])) g7.1 g7.2.1 ?_ g7.2.2.1 λk x j d a x1 x2 x3=>(g7.2.2.2 k x j d a x1 x2 x3).mono (aY.pN _ _ _) (aU.refl _);rcases g8 with⟨B,_⟩|B<;>grind
   obtain⟨v,A,_⟩:=aG.Q1 (R:=R) f;exact⟨⟨u,aP⟩,u⟩
end
section
variable{P:aM}{ak:bZ}{rec:Rec}{cf:cj}{K K':aY}{O ψ:bY}{ω ω':aG}{H H':Heap}{S:Nat->Prop}
variable{aq:Nat->ah aA}{gs cr:an}{fk:bS->Nat}{later:List aC}{cB M st':St}{tm:Tr AV}{o:aC}
inductive Loc where|l(s:Nat)|g(id:Nat)deriving DecidableEq
def Loc.pk:Loc->Nat->Pk|.l s,o=>.lc s o|.g id,o=>.gc id o
def Loc.top:Loc->Pk|.l s=>.lb s|.g id=>.g id
theorem Loc.aKF{x y:Loc}(h:x.top=y.top):x=y:=by cases x<;>cases y<;>simp_all[Loc.top]
theorem Loc.aKE{x:Loc}{i:Nat}(h:Pk.g i=x.top):x=.g i:=by cases x<;>grind[Loc.top]
def St.at(t:St):Loc->ah LB|.l s=>look t.lb s|.g id=>match t.g.get id with|some (.box b)=>J b|_=>Z
def St.setAt(t:St)(x:Loc)(b:LB):St:=match x with|.l s=>{t with lb:=put t.lb s b}|.g id=>{t with g:=t.g.set id (.box b)}
theorem ZX(s:St)(x:Loc)(b:LB):(s.setAt x b).n=s.n/\(s.setAt x b).fn=s.fn/\(s.setAt x b).sl=s.sl:=by cases x<;>exact⟨rfl,rfl,rfl⟩
theorem HR.at{x:Loc}{b:LB}(d:HR K O ω H M.lb M.g)(h:M.at x=J b):∃i,ω x.top=J (i,V)/\pW K O ω H x.pk b i/\∀id,x=.g id->O id=J i:=by
 rcases x with s|id;.obtain⟨i,c,a⟩:=d.box s b h;exact⟨i,c,a,λid e=>aj⟩
 unfold St.at at h;simp only at h;split at h;.rename_i j g;cases h;obtain⟨i,c,a,f⟩:=d.kj id _ g;exact⟨i,a,f,λt e=>aj⟩
 grind
theorem HR.Jt{x:Loc}{b b':LB}{i:Nat}(D:HR K O ω H M.lb M.g)(hb:M.at x=J b)(hi:ω x.top=J (i,V))(W:bl K K')(k:bM S H H')(Y:ba H')(hu:po H')(di:∀id cells e,K' id=J (cells,e)->∃root T,H'.get id=J (.cells cells root T e)/\(H'.bh root).1<=id)(I:∀p q r b c,ω' p=J (r,b)->ω' q=J (r,c)->p=q)(A:∀p r id x,ω' p=J (r,V)->K' id=J x->rootOf H' id≠r)(X:∀p r b,ω' p=J (r,b)->r<H'.next)(yH:∀s,ω' (.lb s)=ω (.lb s))(Q:∀id,ω' (.g id)=ω (.g id))(P:∀y n d a o,y≠x->cJ K O ω H (Loc.pk y n) d a o->cJ K' O ω' H' (Loc.pk y n) d a o)(hS:∀p r b,(∃s,p=.lb s)\/(∃id,p=.g id)->p≠x.top->ω p=J (r,b)->¬S r)(lh:pW K' O ω' H' x.pk b' i):HR K' O ω' H' (M.setAt x b').lb (M.setAt x b').g:=by
 have f:∀(y:Loc)(t:LB)(j:Nat),y≠x->ω y.top=J (j,V)->pW K O ω H y.pk t j->pW K' O ω' H' y.pk t j:=by intro y t j hy N h;obtain⟨m,T,e,w,z,B,h4,U,L⟩:=h;have F:¬S j:=hS y.top j V (by cases y;exact .inl ⟨_,rfl⟩;exact .inr ⟨_,rfl⟩) (λe=>hy (Loc.aKF e)) N;have hid:=D.inv.get _ _ w;have hf:=k.dh j hid F;refine⟨m,T,e,?_,z,aj,aj,U,λn d a u v=>⟨(L n d a u v).1,P y n d a _ hy (L n d a u v).2⟩⟩;rw[k.get j hid (by grind[mF])];omega
 have aMp:∀(id:Nat)(E:GO)(j:Nat),x≠.g id->ω (.g id)=J (j,V)->Br K O ω H id E j->Br K' O ω' H' id E j:=by intro id E j hx N h;have F:¬S j:=hS (.g id) j V (.inr ⟨_,rfl⟩) (λe=>hx (Loc.aKE e)) N;cases E with|box t=>exact f (.g id) t j (λe=>hx e.symm) N h|map es Tu=>obtain⟨fs,w,z,B⟩:=h;refine⟨fs,?_,z,λj x y a b=>⟨(B j x y a b).1.mono W (aU.refl _),(B j x y a b).2.1.mono W (aU.refl _),(B j x y a b).2.2⟩⟩;rw[k.get j (D.inv.get _ _ w) (by grind[rootOf])];omega|loop r=>obtain⟨R,w,z,B,h4,U,L,h7,h8,h9⟩:=h;refine⟨R,?_,z,B,h4,U,L,h7,h8,h9.mono W (aU.refl _)⟩;rw[k.get j (D.inv.get _ _ w) (by grind[rootOf])];omega
 cases x with|l s0=>
 refine⟨Y,di,I,A,X,λs t h=>?_,λid E h=>?_,D.oQ,hu⟩
 . have h:look (put M.lb s0 b') s=J t:=h;rw[mC]at h;by_cases e:s=s0;.rw[if_pos e]at h;cases h;subst e;exact⟨i,by rw[yH];exact hi,lh⟩
   .rw[if_neg e]at h;obtain⟨j,w,z⟩:=D.box s t h;exact⟨j,aj,f (.l s) t j (λx=>e (Loc.l.inj x)) w z⟩
 .obtain⟨j,w,z,B⟩:=D.kj id E h;grind|g G=>
 refine⟨Y,di,I,A,X,λs t h=>?_,λid E h=>?_,D.oQ,hu⟩;.obtain⟨j,w,z⟩:=D.box s t h;exact⟨j,aj,f (.l s) t j aO w z⟩
 . have h:look (put M.g.yQ G (.box b')) id=J E:=h;rw[mC]at h;by_cases e:id=G;.rw[if_pos e]at h;cases h;subst e;obtain⟨j,w,z,B⟩:=D.at hb;have:j=i:=aj;subst this;exact⟨j,B id rfl,by rw[Q];exact hi,lh⟩
   .rw[if_neg e]at h;obtain⟨j,w,z,B⟩:=D.kj id E h;grind
end
variable{a:AV}{g:GH}{x:Loc}{D r:Nat}{p:Pk}{sv:SV}{m m':aD}{y:aH}{ow:aX}{lv:ah Nat}{dst:ah Tmp}{e e' t:al}{lb:dX}{fl fl':gS}
section
variable{P:aM}{ak:bZ}{rec:Rec}{cf:cj}{K K':aY}{O ψ:bY}{ω ω':aG}{H H':Heap}{S:Nat->Prop}
variable{aq:Nat->ah aA}{gs cr:an}{fk:bS->Nat}{later:List aC}{cB M st':St}{tm:Tr AV}{o:aC}
theorem Loc.F8{y:Loc}{i j:Nat}(h:x.pk i=y.pk j):x=y/\i=j:=by cases x<;>cases y<;>simp_all[Loc.pk]
theorem Loc.Ga(x:Loc)(i:Nat):¬(x.pk i).slot:=by cases x<;>exact id
theorem Loc.F9(x:Loc)(i s:Nat):x.pk i≠.lb s:=by cases x<;>simp[Loc.pk]
theorem Loc.QZ(x:Loc)(i s:Nat):x.pk i≠.g s:=by cases x<;>simp[Loc.pk]
theorem ajW{R:Nat->Prop}{g:cT}(B:ch K O ω H tm g)(f:∀p r,p.slot->ω p=J (r,V)->¬R r):ch (K.plus H R) O (ω.plus R) H tm g:=by
 intro t sv A;obtain⟨a,q,w,c⟩:=B t sv A;refine⟨a,q,w,?_⟩;rcases sv with⟨d,o⟩|l|⟨s,D⟩|d|s|⟨s,i,D⟩|⟨id,D⟩|n|_;.exact cJ.MT (λr h=>f (.sl t) r trivial h) c
 .obtain⟨m,g1,g2,g3⟩:=c;exact⟨m,g1,g2,λj x y u v=>cJ.MT (λr h=>f (.tp t j) r trivial h) aP⟩
 .intro i b hi;obtain⟨k,z,_⟩:=aG.Gb hi;exact c i k z
 .obtain⟨id,D,cells,e,g1,g2,g3,g4,g5⟩:=c;exact⟨id,_,_,e,g1,aY.pN _ _ _ _ _ g2,g3,g4,g5.mono (aY.pN _ _ _) (aU.refl _)⟩
 .exact c
 .exact c
 .exact c
 .exact c
 trivial
theorem aDy(b:LB)(o:Nat):fg {b with own:=b.own.map λ(x:Nat×aX)=>(x.1,rf x.2)} o=rf (fg b o):=by unfold fg;cases b.cells[o]? with|none=>dsimp only;rw[qT b.own rf];cases look b.own o<;>rfl|some d=>cases d<;>first|rfl|(dsimp only;rw[qT b.own rf];cases look b.own o<;>rfl)
theorem ahC{a:Type}(l:List (Nat×a))(f:Nat->Bool){n:Nat}(h:f n=V):look (l.filter λx=>f x.1) n=look l n:=by induction l<;>grind[look,bN]
theorem ahA(l:List (Nat×aX)){n:Nat}(h:n≠D):look (dB l D 1) n=look l n:=by refine ahC l (λk=>cM k _||bV _ k) ?_;grind[fB,du]
theorem am6{b:LB}{i:Nat}(c:HR K O ω H M.lb M.g)(N:ch K O ω H tm M.sl)(G:M.at x=J b)(I:ω x.top=J (i,V))(P:pW K O ω H x.pk b i):∃K' ω',pg ω H K K'/\HR K' O ω' H (M.setAt x {b with own:=b.own.map λ(x:Nat×aX)=>(x.1,rf x.2)}).lb (M.setAt x {b with own:=b.own.map λ(x:Nat×aX)=>(x.1,rf x.2)}).g/\ch K' O ω' H tm M.sl/\(∀p r b,ω' p=J (r,b)->∃k,ω p=J (r,k))/\∀m,(∃r fl e,H.get i=J (.cells m r fl e))->bH K' O b.cells m:=by
 let R:Nat->Prop:=λr=>∃D,ω (x.pk D)=J (r,V);have q:∀r,R r->∃p,ω p=J (r,V):=λr⟨D,h⟩=>⟨_,h⟩;have Q:∀p r,(∀D,p≠x.pk D)->ω p=J (r,V)->¬R r:=λp r g h⟨D,f⟩=>g D (c.inj _ _ _ _ _ h f);obtain⟨w,z,c3,A⟩:=W8 c R q;have e2:∀p,(∀D,p≠x.pk D)->ω.plus R p=ω p:=by
   intro p g;unfold aG.plus;rcases h:ω p with _|y;.rfl
   obtain⟨r,T⟩:=y;have:¬R r:=λ⟨D,f⟩=>g D (c.inj _ _ _ _ _ h f);grind
 obtain⟨m,fl,e,l,f,E,F,n,o⟩:=P;refine⟨_,_,⟨aY.pN _ _ _,λj x L=>(aY.aiK L).imp_right λh=>let⟨p,h⟩:=q _ h;⟨p,_,h⟩⟩,?_,ajW N λp r g h=>Q p r (λD e=>Loc.Ga x D (e▸g)) h,λp r b h=>let⟨k,B,_⟩:=aG.Gb h;⟨k,B⟩,?_⟩
 . refine HR.Jt (S:=λ_=>False) c G I (aY.pN _ _ _) (bM.refl _ _) c.inv c.iJ w z c3 A (λs=>e2 _ λD=>(Loc.F9 x D s).symm) (λid=>e2 _ λD=>(Loc.QZ x D id).symm) ?_ (λ_ _ _ _ _ _=>id) ?_;.grind[cJ.MT,Loc.F8]
   .refine⟨m,fl,e,l,f,E,F,n,λD d a u v=>⟨(o D d a u v).1,?_⟩⟩;grind[aDy,cJ.Q0]
 .rintro m'⟨r,fl',e',t⟩;rw[l]at t;obtain⟨rfl,_⟩:=bQ.cells.inj (br t);exact⟨n,λD d a u v=>(cJ.Q0 c (λr hr=>⟨D,hr⟩) (o D d a u v).2).2⟩
theorem anU{b:LB}{i:Nat}{d:DV}{r0 N G}(c:HR K O ω H M.lb M.g)(hs:ch K O ω H tm M.sl)(X:M.at x=J b)(Y:ω x.top=J (i,V))(lh:pW K O ω H x.pk b i)(A:H.get i=J (.cells m r0 N G))(z:b.cells[D]?=J d)(W:m[D]?=J a)(ho:fg b D=.ex e):∃K' ω',pg ω H K K'/\HR K' O ω' H (M.setAt x {b with own:=(D,.ty e)::dB b.own D 1}).lb (M.setAt x {b with own:=(D,.ty e)::dB b.own D 1}).g/\ch K' O ω' H tm M.sl/\(∀p r b,ω' p=J (r,b)->∃l,ω p=J (r,l))/\DR K' O d a:=by
 let f:Nat->Prop:=λr=>ω (x.pk D)=J (r,V);have w:∀r,f r->∃p,ω p=J (r,V):=λr h=>⟨_,h⟩;have yF:∀p r,p≠x.pk D->ω p=J (r,V)->¬f r:=λp r k h g=>k (c.inj _ _ _ _ _ h g);obtain⟨B,E,c3,F⟩:=W8 c f w;have e2:∀p,p≠x.pk D->ω.plus f p=ω p:=by
   intro p k;unfold aG.plus;rcases h:ω p with _|y;.rfl
   obtain⟨r,bb⟩:=y;have:¬f r:=λg=>k (c.inj _ _ _ _ _ h g);grind
 obtain⟨m',fl',e',q,g,Q,S,U,t⟩:=lh;rw[q]at A;obtain⟨rfl,_⟩:=bQ.cells.inj (br A);have L:=cJ.Q0 c (R:=f) (λr hr=>hr) (t D d a z W).2;refine⟨_,_,⟨aY.pN _ _ _,λj x hj=>(aY.aiK hj).imp_right λh=>let⟨p,h⟩:=w _ h;⟨p,V,h⟩⟩,?_,ajW hs λp r k h=>yF p r (λe=>Loc.Ga x D (e▸k)) h,λp r b h=>let⟨l,P,_⟩:=aG.Gb h;⟨l,P⟩,L.2⟩;refine HR.Jt c X Y (aY.pN _ _ _) (bM.refl _ _) c.inv c.iJ B E c3 F (λs=>e2 _ (Loc.F9 x _ s).symm) (λid=>e2 _ (Loc.QZ x _ id).symm) ?_ (λ_ _ _ _ _ _=>id) ?_;.grind[cJ.MT,Loc.F8]
 . refine⟨m',fl',e',q,g,Q,S,U,λT o n u v=>⟨(t T o n u v).1,?_⟩⟩;by_cases I:T=D
   . subst I;obtain rfl:d=o:=aj;obtain rfl:a=n:=aj;rw[ho]at L;unfold fg;show cJ _ _ _ _ _ _ _ (match b.cells[T]? with|some .nl=>aX.any|_=>(look ((T,aX.ty e)::dB b.own T 1) T).getD .no);rw[z];have om:d≠.nl:=by grind[fg]
     cases d<;>first|exact absurd rfl om|(simp only[look,bN,eu,aL,EA];exact L.1)
   grind[fg,look,bN,ahA,cJ.MT,Loc.F8]
theorem OF{i:Nat}{r f e}(h:H.get i=J (.cells m r f e))(l:(H.bh r).1<=i):H.cellsOf i=J m:=by grind[Heap.cellsOf,du]
theorem ahs{i n:Nat}{r f e}(h:H.get i=J (.cells m r f e))(l:(H.bh r).1<=i)(c:AM.isAgg P t=J V)(a:bC P t=J n)(b:D+n<=m.length):AM.loadVar P H t i D=J (AV.agg ((m.drop D).take n)):=by
 unfold AM.loadVar;have:H.load i D n=J ((m.drop D).take n):=by unfold Heap.load;rw[OF h l];grind[du,ef,qx,qI]
 grind
theorem Wi{i:Nat}{r f e}(g:H.get i=J (.cells m r f e))(l:(H.bh r).1<=i)(b:AM.isAgg P t=J C)(h:m[D]?=J a):AM.loadVar P H t i D=J a:=by unfold AM.loadVar;rw[b];simp only[OF g l,cU,xw,h]
def Bh(x:Loc)(o:Nat)(d:ah Nat):Pk->ah Pk:=λp=>if(∃k,d=J k/\p=.sl k)then J (x.pk o)else if p=x.pk o then Z else J p
theorem aIe{d:ah Nat}:∀p q y,Bh x D d p=J y->Bh x D d q=J y->p=q:=by
 intro p q y h b;unfold Bh at h b;by_cases a:∃k,d=J k/\p=.sl k;.grind
 . rw[if_neg a]at h;split at h;.grind
   .by_cases c:∃k,d=J k/\q=.sl k<;>grind
theorem aIf(x:Loc)(o d:Nat):Bh x o (J d) (.sl d)=J (x.pk o):=by simp[Bh]
theorem Gx{d:ah Nat}(h:∀k,d=J k->p≠.sl k)(a:p≠x.pk D):Bh x D d p=J p:=by grind[Bh]
theorem WR(a:HR K O ω H lb g){src:Pk->ah Pk}(k:∀p q y,src p=J y->src q=J y->p=q):(∀p q r b c,ω.of src p=J (r,b)->ω.of src q=J (r,c)->p=q)/\(∀p r id x,ω.of src p=J (r,V)->K id=J x->rootOf H id≠r)/\∀p r b,ω.of src p=J (r,b)->r<H.next:=by
 refine⟨λp q r b c x y=>?_,λp r id x d f=>?_,λp r b d=>?_⟩;.obtain⟨l,i,h⟩:=aG.jC x;obtain⟨q0,j,e⟩:=aG.jC y;obtain rfl:=a.inj _ _ _ _ _ h e;grind
 .obtain⟨_,_,h⟩:=aG.jC d;exact a.clean _ _ _ _ h f
 .obtain⟨_,_,h⟩:=aG.jC d;exact a.cq _ _ _ h
theorem cJ.uX{q:Pk}{d:DV}{o:aX}(h:ω' q=ω p)(c:cJ K O ω H p d a o):cJ K O ω' H q d a o:=by cases o with|no=>exact c|any=>exact c|full e=>exact c|ty e=>exact⟨c.1,c.2.imp id λ⟨r,b,x1,x2⟩=>⟨r,b,aj,x2⟩⟩|ex e=>exact Or.imp id aP c
theorem aDv(b:LB)(c:aA){n:Nat}(h:n≠D)(a:c[n]?=b.cells[n]?):fg {cells:=c,own:=dB b.own D 1} n=fg b n:=by grind[fg,ahA]
theorem acG{b:LB}{i:Nat}{A f:DV}{r0 fl e0}(g:HR K O ω H M.lb M.g)(W:ch K O ω H tm M.sl)(hb:M.at x=J b)(hi:ω x.top=J (i,V))(lh:pW K O ω H x.pk b i)(R:H.get i=J (.cells m r0 fl e0))(Q:b.cells[D]?=J A)(ha:m[D]?=J a)(ho:fg b D=ow)(ik:DR K O f a)(jg:f.bj=V)(yC:f≠.nl)(h:aJ (M.setAt x {cells:=jo b.cells D f,own:=dB b.own D 1}) dst (.dv A ow)=J st'):gY K O ω H st' (iz tm dst a) H:=by
 obtain⟨m',fl',e',I,L,F,h4,h5,N⟩:=lh;rw[I]at R;obtain⟨rfl,_⟩:=bQ.cells.inj (br R);have P:=(N D A a Q ha).2;rw[ho]at P;obtain⟨c2,c3,c4⟩:=WR g (aIe (x:=x) (D:=D) (d:=dst));have cA:∀k,dst=J k->∀y j,Loc.pk y j≠.sl k:=λk _ y j e=>Loc.Ga y j (e▸trivial);have U:D<b.cells.length:=(List.getElem?_eq_some_iff.1 Q).1;have w:∀n,n≠D->(jo b.cells D f)[n]?=b.cells[n]?:=by grind[jo]
 have z:(jo b.cells D f)[D]?=J f:=by grind[jo]
 have X:HR K O (ω.of (Bh x D dst)) H (M.setAt x {cells:=jo b.cells D f,own:=dB b.own D 1}).lb (M.setAt x {cells:=jo b.cells D f,own:=dB b.own D 1}).g:=by
   refine HR.Jt (S:=λ_=>False) g hb hi (bl.refl _) (bM.refl _ _) g.inv g.iJ g.di c2 c3 c4 (λs=>?_) (λid=>?_) ?_ (λ_ _ _ _ _ _=>id) ?_;.unfold aG.of;rw[Gx (λk _=>aO) (Loc.F9 x D s).symm];rfl
   .unfold aG.of;rw[Gx (λk _=>aO) (Loc.QZ x D id).symm];rfl
   .intro y T d1 E o1 hy l;exact l.uX (by grind[aG.of,Gx,Loc.F8])
   . refine⟨m',fl',e',I,L,F,h4,?_,λT d1 E u v=>?_⟩;.grind[jo]
     . have u:(jo b.cells D f)[T]?=J d1:=u;by_cases B:T=D
       . subst B;rw[z]at u;cases u;obtain rfl:a=E:=aj;refine⟨jg,?_⟩;have:fg {cells:=jo b.cells T f,own:=dB b.own T 1} T=.no:=by
          unfold fg;show(match(jo b.cells T f)[T]? with|some .nl=>aX.any|_=>(look (dB b.own T 1) T).getD .no)=_;rw[z];have Fo:look (dB b.own T 1) T=Z:=by unfold dB;induction b.own<;>grind[look,fB,du,bN]
          grind
         rw[this];exact ik
       .rw[w T B]at u;obtain⟨k1,k2⟩:=N T d1 E u v;refine⟨k1,?_⟩;rw[aDv b _ B (w T B)];exact k2.uX (by grind[aG.of,Gx,Loc.F8])
 have Y:(M.setAt x {cells:=jo b.cells D f,own:=dB b.own D 1}).sl=M.sl:=(ZX M x _).2.2;have G:∀p r c,ω.of (Bh x D dst) p=J (r,c)->dH ω r\/H.next<=r:=λp r c l=>let⟨q,_,h⟩:=aG.jC l;.inl ⟨q,c,h⟩;have o:∀p r c,p.slot->(∀k,dst=J k->p≠.sl k)->ω p=J (r,c)->ω.of (Bh x D dst) p=J (r,c):=by intro p r c l hk h;unfold aG.of;rw[Gx hk (λe=>Loc.Ga x D (e▸l))];grind
 rcases zg h with⟨rfl,rfl⟩|⟨k,rfl,_,hr,rfl⟩;.refine⟨K,O,_,bl.refl _,g.gN (bM.refl (λ_=>False) _),aU.refl _,X,?_,bM.refl _ _,G⟩;rw[Y];intro t sv hl;obtain⟨a0,g1,g2,g3⟩:=W t sv hl;refine⟨a0,g1,g2,g3.keep (S:=λ_=>False) g.inv (bM.refl _ _) (bl.refl _) (aU.refl _) (λp r c l h=>⟨o p r c (by rcases l with rfl|⟨j,rfl⟩<;>trivial) (λk e=>aj) h,id⟩) (λs T i' b' _ h=>?_) (λ_ _=>rfl) (λ_ _ _ _ _=>id)⟩;grind[aG.jC,Gx,Loc.F9]
 . refine⟨K,O,_,bl.refl _,g.gN (bM.refl (λ_=>False) _),aU.refl _,X,?_,bM.refl _ _,G⟩;show ch _ _ _ _ _ (put (iG (M.setAt x _).sl k) k (.dv A ow));rw[Y];refine xJ (S:=λ_=>False) g.inv W (bM.refl _ _) (bl.refl _) (aU.refl _) (λp r c _ L F h=>⟨o p r c ?_ (λk' e=>aj) h,id⟩) (λs i' b' h=>?_) (λ_ _ _=>id) (λ_=>P.qU) ?_;.rcases F with⟨t,rfl⟩|⟨t,j,rfl⟩<;>trivial
   .obtain⟨q,q1,q2⟩:=aG.jC h;rw[Gx (λk e=>aO) (Loc.F9 x D s).symm]at q1;grind
   .exact P.uX (by simp[aG.of,aIf])
theorem HR.same{b:LB}{i:Nat}(a:HR K O ω H M.lb M.g)(c:M.at x=J b)(d:ω x.top=J (i,V))(l:pW K O ω H x.pk b i):HR K O ω H (M.setAt x b).lb (M.setAt x b).g:=HR.Jt (S:=λ_=>False) a c d (bl.refl _) (bM.refl _ _) a.inv a.iJ a.di a.inj a.clean a.cq (λ_=>rfl) (λ_=>rfl) (λ_ _ _ _ _ _ h=>h) (λ_ _ _ _ _ _=>id) l
theorem aHd{l:aA}{i:Nat}{d:DV}(h:l[i]?=J d):jo l i d=l:=by grind[jo,G5,J9]
theorem aDx{b:LB}{d:DV}(a:b.cells[D]?=J d)(h:fg b D≠.any):d≠.nl:=by grind[fg]
theorem cJ.jk{d:DV}(h:cJ K O ω H p d a (.ex e)):DR K O .jk a:=by
 rcases h with⟨_,rfl⟩|⟨r,_,b⟩;.exact .jk _ rfl rfl
 .obtain⟨l,s,id,D,c,cells,fl,_,rfl,_⟩:=b.ex;exact .jk _ rfl rfl
theorem ahr{b:LB}{i:Nat}{u:jq}{r:SV×LB}(o:HR K O ω H M.lb M.g)(F:ch K O ω H tm M.sl)(s:M.at x=J b)(v:ω x.top=J (i,V))(q:pW K O ω H x.pk b i)(l:gP P u t b D=J r)(h:aJ (M.setAt x r.2) dst r.1=J st'):∃a,AM.loadVar P H t i D=J a/\gY K O ω H st' (iz tm dst a) H:=by have G:=q;obtain⟨m,fl,e,w,h2,W,h4,h5,X⟩:=G;have sN:∀L,(M.setAt x L).sl=M.sl:=λL=>(ZX M x L).2.2;unfold gP at l;cases R:AM.isAgg P t with|none=>grind|some ag=>rw[R]at l;cases ag with
 |true=>
 simp only at l;obtain⟨n,E,l⟩:=aE l;rw[du]at l;by_cases iR:D+n<=b.cells.length;.simp only[iR,eu,aL]at l;cases l;obtain⟨Y,U,A,B,s3,S,T⟩:=am6 o F s v q;have hd:=T m ⟨_,fl,e,w⟩;refine⟨_,ahs w W R E ae,gY.trans o.inv A.1 (A.gN B) (aU.refl _) (bM.refl _ _) (λp r c Q=>let⟨I,N⟩:=S p r c Q;.inl ⟨p,I,N⟩) (BF B aj h ?_)⟩;exact((hd.drop D).take n).agg λy hy=>by obtain⟨k,hk⟩:=List.mem_iff_getElem?.1 (List.mem_of_mem_drop (List.mem_of_mem_take hy));have kA:k<m.length:=aj;exact(X k y m[k] hk (eZ kA)).1
 grind|false=>simp only at l;cases hd:b.cells[D]? with|none=>grind|some d=>
 rw[hd]at l;obtain⟨Ir,_⟩:=List.getElem?_eq_some_iff.1 hd;have z:m[D]?=J m[D]:=eZ ae;obtain⟨jg,g⟩:=X D d _ hd z;refine⟨_,Wi w W R z,?_⟩;have plain:∀(sv:DV)(ow:aX),fg b D=ow->(∀e,ow≠.ex e)->aJ (M.setAt x b) dst (.dv d .no)=J st'->gY K O ω H st' (iz tm dst m[D]) H:=by intro _ ow j cA h;rw[j]at g;refine BF (HR.same o s v q) aj h ?_;cases ow with|no=>exact g|any=>obtain⟨rfl,hx⟩:=g;rw[hx];exact .nl|full e=>exact g.1|ty e=>exact g.1|ex e=>grind
 have share:∀e,fg b D=.ex e->aJ (M.setAt x {b with own:=(D,.ty e)::dB b.own D 1}) dst (.dv d .no)=J st'->gY K O ω H st' (iz tm dst m[D]) H:=by intro e j h;obtain⟨Y,U,A,B,s3,S,T⟩:=anU o F s v q w hd z j;exact gY.trans o.inv A.1 (A.gN B) (aU.refl _) (bM.refl _ _) (λp r c Q=>let⟨I,N⟩:=S p r c Q;.inl ⟨p,I,N⟩) (BF B aj h T)
 have f:pO u b D d (fg b D)=r:=br l;cases j:fg b D with
 |ex e=>rw[j]at f;cases u with
  |take=>subst f;exact acG o F s v q w hd z j (cJ.jk (by rw[j]at g;omega)) rfl aO h|len=>have f:(match pK d with|some n=>(SV.hd n,b)|none=>(.dv d .no,{b with own:=(D,.ty e)::dB b.own D 1}))=r:=f;cases E:pK d with|none=>grind|some n=>rw[E]at f;subst f;refine Ab (HR.same o s v q) aj h g.qU λ_ _ _=>?_;exact(Mj E (cJ.look o g):nN m[D]=J n)
  |none=>subst f;exact share e j h|ref=>subst f;exact share e j h|copy=>subst f;exact share e j h
 |ty e=>rw[j]at f;cases u with|take=>
  subst f;have iH:DR K O d m[D]:=by rw[j]at g;exact g.1
  refine acG o F s v q w hd z j iH jg (aDx hd aj) ?_;rw[aHd hd];exact h|none=>subst f;exact plain d _ j aO h|len=>subst f;exact plain d _ j aO h|ref=>subst f;exact plain d _ j aO h|copy=>subst f;exact plain d _ j aO h
 |full e=>rw[j]at f;cases u<;>(subst f;exact plain d _ j aO h)|no=>rw[j]at f;cases u<;>(subst f;exact plain d _ j aO h)|any=>rw[j]at f;cases u with|take=>subst f;rw[j]at g;refine Ab (HR.same o s v q) aP h (by rw[g.2];simp) λ_ _ _=>g|none=>subst f;exact plain d _ j aO h|len=>subst f;exact plain d _ j aO h|ref=>subst f;exact plain d _ j aO h|copy=>subst f;exact plain d _ j aO h
theorem aAJ{x:aH}{i:Nat}(b:o.op=.load t x)(c:AM.bu P tm x=J (.ptr i D))(h:AM.loadVar P H t i D=J a):dV P ak tm H o=J (.val a H):=by simp_all[dV,GU,ff]
theorem aiI{M:aA}{c:aD}{base:Nat}{d:DV}(u:∀(j:Nat)(y:DV)(a:AV),M[j]?=J y->c[base+j]?=J a->DR K O y a)(b:base+M.length<=c.length)(s:∀y,y∈M->y.bj=V)(h:lO P t M D=J d){i r f e}(m:H.get i=J (.cells c r f e))(l:(H.bh r).1<=i):∃a,AM.loadVar P H t i (base+D)=J a/\DR K O d a:=by
 unfold lO at h;split at h
 . rename_i p;obtain⟨n,o,h⟩:=aE h;rw[du]at h;by_cases k:D+n<=M.length;.simp only[k,eu,aL]at h;cases h;refine⟨_,ahs m l p o ae,?_⟩;refine bH.agg ⟨aj,λj y a q g=>?_⟩ λy q=>s y aj;grind
   grind
 .obtain⟨I,_⟩:=List.getElem?_eq_some_iff.1 h;have g:c[base+D]?=J _:=eZ ae;grind[Wi]
 grind
theorem aDV{d:DV}(h:(∃n,AM.isAgg P t=J V/\bC P t=J n/\d.bj=C/\d.flat.length=n)\/(AM.isAgg P t=J C/\d.bj=V)):lO P t d.flat 0=J d:=by
 unfold lO;rcases h with⟨n,a,b,e,c⟩|⟨a,b⟩;.rw[a];simp only[b,cU];rw[du];simp only[c,jM,bo,eu,aL,wJ];rw[<-c,List.take_length];cases d<;>first|rfl|simp[DV.bj]at e
 .rw[a];cases d<;>first|rfl|grind[DV.bj]
theorem aAI(U:dD P K O aq)(v:HR K O ω H M.lb M.g)(B:ch K O ω H tm M.sl){Q:aH}(ho:o.op=.load t Q)(h:dM P aq fk gs cr later M o=J st'):eW P ak rec cf K O ω H cB M st' tm o:=by unfold dM at h;rw[ho]at h;simp only at h;cases N:cP aq M Q with|none=>grind|some sv=>
 rw[N]at h;obtain⟨a,a1,a2,F⟩:=qV (P:=P) U B N;have fin:∀{i D:Nat}{b:AV}{f:St}{w:SV},a=.ptr i D->AM.loadVar P H t i D=J b->gY K O ω H st' (iz tm o.dst b) H->aJ f o.dst w=J st'->f.n=M.n->f.fn=M.fn->eW P ak rec cf K O ω H cB M st' tm o:=by intro i D b f w e1 e2 e3 e4 e5 e6;subst e1;obtain⟨f1,f2,f3,_⟩:=qq e4;exact⟨b,H,by unfold fP;rw[aAJ ho a1 e2];rfl,λd hd=>aj,e3,ae,aj,wK.refl _ _ _⟩
 have q:∀(u:jq)(y:Loc)(b:LB)(D:Nat)(r:SV×LB),M.at y=J b->(∀i,ω y.top=J (i,V)->(∀id,y=.g id->O id=J i)->a=.ptr i D)->gP P u t b D=J r->aJ (M.setAt y r.2) o.dst r.1=J st'->eW P ak rec cf K O ω H cB M st' tm o:=by intro u y b D r A hp X jG;obtain⟨i,L,i2,i3⟩:=v.at A;grind[ahr,ZX]
 cases sv with
 |lp s D=>
  simp only at h;obtain⟨b,A,h⟩:=aE h;obtain⟨r,hr,h⟩:=aE h;refine q _ (.l s) b D r A (λi hi _=>?_) hr h;rcases F with⟨t',_,_,_,p⟩|⟨_,⟨_,e,_⟩|⟨_,_,_,_,e,_⟩|⟨_,_,_,_,e,_⟩⟩;.exact p i V hi
  all_goals grind|ev d=>
  simp only at h;have uI:∃id D cells e,a=.ptr id D/\K id=J (cells,e)/\D+d.flat.length<=cells.length/\(∀y,y∈d.flat->y.bj=V)/\bH K O d.flat ((cells.drop D).take d.flat.length):=by
    rcases F with⟨t',_,_,_,p⟩|⟨_,⟨_,e,_⟩|⟨_,_,_,_,e,_⟩|⟨g,l,cells,e,e1,e2,p,h5,h6⟩⟩;.exact p
    all_goals grind[DV.flat,bH]
  obtain⟨id,D,cells,e,e1,e2,e3,e4,e5⟩:=uI;obtain⟨r,fl,g1,g2⟩:=v.di _ _ _ e2;have jG:aJ M o.dst (.dv d .no)=J st'/\lO P t d.flat 0=J d:=by grind[aE,bN,aDV]
  obtain⟨b,G,b2⟩:=aiI (base:=D) (λj y c k S=>e5.2 j y c k (by grind)) e3 e4 jG.2 g1 g2;grind[BF]|se s i D=>
  simp only at h;obtain⟨y,k,h⟩:=aE h;obtain⟨d,hd,h⟩:=aE h;obtain⟨d',hp,pD⟩:=aE h;have LV:∃id E len c z,tm.get s=J (.sl id E len c z)/\a=.ptr id (E+i*z+D):=by
    rcases F with⟨t',_,_,_,p⟩|⟨_,⟨_,e,_⟩|⟨_,_,_,_,e,_⟩|⟨_,_,_,_,e,_⟩⟩;.exact p
    all_goals grind
  obtain⟨id,E,len,c,z,e1,e2⟩:=LV;unfold nB at k;split at k
  . rename_i l e n e' X;cases k;obtain⟨b0,G,_,b3⟩:=B s _ X;rw[e1]at G;cases G;rcases b3 with⟨x1,_⟩|⟨r,_,b4⟩;.simp_all
    . obtain⟨l',rL,tO,dT,c',cells,fl,g1,g2,g3,g4,g5,g6,g7,g8⟩:=b4.ex;obtain⟨rfl,rfl,rfl⟩:=DV.ay.inj g1;obtain⟨rfl,rfl,rfl,rfl,rfl⟩:=AV.sl.inj g2;have mT:=(List.getElem?_eq_some_iff.1 hd).1;obtain⟨k1,k2⟩:=g7.2.2.1 i d hd;have Y:i*z+z<=l.length*z:=by have:(i+1)*z<=l.length*z:=ml _ mT;grind
      have A:=g7.2.1;obtain⟨b,x1,x2⟩:=aiI (base:=E+i*z) (D:=D) (λj y c k S=>g7.2.2.2 i d j y c hd k S) ae k2 hp g3 g5;grind[BF]
  simp_all|dv d0 ow0=>cases d0 with
  |ptr id D=>
    simp only at h;have T:∃i,O id=J i/\a=.ptr i D:=by
      have iH:DR (sQ H) O (.ptr id D) a:=by obtain⟨a',x1,_,x3⟩:=qm (P:=P) U v B (x:=Q) (d:=.ptr id D) (by unfold bp;rw[N];rfl);simp_all
      cases iH<;>simp_all
    obtain⟨i0,L,i2⟩:=T;cases lj:M.g.get id with|none=>simp_all|some ob=>rw[lj]at h;cases ob with
      |box b=>
      simp only at h;have uC:M.at (.g id)=J b:=by grind[St.at]
      have aLS:∀(u:jq),((gP P u t b D).bind λr=>aJ {M with g:=M.g.set id (.box r.2)} o.dst r.1)=J st'->eW P ak rec cf K O ω H cB M st' tm o:=by intro u h;obtain⟨r,hr,h⟩:=aE h;exact q u (.g id) b D r uC (λi _ hi=>aP) hr h
      split at h
      . rename_i e jf ht;obtain⟨j,j1,j2,j3⟩:=v.at uC;have W:=j3 id rfl;rw[L]at W;cases W;obtain⟨m,fl,e',g1,g2,g3,g4,g5,g6⟩:=j2;rw[fB]at h;have R:D<b.cells.length:=by grind
        simp only[R,eu,aL]at h;have I:m[D]?=J m[D]:=eZ ae;have dP:=(g6 D _ _ (eZ R) I).2;refine fin i2 (Wi g1 g3 ht I) (Ab v B h dP.qU λ_ _ _=>?_) h rfl rfl;exact⟨i0,m,i0,fl,e',L,g1,I⟩
      grind|_=>simp_all
  |_=>simp at h
 |_=>simp_all
theorem tZ(f:HR K O ω H M.lb M.g)(s:ch K O ω H tm M.sl)(g:dV P ak tm H o=J (.val a H))(h:aJ M o.dst sv=J st')(t:a≠.top)(v:∀d,o.dst=J d->Gn d sv=C->mL K O ω H (tm.ins d a) d sv a):eW P ak rec cf K O ω H cB M st' tm o:=by obtain⟨b,c,e,_⟩:=qq h;exact⟨a,H,by grind[fP],b,Ab f s h t v,c,e,wK.refl _ _ _⟩
theorem Oc(u:dD P K O aq)(j:HR K O ω H M.lb M.g)(v:ch K O ω H tm M.sl){x:aH}(w:cP aq M x=J sv):∃a,AM.bu P tm x=J a/\a≠.top/\(match sv with|.lp s D=>∀i b,ω (.lb s)=J (i,b)->a=.ptr i D|.ev d=>∃id D cells e,a=.ptr id D/\K id=J (cells,e)/\D+d.flat.length<=cells.length/\(∀y,y∈d.flat->y.bj=V)/\bH K O d.flat ((cells.drop D).take d.flat.length)|.se s i D=>∃id k len c z,tm.get s=J (.sl id k len c z)/\a=.ptr id (k+i*z+D)|.sr s=>tm.get s=J a|.dv d o=>DR (sQ H) O d a|.hd n=>nN a=J n|.gr id D=>∃i m root fl e,O id=J i/\H.get i=J (.cells m root fl e)/\m[D]?=J a|_=>True):=by
 obtain⟨a,p,q,r⟩:=qV u v w;refine⟨a,p,q,?_⟩;rcases r with⟨t,_,_,_,h⟩|⟨_,⟨d,rfl,h⟩|⟨d,f,_,_,rfl,h⟩|⟨g,l,cells,e,rfl,rfl,h,A,B⟩⟩;.cases sv with|dv d o=>exact cJ.look j h|tp l=>grind|dd=>grind|_=>exact h
 .exact h.mono j.sub (aU.refl _)
 .exact h.mono j.sub (aU.refl _)
 grind[DV.flat,bH]
theorem aiH{c:aA}{d:DV}(h:lO P t c D=J d)(s:∀y,y∈c->y.bj=V):∃_:D+d.flat.length<=c.length,(∀y,y∈d.flat->y.bj=V)/\d.flat=(c.drop D).take d.flat.length:=by
 unfold lO at h;split at h
 . obtain⟨n,i,h⟩:=aE h;rw[du]at h;by_cases e:D+n<=c.length;.simp only[e,eu,aL]at h;cases h;have l:((c.drop D).take n).length=n:=aj;exact⟨by show D+((c.drop D).take n).length<=_;omega,λy f=>s y (List.mem_of_mem_drop (List.mem_of_mem_take f)),by show(c.drop D).take n=(c.drop D).take ((c.drop D).take n).length;grind⟩
   grind
 . obtain⟨a,b⟩:=List.getElem?_eq_some_iff.1 h;have j:=s d (b▸G7 a);have g:d.flat=[d]:=by cases d<;>first|rfl|grind[DV.bj]
   grind[G5]
 grind
theorem asX(E:dD P K O aq)(g:HR K O ω H M.lb M.g)(j:ch K O ω H tm M.sl){s:al}{x:aH}{f:Nat}(r:o.op=.fieldAddr s x f)(h:dM P aq fk gs cr later M o=J st'):eW P ak rec cf K O ω H cB M st' tm o:=by unfold dM at h;rw[r]at h;simp only at h;cases G:P.underlying s with|none=>simp_all|some u=>rw[G]at h;cases u with
 |struct q=>simp only at h;obtain⟨p,B,h⟩:=aE h;obtain⟨n,W,h⟩:=aE h;cases n with|zero=>simp_all|succ n=>cases y:cP aq M x with|none=>simp_all|some sv=>
  rw[y]at h;obtain⟨a,Q,R,m⟩:=Oc (P:=P) E g j y;have ex:∀{i D:Nat},a=.ptr i D->dV P ak tm H o=J (.val (.ptr i (D+p.offset)) H):=by intro i D e;subst e;unfold dV;rw[r];simp only[Ei];grind[ff]
  cases sv with
  |lp b D=>simp only at h;obtain⟨v,A,h⟩:=aE h;obtain⟨i,hi,_⟩:=g.box b v A;exact tZ g j (ex (m i V hi)) h aO λd _ _=>λX S U=>aP|dv d0 ow=>cases d0 with
   |ptr id D=>simp only at h;cases m with|ptr _ _ i hi=>exact tZ g j (ex rfl) h aO λd _ _=>DR.ptr id _ i hi
   |_=>simp at h
  |se t i D=>simp only at h;obtain⟨id,I,len,c,z,e1,e2⟩:=m;refine tZ g j (ex e2) h aO λd _ hr=>⟨id,I,len,c,z,?_,aj⟩;rw[Tr.jF _ _ (λe=>DT hr t (.inr ⟨_,_,rfl⟩) e.symm)];omega|ev d0=>cases d0 with
   |agg l=>
   simp only at h;obtain⟨d1,F,h⟩:=aE h;obtain⟨id,D,cells,e,e1,e2,e3,e4,e5⟩:=m;obtain⟨k,L,N⟩:=aiH F (by simpa[DV.flat]using e4);refine tZ g j (ex e1) h aO λd _ _=>⟨id,D+p.offset,cells,e,rfl,e2,?_,L,?_⟩;.have:p.offset+d1.flat.length<=l.length:=k;have w:D+l.length<=cells.length:=e3;omega
   .have T:bH K O l ((cells.drop D).take l.length):=e5;have:=(T.drop p.offset).take d1.flat.length;rw[List.drop_take,Et,List.take_take,Nat.min_eq_left ae,<-N]at this;exact this|_=>simp at h
  |_=>simp at h
 |_=>simp at h
theorem UA{b:Builtin}{c:Call}{a:aD}{v:AV}(f:o.op=.call c)(e:c.callee=.builtin b)(d:b≠.recover/\b≠.panic)(h:cE (AM.bu P tm) c.args.toList=J a)(g:lf P H b c.argTypes a=J (v,H')):dV P ak tm H o=J (.val v H'):=by simp_all[dV,Eh,A6,vU]
theorem aAj(Q:dD P K O aq)(g:HR K O ω H M.lb M.g)(k:ch K O ω H tm M.sl){c:Call}{F:aH}(A:o.op=.call c)(v:c.callee=.builtin .len)(E:c.args.toList=[F])(h:dM P aq fk gs cr later M o=J st'):eW P ak rec cf K O ω H cB M st' tm o:=by
 unfold dM at h;rw[A]at h;simp only[v,E]at h;obtain⟨sv,X,h⟩:=aE h;obtain⟨a,a1,a2,f⟩:=Oc (P:=P) Q g k X;have S:cE (AM.bu P tm) c.args.toList=J [a]:=by rw[E];show((AM.bu P tm F).bind λb=>(J []:ah aD).bind λt=>J (b::t))=_;simp_all
 have fin:∀(n:Nat),lf P H .len c.argTypes [a]=J (ix n,H)->aJ M o.dst (.dv (goN n) .no)=J st'->eW P ak rec cf K O ω H cB M st' tm o:=λn L N=>u6 g k (UA A v ⟨aO,aO⟩ S L) N (.int _ _);cases T:c.argTypes[0]?.bind P.underlying with|none=>simp_all|some u=>
 rw[T]at h;have RD:∀(e:al)(n:Nat),u=.slice e->nN a=J n->lf P H .len c.argTypes [a]=J (ix n,H):=by simp_all[lf]
 cases u with
 |array n e=>cases sv with|dv d ow=>exact fin n (by simp_all[lf]) h|_=>simp_all
 |string=>cases sv with
  |dv d ow=>cases d with|str s=>cases f;exact fin s.length (by simp_all[lf,ef]) h|_=>simp at h
  |_=>simp_all
 |slice e=>cases sv with
  |dv d ow=>obtain⟨n,z,h⟩:=aE h;grind[Mj]|hd n=>grind|sr s=>
  obtain⟨y,q,h⟩:=aE h;unfold nB at q;split at q;.rename_i l e' n e2 R;obtain rfl:=br q;obtain⟨b0,r,_,G⟩:=k s _ R;have f:tm.get s=J a:=f;rw[f]at r;obtain rfl:=br r;exact fin l.length (RD e _ rfl (Mj (K:=sQ H) (O:=O) (x:=.ay l e' n) rfl (cJ.look g (p:=.sl s) (o:=.ex e2) G))) h
  simp_all|gr id D=>obtain⟨d,hd,h⟩:=aE h;obtain⟨n,z,pD⟩:=aE h;obtain⟨i,m,root,fl,e2,g1,g2,g3⟩:=f;unfold EW at hd;cases B:M.g.get id with|none=>simp_all|some Y=>rw[B]at hd;cases Y with
   |box b=>
   simp only at hd;have uC:M.at (.g id)=J b:=by unfold St.at;simp only[B]
   obtain⟨j,j1,U,W⟩:=g.at uC;have w:=W id rfl;rw[g1]at w;obtain rfl:=br w;obtain⟨m',fl',e',k1,k2,k3,k4,k5,k6⟩:=U;rw[g2]at k1;obtain⟨rfl,_⟩:=bQ.cells.inj (br k1);split at hd;.rename_i I e3 uE jf;obtain rfl:=br hd;exact fin n (RD e _ rfl (Mj z (cJ.look g (k6 D I a uE g3).2))) pD
   .simp at hd|_=>simp at hd
  |_=>simp at h
 |_=>cases sv<;>simp at h
theorem aD3(g:dD P K O aq)(e:HR K O ω H M.lb M.g)(s:ch K O ω H tm M.sl){c x:aH}(k:o.op=.pick c x y)(n:jN M x)(l:jN M y)(h:dM P aq fk gs cr later M o=J st'):eW P ak rec cf K O ω H cB M st' tm o:=by
 unfold dM at h;rw[k]at h;simp only at h;split at h;.rename_i b j;obtain⟨p,m,_,c3⟩:=qm g e s j;cases c3;cases b with|true=>obtain⟨v,f,h⟩:=aE h;obtain⟨a,i,_,d⟩:=sU g s n f;refine u6 e s ?_ h d;simp_all[dV,CD,ff]|false=>obtain⟨v,f,h⟩:=aE h;obtain⟨a,i,_,d⟩:=sU g s l f;refine u6 e s ?_ h d;simp_all[dV,CD,ff]
 grind
theorem agY{l:al}{x:aH}{k:gZ}{i d a e n:Nat}{c:ah Nat}(b:o.op=.indexAddr t x y)(g:AM.bu P tm y=J (.int k (.ofNat i)))(f:AM.bu P tm x=J (.sl d D a c e))(u:P.underlying t=J (.slice l))(h:bC P l=J n)(j:n=e)(m:i<a):dV P ak tm H o=J (.val (.ptr d (D+i*e)) H):=by unfold dV;rw[b];simp only[CA];have:(cM i a&&aw n e)=V:=aP;simp only[g,f,u,h,cU,this,aL,ff,iE];rfl
theorem agX{e:al}{x:aH}{k:gZ}{i d l n:Nat}(a:o.op=.indexAddr t x y)(c:AM.bu P tm y=J (.int k (.ofNat i)))(b:AM.bu P tm x=J (.ptr d D))(u:P.underlying t=J (.array l e))(h:bC P e=J n)(f:i<l):dV P ak tm H o=J (.val (.ptr d (D+i*n)) H):=by unfold dV;rw[a];simp only[CA];have:cM i l=V:=aP;simp only[c,b,u,h,cU,this,aL,ff,iE];rfl
theorem axN(S:dD P K O aq)(q:HR K O ω H M.lb M.g)(g:ch K O ω H tm M.sl){x:aH}(G:o.op=.indexAddr t x y)(h:dM P aq fk gs cr later M o=J st'):eW P ak rec cf K O ω H cB M st' tm o:=by
 unfold dM at h;rw[G]at h;simp only at h;split at h;.rename_i kk i hi;obtain⟨iv,N,_,i3⟩:=qm (P:=P) S q g hi;cases i3;cases L:P.underlying t with|none=>grind|some u=>rw[L]at h;cases T:cP aq M x with|none=>grind|some sv=>rw[T]at h;have jR:=qV (P:=P) S g T;obtain⟨a,w,a2,A⟩:=Oc (P:=P) S q g T;cases u with
 |slice f=>cases sv with
  |dv d ow=>cases d with
   |ay l e b=>simp only at h;obtain⟨n,v,h⟩:=aE h;cases p:(aw n b&&aw e f)with|false=>grind|true=>rw[p]at h;simp only[iC,bN,mw,aL]at p h;obtain⟨cA,_⟩:=p;cases A with|ay _ _ _ id D c cells q1 q2 q3 q4 q5 q6=>
     have E:i<l.length->dV P ak tm H o=J (.val (.ptr id (D+i*b)) H):=λm=>agY G N w L v cA m;have aMg:((l[i]?).bind λd=>aJ M o.dst (.ev d))=J st'->DR K O (.ay l e b) (.sl id D l.length c b)->eW P ak rec cf K O ω H cB M st' tm o:=by intro h iH;obtain⟨d,hd,h⟩:=aE h;have m:=(List.getElem?_eq_some_iff.1 hd).1;refine tZ q g (E m) h aO λ_ _ _=>?_;cases iH with|ay _ _ _ _ _ _ Q w1 w2 w3 w4 w5 w6=>
      have hm:i*b+b<=l.length*b:=by have:(i+1)*b<=l.length*b:=ml _ m;grind
      refine⟨id,D+i*b,Q,e,rfl,w1,aj,(w5 i d hd).2,⟨aj,λj z a hz ha=>?_⟩⟩;grind
     have aOe:∀s,x=.tmp s->(bif cM i l.length then aJ M o.dst (.se s i 0)else Z)=J st'->eW P ak rec cf K O ω H cB M st' tm o:=by
      intro s X h;rw[fB]at h;by_cases m:i<l.length
      . simp only[m,eu,aL]at h;obtain⟨a',F,h2,R⟩:=jR;rw[w]at F;cases F;rcases R with⟨s',e1,_,dS,_⟩|⟨Vy,_⟩;.rw[X]at e1;obtain rfl:=Operand.tmp.inj e1;refine tZ q g (E m) h aO λd _ hr=>⟨id,D,l.length,c,b,?_,rfl⟩;rw[Tr.jF _ _ (λe=>DT hr s (.inr ⟨_,_,rfl⟩) e.symm)];omega
        grind
      grind
     have plain:(∀e',ow≠.ex e')\/(∀s,x≠.tmp s)->DR K O (.ay l e b) (.sl id D l.length c b):=by
      intro I;obtain⟨a',F,h2,R⟩:=jR;rw[w]at F;cases F;rcases R with⟨s,X,_,_,B⟩|⟨_,⟨d,e1,B⟩|⟨_,_,_,_,e1,B⟩|⟨_,_,_,_,e1,_⟩⟩
      . rcases I with I|I;.cases ow with|no=>exact B|any=>have:=B.1;grind|full e'=>exact B.1|ty e'=>exact B.1|ex e'=>grind
        grind
      all_goals grind
     grind|_=>simp at h
  |sr s=>
   simp only at h;obtain⟨y2,U,h⟩:=aE h;obtain⟨n,v,W⟩:=aE h;unfold nB at U;split at U;.rename_i l e n2 e2 hl;cases U;cases p:(aw n n2&&(aw e f&&cM i l.length))with|false=>simp_all|true=>
     rw[p]at W;simp only[iC,bN,fB,mw,aL]at p W;obtain⟨b0,Y,_,b3⟩:=g s _ hl;have A:tm.get s=J a:=A;rw[A]at Y;cases Y;rcases b3 with⟨x1,_⟩|⟨r,_,b4⟩;.simp_all
     .obtain⟨l',rL,tO,dT,c',cells,fl,g1,g2,_⟩:=b4.ex;obtain⟨rfl,rfl,rfl⟩:=DV.ay.inj g1;subst g2;refine tZ q g (agY G N w L v p.1 p.2.2) W aO λd _ hr=>⟨tO,dT,l.length,c',n2,?_,rfl⟩;grind[Tr.jF,DT]
   grind|_=>simp_all
 |array len f=>cases sv with
  |ev d0=>cases d0 with
   |agg l=>
   simp only at h;obtain⟨n,v,h⟩:=aE h;rw[fB]at h;by_cases m:i<len
   . simp only[m,eu,aL]at h;obtain⟨d1,I,h⟩:=aE h;obtain⟨id,D,cells,e,e1,e2,e3,e4,e5⟩:=A;subst e1;obtain⟨k,uK,w9⟩:=aiH I (by grind[DV.flat]);refine tZ q g (agX G N w L v m) h aO λd _ _=>⟨id,D+i*n,cells,e,rfl,e2,?_,uK,?_⟩;.have:i*n+d1.flat.length<=l.length:=k;have e3':D+l.length<=cells.length:=e3;omega
     .have T3:bH K O l ((cells.drop D).take l.length):=e5;have:=(T3.drop (i*n)).take d1.flat.length;grind[List.drop_take,Et]
   simp_all|_=>simp at h
  |lp s D=>
   simp only at h;obtain⟨n,v,h⟩:=aE h;rw[fB]at h;by_cases m:i<len;.simp only[m,eu,aL]at h;obtain⟨bx,hb,h⟩:=aE h;obtain⟨j,hj,_⟩:=q.box s bx hb;have e1:=A j V hj;subst e1;exact tZ q g (agX G N w L v m) h aO λd _ _=>λi' c' ct=>aP
   simp_all|dv d ow=>simp_all|_=>simp_all
 |_=>cases sv<;>simp at h
 grind
theorem aKL(g:dD P K O aq)(f:HR K O ω H M.lb M.g)(s:ch K O ω H tm M.sl){l:List aH}{x y:DV}(h:cE (bp aq M) l=J [x,y]):∃a b,cE (AM.bu P tm) l=J [a,b]/\DR (sQ H) O x a/\DR (sQ H) O y b:=by cases l with|nil=>grind[cE]|cons p l=>have c:((bp aq M p).bind λb=>(cE (bp aq M) l).bind λt=>J (b::t))=J [x,y]:=h;obtain⟨d,hd,c⟩:=aE c;obtain⟨t,k,c⟩:=aE c;obtain⟨rfl,rfl⟩:=List.cons.inj (br c);cases l with|nil=>grind[cE]|cons q l=>have G:((bp aq M q).bind λb=>(cE (bp aq M) l).bind λt=>J (b::t))=J [y]:=k;obtain⟨d2,n,G⟩:=aE G;obtain⟨t2,B,G⟩:=aE G;obtain⟨rfl,rfl⟩:=List.cons.inj (br G);cases l with|nil=>obtain⟨a,m,_,i⟩:=qm (P:=P) g f s hd;obtain⟨b,o,_,j⟩:=qm (P:=P) g f s n;refine⟨a,b,?_,i,j⟩;show((AM.bu P tm p).bind λb=>(((AM.bu P tm q).bind λb=>(J []:ah aD).bind λt=>J (b::t))).bind λt=>J (b::t))=_;simp_all|cons r l=>have e:((bp aq M r).bind λb=>(cE (bp aq M) l).bind λt=>J (b::t))=J []:=B;obtain⟨_,_,e⟩:=aE e;obtain⟨_,_,e⟩:=aE e;simp_all
theorem aBc(g:dD P K O aq)(b:HR K O ω H M.lb M.g)(s:ch K O ω H tm M.sl){c:Call}(d:o.op=.call c)(a:c.callee=.builtin .max)(h:dM P aq fk gs cr later M o=J st'):eW P ak rec cf K O ω H cB M st' tm o:=by
 unfold dM at h;rw[d]at h;simp only[a]at h;obtain⟨l,e,h⟩:=aE h;split at h;.obtain⟨x,y,m,f,i⟩:=aKL g b s e;cases f;cases i;refine u6 b s (UA d a ⟨aO,aO⟩ m ?_) h (.int _ _);rfl
 grind
theorem QL{x:aH}{i:Nat}(a:o.op=.nilCheck x)(h:AM.bu P tm x=J (.ptr i D)):dV P ak tm H o=J (.val (.ptr i D) H):=by simp_all[dV,Em,ff]
theorem aBN(n:dD P K O aq)(b:HR K O ω H M.lb M.g)(j:ch K O ω H tm M.sl){x:aH}(g:o.op=.nilCheck x)(h:dM P aq fk gs cr later M o=J st'):eW P ak rec cf K O ω H cB M st' tm o:=by unfold dM at h;rw[g]at h;obtain⟨sv,y,h⟩:=aE h;obtain⟨a,k,q,f⟩:=Oc n b j y;cases sv with
 |lp s D=>obtain⟨l,m,h⟩:=aE h;obtain⟨i,hi,_⟩:=b.box s l m;have e:=f i _ hi;subst e;exact tZ b j (QL g k) h aO λd _ _=>f|ev d=>obtain⟨id,D,cells,e,e1,e2⟩:=f;subst e1;exact tZ b j (QL g k) h aO λ_ _ _=>⟨id,_,_,e,rfl,e2⟩|se s i D=>obtain⟨id,p,len,c,z,e1,e2⟩:=f;subst e2;refine tZ b j (QL g k) h aO λd _ hr=>⟨id,p,len,c,_,?_,rfl⟩;rw[Tr.jF _ _ (λe=>DT hr s aP e.symm)];omega|dv d0 ow=>cases d0 with
  |ptr id D=>cases f with|ptr _ _ i hi=>exact tZ b j (QL g k) h aO λd _ _=>DR.ptr id _ i hi
  |_=>simp at h
 |_=>grind
theorem Wx(a:HR K O ω H lb g):K H.next=Z/\HR (K.add H.next (m,e)) O ω (H.cO m fl e) lb g:=by
 have o:K H.next=Z:=by
   rcases d:K _ with _|x;.rfl
   obtain⟨r,fl',g1,_⟩:=a.di _ _ _ d;have:=a.inv.get _ _ g1;omega
 have X:bl K (K.add _ (m,e)):=aY.CH o;have d:bM (λ_=>False) H (H.cO m fl e):=lx H _ _;have t:ba (H.cO m fl e):=xY a.inv _ aP;have S:(H.cO m fl e).get _=J _:=mS H _;refine⟨o,t,?_,a.inj,?_,?_,?_,?_,a.oQ,NN a.inv a.iJ _ aP⟩
 . intro id cells e' h;unfold aY.add at h;by_cases x:id=H.next;.rw[if_pos x]at h;obtain⟨rfl,rfl⟩:=j9 (br h);subst x;refine⟨_,fl,S,?_⟩;show(H.bh _).1<=H.next;rw[BS a.inv ae];omega
   .rw[if_neg x]at h;obtain⟨r,fl',g1,g2⟩:=a.di id _ e' h;exact⟨r,_,by rw[d.get id (a.inv.get _ _ g1) (λh=>h)];omega,g2⟩
 . intro p r id x f j;have hr:=a.cq _ _ _ f;unfold aY.add at j;by_cases y:id=H.next;.grind[mF]
   . rw[if_neg y]at j;obtain⟨cells,e'⟩:=x;obtain⟨z,fl',g1,_⟩:=a.di id _ e' j;have hid:=a.inv.get _ _ g1;have:rootOf (H.cO m fl e) id=rootOf H id:=by unfold rootOf;rw[d.get id hid (λh=>h)]
     rw[this];exact a.clean p r id _ f j
 .intro p r b f;have:=a.cq _ _ _ f;have A:(H.cO m fl e).next=H.next+1:=rfl;omega
 .intro s b u;obtain⟨i,l,n⟩:=a.box s b u;exact⟨i,l,n.keep a.inv d X (aU.refl _) id λD r c x=>⟨x,id⟩⟩
 .intro k w v;obtain⟨i,l,n,q⟩:=a.kj k w v;exact⟨i,l,n,q.keep a.inv d X (aU.refl _) id λD r c x=>⟨x,id⟩⟩
theorem alO{x:DV}(d:HR K O ω H M.lb M.g)(u:ch K O ω H tm M.sl)(h:aJ M dst (.dv x .no)=J st')(v:DR (K.add H.next (m,e)) O x a):gY K O ω H st' (iz tm dst a) (H.cO m fl e):=by
 obtain⟨q,o⟩:=Wx d;have l:bl K (K.add _ (m,e)):=aY.CH q;have P:ch _ O ω (H.cO m fl e) tm _:=λt sv n=>by obtain⟨f,c,g,i⟩:=u t sv n;exact⟨f,c,g,i.keep d.inv (lx H _ _) l (aU.refl _) (λ_ _ _ _ h=>⟨h,id⟩) aP aP aP⟩
 exact gY.trans d.inv l (λj x k=>by obtain⟨cells,t⟩:=x;obtain⟨r,fl',c,_⟩:=o.di j _ t k;refine⟨o.inv.get _ _ c,?_⟩;grind[aY.add,mF,mS]) (aU.refl _) (lx H _ _) (λp r b s=>.inl ⟨p,b,s⟩) (BF o P h v)
theorem ano{s:an}{c:Nat}(K:aY)(l:bY):DR (K.add c (s.map λb=>AV.int .u8 (.ofNat b),e)) l (.ay (s.map λb=>.int .u8 (.ofNat b)) e 1) (.sl c 0 (s.map λb=>DV.int .u8 (.ofNat b)).length Z 1):=by
 refine .ay _ e 1 c 0 _ (s.map λb=>AV.int .u8 (.ofNat b)) (by simp[aY.add]) ae aO aP ?_ ?_;.intro i x h;rw[lE]at h;obtain⟨b,_,rfl⟩:=Option.map_eq_some_iff.mp h;exact⟨rfl,λy g=>by simp[DV.flat]at g;subst g;rfl⟩
 . intro i x j d a h hd f;rw[lE]at h;obtain⟨b,k,rfl⟩:=Option.map_eq_some_iff.mp h;rcases j with _|j;.cases hd;rw[show 0+i*1+0=i by omega,lE,k]at f;cases f;exact .int _ _
   grind[DV.flat]
theorem aoC(j:dD P K O aq)(c:HR K O ω H M.lb M.g)(f:ch K O ω H tm M.sl){r d:al}{x:aH}(i:o.op=.convert r d x)(h:dM P aq fk gs cr later M o=J st'):eW P ak rec cf K O ω H cB M st' tm o:=by
 unfold dM at h;rw[i]at h;simp only at h;obtain⟨v,m,h⟩:=aE h;obtain⟨a,p,_,g⟩:=qm (P:=P) j c f m;split at h;.rename_i u k t n l hd;cases g;refine u6 c f ?_ h (.int _ _);simp_all[dV,GR,ff]
 . rename_i e s l hd;cases g;split at h;.rename_i q;obtain⟨f1,f2,f3,_⟩:=qq h;refine⟨.sl H.next 0 (s.map λb=>DV.int .u8 (.ofNat b)).length Z 1,H.cO (s.map λb=>AV.int .u8 (.ofNat b)) .ro e,?_,f1,alO c f h (ano K O),f2,f3,Mm _ _ _ _⟩;unfold fP dV;rw[i];simp only[GR];grind[Ce,ef]
   simp_all
 simp_all
theorem axP(g:dD P K O aq)(c:HR K O ω H M.lb M.g)(d:ch K O ω H tm M.sl){x:aH}(f:o.op=.index t x y)(h:dM P aq fk gs cr later M o=J st'):eW P ak rec cf K O ω H cB M st' tm o:=by
 unfold dM at h;rw[f]at h;simp only at h;split at h
 . rename_i p i hi;obtain⟨v,n,_,k⟩:=qm g c d hi;cases k;split at h;.rename_i s u j;obtain⟨b,m,h⟩:=aE h;obtain⟨a,l,_,e⟩:=qm g c d j;cases e;refine u6 c d ?_ h (.int _ _);simp_all[dV,Ej,xw,ff]
   grind
 grind
theorem aA3(a:HR K O ω H M.lb M.g)(A:ch K O ω H tm M.sl)(z:o.op=.makeMap t Z)(h:dM P aq fk gs cr later M o=J st'):eW P ak rec cf K O ω H cB M st' tm o:=by
 unfold dM at h;rw[z]at h;obtain⟨f1,f2,f3,_⟩:=qq h;have S:(H.alloc (.map [] 0)).get H.next=J (.map [] 0):=mS H _;have m:ba (H.alloc (.map [] 0)):=xY a.inv _ (λl r fl e' g=>aj);obtain⟨d,ω',f,n,s,u,F,v⟩:=Ww (y:=.map [] 0) a m (by grind[rootOf]) λd ω' B D=>⟨[],S,rfl,λk x y e=>aj⟩;have E:ch K _ _ (H.alloc (.map [] 0)) tm _:=λt sv w=>by obtain⟨i,g1,g2,g3⟩:=A t sv w;refine⟨i,g1,g2,g3.keep a.inv (lx H _ _) (bl.refl _) f (λp r b c x=>⟨u p r b ?_ x,id⟩) aP aP aP⟩;rcases c with rfl|⟨j,rfl⟩<;>trivial
 refine⟨.map H.next,H.alloc (.map [] 0),?_,f1,?_,f2,f3,Mm _ _ _ _⟩;.simp_all[fP,dV,GW]
 .exact gY.trans a.inv (bl.refl _) (a.gN (lx H _ (λ_=>False))) f (lx H _ _) (λp r b c=>by
 rcases v p r b c with⟨q,h⟩|rfl;.exact .inl ⟨q,b,h⟩
 omega) (BF (M:={M with g:=M.g.alloc _}) s E h (DR.map _ _ n))
end
section
variable{P:aM}{K:aY}{O:bY}
theorem aeN{k:DV}(p:DR K O k a):∀(c:List pf)(s:List ew)(i:Nat)(r:ah (Nat×pf)),c.length=s.length->(∀(j:Nat)(x:pf)(y:ew),c[j]?=J x->s[j]?=J y->wF K O x y)->findD P t k c i=J r->(r=Z/\oM P t a s i=J Z)\/∃j x y,r=J (j,x)/\oM P t a s i=J (J (j,y))/\wF K O x y/\i<=j/\c[j-i]?=J x/\s[j-i]?=J y:=by intro c;induction c with
 |nil=>intro s i r q _ h;cases s with|nil=>exact .inl ⟨(br h).symm,rfl⟩|cons f s=>grind
 |cons e c u=>intro s i r q hr h;cases s with|nil=>grind|cons f s=>have d:((kN P 50 t k e.1).bind λb=>bif b then J (J (i,e))else findD P t k c (i+1))=J r:=h;obtain⟨b,m,d⟩:=aE d;have n:=hr 0 e f rfl rfl;have l:=T9 (P:=P) 50 t _ _ b _ _ m p n.1;have o:oM P t a (f::s) i=(mQ P 50 t a f.1).bind λb=>bif b then J (J (i,f))else oM P t a s (eU i):=rfl;rw[o,l];cases b with|true=>grind|false=>
 rcases u s (i+1) r aj (λj x y a b=>hr (j+1) x y a b) d with⟨rfl,g⟩|⟨j,x,y,rfl,g1,g2,g3,g4,g5⟩;.grind
 .refine .inr ⟨j,x,y,rfl,g1,g2,ae,?_,?_⟩;all_goals grind
end
section
variable{P:aM}{ak:bZ}{rec:Rec}{cf:cj}{K K':aY}{O ψ:bY}{ω ω':aG}{H H':Heap}{S:Nat->Prop}
variable{aq:Nat->ah aA}{gs cr:an}{fk:bS->Nat}{later:List aC}{cB M st':St}{tm:Tr AV}{o:aC}
theorem ahc{k:DV}(h:vV P t k=V)(b:DR K O k a):ql P t a=V:=by
 unfold vV at h;split at h;.cases b;show yL P _ t _=V;simp_all[yL]
 .cases b;show yL P _ t _=V;simp_all[yL]
 .cases b;show yL P _ t _=V;simp_all[yL]
 grind
theorem aAS(u:dD P K O aq)(d:HR K O ω H M.lb M.g)(s:ch K O ω H tm M.sl){x k:aH}(v:o.op=.lookup t x k C)(h:dM P aq fk gs cr later M o=J st'):eW P ak rec cf K O ω H cB M st' tm o:=by
 have n:=d.sub;unfold dM at h;rw[v]at h;simp only at h;split at h;.rename_i w G r R S;obtain⟨a,A,_,B⟩:=qm (P:=P) u d s S;cases B with|map _ i hi=>
  split at h
  . rename_i F c L;obtain⟨U,I,h⟩:=aE h;obtain⟨b,E,_,m⟩:=qm (P:=P) u d s I;obtain⟨T,q1,_,q2⟩:=d.kj _ _ L;obtain rfl:i=T:=br (hi.symm.trans q1);obtain⟨l,W,X,p⟩:=q2;have Q:H.jT i=J (l,c):=by unfold Heap.jT;rw[W]
    by_cases D:vV P w U=V
    . simp only[D,aL]at h;obtain⟨rr,Y,h⟩:=aE h;have vK:=ahc D m;have q:dV P ak tm H o=(oM P w b l 0).bind λ|some (_,e)=>ff H (J e.2.1)|none=>(zB P G).bind λz=>ff H (J z):=by unfold dV;rw[v];simp only[CB];simp only[R,A,Q,E,vK,iE,cU,aL]<;>rfl
      rcases aeN m F l 0 rr X (λj x y e1 e2=>⟨(p j x y e1 e2).1.mono n (aU.refl _),(p j x y e1 e2).2.1.mono n (aU.refl _),(p j x y e1 e2).2.2⟩) Y with⟨rfl,g⟩|⟨j,x,y,rfl,g1,_,_,g4,g5⟩;.simp only at h;obtain⟨z,f,h⟩:=aE h;unfold fT at f;obtain⟨az,N,f⟩:=aE f;exact u6 d s (by rw[q,g];simp only[cU,N,ff,iE]) h (Hp f)
      .exact u6 d s (by rw[q,g1];simp only[cU,ff,iE]) h (p _ x y g4 g5).2.1
    .simp[D]at h
  .simp at h
 .simp at h
end
section
variable{P:aM}{K K':aY}{O ψ:bY}{ω ω':aG}{H H':Heap}{S:Nat->Prop}{tm:Tr AV}{M:St}
theorem Rb(b:ba H){i:Nat}(g:H.get i=J (.cells m r fl e))(p:(H.bh r).2=i):ba (H.dG i r (.cells m' r fl' e')):=by
 have hid:=b.get i _ g;have q:=b.root _ _ _ _ _ g;have u:((H.dG i r (.cells m' r fl' e')).bh r).2=i:=by grind[Lc,Pe]
 refine⟨λj o h=>?_,λj l a n e1 h=>?_,λj l a n e1 h=>?_,λa f h=>?_,by rw[Ea,xr];exact b.bn⟩
 . rw[xr];by_cases c:j=i;.omega
   .rw[nF H r _ c]at h;exact b.get j o h
 . by_cases c:j=i;.grind[oO]
   .rw[nF H r _ c]at h;obtain⟨s,t⟩:=b.root j l a _ e1 h;grind[HU]
 . have back:∀a,(∃k fl' e',H.get a=J (.cells k a fl' e'))->∃l2 A e2,(H.dG i r (.cells m' r fl' e')).get a=J (.cells l2 a A e2):=by grind[oO,nF]
   by_cases c:j=i;.subst c;rw[oO]at h;obtain⟨_,rfl,_,_⟩:=bQ.cells.inj (br h);exact back r (b.oy _ _ _ _ _ g)
   .rw[nF H r _ c]at h;exact back a (b.oy j l a _ e1 h)
 . rw[xr];unfold Heap.dG at h;rw[bN]at h;by_cases d:r=i;.simp only[d,eu,aL]at h;exact b.dh a f h
   . simp only[d,mO,bg]at h;by_cases e1:a=r;.grind[Tr.lL]
     .rw[Tr.jF _ _ (Ne.symm e1)]at h;exact b.dh a f h
theorem JJ(u:po H){i:Nat}(g:H.get i=J (.cells m r fl e)):po (H.dG i r (.cells m' r fl' e)):=λj l a n e1 h=>by
 have back:∀{a e1},(∃c fl',H.get a=J (.cells c a fl' e1))->∃l2 A,(H.dG i r (.cells m' r fl' e)).get a=J (.cells l2 a A e1):=by grind[oO,nF]
 by_cases b:j=i;.subst b;rw[oO]at h;obtain⟨_,rfl,_,rfl⟩:=bQ.cells.inj (br h);exact back (u _ _ _ _ _ g)
 .rw[nF H r _ b]at h;exact back (u j l a _ e1 h)
theorem Xd{i:Nat}(h:H.get i=J (.cells m r fl e))(j:Nat):rootOf (H.dG i r (.cells m' r fl' e')) j=rootOf H j:=by grind[oO,rootOf,nF]
theorem Ck{i:Nat}(g:H.get i=J (.cells m r fl e)):bM (λx=>x=r) H (H.dG i r (.cells m' r fl' e'))where
 next:=by rw[xr];exact bo _
 get:=λj _ h=>nF H r _ (λx=>h (by rw[x,mF g]))
 dh:=λa _ h=>HU H i r _ h
 root:=λj _=>Xd g j
theorem bM.zo(i:ba H){T:Nat->Prop}(k:bM S H H')(h:∀r,r<H.next->S r->T r):bM T H H' where
 next:=k.next
 get:=λid hid n=>k.get id hid λx=>n (h _ (qZ i hid) x)
 dh:=λr hr n=>k.dh r hr λx=>n (h r hr x)
 root:=k.root
theorem Xf(a:HR K O ω H lb g){i:Nat}(o:ω p=J (r,V))(l:H.get i=J (.cells m r fl e))(k:(H.bh r).2=i){src:Pk->ah Pk}(s:∀p q y,src p=J y->src q=J y->p=q):ba (H.dG i r (.cells m' r fl' e'))/\(∀j cells e1,K j=J (cells,e1)->∃root n,(H.dG i r (.cells m' r fl' e')).get j=J (.cells cells root n e1)/\((H.dG i r (.cells m' r fl' e')).bh root).1<=j)/\(∀p q r1 b c,ω.of src p=J (r1,b)->ω.of src q=J (r1,c)->p=q)/\(∀p r1 j x,ω.of src p=J (r1,V)->K j=J x->rootOf (H.dG i r (.cells m' r fl' e')) j≠r1)/\∀p r1 b,ω.of src p=J (r1,b)->r1<(H.dG i r (.cells m' r fl' e')).next:=by obtain⟨f,c3,t⟩:=WR a s;refine⟨Rb a.inv l k,λj cells e1 d=>?_,f,λp r1 j x u v=>by grind[Xd],λp r1 b h=>by grind[xr]⟩;obtain⟨root,n,g1,g2⟩:=a.di j _ e1 d;have A:=a.clean p r j _ o d;grind[mF,nF,HU]
theorem Ct{l:cT}(u:ba H)(z:ch K O ω H tm l)(k:bM S H H')(q:bl K K')(c:aU O ψ)(y:∀p r b,p.slot->ω p=J (r,b)->ω' p=J (r,b)/\¬S r)(A:∀s i b,ω' (.lb s)=J (i,b)->ω (.lb s)=J (i,b)):ch K' ψ ω' H' tm (cV l):=by
 intro t sv h;unfold cV at h;rw[qT l _]at h;rcases f:look l t with _|o;.grind
 rw[f]at h;cases h;obtain⟨d,g,m,n⟩:=z t _ f;have gen:(∀id D,o≠.gr id _)->∃a,tm.get t=J a/\(o≠.dd->a≠.top)/\mL K' ψ _ H' tm t _ a:=λv=>⟨d,g,m,n.keep u k q c (λp r b w=>y p r b (by rcases w with rfl|⟨j,rfl⟩<;>trivial)) aP aP (λid D i e _=>absurd e (v id D))⟩;cases o with|gr id D=>exact⟨d,g,λx=>absurd rfl x,trivial⟩|_=>exact gen aP
theorem Z7{l:cT}{c:Nat}(v:ba H)(A:ch K O ω H tm l)(k:bM S H H')(u:bl K K')(d:aU O ψ)(z:∀p r b,p.slot->(∀j,p≠.tp c j)->p≠.sl c->ω p=J (r,b)->ω' p=J (r,b)/\¬S r)(E:∀s i b,ω' (.lb s)=J (i,b)->ω (.lb s)=J (i,b))(B:tm.get c=J a)(F:sv≠.dd->a≠.top)(I:mL K' ψ ω' H' tm c sv a):ch K' ψ ω' H' tm (put (cV l) c sv):=by
 intro t G h;rw[mC]at h;by_cases e:t=c;.grind
 . rw[if_neg e]at h;unfold cV at h;rw[qT l _]at h;rcases g:look l t with _|o;.grind
   rw[g]at h;cases h;obtain⟨f,m,n,q⟩:=A t _ g;have gen:(∀id D,o≠.gr id _)->∃a,tm.get t=J a/\(o≠.dd->a≠.top)/\mL K' ψ _ H' tm t _ a:=λw=>⟨f,m,n,q.keep v k u d (λp r b y=>z p r b (by rcases y with rfl|⟨j,rfl⟩<;>trivial) aj aj) aP aP (λid D i e _=>absurd e (w id D))⟩;cases o with|gr id D=>exact⟨f,m,λx=>absurd rfl x,trivial⟩|_=>exact gen aP
theorem AV.anW(h:a.bj=V)(t:a≠.top):a.cells=J [a]:=by cases a<;>first|rfl|exact absurd rfl t|grind[AV.bj]
theorem aaa(l:aA)(o:Nat)(v:aA):pR l o v=gG l o v:=by rw[D3];rfl
end
section
variable{P:aM}{ak:bZ}{rec:Rec}{cf:cj}{K K':aY}{O ψ:bY}{ω ω':aG}{H H':Heap}{S:Nat->Prop}
variable{aq:Nat->ah aA}{gs cr:an}{fk:bS->Nat}{later:List aC}{cB M st':St}{tm:Tr AV}{o:aC}
theorem cJ.cells{d:DV}(h:cJ K O ω H p d a ow):∃v,a.cells=J v/\d.flat.length=v.length/\(∀y,y∈d.flat->y.bj=V)/\((d.flat=[d]/\v=[a]/\d.bj=V)\/(d.bj=C/\bH K O d.flat v)):=by
 have b:DR K O d a->∃v,a.cells=J v/\d.flat.length=v.length/\(∀y,y∈d.flat->y.bj=V)/\((d.flat=[d]/\v=[a]/\d.bj=V)\/(d.bj=C/\bH K O d.flat v)):=by intro h;obtain⟨v,g,f,i⟩:=h.cells;refine⟨v,g,f.1,i,?_⟩;cases hd:d.bj with|true=>refine .inl ⟨by cases d<;>first|rfl|simp[DV.bj]at hd,?_,rfl⟩;rw[AV.anW (h.bj hd) h.qU]at g;exact(br g).symm|false=>exact .inr ⟨rfl,f⟩
 cases ow with|no=>exact b h|any=>obtain⟨rfl,rfl⟩:=h;exact b .nl|full e=>exact b h.1|ty e=>exact b h.1|ex e=>
 rcases h with⟨rfl,rfl⟩|⟨r,_,f⟩;.exact b .nl
 .obtain⟨l,s,id,D,c,cells,fl,rfl,rfl,_⟩:=f.ex;exact⟨_,rfl,rfl,by simp[DV.flat,DV.bj],.inl ⟨rfl,rfl,rfl⟩⟩
open Classical in def sq(x:Loc)(o n:Nat)(l:ah Nat):Pk->ah Pk:=λp=>if p=x.pk o/\0<n then l.map .sl else if∃j,o<=j/\j<o+n/\p=x.pk j then Z else if∃t,l=J t/\(p=.sl t\/∃j,p=.tp t j)then Z else J p
theorem aIc{n:Nat}:∀p q y,sq x D n lv p=J y->sq x D n lv q=J y->p=q:=by
 intro p q y a h;have k:∀(p q:Pk),(p=x.pk D/\0<n)->lv.map Pk.sl=J y->sq x D n lv q=J y->p=q:=by
   intro p q a e h;unfold sq at h;by_cases b:q=x.pk D/\0<n;.grind
   . rw[if_neg b]at h;split at h;.grind
     . split at h;.grind
       .rename_i d;cases h;exfalso;cases lv<;>simp_all
 by_cases b:p=x.pk D/\0<n;.have F:=a;unfold sq at F;rw[if_pos b]at F;exact k p q b F h
 . by_cases c:q=x.pk D/\0<n;.have A:=h;unfold sq at A;rw[if_pos c]at A;exact(k q p c A a).symm
   . unfold sq at a h;rw[if_neg b]at a;rw[if_neg c]at h;split at a;.grind
     . split at a;.grind
       .split at h;all_goals simp_all
theorem Jy{n:Nat}(h:∀j,D<=j->j<D+n->p≠x.pk j)(a:∀t,lv=J t->p≠.sl t/\∀j,p≠.tp t j):sq x D n lv p=J p:=by grind[sq]
theorem aId{n:Nat}(h:0<n):sq x D n lv (x.pk D)=lv.map .sl:=by grind[sq]
theorem aAL(l:List (Nat×aX)){n k:Nat}(h:k<D\/D+n<=k):look (dB l D n) k=look l k:=by refine ahC l (λk=>cM k _||bV _ k) ?_;simp_all
theorem ahB(l:List (Nat×aX)){n k:Nat}(h:D<=k)(a:k<D+n):look (dB l D n) k=Z:=by induction l<;>grind[dB,look,fB,du,bN]
theorem ajU{n i:Nat}{v:aD}(d:bC P t=J n)(f:a.cells=J v)(l:v.length=n)(g:H.get i=J (.cells m r fl e))(w:fl.wr=V)(h:(H.bh r).1<=i)(b:(H.bh r).2=i)(c:D+n<=m.length):AM.storeVar P H t i D a=J (H.dG i r (.cells (gG m D v) r fl e)):=by grind[AM.storeVar,ef,bN,Heap.store,du]
theorem aiC{d:DV}(h:d.bj=V):qn D d ow=(match ow with|.ty e=>[(D,aX.ty e)]|.ex e=>[(D,.ex e)]|_=>[]):=by split<;>simp_all[qn]
theorem aiB{d:DV}(h:d.bj=C):qn D d ow=[]:=by grind[qn]
theorem aJL{b U:LB}{i:Nat}{d:DV}{pv:Pk}(g:HR K O ω H M.lb M.g)(f:M.at x=J b)(W:ω x.top=J (i,V))(lh:pW K O ω H x.pk b i)(G:zh P t b D d ow=J U)(w:cJ K O ω H pv d a ow)(qM:(∃c,lv=J c/\pv=.sl c)\/(lv=Z/\(ow=.no\/ow=.any))):∃H' n,AM.storeVar P H t i D a=J H'/\bM (λr=>r=i) H H'/\H'.bn=H.bn/\H'.cK=H.cK/\H'.bK=Heap.note H.bn i H.bK/\HR K O (ω.of (sq x D n lv)) H' (M.setAt x U).lb (M.setAt x U).g:=by
 obtain⟨m,fl,e,z,h2,h3,h4,h5,h6⟩:=lh;obtain⟨o,v1,v2,v3,v4⟩:=w.cells;unfold zh at G;obtain⟨n,hn,G⟩:=aE G;rw[bN,du]at G;by_cases jQ:d.flat.length=n
 . by_cases nI:D+n<=b.cells.length
   . simp only[jQ,nI,eu,zC,aL]at G;cases G;have sO:o.length=n:=ae;have LK:D+n<=m.length:=ae;refine⟨_,n,ajU hn v1 sO z h2 h3 h4 LK,Ck z,Ea ..,BW ..,zq ..,?_⟩;obtain⟨q1,q2,q3,q4,q5⟩:=Xf (m':=gG m D o) (fl':=fl) (e':=e) g W z h4 (aIc (x:=x) (D:=D) (n:=n) (lv:=lv));have q:∀(y:Loc)(j:Nat)(c:Nat),y.pk j≠.sl c/\∀k,y.pk j≠.tp c k:=λy j c=>⟨λe=>Loc.Ga y j (e▸trivial),λk e=>Loc.Ga y j (e▸trivial)⟩;have L:=Ck (m':=gG m D o) (fl':=fl) (e':=e) z;have I:∀p r b,ω p=J (r,b)->p≠x.top->¬r=i:=λp r b h A e=>by subst e;exact A (g.inj _ _ _ _ _ h W)
     refine HR.Jt (S:=λr=>r=i) g f W (bl.refl _) L q1 (JJ g.iJ z) q2 q3 q4 q5 (λs=>?_) (λid=>?_) ?_ (λp r b _ A h=>I p r b h A) ?_;.grind[aG.of,Jy,Loc.F9]
     .grind[aG.of,Jy,Loc.QZ]
     . intro y T d1 F o1 hy hp;refine hp.keep g.inv L (bl.refl _) (aU.refl _) λr b f=>⟨?_,I _ r b f ?_⟩;.unfold aG.of;rw[Jy (λj _ _ e=>hy (Loc.F8 e).1) (λt _=>q y T t)];grind
       .cases x<;>cases y<;>simp[Loc.pk,Loc.top]
     . refine⟨gG m D o,fl,e,oO _ _ _ _,h2,by grind[Lc],by grind[Lc],?_,λT d1 F u v=>?_⟩;.grind[aaa,Bf]
       . have u:(pR b.cells D d.flat)[T]?=J d1:=u;have X:=u;rw[aaa,Cu _ _ _ ae,jQ]at u;rw[Cu _ _ _ ae,sO]at v;by_cases N:D<=T/\T<D+n
         . rw[if_pos N]at u v;rcases v4 with⟨Y,w2,w3⟩|⟨Y,w2⟩
           . have mU:n=1:=aj;have ho:T=D:=ae;subst ho;rw[Y,Nat.sub_self]at u;rw[w2,Nat.sub_self]at v;obtain rfl:d=d1:=br u;obtain rfl:a=F:=br v;refine⟨w3,?_⟩;have aMH:∀c,lv=J c->(ω.of (sq x T n lv)) (x.pk T)=ω (.sl c):=by grind[aG.of,aId]
             have B:cJ K O (ω.of (sq x T n lv)) (H.dG i i (.cells (gG m T o) i fl e)) (x.pk T) d a ow:=by
              rcases qM with⟨c,AI,rfl⟩|⟨_,rfl|rfl⟩;.exact w.keep g.inv L (bl.refl _) (aU.refl _) λr b f=>⟨aj,I _ r b f (by cases x<;>simp[Loc.top])⟩
              .exact w
              .exact w
             unfold fg;show cJ _ _ _ _ _ _ _ (match(pR b.cells T d.flat)[T]? with|some .nl=>aX.any|_=>(look (qn T d ow++dB b.own T n) T).getD .no);rw[X];have Q:=ahB b.own (D:=T) (n:=n) (k:=T) (bo _) ae;have R:d=.nl->cJ K O (ω.of (sq x T n lv)) (H.dG i i (.cells (gG m T o) i fl e)) (x.pk T) d a .any:=by intro hd;subst hd;refine⟨rfl,?_⟩;have E:=w;cases ow with|no=>cases E;rfl|any=>exact E.2|full e=>have:=E.1;cases this;rfl|ty e=>have:=E.1;cases this;rfl|ex e=>
              rcases E with⟨_,h⟩|⟨r,_,h⟩;.omega
              .obtain⟨l,_,_,_,_,_,_,h,_⟩:=h.ex;grind
             rw[aiC w3];cases ow with
             |no=>grind|any=>obtain⟨rfl,_⟩:=B;grind|full e=>simp only[dk,Q];cases d<;>first|exact R rfl|exact B.1
             |ty e=>grind[look,bN]|ex e=>grind[look,bN]
           .have qd:d1.bj=V:=v3 d1 (cI u);refine⟨qd,?_⟩;have iH:=w2.2 _ d1 F u v;unfold fg;show cJ _ _ _ _ _ _ _ (match(pR b.cells D d.flat)[T]? with|some .nl=>aX.any|_=>(look (qn D d ow++dB b.own D n) T).getD .no);rw[X,aiB Y];have Q:=ahB b.own (D:=D) (n:=n) (k:=T) N.1 N.2;simp only[dk,Q];cases d1<;>first|exact iH|(cases iH;exact⟨rfl,rfl⟩)
         . rw[if_neg N]at u v;obtain⟨k1,k2⟩:=h6 T d1 F u v;refine⟨k1,?_⟩;have yF:T<D\/D+n<=T:=ae;have qQ:fg {cells:=pR b.cells D d.flat,own:=qn D d ow++dB b.own D n} T=fg b T:=by
             unfold fg;simp only[X,u];have ft:look (qn D d ow++dB b.own D n) T=look b.own T:=by
              have PQ:=aAL b.own (D:=D) (n:=n) yF;by_cases jg:d.bj=V;.have mU:n=1:=aj;have A:D≠T:=ae;rw[aiC jg];cases ow with|ty e=>show(bif aw D T then _ else _)=_;rw[bN];simp only[A,mO,bg];exact PQ|ex e=>show(bif aw D T then _ else _)=_;rw[bN];simp only[A,mO,bg];exact PQ|_=>grind
              grind[aiB]
             grind
           rw[qQ];refine k2.keep g.inv L (bl.refl _) (aU.refl _) λr b f=>⟨?_,I _ r b f (by cases x<;>simp[Loc.pk,Loc.top])⟩;unfold aG.of;rw[Jy (λj j1 j2 e=>by grind[Loc.F8]) (λt _=>q x T t)];grind
   grind
 grind
end
end Go.VM
