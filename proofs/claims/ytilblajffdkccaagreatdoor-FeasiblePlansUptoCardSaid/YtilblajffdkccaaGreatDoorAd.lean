/- Proved: the bodies of functions on the abstract machine answer as the model runs them, in every drawn order (a part of the proof of FeasiblePlansUptoCardSaid, whose theorem stands in the last text). -/
import Derived.Test.YtilblajffdkccaaGreatDoorAc
open Option renaming some->J,none->Z
open Bool renaming true->V,false->C
open Bool renaming noConfusion->mK
open Go renaming TypeId->al,Value->aB,Oper->aC,Operand->aH,Program->aM,World->aT,Code->bz,FuncId->bS,Frame->cZ,lone->eT,IntKind->gZ,MapEntry->kZ
open Go.Builtin renaming zeroCells->nR,firstCells->oE,append_->s8,copy_->zF
open Go.Lib renaming compact->tb
open Go.Op renaming operands->eB,mapUpdate->rC
open Go.Proofs.Tryz renaming prog->eS
open Go.Region renaming binds->uq
open Go.stepG renaming exec->ug
open Int renaming ofNat->dI,sub->nS
open List renaming rec->kG,append->qA
open Nat renaming beq->aw,ble->bV,blt->cM,succ->eU,add->im,mul->jD
open SizeOf renaming sizeOf->kb
open UInt8 renaming toNat->nU
noncomputable section set_option linter.all false
namespace Go.VM
open Go Go.AM
variable{a:AV}{el el' v z:DV}{g:GH}{es fs:List ew}{esz j D r:Nat}{p:Pk}{L l:aA}{cl m nc:aD}{ωo:aG}{x y:aH}{ow:aX}{dst:ah Tmp}{mx:ah aH}{e elem t:al}{lb:dX}{fl:gS}
section
variable{P:aM}{ak:bZ}{rec:Rec}{cf:cj}{K K':aY}{O ψ:bY}{ω ω':aG}{H H':Heap}{S:Nat->Prop}
variable{gs cr:an}{fk:bS->Nat}{later:List aC}{cB M st':St}{tm:Tr AV}{o:aC}{aq:Nat->ah aA}
def uY(l:ah Nat):Pk->ah Pk:=match l with|some t=>pS t|none=>J
theorem ajk{l:ah Nat}{q:Pk}(a:p.slot)(h:uY l p=J q):q=p/\∀t,l=J t->p≠.sl t/\∀j,p≠.tp t j:=by
 unfold uY at h;rcases l with _|t;.grind
 cases p<;>simp only[Pk.slot]at a<;>grind[pS]
theorem Wb(m:dD P K O aq)(n:HR K O ω H M.lb M.g)(s:ch K O ω H tm M.sl){d:DV}(q:cP aq M x=J (.dv d ow)):∃a v p,AM.bu P tm x=J a/\a≠.top/\cJ K O ω H p d a ow/\((∃j,v=J j/\p=.sl j)\/(v=Z/\(ow=.no\/ow=.any)))/\ch K O (ω.of (uY v)) H tm (aQ leave M x).sl:=by
 obtain⟨a,i,b,c⟩:=qV m s q;rcases c with⟨t,rfl,o,S,h⟩|⟨y,c⟩
 . refine⟨a,_,_,i,b,h,.inl ⟨t,rfl,rfl⟩,?_⟩;have e1:aQ leave M (.tmp t)={M with sl:=put M.sl t (leave (.dv d ow))}:=by grind[aQ]
   rw[e1];exact RG n s o S b h
 . have e1:aQ leave M x=M:=by cases x<;>first|rfl|grind
   rw[e1];have k:cJ K O ω H (.sl 0) d a ow/\(ow=.no\/ow=.any):=by
    rcases c with⟨r,e,h⟩|⟨r,f,_,_,e,h⟩|⟨g,l,cells,e1,e,_⟩
    . obtain⟨rfl,rfl⟩:=SV.dv.inj e;unfold tW;split;.cases h;exact⟨⟨rfl,rfl⟩,.inr rfl⟩
      .exact⟨h,.inl rfl⟩
    .obtain⟨rfl,rfl⟩:=SV.dv.inj e;exact⟨h,.inl rfl⟩
    grind
   exact⟨a,_,_,i,b,k.1,.inr ⟨rfl,k.2⟩,s⟩
theorem aj8{i:Nat}(b:o.op=.store t x y)(c:AM.bu P tm x=J (.ptr i D))(d:AM.bu P tm y=J a)(h:AM.storeVar P H t i D a=J H'):dV P ak tm H o=J (.val fR H'):=by simp_all[dV,En]
theorem Km(a:HR K O ω H M.lb M.g)(s:ch K O ω H tm M.sl)(h:aJ M dst (.tp [])=J st'):gY K O ω H st' (iz tm dst fR) H:=Ab a s h (by simp[fR]) λ_ _ _=>⟨[],rfl,rfl,λj x y h=>aj⟩
theorem aj6(h:o.op=.store t x y):kindOf cf M o.op=.wr:=by rw[h];rfl
theorem ahx{a:Bool}(c:H'.bn=H.bn)(f:H'.cK=H.cK)(d:H'.bK=Heap.note H.bn r H.bK)(p:dH ω r){k:Kd}(b:k=.wr):wK ω k a H H':=by refine⟨c,λh=>absurd b h,λh=>absurd b h,λe hr=>?_,λe hr=>.inl aj⟩;rw[d]at hr;rcases vZ hr with h|⟨rfl,h⟩<;>grind
theorem aj5(F:dD P K O cf.aq)(f:HR K O ω H M.lb M.g)(I:ch K O ω H tm M.sl)(m:o.op=.store t x y){d:DV}{z:Loc}{b c:LB}(N:cP cf.aq M y=J (.dv d ow))(k:M.at z=J b)(L:∀i,ω z.top=J (i,V)->(∀id,z=.g id->O id=J i)->AM.bu P tm x=J (.ptr i D))(G:zh P t b D d ow=J c)(h:aJ {(aQ leave M y).setAt z c with sl:=cV (aQ leave M y).sl} o.dst (.tp [])=J st'):eW P ak rec cf K O ω H M M st' tm o:=by
 obtain⟨i,g,Q,R⟩:=f.at k;obtain⟨a,l,Y,w,U,A,B,E⟩:=Wb F f I N;obtain⟨H',n,g1,g2,g3,g4,g5,g6⟩:=aJL f k g Q G A B;obtain⟨f1,f2,f3,f4,f5⟩:=qq h;obtain⟨e1,e2,e3,e4⟩:=DG _ M y;have uC:((aQ leave M y).setAt z c).lb=(M.setAt z c).lb/\((aQ leave M y).setAt z c).g=(M.setAt z c).g/\((aQ leave M y).setAt z c).n=M.n/\((aQ leave M y).setAt z c).fn=M.fn:=by cases z<;>simp only[St.setAt]<;>rw[e3,e4,e1,e2]<;>exact⟨rfl,rfl,rfl,rfl⟩
 have W:∀p r b,p.slot->ω p=J (r,b)->¬r=i:=λp r b u h e=>by subst e;have:=f.inj _ _ _ _ _ h g;subst this;cases z<;>exact u.elim
 have S:ch K O (ω.of (sq z D n l)) H' tm (cV (aQ leave M y).sl):=by
  refine Ct f.inv E g2 (bl.refl _) (aU.refl _) (λp r b u h=>?_) (λs j b h=>?_);.grind[aG.jC,ajk,aG.of,Jy,Loc.Ga]
  .obtain⟨q,v,T⟩:=aG.jC h;rw[Jy (λj _ _=>(Loc.F9 z j s).symm) aP]at v;cases v;cases l<;>exact T
 refine⟨fR,H',?_,λt X=>aj,?_,aj,aj,ahx g3 g4 g5 ⟨_,_,g⟩ (aj6 m)⟩;.unfold fP;rw[aj8 m (L i g R) w g1];rfl
 .refine gY.trans (ω1:=ω.of (sq z D n l)) f.inv (bl.refl _) (f.gN g2) (aU.refl _) (g2.zo f.inv λr _ e=>⟨_,_,e▸g⟩) (λp r b h=>let⟨q,_,h⟩:=aG.jC h;.inl ⟨q,b,h⟩) ?_;refine Km ?_ S h;grind
theorem RA{i:Nat}(h:i<l.length)(j:Nat):(jo l i v)[j]?=if j=i then J v else l[j]?:=by grind[jo]
theorem Nt{i:Nat}(h:i<l.length):(jo l i v).length=l.length:=by grind[jo]
theorem HR.ai5(a:HR K O ω H lb g){t:Nat}{u:aD}{f:gS}(z:ω p=J (r,V))(S:p.slot)(n:H.get t=J (.cells m r fl e))(v:(H.bh r).2=t):HR K O ω (H.dG t r (.cells u r f e)) lb g:=by
 obtain⟨G,I,q3,q4,q5⟩:=Xf (m':=u) (fl':=f) (e':=e) a z n v (src:=J) (λp q y L v=>aj);have w:=Ck (m':=u) (fl':=f) (e':=e) n;have A:∀q d b,¬q.slot->ω q=J (d,b)->¬d=r:=λq d b M h e=>by subst e;have:=a.inj _ _ _ _ _ h z;grind
 refine⟨G,I,q3,q4,q5,λs b E=>?_,λk o F=>?_,a.oQ,JJ a.iJ n⟩;.obtain⟨i,j,l⟩:=a.box s b E;exact⟨i,j,l.keep a.inv w (bl.refl _) (aU.refl _) (A _ i _ (by simp[Pk.slot]) j) λD d c x=>⟨x,A _ d c (by simp[Pk.slot]) x⟩⟩
 .obtain⟨i,j,l,B⟩:=a.kj k o F;exact⟨i,j,l,B.keep a.inv w (bl.refl _) (aU.refl _) (A _ i _ (by simp[Pk.slot]) l) λD d c x=>⟨x,A _ d c (by simp[Pk.slot]) x⟩⟩
theorem aFY{s:aA}(h:reshape el s=J el'):el'.flat=s:=by
 unfold reshape at h;split at h;.obtain rfl:=br h;rfl
 . rename_i c _;rcases a:c.bj with _|_;.grind
   rw[a]at h;obtain rfl:=br h;cases c<;>first|rfl|grind[DV.bj]
 grind
theorem aHH{x:DV}(h:cP aq M y=J (.dv x ow)):bp aq (aQ share M y) y=J x:=by cases y<;>grind[bp,aQ,share,CV,mC,cP]
theorem ij.set{i:Nat}{c:aD}{d:DV}{v:aD}{k0 n:Nat}(h:ij K O l esz D c)(m:l[i]?=J el)(R:el'.flat=pR el.flat k0 d.flat)(o:d.flat.length=n)(z:k0+n<=el.flat.length)(g:bH K O d.flat v)(A:∀y,y∈d.flat->y.bj=V):ij K O (jo l i el') esz D (gG c (D+i*esz+k0) v)/\D+i*esz+k0+n<=c.length:=by
 obtain⟨g1,g2,g3,g4⟩:=h;have T:=(List.getElem?_eq_some_iff.1 m).1;obtain⟨k1,k2⟩:=g3 i el m;have u:i*esz+esz<=l.length*esz:=by have:(i+1)*esz<=l.length*esz:=ml _ T;grind
 have s:v.length=n:=by rw[<-g.1];omega
 have Y:D+i*esz+k0+n<=c.length:=ae;refine⟨⟨g1,?_,λj x b=>?_,λj x k d1 q b f a=>?_⟩,Y⟩;.grind[Nt,Bf]
 .grind[RA,pR]
 . rw[Cu _ _ _ ae,s]at a;rw[RA T]at b;by_cases e:j=i
   . rw[if_pos e]at b;cases b;subst e;rw[R,aaa,Cu _ _ _ ae,o]at f;by_cases r:k0<=k/\k<k0+n;.rw[if_pos r]at f;rw[if_pos ae]at a;rw[show D+j*esz+k-(D+j*esz+k0)=k-k0 by omega]at a;exact g.2 _ _ _ f a
     grind
   . rw[if_neg e]at b;have B:k<esz:=by grind
     rw[if_neg]at a;.grind
     . rintro⟨t,w⟩;rcases Nat.lt_or_gt_of_ne e with X|p;.have:(j+1)*esz<=i*esz:=ml _ X;grind
       .have:(i+1)*esz<=j*esz:=ml _ p;grind
theorem Lb{i:Nat}{ob:bQ}(h:(H.bh r).1<=i)(a:(H.bh r).2=i):((H.dG i r ob).bh r).1<=i/\((H.dG i r ob).bh r).2=i:=by grind[Lc,Pe]
theorem aJR(F:dD P K O cf.aq)(q:HR K O ω H M.lb M.g)(L:ch K O ω H tm M.sl)(I:o.op=.store t x y){d:DV}{s i n:Nat}{w:aA×al×Nat}(hy:cP cf.aq M y=J (.dv d ow))(hx:cP cf.aq M x=J (.se s i D))(u:nB (aQ share M y) s=J w)(N:w.1[i]?=J el)(hn:bC P t=J n)(Q:d.flat.length=n)(nI:D+n<=el.flat.length)(hr:reshape el (pR el.flat D d.flat)=J el')(h:aJ {aQ share M y with sl:=put (cV (aQ share M y).sl) s (.dv (.ay (jo w.1 i el') w.2.1 w.2.2) (.ex w.2.1))} o.dst (.tp [])=J st'):eW P ak rec cf K O ω H M M st' tm o:=by
 obtain⟨K1,ω1,v,k,z,R,s5,s6,s7,_⟩:=Z3 q L y;obtain⟨av,v1,v2,v3⟩:=sU (F.mono v.1 (aU.refl _)) z s5 (aHH hy);obtain⟨S,w1,A,w3⟩:=v3.cells;obtain⟨U,x1,_,x3⟩:=qV F L hx;obtain⟨id,a,len,c,esz,e1,e2⟩:∃id a len c esz,tm.get s=J (.sl id a len c esz)/\U=.ptr id (a+i*esz+D):=by
   rcases x3 with⟨t',_,_,_,Y⟩|⟨_,⟨_,e,_⟩|⟨_,_,_,_,e,_⟩|⟨_,_,_,_,e,_⟩⟩;.exact Y
   all_goals grind
 unfold nB at u;split at u
 . rename_i l e n0 ad hl;cases u;obtain⟨b0,B,_,W⟩:=z s _ hl;rw[e1]at B;cases B;rcases W with⟨z1,_⟩|⟨r,r1,X⟩;.grind
   . obtain⟨l',rL,tO,dT,c',cells,fl,g1,g2,g3,g4,g5,g6,g7,g8⟩:=X.ex;obtain⟨rfl,rfl,rfl⟩:=DV.ay.inj g1;obtain⟨rfl,rfl,rfl,rfl,rfl⟩:=AV.sl.inj g2;have rR:=aFY hr;obtain⟨t1,t2⟩:=g7.set N rR Q nI A w3;have mT:=(List.getElem?_eq_some_iff.1 N).1;have jy:=ajU hn w1 (by rw[<-A.1];omega) g3 g4 g5 g6 t2;have G:=Ck (m':=gG cells (a+i*esz+D) S) (fl':=fl) (e':=e) g3;obtain⟨f1,f2,f3,_⟩:=qq h;obtain⟨f,uD⟩:=R _ _ _ r1;refine⟨fR,H.dG id r (.cells (gG cells (a+i*esz+D) S) r fl e),?_,λt ht=>aj,?_,aj,aj,ahx (Ea ..) (BW ..) (zq ..) ⟨_,f,uD⟩ (aj6 I)⟩;.unfold fP;rw[aj8 I aj v1 jy];rfl
     . refine gY.trans q.inv v.1 (λj x hj=>by rw[xr,Xd g3];exact v.gN k j x hj) (aU.refl _) (G.zo q.inv λr' _ e=>⟨.sl s,f,aj⟩) (λp r b h=>let⟨f,h⟩:=R p r b h;.inl ⟨p,f,h⟩) ?_;refine Km (M:={aQ _ M y with sl:=put _ s _}) (k.ai5 r1 trivial g3 g6) ?_ h;obtain⟨y1,T⟩:=Lb g5 g6;refine Z7 k.inv z G (bl.refl _) (aU.refl _) (λp r' b hp g E m=>⟨m,λe=>?_⟩) aP e1 aP ?_;.subst e;exact E (k.inj _ _ _ _ _ m r1)
       . refine .inr ⟨r,r1,⟨_,_,id,a,c,_,fl,rfl,by grind[Nt],oO _ _ _ _,g4,y1,T,t1,?_⟩⟩;rw[Nt mT];rcases g8 with⟨g,E,m⟩|g;.refine .inl ⟨g,T,?_⟩;rw[Bf _ _ _ (by rw[<-A.1,Q];omega)];omega
         .exact .inr g
 grind
theorem aJU(a:dD P K O cf.aq)(j:HR K O ω H M.lb M.g)(c:ch K O ω H tm M.sl)(k:o.op=.store t x y)(h:dM P cf.aq fk gs cr later M o=J st'):eW P ak rec cf K O ω H M M st' tm o:=by unfold dM at h;rw[k]at h;simp only at h;obtain⟨v,m,h⟩:=aE h;cases v with
 |dv d ow=>simp only at h;cases l:cP cf.aq M x with|none=>grind|some F=>rw[l]at h;obtain⟨p,x1,_,x3⟩:=qV (P:=P) a c l;cases F with
  |lp s D=>
   simp only at h;obtain⟨b,u,h⟩:=aE h;obtain⟨f,G,h⟩:=aE h;refine aj5 (z:=.l s) a j c k m u (λi hi _=>?_) G (by show aJ {aQ leave M y with sl:=cV (aQ leave M y).sl,lb:=put (aQ leave M y).lb s f} o.dst (.tp [])=J st';grind[DG]);rcases x3 with⟨W,_,_,_,r⟩|⟨_,⟨_,e,_⟩|⟨_,_,_,_,e,_⟩|⟨_,_,_,_,e,_⟩⟩;.rw[x1,r i V hi]
   all_goals grind|dv q U=>cases q with
   |ptr id D=>simp only at h;cases B:M.g.get id with|none=>grind|some E=>rw[B]at h;cases E with|box b=>
   simp only at h;obtain⟨f,G,h⟩:=aE h;have I:M.at (.g id)=J b:=by grind[St.at]
   have L:(aQ leave M y).g=M.g:=(DG leave M y).2.2.2;refine aj5 (z:=.g id) a j c k m I (λi hi Q=>?_) G ?_
   . have A:DR (sQ H) O (.ptr id D) p:=by obtain⟨N,X,_,Y⟩:=qm (P:=P) a j c (x:=x) (d:=.ptr id D) (by unfold bp;rw[l];rfl);grind
     cases A<;>simp_all
   .show aJ {aQ leave M y with sl:=cV (aQ leave M y).sl,g:=(aQ leave M y).g.set id (.box f)} o.dst (.tp [])=J st';simp_all|_=>simp_all
   |_=>simp at h
  |se s i D=>simp only at h;obtain⟨w,S,h⟩:=aE h;obtain⟨el,T,h⟩:=aE h;obtain⟨n,R,h⟩:=aE h;grind[bN,du,aE,aJR]|_=>simp_all
 |_=>simp_all
def BO(K:aY)(b:bY):ah DV->ah AV->Prop|none,Z=>True|some d,J a=>DR K b d a|_,_=>False
def F4(a:Nat->ah aA)(s:St):ah aH->ah (ah DV)|some x=>(bp a s x).map J|none=>J Z
def FZ(P:aM)(t:Tr AV):ah aH->ah (ah AV)|some x=>(AM.bu P t x).map J|none=>J Z
theorem W3(g:dD P K O aq)(f:HR K O ω H M.lb M.g)(s:ch K O ω H tm M.sl){x:ah aH}{v:ah DV}(h:F4 aq M x=J v):∃c,FZ P tm x=J c/\BO (sQ H) O v c:=by
 rcases x with _|x;.cases h;exact⟨_,rfl,trivial⟩
 have h:(bp _ M x).map _=J v:=h;rcases b:bp aq M x with _|d;.grind
 rw[b]at h;cases h;obtain⟨a,i,_,e⟩:=qm g f s b;exact⟨J a,by show(AM.bu P tm x).map _=_;grind,e⟩
theorem yc{x:ah DV}{b:ah AV}{y d n:Nat}(e:BO K O x b)(h:nY x y d=J n):(x=Z/\b=Z/\n=d)\/(x≠Z/\b≠Z/\n<=y/\∀c f,n<=c->fc b c f=J n):=by
 unfold nY at h;split at h
 . rename_i k m;rw[du]at h;by_cases g:m<=y
   . simp only[g,eu,aL]at h;obtain rfl:=br h;rcases b with _|a;.exact e.elim
     cases e;refine .inr ⟨aO,aO,g,λc f i=>?_⟩;show(bif bV m c then J m else Z)=J m;grind[du]
   grind
 .grind
 . rcases b with _|a;.grind
   exact e.elim
theorem DR.sub{s:aA}{f l h:Nat}{c c':ah Nat}(b:DR K O (.ay s e esz) (.sl f D s.length c esz))(r:l<=h)(o:h<=s.length)(m:∀k,c'=J k->h-l<=k):DR K O (.ay ((s.take h).drop l) e esz) (.sl f (D+l*esz) (h-l) c' esz):=by have n:((s.take h).drop l).length=h-l:=aj;rw[<-n]at m|-;cases b with|ay _ _ _ _ _ _ cells g1 p v _ w g=>
 have S:∀i x,((s.take h).drop l)[i]?=J x->s[l+i]?=J x:=by grind
 refine .ay _ e _ f _ c' _ g1 p ?_ m aj λi x j d a q b u=>g _ x j d a (S i x q) b ?_
 . rw[n];have:l*esz+(h-l)*esz=h*esz:=by rw[<-xT];grind
   have t:h*esz<=s.length*esz:=ml _ o;omega
 grind
theorem RF{l i:ah aH}{v r:AV}{a b c:ah AV}(d:o.op=.slice t x l i mx)(k:AM.bu P tm x=J v)(f:FZ P tm l=J a)(g:FZ P tm i=J b)(j:FZ P tm mx=J c)(h:pQ P H t v a b c=J r):dV P ak tm H o=J (.val r H):=by
 have e:dV P ak tm H o=(AM.bu P tm x).bind λv=>(FZ P tm l).bind λl=>(FZ P tm i).bind λi=>(FZ P tm mx).bind λmx=>ff H (pQ P H t v l i mx):=by unfold dV;rw[d];rfl
 grind[ff]
theorem aHV{l i:ah aH}(d:o.op=.slice t x l i mx)(h:dM P aq fk gs cr later M o=J st'):∃v a b c r,bp aq M x=J v/\F4 aq M l=J a/\F4 aq M i=J b/\F4 aq M mx=J c/\oz P t v a b c=J r/\aJ M o.dst (.dv r.1 r.2)=J st':=by
 have e:dM P aq fk gs cr later M o=((bp aq M x).bind λv=>(F4 aq M l).bind λl=>(F4 aq M i).bind λi=>(F4 aq M mx).bind λmx=>(oz P t v l i mx).bind λr=>aJ M o.dst (.dv r.1 r.2)):=by unfold dM;rw[d];rfl
 rw[e]at h;obtain⟨v,j,h⟩:=aE h;obtain⟨g,k,h⟩:=aE h;obtain⟨f,B,h⟩:=aE h;obtain⟨R,I,h⟩:=aE h;obtain⟨r,hr,h⟩:=aE h;grind
theorem RE{l i m:ah AV}(h:m≠Z->i≠Z):pQ P H t a l i m=sliceB P H t a l i m:=by simp_all[pQ]
theorem aHW(U:dD P K O aq)(p:HR K O ω H M.lb M.g)(s:ch K O ω H tm M.sl){lo hi:ah aH}(N:o.op=.slice t x lo hi mx)(hn:jN M x)(h:dM P aq fk gs cr later M o=J st'):eW P ak rec cf K O ω H cB M st' tm o:=by
 obtain⟨v,RZ,G,R0,r,hv,xc,B2,Ip,hr,h⟩:=aHV N h;obtain⟨a,R,_,I⟩:=sU (P:=P) U s hn hv;obtain⟨Y,l1,l2⟩:=W3 (P:=P) U p s xc;obtain⟨w,S,T⟩:=W3 (P:=P) U p s B2;obtain⟨F,W,m2⟩:=W3 (P:=P) U p s Ip;have aB8:∀{z:ah AV},BO (sQ H) O Z z->z=Z:=λ{z}hz=>by cases z;rfl;exact hz.elim
 have aOg:∀{d:DV}{z:ah AV},BO (sQ H) O (J d) z->z≠Z:=λ{d z}hz=>by cases z;exact hz.elim;simp
 unfold oz at hr;split at hr
 . rename_i elem hu;cases I;have hmh:F≠Z->w≠Z:=by intro x1;cases R0 with|none=>grind|some m=>cases G<;>grind
   have i:((bC P elem).bind λ_=>(nY R0 0 0).bind λ_=>(nY G 0 0).bind λh=>(nY RZ h 0).bind λ_=>J (DV.nl,aX.any))=J r:=by grind
   obtain⟨sz,fI,i⟩:=aE i;obtain⟨m,hm,i⟩:=aE i;obtain⟨j,B,i⟩:=aE i;obtain⟨l,ft,i⟩:=aE i;cases i;refine tZ p s (RF N R l1 S W (r:=.bc) ?_) h aO λ_ _ _=>⟨rfl,rfl⟩;have em:fc F 0 0=J 0:=by
     rcases yc m2 hm with⟨_,rfl,rfl⟩|⟨_,_,b,f⟩;.rfl
     grind
   have eh:fc w 0 0=J j:=by rcases yc T B with⟨_,rfl,rfl⟩|⟨_,_,b,f⟩;all_goals grind
   have el:fc Y j 0=J l:=by
     rcases yc l2 ft with⟨_,rfl,rfl⟩|⟨_,_,b,f⟩;.rfl
     grind
   simp_all[RE,sliceB]
 . rename_i elem E e esz hu;obtain⟨n,pF,hr⟩:=aE hr;rw[bN,bN]at hr;by_cases jQ:n=esz
   . by_cases nI:e=elem;.simp only[jQ,nI,eu,zC,aL]at hr;subst jQ;subst nI;have a3':=I;cases a3' with|ay _ _ _ id D c cells g1 he hb hc hl g=>obtain⟨root,fl,i1,i2⟩:=p.di _ _ _ g1;have hco:=OF i1 i2;cases R0 with
     |none=>simp only at hr;obtain rfl:=aB8 m2;obtain⟨j,B,hr⟩:=aE hr;cases u:(G.isNone||bV j bF)with|false=>grind|true=>rw[u]at hr;simp only[aL]at hr;cases A:nY RZ j 0 with|none=>grind|some l=>
     rw[A]at hr;cases hr;have L:j<=E.length:=by rcases yc T B with⟨_,_,rfl⟩|⟨_,_,b,_⟩;all_goals omega
     have X:l<=j:=by rcases yc l2 A with⟨_,_,rfl⟩|⟨_,_,b,_⟩;all_goals omega
     have e2:fc Y j 0=J l:=by
      rcases yc l2 A with⟨_,rfl,rfl⟩|⟨_,_,b,f⟩;.rfl
      grind
     have e1:∀y,(w≠Z->j<=y)->fc w y E.length=J j:=by
      intro y hy;rcases yc T B with⟨_,rfl,rfl⟩|⟨_,q0,b,f⟩;.rfl
      grind
     have tH:w≠Z->j<=bF:=by intro x;rw[du]at u;cases G<;>simp_all
     cases c with|some c=>have qL:=hc c rfl;refine u6 p s (RF N R l1 S W (r:=.sl id (D+l*n) (j-l) (J (c-l)) n) ?_) h (I.sub X L λk hk=>aj);rw[RE (λx=>absurd rfl x)];unfold sliceB;grind[fc,du]|none=>refine u6 p s (RF N R l1 S W (r:=.sl id (D+l*n) (j-l) Z n) ?_) h (I.sub X L λk hk=>aj);rw[RE (λx=>absurd rfl x)];simp_all[sliceB,du]
     |some yP=>cases G with|none=>grind|some sK=>simp only at hr;obtain⟨m,hm,hr⟩:=aE hr;cases u:bV m bF with|false=>grind|true=>rw[u]at hr;simp only[aL]at hr;rw[du]at u;have u:=A2 u;obtain⟨j,B,hr⟩:=aE hr;cases A:nY RZ j 0 with|none=>grind|some l=>
      rw[A]at hr;have hr:=br hr;obtain⟨q0,LK,f⟩:F≠Z/\m<=E.length/\∀Q d',m<=Q->fc F Q d'=J m:=by rcases yc m2 hm with⟨q,_⟩|⟨_,q0,b,f⟩;all_goals grind
      obtain⟨p0,hhm,p2⟩:w≠Z/\j<=m/\∀Q d',j<=Q->fc w Q d'=J j:=by rcases yc T B with⟨q,_⟩|⟨_,q0,b,f⟩;all_goals grind
      have X:l<=j:=by rcases yc l2 A with⟨_,_,rfl⟩|⟨_,_,b,_⟩;all_goals omega
      have e2:fc Y j 0=J l:=by
       rcases yc l2 A with⟨_,rfl,rfl⟩|⟨_,_,b,f⟩;.rfl
       grind
      have AJ:dV P ak tm H o=J (.val (.sl id (D+l*n) (j-l) (J (m-l)) n) H):=by refine RF N R l1 S W ?_;rw[RE (λ_=>p0)];unfold sliceB;rw[hu];cases c with|some c=>grind[du]|none=>
       simp only[pF,cU,bN,eu,aL];have hmb:D+m*n<=cells.length:=by have:m*n<=E.length*n:=ml _ LK;omega
       cases F with|none=>simp_all|some mv=>simp only;have:mN mv bF=J m:=f bF 0 u;grind[du,ef]
      subst hr;refine tZ p s AJ h aO λ_ _ _=>?_;have iH:=I.sub (c':=J (m-l)) X (by omega:j<=E.length) λk hk=>aj;show cJ K O ω H _ (.ay ((E.take j).drop l) e n) _ (bif aw j m then .full e else .no);rw[bN];by_cases Vr:j=m;.simp only[Vr,eu,aL];subst Vr;exact⟨iH,_,_,_,_,rfl⟩
      .simp only[Vr,mO,bg];exact iH
     grind
   grind
 grind
theorem MP(g:dD P K O aq)(f:ch K O ω H tm M.sl):∀(l:List (Nat×aH))(s:List (Nat×DV)),(∀p,p∈l->jN M p.2)->cE (λ(p:Nat×aH)=>(bp aq M p.2).map λv=>(p.1,v)) l=J s->∃b,cE (λ(p:Nat×aH)=>(AM.bu P tm p.2).map λv=>(p.1,v)) l=J b/\s.length=b.length/\∀(i:Nat)(p:Nat×DV)(q:Nat×AV),s[i]?=J p->b[i]?=J q->p.1=q.1/\DR K O p.2 q.2:=by intro l;induction l with|nil=>intro s _ h;obtain rfl:=br (show J []=J s from h);exact⟨[],rfl,rfl,λi p q h=>aj⟩|cons x l m=>
 intro s n h;have c:=h;obtain⟨d,hd,c⟩:=aE c;obtain⟨t,j,c⟩:=aE c;rcases k:bp aq M x.2 with _|d0;.grind
 obtain⟨a,o,_,r⟩:=sU g f (n x eQ) k;obtain⟨b,w,y,q3⟩:=m t (λp e=>n p (iL _ e)) j;refine⟨(x.1,a)::b,?_,aj,λi p q e u=>?_⟩<;>grind[cE]
theorem abr(b:aY)(c:bY)(h:fT P t=J z):∃m,mJ P t=J m/\bH b c z.flat m/\∀x,x∈z.flat->x.bj=V:=by obtain⟨a,d,h⟩:=aE h;obtain⟨m,e,f,g⟩:=(Hp (K:=b) (O:=c) h).cells;grind[mJ]
theorem anf(g:dD P K O aq)(b:HR K O ω H M.lb M.g)(s:ch K O ω H tm M.sl){a:Array (Nat×aH)}(e:o.op=.build t a)(n:∀p,p∈a.toList->jN M p.2)(h:dM P aq fk gs cr later M o=J st'):eW P ak rec cf K O ω H cB M st' tm o:=by
 unfold dM at h;rw[e]at h;obtain⟨z,f,h⟩:=aE h;obtain⟨q,j,h⟩:=aE h;obtain⟨m,x,i,k⟩:=abr K O f;obtain⟨u,y,r,q3⟩:=MP g s _ _ n j;split at h;.obtain⟨c,v,h⟩:=aE h;obtain⟨l,d,h⟩:=aE h;obtain⟨w,f1,f2,f3⟩:=as2 q u _ _ _ d i r q3;refine u6 b s ?_ h (f2.agg (f3 k));simp_all[dV,Eg,ff]
 grind
theorem QI{v:ah Bool}(a:HR K O ω H lb g)(w:p.slot):HR K O (ω.set p (v.map λb=>(H.next,b))) (H.cO m fl e) lb g:=by
 have o:bM (λ_=>False) H (H.cO m fl e):=lx H _ _;have B:ba (H.cO m fl e):=xY a.inv _ aj;have L:(H.cO m fl e).next=H.next+1:=rfl;have back:∀q r b,ω.set p (v.map λb=>(H.next,b)) q=J (r,b)->(q=p/\r=H.next)\/(q≠p/\ω q=J (r,b)):=by intro q r b h;by_cases e:q=p<;>simp_all[aG.nQ,aG.lA]
 refine⟨B,?_,?_,?_,?_,?_,?_,a.oQ,NN a.inv a.iJ _ aj⟩;.intro id cells t h;obtain⟨r,u,g1,g2⟩:=a.di id _ t h;exact⟨r,_,by rw[o.get id (a.inv.get _ _ g1) (λh=>h)];omega,g2⟩
 . intro q z r b c l j;rcases back q r b l with⟨rfl,rfl⟩|⟨_,n⟩
   . rcases back z _ c j with⟨rfl,_⟩|⟨_,d⟩;.rfl
     .have:=a.cq _ _ _ d;omega
   . rcases back z r c j with⟨_,rfl⟩|⟨_,d⟩;.have:=a.cq _ _ _ n;omega
     .exact a.inj _ _ _ _ _ n d
 . intro q r id x f y;obtain⟨cells,t⟩:=x;obtain⟨I,u,g1,_⟩:=a.di id _ t y;have hid:=a.inv.get _ _ g1;have hr:rootOf (H.cO m fl e) id=rootOf H id:=by unfold rootOf;rw[o.get id hid (λh=>h)]
   rw[hr];rcases back q r _ f with⟨_,rfl⟩|⟨_,d⟩;.have:=qZ a.inv hid;omega
   .exact a.clean q r id _ d y
 . intro q r b f;rcases back q r b f with⟨_,rfl⟩|⟨_,d⟩;.omega
   .have:=a.cq _ _ _ d;omega
 .intro s b E;obtain⟨i,l,j⟩:=a.box s b E;have A:∀q,¬q.slot->ω.set p (v.map λb=>(H.next,b)) q=ω q:=λq f=>aG.lA _ _ λe=>f (e▸w);exact⟨i,by grind[Pk.slot],j.keep a.inv o (bl.refl _) (aU.refl _) id λD r c x=>⟨by grind[Pk.slot],id⟩⟩
 .intro k G F;obtain⟨i,l,j,n⟩:=a.kj k G F;have A:∀q,¬q.slot->ω.set p (v.map λb=>(H.next,b)) q=ω q:=λq f=>aG.lA _ _ λe=>f (e▸w);exact⟨i,l,by grind[Pk.slot],n.keep a.inv o (bl.refl _) (aU.refl _) id λD r c x=>⟨by grind[Pk.slot],id⟩⟩
theorem Od{c:ah Nat}(a:HR K O ω H M.lb M.g)(y:ch K O ω H tm M.sl)(h:aJ M dst (.dv (.ay l e esz) (.ex e))=J st')(L:fl.wr=V)(u:ij K O l esz 0 m)(I:(c=Z/\l.length*esz=m.length)\/c=J l.length):gY K O ω H st' (iz tm dst (.sl H.next 0 l.length c esz)) (H.cO m fl e):=by
 have S:(H.cO m fl e).get _=J _:=mS H _;have U:(H.cO m fl e).bh H.next=(0,H.next):=BS (H:=H) a.inv ae;have w:BA K O (H.cO m fl e) H.next (.ay l e esz) (.sl H.next 0 l.length c esz) e:=by
   refine⟨l,_,_,0,c,m,fl,rfl,rfl,S,L,aj,aj,u,?_⟩;rcases I with⟨f,j⟩|f;.exact .inl ⟨f,aj,ae⟩
   .exact .inr f
 rcases zg h with⟨rfl,rfl⟩|⟨d,rfl,_,hr,rfl⟩
 . have o:=QI (m:=m) (fl:=fl) (e:=e) (p:=.tp 0 0) (v:=Z) a trivial;have P:ch K O ω (H.cO m fl e) tm _:=λt R u=>by obtain⟨A,f,j,n⟩:=y t R u;exact⟨A,f,j,n.keep a.inv (lx H _ _) (bl.refl _) (aU.refl _) (λ_ _ _ _ h=>⟨h,id⟩) aP aP aP⟩
   have T:HR K O ω (H.cO m fl e) st'.lb st'.g:=by
     have B:=o.inv;have q:bM (λ_=>False) H (H.cO m fl e):=lx H _ _;refine⟨B,o.di,a.inj,λp r id x g z=>?_,λp r b g=>Nat.lt_succ_of_lt (a.cq p r b g),λs b G=>?_,λk Q N=>?_,a.oQ,o.iJ⟩
     . obtain⟨cells,E⟩:=x;obtain⟨W,F,g1,_⟩:=a.di id _ E z;have hr:rootOf (H.cO m fl e) id=rootOf H id:=by unfold rootOf;rw[q.get id (a.inv.get _ _ g1) (λh=>h)]
       rw[hr];exact a.clean p r id _ g z
     .obtain⟨i,f,j⟩:=a.box s b G;exact⟨i,f,j.keep a.inv q (bl.refl _) (aU.refl _) id λD r c x=>⟨x,id⟩⟩
     .obtain⟨i,f,j,n⟩:=a.kj k Q N;exact⟨i,f,j,n.keep a.inv q (bl.refl _) (aU.refl _) id λD r c x=>⟨x,id⟩⟩
   exact⟨K,O,ω,bl.refl _,a.gN (lx H _ (λ_=>False)),aU.refl _,T,P,lx H _ _,λp r b g=>.inl ⟨p,b,g⟩⟩
 . have o:=QI (m:=m) (fl:=fl) (e:=e) (p:=.sl d) (v:=J V) a trivial;refine⟨K,O,_,bl.refl _,a.gN (lx H _ (λ_=>False)),aU.refl _,o,?_,lx H _ _,λp r b g=>?_⟩;.refine xJ a.inv y (lx H _ _) (bl.refl _) (aU.refl _) (λp r b _ j _ h=>⟨by grind[aG.lA],id⟩) (λs i b h=>by grind[aG.lA]) aP aP ?_;exact .inr ⟨_,by simp[aG.nQ],w⟩
   . by_cases e1:p=.sl d;.grind[aG.nQ]
     .rw[aG.lA _ _ e1]at g;exact .inl ⟨p,b,g⟩
theorem aFS{c:aD}{n:Nat}(b:bH K O z.flat c)(s:∀x,x∈z.flat->x.bj=V)(k:z.flat.length=n)(f:0<n)(l:Nat):ij K O (List.replicate l z) n 0 (kU l c):=by
 have o:c.length=n:=by rw[<-b.1];omega
 refine⟨f,by grind[Jh],λi x g=>?_,λi x j d a g hd h=>?_⟩;.grind
 . obtain⟨hi,rfl⟩:i<l/\z=x:=by grind
   have e:j<n:=aj;have X:i*n+j<l*n:=by have:(i+1)*n<=l*n:=ml _ hi;grind
   rw[jM,ZM _ _ _ aj,o]at h;rw[Nat.mul_comm,Nat.mul_add_mod,Nat.mod_eq_of_lt e]at h;exact b.2 j d a hd h
theorem as3{c:Nat}{z:Bool}:∀(f:List (Nat×DV))(s:List (Nat×AV))(l d:aA)(m:aD),oN (λ(l:aA)(p:Nat×DV)=>bif cM p.1 l.length&&(aw p.2.flat.length c&&(p.2.bj==z))then J (jo l p.1 p.2)else Z) f l=J d->ij K O l c 0 m->f.length=s.length->(∀(i:Nat)(p:Nat×DV)(q:Nat×AV),f[i]?=J p->s[i]?=J q->p.1=q.1/\DR K O p.2 q.2)->∃e,Ao (λi=>J (jD i c,c)) s m=J e/\ij K O d c 0 e/\d.length=l.length/\e.length=m.length:=by intro f;induction f with
 |nil=>
 intro s l d m h r o _;rcases s with _|⟨q,s⟩;.obtain rfl:=br (show J l=J d from h);exact⟨m,rfl,r,rfl,rfl⟩
 grind|cons p f t=>
 intro s l d m h r o j;rcases s with _|⟨q,s⟩;.grind
 obtain⟨e1,e2⟩:=j 0 p q rfl rfl;rw[H4]at h;obtain⟨l1,F,h⟩:=aE h;rcases g:(cM p.1 l.length&&(aw p.2.flat.length c&&(p.2.bj==z)))with _|_;.grind
 rw[g]at F;cases F;simp only[iC,fB,bN,mw]at g;obtain⟨Q,I,_⟩:=g;obtain⟨A,L,v,w⟩:=e2.cells;have u:l[p.1]?=J l[p.1]:=eZ Q;have H:=(r.2.2.1 _ _ u).1;obtain⟨r1,r2⟩:=r.set (k0:=0) (n:=c) (el':=p.2) u (by grind[pR]) I ae v w;simp only[jM,zU]at r1 r2;obtain⟨e,B,k,D,E⟩:=t s _ d _ h r1 aj λi a b x y=>j (i+1) a b aj aj;have G:A.length=c:=by rw[<-v.1];omega
 refine⟨e,?_,k,by grind[Nt],by grind[Bf]⟩;show((J _).bind _).bind (Ao (λi=>J (jD i c,c)) s)=J e;grind[ef,du]
theorem ane(i:dD P K O aq)(j:HR K O ω H M.lb M.g)(s:ch K O ω H tm M.sl){e:Nat}{a:Array (Nat×aH)}(c:o.op=.buildSlice t e a)(q:∀p,p∈a.toList->jN M p.2)(h:dM P aq fk gs cr later M o=J st'):eW P ak rec cf K O ω H cB M st' tm o:=by
 unfold dM at h;rw[c]at h;simp only at h;split at h;.rename_i elem B;obtain⟨n,E,h⟩:=aE h;cases g:(aw n 0||!(bV (e*n) 16777216))with|true=>grind|false=>
  rw[g]at h;obtain⟨x,S,h⟩:=aE h;obtain⟨z,r,h⟩:=aE h;rw[bN]at h;by_cases f:z.flat.length=n
  . simp only[f,eu,aL]at h;obtain⟨l,k,h⟩:=aE h;obtain⟨m,D,d,v⟩:=abr K O r;obtain⟨A,F,y,q3⟩:=MP i s _ _ q S;have w:0<n:=by grind
    obtain⟨u,f1,f2,f3,f4⟩:=as3 x A _ _ _ k (aFS d v f w _) y q3;have L:m.length=n:=by rw[<-d.1];omega
    obtain⟨g1,g2,g3,_⟩:=qq h;refine⟨_,H.cO u .ex _,?_,g1,Od j s h rfl f2 (.inr rfl),g2,g3,Mm _ _ _ _⟩;unfold fP dV;rw[c];simp only[GQ];by_cases b:e=0;.have e1:aw 0 0=V:=rfl;have e2:kU 0 ([]:aD)=kU 0 m:=rfl;grind
    grind[ef,bN]
  grind
 grind
def Bg(s i:Nat)(d:ah Nat):Pk->ah Pk:=λp=>if(∃k,d=J k/\p=.sl k)then J (.tp s i)else if p=.tp s i then Z else J p
theorem aH9(s i:Nat)(d:ah Nat):Src (Bg s i d)where
 inj:=λp q y b a=>by
  unfold Bg at b a;by_cases e:∃k,d=J k/\p=.sl k
  . rw[if_pos e]at b;cases b;obtain⟨k,g,rfl⟩:=e;by_cases c:∃k,d=J k/\q=.sl k;.obtain⟨j,A,rfl⟩:=c;rw[g]at A;cases A;rfl
    . rw[if_neg c]at a;split at a;.simp at a
      .rename_i h;exact absurd (br a) h
  . rw[if_neg e]at b;split at b;.simp at b
    . rename_i f;cases b;by_cases c:∃k,d=J k/\q=.sl k;.rw[if_pos c]at a;exact absurd (br a).symm f
      . rw[if_neg c]at a;split at a;.simp at a
        .exact(br a).symm
 base:=λp b=>by unfold Bg;rw[if_neg (λ⟨k,_,h⟩=>b (by rw[h];trivial)),if_neg (λh=>b (by rw[h];trivial))]
theorem aIa{s i:Nat}{d:ah Nat}(h:∀k,d=J k->p≠.sl k)(a:p≠.tp s i):Bg s i d p=J p:=by grind[Bg]
theorem aIb(s i d:Nat):Bg s i (J d) (.sl d)=J (.tp s i):=by simp[Bg]
def IN(x:DV×aX):DV×aX:=match x.2 with|.ex _=>(.jk,.no)|_=>(x.1,.no)
theorem aAb{q:Pk}{x:DV×aX}(h:cJ K O ω H p x.1 a x.2):cJ K O ω' H q (IN x).1 a (IN x).2:=by obtain⟨d,o⟩:=x;cases o with|no=>exact h|any=>obtain⟨b,c⟩:=h;subst b;subst c;exact .nl|full e=>exact h.1|ty e=>exact h.1|ex e=>exact cJ.jk h
theorem asR(n:HR K O ω H M.lb M.g)(I:ch K O ω H tm M.sl){i:Nat}(Y:o.op=.extract x i)(h:dM P aq fk gs cr later M o=J st'):eW P ak rec cf K O ω H cB M st' tm o:=by unfold dM at h;rw[Y]at h;simp only at h;cases x with
 |tmp s=>simp only at h;cases G:look M.sl s with|none=>simp_all|some A=>rw[G]at h;cases A with
  |tp l=>
  simp only at h;obtain⟨x,L,h⟩:=aE h;obtain⟨a,B,a2,m,rfl,m1,N⟩:=I s _ G;have hi:i<l.length:=(List.getElem?_eq_some_iff.1 L).1;have g:m[i]?=J m[i]:=eZ ae;have w:=N i x _ L g;have jR:AM.bu P tm (.tmp s)=J (.cw m):=aiz B aO;have he:dV P ak tm H o=J (.val m[i] H):=by simp_all[dV,JW,xw,ff]
  change aJ {M with sl:=put M.sl s (.tp (l.take i++IN x::l.drop (i+1)))} o.dst (.dv x.1 x.2)=J st' at h;obtain⟨f1,f2,f3,f4,f5⟩:=qq h;refine⟨m[i],H,by grind[fP],f1,?_,f2,f3,wK.refl _ _ _⟩;have U:∀j,(l.take i++IN x::l.drop (i+1))[j]?=if j=i then J (IN x)else l[j]?:=by grind
  have v:=n.of (aH9 s i o.dst);have F:∀p r c,ω.of (Bg s i o.dst) p=J (r,c)->dH ω r\/H.next<=r:=λp r c z=>let⟨q,_,h⟩:=aG.jC z;.inl ⟨q,c,h⟩;have mid:∀(d:ah Nat),ch K O (λp=>if(∃k,d=J k/\p=.sl k)then ω p else ω.of (Bg s i d) p) H tm (put M.sl s (.tp (l.take i++IN x::l.drop (i+1)))):=by
    intro d;have Q:∀p,p≠.tp s i->(if(∃k,d=J k/\p=Pk.sl k)then ω p else ω.of (Bg s i d) p)=ω p:=by
      intro p z;by_cases e:∃k,d=J k/\p=.sl k;.rw[if_pos e]
      .rw[if_neg e];unfold aG.of;rw[aIa (λk u W=>e ⟨k,u,W⟩) z];rfl
    refine Jv n.inv I (bl.refl _) (λp r b f _ _ h=>by rw[Q p (f i)];exact h) (λs=>by rw[Q _ aO]) B (λ_=>aO) ?_;refine⟨m,rfl,?_,λj y c g E=>?_⟩;.rw[db,Bv,bU,List.length_drop,<-m1];omega
    . rw[U]at g;by_cases e:j=i;.rw[if_pos e]at g;cases g;subst e;obtain rfl:=br (E.symm.trans (by assumption:m[j]?=J m[j]));exact aAb w
      .rw[if_neg e]at g;refine(N j y c g E).uX ?_;exact Q _ (by simp;exact e)
  rcases zg h with⟨f,rfl⟩|⟨d,f,_,hr,rfl⟩;.rw[f];rw[f]at v F;refine⟨K,O,_,bl.refl _,n.gN (bM.refl (λ_=>False) _),aU.refl _,v,?_,bM.refl _ _,F⟩;have:=mid Z;intro t A ht;obtain⟨R,g1,g2,g3⟩:=this t A ht;refine⟨R,g1,g2,g3.keep (S:=λ_=>False) n.inv (bM.refl _ _) (bl.refl _) (aU.refl _) (λp r c _ h=>⟨by rw[if_neg aO]at h;exact h,id⟩) (λs D i' T _ h=>by rw[if_neg aO];exact h) (λ_ _=>rfl) (λ_ _ _ _ _=>id)⟩
  . rw[f];rw[f]at v F;refine⟨K,O,_,bl.refl _,n.gN (bM.refl (λ_=>False) _),aU.refl _,v,?_,bM.refl _ _,F⟩;refine xJ (S:=λ_=>False) n.inv (mid (J d)) (bM.refl _ _) (bl.refl _) (aU.refl _) (λp r c _ X _ h=>⟨?_,id⟩) (λs' i' T h=>?_) (λ_ _ _=>id) (λ_=>w.qU) ?_;.rw[if_neg (λ⟨k,u,e⟩=>by cases u;exact X e)]at h;exact h
    .rw[if_neg (λ⟨k,u,e⟩=>by simp at e)];exact h
    .exact w.uX (by unfold aG.of;rw[aIb];rfl)|_=>simp at h
 |_=>simp at h
theorem xG(H:Heap)(i r:Nat)(o:bQ):(H.put i r o).get i=J o:=Tr.lL _ _ _
theorem oY(H:Heap){i:Nat}(r:Nat)(o:bQ)(h:j≠i):(H.put i r o).get j=H.get j:=Tr.jF _ _ (Ne.symm h)
theorem aES(a:ba H){i:Nat}{c d:Nat}(g:H.get i=J (.map es c)):ba (H.put i r (.map fs d)):=by
 refine⟨λj o h=>?_,λj l b n e1 h=>?_,λj l b n e1 h=>?_,a.dh,a.bn⟩
 . by_cases e:j=i;.rw[e];exact a.get _ _ g
   .rw[oY H r _ e]at h;exact a.get j o h
 . by_cases e:j=i;.grind[xG]
   .rw[oY H r _ e]at h;exact a.root j l b _ e1 h
 . by_cases e:j=i;.grind[xG]
   .rw[oY H r _ e]at h;obtain⟨p,f,k,m⟩:=a.oy j l b _ e1 h;grind[oY]
theorem aKV(u:po H){i:Nat}{c d:Nat}(k:H.get i=J (.map es c)):po (H.put i r (.map fs d)):=λj l b fl e h=>by
 by_cases a:j=i;.grind[xG]
 .rw[oY H r _ a]at h;obtain⟨m,f,g⟩:=u j l b fl e h;grind[oY]
theorem ai2{i:Nat}{c d:Nat}(h:H.get i=J (.map es c))(j:Nat):rootOf (H.put i r (.map fs d)) j=rootOf H j:=by grind[rootOf,xG,oY]
theorem ai1{i:Nat}{c d:Nat}(g:H.get i=J (.map es c)):bM (λx=>x=i) H (H.put i r (.map fs d))where
 next:=bo _
 get:=λj _ h=>oY H r _ (λx=>h (by subst x;unfold rootOf;rw[g]))
 dh:=λa _ h=>rfl
 root:=λj _=>ai2 g j
theorem HR.aHc{f i:Nat}{es:List pf}{fs':List ew}{c:Nat}{y:GO}{d:Nat}(a:HR K O ω H lb g)(M:O f=J i)(G:ω (.g f)=J (i,V))(t:H.get i=J (.map fs c))(N:Br K O ω (H.put i i (.map fs' d)) f y i):HR K O ω (H.put i i (.map fs' d)) lb (g.set f y):=by
 have u:=ai1 (r:=i) (fs:=fs') (d:=d) t;have A:∀q l b,q≠.g f->ω q=J (l,b)->¬l=i:=λq l b F h e=>by subst e;exact F (a.inj _ _ _ _ _ h G)
 refine⟨aES a.inv t,λj cells e1 E=>?_,a.inj,λp r1 j x w m=>by rw[ai2 t];exact a.clean p r1 j x w m,a.cq,λs b B=>?_,λk v n=>?_,λk L=>a.oQ k L,aKV a.iJ t⟩;.obtain⟨root,I,g1,g2⟩:=a.di j cells e1 E;have:j≠i:=λe=>aP;exact⟨root,I,by grind[oY],g2⟩
 .obtain⟨j,m,o⟩:=a.box s b B;exact⟨j,m,o.keep (S:=λx=>x=i) a.inv u (bl.refl _) (aU.refl _) (A _ j V aO m) λD l c x=>⟨x,A _ l c aO x⟩⟩
 . have n:look (put g.yQ f y) k=J v:=n;rw[mC]at n;by_cases e:k=f;.simp_all
   .rw[if_neg e]at n;obtain⟨j,m,o,z⟩:=a.kj k v n;exact⟨j,m,o,z.keep (S:=λx=>x=i) a.inv u (bl.refl _) (aU.refl _) (A _ j V aj o) λD l c x=>⟨x,A _ l c aO x⟩⟩
theorem apB{ih:al->DV->DV->ah Bool}{x y:DV}{b:AV}(h:Am P ih t x y=J V)(d:vV P t x=V)(e:DR K O x a)(f:DR K O y b):sameKey b a=V:=by
 unfold vV at d;unfold Am at h;split at d;.rename_i c u;cases e;cases f<;>simp[u]at h;subst h;simp[sameKey,zd]
 .rename_i k n g u;cases e;cases f<;>simp[u]at h;obtain⟨rfl,h⟩:=h;rw[CZ]at h;have:=A2 h;subst this;simp[sameKey,zd,CZ]
 .rename_i s u;cases e;cases f<;>simp[u]at h;rw[Al]at h;have:=A2 h;subst this;simp[sameKey,zd,Al]
 .simp at d
theorem atc{k:DV}:∀(es:List pf)(i:Nat)(j:Nat)(x:pf),findD P t k es i=J (J (j,x))->kN P 50 t k x.1=J V:=by intro es;induction es with|nil=>simp[findD]|cons e es d=>intro i j x h;have a:((kN P 50 t k e.1).bind λb=>bif b then J (J (i,e))else findD P t k es (i+1))=J (J (j,x)):=h;obtain⟨b,c,a⟩:=aE a;grind
theorem aA7(Q:dD P K O aq)(w:HR K O ω H M.lb M.g)(I:ch K O ω H tm M.sl){k:aH}(G:o.op=.mapUpdate t x k y)(R:jN M k)(T:jN M y)(h:dM P aq fk gs cr later M o=J st'):eW P ak rec cf K O ω H cB M st' tm o:=by
 have hK:=w.sub;unfold dM at h;rw[G]at h;simp only at h;split at h;.rename_i kt et r hu m;obtain⟨a,a1,_,a3⟩:=qm (P:=P) Q w I m;cases a3 with|map _ i hi=>
  split at h
  . rename_i es c LA;obtain⟨kv,Il,h⟩:=aE h;obtain⟨yv,VS,h⟩:=aE h;obtain⟨b,b1,_,F⟩:=sU (P:=P) Q I R Il;obtain⟨v,v1,_,v3⟩:=sU (P:=P) Q I T VS;obtain⟨i',q1,L,q2⟩:=w.kj _ _ LA;obtain rfl:i=i':=br (hi.symm.trans q1);obtain⟨fs,W,A,X⟩:=q2;have hm:H.jT i=J (fs,c):=by unfold Heap.jT;rw[W]
    by_cases E:vV P kt kv=V
    . simp only[E,aL]at h;obtain⟨rr,pG,h⟩:=aE h;have vK:=ahc E F;have he:dV P ak tm H o=(oM P kt b fs 0).bind λ|some (j,e)=>bif sameKey e.1 b then J (.val fR (H.put i i (.map (v7 fs j (e.1,v,e.2.2)) c)))else Z|none=>J (.val fR (H.put i i (.map (cQ fs [(b,v,c)]) (eU c)))):=by unfold dV;rw[G];simp only[Ek];simp only[hu,a1,hm,b1,v1,vK,cU,aL]<;>rfl
      have fin:∀{f:List ew}{s:List pf}{d:Nat},dV P ak tm H o=J (.val fR (H.put i i (.map f d)))->s.length=f.length->(∀(k:Nat)(x:pf)(y:ew),s[k]?=J x->f[k]?=J y->wF K O x y)->aJ {M with sl:=cV M.sl,g:=M.g.set r (.map s d)} o.dst (.tp [])=J st'->eW P ak rec cf K O ω H cB M st' tm o:=by
        intro f s d e1 e2 e3 e4;obtain⟨f1,f2,f3,_⟩:=qq e4;have z:=ai1 (r:=i) (fs:=f) (d:=d) W;have w8:=HR.aHc (es:=es) (fs':=f) (d:=d) (y:=.map s d) w hi L W ⟨f,xG _ _ _ _,e2,e3⟩;have mA:ch K O ω (H.put i i (.map f d)) tm (cV M.sl):=Ct (S:=λx=>x=i) w.inv I z (bl.refl _) (aU.refl _) (λp D b U h=>⟨h,λe=>by subst e;have:=w.inj _ _ _ _ _ h L;subst this;exact U.elim⟩) (λ_ _ _ h=>h);refine⟨fR,H.put i i (.map f d),by unfold fP;rw[e1];rfl,f1,?_,f2,f3,?_⟩;.exact gY.trans (H1:=H.put i i (.map f d)) (K1:=K) (φ1:=O) (ω1:=ω) w.inv (bl.refl _) (w.gN z) (aU.refl _) (z.zo w.inv λD _ e=>⟨.g r,V,by rw[show D=i from e];exact L⟩) (λp r b U=>.inl ⟨p,b,U⟩) (Km (M:={M with sl:=cV M.sl,g:=M.g.set r (.map s d)}) w8 mA e4)
        . refine⟨rfl,λz=>absurd (by rw[G];rfl) z,λz=>absurd (by rw[G];rfl) z,λD hr=>?_,λD hr=>.inl hr⟩;have hr:D∈Heap.note H.bn i H.bK:=hr;rcases vZ hr with h|⟨rfl,h⟩;.exact .inl h
          .exact .inr ⟨h,_,V,L⟩
      rcases aeN F es fs 0 rr A (λj x y e1 e2=>X j x y e1 e2) pG with⟨rfl,g⟩|⟨j,x',Y,rfl,g1,g2,_,g4,g5⟩
      . simp only at h;refine fin (f:=fs++[(b,v,c)]) (s:=es++[(kv,yv,c)]) (d:=c+1) (by rw[he,g];simp only[cU,lQ]) (by simp[A]) (λj x y m u=>?_) h;by_cases hj:j<es.length;.rw[oF hj]at m;rw[oF (by rw[<-A];exact hj)]at u;exact X j x y m u
        .rw[oG ae]at m;rw[oG ae,<-A]at u;cases B:j-es.length with|zero=>rw[B]at m u;cases m;cases u;exact⟨F,v3,rfl⟩|succ n=>rw[B]at m;simp at m
      . simp only at h;have P5:sameKey Y.1 b=V:=apB (ih:=kN P 49) (atc _ _ _ _ pG) E F g2.1;rw[Nat.sub_zero]at g4 g5;have oS:j<es.length:=(List.getElem?_eq_some_iff.1 g4).1;have dS:∀{α:Type}(l:List α)(v:α),j<l.length->∀q,(l.take j++v::l.drop (j+1))[q]?=if q=j then J v else l[q]?:=by
          intro α l v hl q;by_cases e:q=j;.subst e;rw[if_pos rfl,oG (by rw[Bv];omega),Bv,Nat.min_eq_left ae,Nat.sub_self];rfl
          . rw[if_neg e];by_cases bX:q<j;.rw[oF (by rw[Bv];omega),Ew bX]
            .rw[oG (by rw[Bv];omega),Bv,Nat.min_eq_left ae];obtain⟨n,hn⟩:∃n,q-j=n+1:=⟨q-j-1,ae⟩;rw[hn,J6,zO];congr 1;omega
        have N:∀(l:List ew)(v:ew),v7 l j v=l.take j++v::l.drop (j+1):=by intro l v;unfold v7;rw[lQ,qx,qI]
        refine fin (f:=fs.take j++(Y.1,v,Y.2.2)::fs.drop (j+1)) (s:=es.take j++(x'.1,yv,x'.2.2)::es.drop (j+1)) (d:=c) (by rw[he,g1];simp only[cU,P5,aL,N]) ?_ (λq x y m u=>?_) h;.rw[db,db,Bv,Bv,bU,bU,List.length_drop,List.length_drop,A]
        . rw[dS _ _ oS]at m;rw[dS _ _ (by rw[<-A];exact oS)]at u;by_cases e:q=j;.rw[if_pos e]at m u;cases m;cases u;exact⟨g2.1,v3,g2.2.2⟩
          .rw[if_neg e]at m u;exact X q x y m u
    .simp[E]at h
  .simp at h
 .simp at h
theorem afm(i:ba H){q:Nat}{c:aD}{e':al}(g:H.get q=J (.cells cl r fl e))(Y:Nat)(k:Bool):ba (H.hQ r Y k c e'):=by
 have hid:=i.get q _ g;have hr:=(i.root _ _ _ _ _ g).1;refine⟨λj o h=>?_,λj l a D e1 h=>?_,λj l a D e1 h=>?_,λa f h=>?_,Nat.le_succ_of_le i.bn⟩
 . show j<H.next+1;by_cases n:j=H.next;.omega
   .rw[lJ H r _ k c e' n]at h;have:=i.get j o h;omega
 . by_cases n:j=H.next;.grind[yn,An]
   . rw[lJ H r _ k c e' n]at h;obtain⟨s,p⟩:=i.root j l a _ e1 h;by_cases b:a=r;.subst b;rw[An];have:=i.get j _ h;omega
     grind[HT]
 . by_cases n:j=H.next;.subst n;rw[yn]at h;obtain⟨t,d,e2,p⟩:=i.oy _ _ _ _ _ g;grind[lJ]
   .rw[lJ H r _ k c e' n]at h;have s:=(i.root j l a _ e1 h).1;have u:=i.get j _ h;obtain⟨t,d,e2,p⟩:=i.oy j l a _ e1 h;grind[lJ]
 . show a<H.next+1/\f.2<H.next+1;by_cases b:a=r;.have m:(H.hQ a _ k c e').dh.get a=J (bif k then H.next else Y,H.next):=Tr.lL _ _ _;grind
   .have m:(H.hQ r Y k c e').dh.get a=H.dh.get a:=Tr.jF _ _ (Ne.symm b);rw[m]at h;have:=i.dh a f h;omega
theorem akv(i:ba H)(u:po H){d:Nat}{c:aD}(g:H.get d=J (.cells cl r fl e))(Y:Nat)(k:Bool):po (H.hQ r Y k c e):=λj l m D e1 h=>by
 by_cases n:j=H.next;.subst n;rw[yn]at h;obtain⟨_,rfl,_,rfl⟩:=bQ.cells.inj (br h);obtain⟨b,f,a⟩:=u _ _ _ _ _ g;exact⟨b,_,by rw[lJ H _ _ _ _ _ (by have:=i.get _ _ a;omega)];omega⟩
 .rw[lJ H r _ k c e n]at h;obtain⟨b,f,a⟩:=u j l m _ e1 h;exact⟨b,_,by rw[lJ H _ _ _ _ _ (by have:=i.get _ _ a;omega)];omega⟩
theorem UZ(r Y:Nat)(k:Bool)(c:aD)(e:al):bM (λx=>x=r) H (H.hQ r Y k c e)where
 next:=J' _
 get:=λj h _=>lJ H r Y k c e ae
 dh:=λa _ h=>HT H r Y k c e h
 root:=λj h=>by unfold rootOf;rw[lJ H r Y k c e ae]
theorem auU(r Y:Nat)(k:Bool)(c:aD)(e:al)(h:j<H.next):rootOf (H.hQ r Y k c e) j=rootOf H j:=by grind[rootOf,lJ]
theorem afl(a:HR K O ω H lb g){F:Nat}{c:aD}{v:Bool}(t:H.get F=J (.cells cl r fl e))(E:p.slot)(Q:∀q b,ω q≠J (r,b))(R:v=V->∀j x,K j=J x->rootOf H j≠r):HR K O (ω.set p (J (r,v))) (H.hQ r (H.bh r).1 C c e) lb g:=by
 have y:=UZ (H:=H) r (H.bh r).1 C c e;have A:=afm (c:=c) (e':=e) a.inv t (H.bh r).1 C;have M:r<H.next:=by have:=(a.inv.root _ _ _ _ _ t).1;have:=a.inv.get _ _ t;omega
 have S:(H.hQ r (H.bh r).1 C c e).next=H.next+1:=rfl;have back:∀q d b,ω.set p (J (r,v)) q=J (d,b)->(q=p/\d=r/\b=v)\/(q≠p/\ω q=J (d,b)):=by grind[aG.nQ,aG.lA]
 have N:∀q,¬q.slot->ω.set p (J (r,v)) q=ω q:=λq m=>aG.lA _ _ λe=>m (e▸E);refine⟨A,?_,?_,?_,?_,?_,?_,a.oQ,akv a.inv a.iJ t _ _⟩;.intro j cells e1 h;obtain⟨d,B,g1,g2⟩:=a.di j _ e1 h;have P:=a.inv.get _ _ g1;grind[lJ,An,HT]
 . intro q L d b f n o;rcases back q d b n with⟨rfl,rfl,_⟩|⟨_,u⟩;.grind
   . rcases back L d f o with⟨_,rfl,_⟩|⟨_,l⟩;.grind
     .exact a.inj _ _ _ _ _ u l
 . intro q d j x m z;obtain⟨cells,e1⟩:=x;obtain⟨_,_,g1,_⟩:=a.di j _ e1 z;rw[auU _ _ _ _ _ (a.inv.get _ _ g1)];rcases back q d _ m with⟨_,rfl,w⟩|⟨_,l⟩;.grind
   .exact a.clean q d j _ l z
 . intro q d b m;rcases back q d b m with⟨_,rfl,_⟩|⟨_,l⟩;.omega
   .have:=a.cq _ _ _ l;omega
 .intro s b w;obtain⟨i,n,o⟩:=a.box s b w;exact⟨i,by grind[Pk.slot],o.keep a.inv y (bl.refl _) (aU.refl _) aj λD d f x=>⟨by grind[Pk.slot],λe=>Q _ f (e▸x)⟩⟩
 .intro k I G;obtain⟨i,n,o,u⟩:=a.kj k I G;exact⟨i,n,by grind[Pk.slot],u.keep a.inv y (bl.refl _) (aU.refl _) aj λD d f x=>⟨by grind[Pk.slot],λe=>Q _ f (e▸x)⟩⟩
theorem HR.VW(a:HR K O ω H lb g){i:Nat}(f:H.get i=J (.cells cl r fl e))(d:(H.bh r).1<=i)(n:K i=Z)(k:∀q,ω q≠J (r,V)):HR (K.add i (cl,e)) O ω H lb g:=by
 refine a.uX (aY.CH n) aP (λj cells e1 h=>?_) a.inj (λp r1 j x c b=>?_) a.cq
 . unfold aY.add at h;by_cases x:j=i;.grind
   .rw[if_neg x]at h;exact a.di j _ e1 h
 . unfold aY.add at b;by_cases y:j=i;.grind[mF]
   .rw[if_neg y]at b;exact a.clean p r1 j x c b
theorem ij.append{n:aA}{c:aD}(h:ij K O l esz D c)(k:ij K O n esz 0 nc)(v:nc.length=n.length*esz):ij K O (l++n) esz 0 ((c.drop D).take (l.length*esz)++nc)/\((c.drop D).take (l.length*esz)++nc).length=(l.length+n.length)*esz:=by
 obtain⟨f,o,p,q⟩:=h;obtain⟨r,s,t,g⟩:=k;have e:((c.drop D).take (l.length*esz)).length=l.length*esz:=aj;have V:((c.drop D).take (l.length*esz)++nc).length=(l.length+n.length)*esz:=aj;refine⟨⟨f,?_,λi x b=>?_,λi x j d a b hd m=>?_⟩,V⟩;.grind
 .grind
 . by_cases hi:i<l.length
   . rw[oF hi]at b;have u:j<esz:=aj;have X:i*esz+j<l.length*esz:=by have:(i+1)*esz<=l.length*esz:=ml _ hi;grind
     grind
   .rw[oG ae]at b;have F:l.length*esz<=i*esz:=ml _ ae;rw[jM,oG ae,e]at m;refine g _ x j d a b hd ?_;grind[Nat.sub_mul]
theorem aAv(I:dD P K O aq)(N:HR K O ω H M.lb M.g)(Q:ch K O ω H tm M.sl){n:aA}(R:bp aq M x=J v)(p:Dz v=J n):∃a,AM.bu P tm x=J a/\rT a=J n.length/\∀esz,0<esz->(∀y,y∈n->y.flat.length=esz)->∃nc,qK H esz n.length a=J nc/\ij K O n esz 0 nc/\nc.length=n.length*esz:=by
 have k:∀(l:aA)(e esz id D:Nat)(c:ah _)(cells:aD)(r:Nat)(fl:gS)(u:al),ij K O l esz D cells->H.get id=J (.cells cells r fl u)->(H.bh r).1<=id->∀L,0<L->(∀y,y∈l->y.flat.length=L)->∃nc,qK H L l.length (.sl id D l.length c esz)=J nc/\ij K O l L 0 nc/\nc.length=l.length*L:=by
  intro l e esz id D c cells r fl u A S s L q lU;rcases l with _|⟨y,l⟩;.exact⟨[],rfl,⟨q,aO,λi x h=>aj,λi x j d a h=>aj⟩,aO⟩
  have z:esz=L:=by have w:=(A.2.2.1 0 y rfl).1;grind
  obtain⟨Y,a2,a3,a4⟩:=A;refine⟨(cells.drop D).take ((y::l).length*esz),?_,?_,aj⟩
  . unfold qK;have:aw (y::l).length 0=C:=by rfl
    simp only[this,bg,bN,eu,aL];unfold Heap.load;rw[OF S s];grind[du,ef,qx,qI]
  grind[ij]
 have m:∀{a:AV},DR K O v a->rT a=J n.length/\∀esz,0<esz->(∀y,y∈n->y.flat.length=esz)->∃nc,qK H esz n.length a=J nc/\ij K O n esz 0 nc/\nc.length=n.length*esz:=by
  intro a hd;unfold Dz at p;split at p;.cases p;cases hd;exact⟨rfl,λesz q _=>⟨[],rfl,⟨q,aO,λi x h=>aj,λi x j d a h=>aj⟩,aO⟩⟩
  .cases p;cases hd with|ay l e esz id D c cells g1 z G hc W g=>obtain⟨r,fl,T,U⟩:=N.di _ _ _ g1;exact⟨rfl,k _ 0 _ _ _ _ _ _ _ _ ⟨z,G,W,g⟩ T U⟩
  grind
 obtain⟨X,w,B⟩:=aE R;obtain⟨a,E,h4,F⟩:=qV I Q w;refine⟨a,E,?_⟩;cases X with
 |dv d o=>
  obtain rfl:=br (show J d=J v from B);rcases F with⟨t,_,_,_,b⟩|⟨_,⟨d2,e,b⟩|⟨d2,f,_,e1,e2,b⟩|⟨g,l,cells,e,e1,_⟩⟩;.cases o with|no=>exact m b|any=>obtain⟨rfl,rfl⟩:=b;exact m .nl|full e=>exact m b.1|ty e=>exact m b.1|ex e=>
    rcases b with⟨rfl,rfl⟩|⟨r,_,b⟩;.exact m .nl
    .obtain⟨l,esz,id,D,c,cells,fl,rfl,rfl,g3,g4,g5,g6,g7,_⟩:=b.ex;obtain rfl:=br (show J l=J n from p);exact⟨rfl,k _ 0 _ _ _ _ _ _ _ _ g7 g3 g5⟩
  all_goals grind|_=>grind[CV]
end
section
variable{P:aM}{ak:bZ}{rec:Rec}{cf:cj}{K K' K1:aY}{O ψ:bY}{ω ω' ω0:aG}{H H':Heap}{S:Nat->Prop}
variable{gs cr:an}{fk:bS->Nat}{later:List aC}{cB M st':St}{tm:Tr AV}{o:aC}{aq:Nat->ah aA}
theorem SN{d:Nat}{v:Bool}{x:DV}{l:cT}(g:ba H)(j:ch K O ω H tm l)(G:M.sl=cV l)(h:aJ M (J d) (.dv x ow)=J st')(c:bl K K1)(k:bM S H H')(o:HR K1 O (ω.set (.sl d) (J (r,v))) H' M.lb M.g)(u:∀p r b,p.slot->ω p=J (r,b)->¬S r)(t:a≠.top)(m:cJ K1 O (ω.set (.sl d) (J (r,v))) H' (.sl d) x a ow)(I:ta ω0 H H' K K1)(y:bM (dH ω0) H H')(z:dH ω0 r\/H.next<=r)(A:∀p r b,ω p=J (r,b)->dH ω0 r):gY K O ω0 H st' (tm.ins d a) H':=by
 rcases zg h with⟨e,_⟩|⟨n,e,_,_,rfl⟩;.grind
 . cases e;have f:=Ct g j k c (aU.refl _) aj (λ_ _ _ h=>h);refine⟨K1,O,_,c,I,aU.refl _,o,?_,y,λp B b w=>?_⟩;.rw[G];exact xJ o.inv f (bM.refl _ _) (bl.refl _) (aU.refl _) (λp r b _ q _ h=>⟨by grind[aG.lA],id⟩) (λs i b h=>by grind[aG.lA]) aP (λ_=>t) m
   grind[aG.nQ,aG.lA]
theorem Rh(l:ah Nat):Src (uY l):=match l with|some t=>aab t|none=>⟨λp q x h a=>by rw[br h,br a],λp _=>rfl⟩
theorem al8{b n:Nat}(h:0<esz)(a:0<n)(r:(bV (n*b) bF&&bV n bF)=V):nz H elem esz b .bc nc n=J (.sl H.next 0 n Z esz,H.cO nc .op elem):=by grind[nz,BK]
theorem al9{b:Nat}(h:0<esz):nz H elem esz b .bc nc 0=J (.bc,H):=by grind[nz,aw,BK]
theorem abP{b i l:Nat}{c:ah Nat}(h:0<esz)(r:(bV ((l+0)*b) bF&&bV (l+0) bF)=V):nz H elem esz b (.sl i D l c esz) nc 0=J (.sl i D l c esz,H):=by grind[nz,BK,Kv]
theorem SU{b i l n:Nat}(a:0<esz)(c:0<n)(d:(bV ((l+n)*b) bF&&bV (l+n) bF)=V)(g:H.get i=J (.cells cl r fl e))(h:(H.bh r).1<=i):nz H elem esz b (.sl i D l (J l) esz) nc n=J (.sl H.next 0 (l+n) Z esz,H.cO ((cl.drop D).take (l*esz)++nc) .op elem):=by grind[nz,BK,Kv,du,lQ,qx,qI]
theorem abO{b i l n:Nat}(h:0<esz)(a:0<n)(d:(bV ((l+n)*b) bF&&bV (l+n) bF)=V)(g:H.get i=J (.cells cl r fl elem))(w:fl.wr=V)(e:(H.bh r).1<=i)(c:(H.bh r).2=i)(u:D+l*esz=cl.length):nz H elem esz b (.sl i D l Z esz) nc n=J (.sl H.next 0 (l+n) Z esz,H.hQ r (H.bh r).1 C ((cl.drop D).take (l*esz)++nc) elem):=by unfold nz;have S:=Nat.mul_pos a h;grind[du,ef,bN,fB,lQ,qx,qI]
theorem al6{a:Array al}{e:al}{i:TypeInfo}{s x r:AV}{n:Nat}(c:a[0]?.bind P.underlying=J (.slice elem))(d:a[1]?.bind P.underlying=J (.slice e))(j:P.info? elem=J i)(h:fT P elem=J z)(o:z.flat.length=i.size)(l:rT x=J n)(g:qK H i.size n x=J nc)(f:nz H elem i.size i.bytes s nc n=J (r,H')):lf P H .append a [s,x]=J (r,H'):=by
 obtain⟨m,p,b,_⟩:=abr (λ_=>Z) (λ_=>Z) h;have k:aw (eL m) i.size=V:=by rw[ef,<-b.1,o];simp_all
 simp_all[lf]
def Gw(l:ah Nat)(d:Nat):Pk->ah Pk:=match l with|some t=>uf t d|none=>J
theorem aH8(l:ah Nat)(d:Nat):Src (Gw l d):=match l with|some t=>aj1 t d|none=>Rh Z
theorem ady{i:Nat}{c:aD}(h:ij K O L esz 0 c)(a:K i=J (c,e)):DR K O (.ay L e esz) (.sl i 0 L.length Z esz):=.ay L e esz i 0 Z c a h.1 h.2.1 (λk h=>aj) h.2.2.1 h.2.2.2
theorem agP{i:Nat}{y:aD×al}{a:aG}(b:HR (K.add i y) O a H' lb g)(e:HR K O ω H M.lb M.g)(h:dH ω0 (rootOf H' i)\/H.next<=rootOf H' i):ta ω0 H H' K (K.add i y):=λj x d=>by obtain⟨cells,t⟩:=x;obtain⟨r,fl,c,_⟩:=b.di j _ t d;refine⟨b.inv.get _ _ c,?_⟩;grind[aY.add]
theorem alQ{d:Nat}{c:aD}{s:cT}(a:HR K O ω H M.lb M.g)(k:ch K O ω H tm s)(G:M.sl=cV s)(h:aJ M (J d) (.dv (.ay L e esz) (.ty e))=J st')(u:ij K O L esz 0 c)(l:L.length*esz=c.length)(o:∀p r b,ω p=J (r,b)->dH ω0 r):gY K O ω0 H st' (tm.ins d (.sl H.next 0 L.length Z esz)) (H.cO c .op e):=by
 have n:=(Wx (m:=c) (fl:=.op) (e:=e) a).1;have S:(H.cO _ _ e).get _=J (.cells c _ .op e):=mS H _;have D:(H.cO c .op e).bh H.next=(0,H.next):=BS (H:=H) a.inv ae;have j:=QI (m:=c) (fl:=.op) (e:=e) (p:=.sl d) (v:=J C) a trivial;have f:=j.VW S aj n (λq i=>by
 by_cases e1:q=.sl d;.grind[aG.nQ]
 .rw[aG.lA _ _ e1]at i;have:=a.cq _ _ _ i;omega);have g:bl K (K.add _ (c,e)):=aY.CH n;refine SN a.inv k G h g (lx H _ _) f (λ_ _ _ _ _=>id) aO ?_ (agP f a (.inr (by grind[mF]))) (lx H _ _) ae o;refine⟨ady (u.mono g (aU.refl _)) (by simp[aY.add]),.inr ⟨_,_,by rw[aG.nQ],⟨_,0,_,_,_,_,_,rfl,S,rfl,aj,aj,.inl ⟨rfl,aj,ae⟩⟩⟩⟩
theorem abG{d:Nat}{l:aD}{i:Nat}{x:Bool}{F:cT}(a:HR K O ω H M.lb M.g)(B:ch K O ω H tm F)(G:M.sl=cV F)(h:aJ M (J d) (.dv (.ay L e esz) (bif x then .ex e else .ty e))=J st')(g:H.get i=J (.cells cl r fl e))(P:(H.bh r).1<=i)(T:(H.bh r).2=i)(D:ij K O L esz 0 l)(u:L.length*esz=l.length)(Q:∀q b,ω q≠J (r,b))(W:x=V->∀j y,K j=J y->rootOf H j≠r)(A:dH ω0 r)(E:∀p r b,ω p=J (r,b)->dH ω0 r):gY K O ω0 H st' (tm.ins d (.sl H.next 0 L.length Z esz)) (H.hQ r (H.bh r).1 C l e):=by have hid:=a.inv.get _ _ g;have z:=(Wx (m:=l) (fl:=.op) (e:=e) a).1;have S:(H.hQ r (H.bh r).1 C _ e).get _=J (.cells l r _ e):=yn ..;have R:(H.hQ r _ C l e).bh r=((H.bh r).1,H.next):=An ..;have I:G0 (H.hQ r (H.bh r).1 C l e) H.next 0 L.length esz r _ l:=.inl ⟨rfl,aj,ae⟩;have w:((H.hQ r (H.bh r).1 C l e).bh r).1<=H.next:=aj;have k:=UZ (H:=H) r (H.bh r).1 C l e;have N:bM (dH ω0) H _:=k.zo a.inv λn _ e=>aj;have t:∀p n b,p.slot->ω p=J _->¬n=r:=λp n b _ h e=>Q p b (e▸h);cases x with|true=>have f:=afl (c:=l) (p:=.sl d) (v:=V) a g trivial Q ae;refine SN a.inv B G h (bl.refl _) k f t aO ?_ (a.gN k) N (.inl A) E;exact .inr ⟨r,aG.nQ _ _ _,⟨L,_,_,0,_,_,_,rfl,rfl,S,rfl,w,aj,D,I⟩⟩|false=>have f:=afl (c:=l) (p:=.sl d) (v:=C) a g trivial Q ae;have o:=f.VW S w z (λq U=>by grind[aG.nQ,aG.lA]);have s:bl K (K.add _ (l,e)):=aY.CH z;refine SN a.inv B G h s k o t aO ?_ (agP o a (.inl (by grind[mF]))) N (.inl A) E;exact⟨ady (D.mono s (aU.refl _)) (by simp[aY.add]),.inr ⟨r,_,by rw[aG.nQ],⟨_,0,_,_,_,_,_,rfl,S,rfl,w,aj,I⟩⟩⟩
theorem amj(hg:dD P K O aq)(k:HR K O ω H M.lb M.g)(hs:ch K O ω H tm M.sl){c:Call}{s:aH}(ho:o.op=.call c)(hc:c.callee=.builtin .append)(nH:c.args.toList=[s,x])(h:dM P aq fk gs cr later M o=J st'):eW P ak rec cf K O ω H cB M st' tm o:=by
 unfold dM at h;rw[ho]at h;simp only[hc,nH]at h;split at h
 . rename_i elem e2 tI B6;split at h
   . rename_i i z d ow v hi hz hsd mX;rw[bN]at h;by_cases oo:z.flat.length=i.size;.simp only[oo,eu,aL]at h;obtain⟨new,oj,h⟩:=aE h;cases lU:(new.all λy=>aw y.flat.length i.size)with|false=>simp_all|true=>
      rw[lU]at h;simp only[aL]at h;have lU:∀y,y∈new->y.flat.length=i.size:=λy hy=>by simp_all
      obtain⟨r,hr,h⟩:=aE h;cases hd:o.dst with|none=>simp_all|some dd=>
      rw[hd]at h;simp only[SC,aL]at h;obtain⟨ax,x1,x2,x3⟩:=aAv (P:=P) hg k hs mX oj;obtain⟨aS,g,pv,s1,s2,a,s4,s5⟩:=Wb (P:=P) hg k hs hsd;obtain⟨nD,Ap,W,X⟩:=DG leave M s;obtain⟨g1,g2,g3,_⟩:=qq h;have gj:=k.of (Rh g);have pH:∀p r b,ω.of (uY g) p=J (r,b)->dH ω r:=λp r b w=>let⟨q,_,h⟩:=aG.jC w;⟨q,b,h⟩;have U:ch K O (ω.of (uY g)) H tm (cV (aQ leave M s).sl):=Ct (S:=λ_=>False) k.inv s5 (bM.refl _ _) (bl.refl _) (aU.refl _) (λ_ _ _ _ h=>⟨h,id⟩) (λ_ _ _ h=>h);have avt:cE (AM.bu P tm) c.args.toList=J [aS,ax]:=by rw[nH];show((AM.bu P tm s).bind λb=>((AM.bu P tm x).bind λb=>(J []:ah aD).bind λt=>J (b::t)).bind λt=>J (b::t))=_;simp_all
      have fin:∀{n:AV}{f:Heap},(∀nc,qK H i.size new.length ax=J nc->ij K O new i.size 0 nc->nc.length=new.length*i.size->0<i.size->nz H elem i.size i.bytes aS nc new.length=J (n,f))->0<i.size->f.bn=H.bn->f.bK=H.bK->(∀r,r∈f.cK->r∈H.cK\/(r<H.bn/\dH ω r))->gY K O ω H st' (tm.ins dd n) f->eW P ak rec cf K O ω H cB M st' tm o:=by
       intro n f e1 h0 KV e3 e5 e4;obtain⟨nc,n1,I,N⟩:=x3 i.size h0 lU;refine⟨n,f,?_,λt ht=>?_,by rw[hd];exact e4,aP,aP,⟨KV,λ_ r hr=>aP,λ_ vG=>?_,λr hr=>.inl aP,e5⟩⟩;.unfold fP;rw[UA ho hc ⟨aO,aO⟩ avt (al6 tI B6 hi hz oo x2 n1 (e1 nc n1 I N h0))];rfl
       .simp_all
       .refine absurd vG ?_;rw[ho];cases c;grind[isApp]
      unfold iM at hr;cases h0:aw i.size 0 with|true=>simp_all|false=>
       rw[h0]at hr;simp only[bg]at hr;have m:0<i.size:=by grind[bN]
       obtain⟨nc,n1,I,N⟩:=x3 i.size m lU;have aMG:∀p r b,ω.of (uY g) p=J (r,b)->∃q,ω q=J (r,b):=λp r b w=>let⟨q,_,h⟩:=aG.jC w;⟨q,h⟩;have tr:∀{Bj:Tr AV}{f:Heap},gY K O (ω.of (uY g)) H st' Bj f->gY K O ω H st' Bj f:=λh=>gY.trans k.inv (bl.refl _) (k.gN (bM.refl (λ_=>False) _)) (aU.refl _) (bM.refl _ _) (λp r b w=>.inl (pH p r b w)) h;cases d with
       |nl=>simp only at hr;cases qP:(bV (new.length*i.bytes) bF&&bV new.length bF)with|false=>simp_all|true=>
         rw[qP]at hr;simp only[aL]at hr;have has:aS=.bc:=by cases ow with|no=>cases a;rfl|any=>exact a.2|full e=>cases a.1;rfl|ty e=>cases a.1;rfl|ex e=>
          rcases a with⟨_,h⟩|⟨_,_,h⟩;.omega
          .obtain⟨_,_,_,_,_,_,_,h,_⟩:=h.ex;simp_all
         subst has;cases new with|nil=>cases hr;refine fin (n:=.bc) (f:=H) (λnc _ _ _ _=>al9 m) m rfl rfl (λ_ h=>.inl h) (tr ?_);exact Ab (dst:=J dd) (M:={aQ leave M s with sl:=cV (aQ leave M s).sl}) aP U h aO λ_ _ _=>⟨rfl,rfl⟩|cons u A=>
         cases hr;refine fin (n:=.sl H.next 0 (u::A).length Z i.size) (f:=H.cO nc .op elem) (λR L _ _ _=>?_) m rfl rfl (λ_ h=>.inl h) (tr ?_);.grind[al8]
         .exact Od (dst:=J dd) (M:={aQ leave M s with sl:=cV (aQ leave M s).sl}) aP U h rfl I (.inl ⟨rfl,N.symm⟩)
       |ay l e0 e=>
       simp only at hr;rw[bN,bN]at hr;by_cases jQ:e=i.size
       . by_cases nI:e0=elem;.cases qP:(bV ((l.length+new.length)*i.bytes) bF&&bV (l.length+new.length) bF)with|false=>simp_all|true=>rw[qP]at hr;simp only[jQ,nI,eu,zC,aL]at hr;subst jQ;subst nI;cases new with
          |nil=>
          cases hr;obtain⟨id,D,F,hAs⟩:∃id D F,aS=.sl id D l.length F i.size:=by cases ow with|no=>cases a<;>simp_all|any=>obtain⟨h,_⟩:=a;simp_all|full e=>have a:=a.1;cases a<;>simp_all|ty e=>have a:=a.1;cases a<;>simp_all|ex e=>
              rcases a with⟨h,_⟩|⟨_,_,h⟩;.simp_all
              .obtain⟨l',rL,id,D,c',_,_,h1,h2,_⟩:=h.ex;simp_all
          subst hAs;refine fin (f:=H) (λnc _ _ _ _=>abP m qP) m rfl rfl (λ_ h=>.inl h) ?_;have T:Src (Gw g dd):=aH8 g dd;have aMC:∀s,ω.of (Gw g dd) (.lb s)=ω (.lb s):=λs=>by unfold aG.of;rw[T.base _ (by simp[Pk.slot])];rfl
          have aMD:∀s,ω.of (uY g) (.lb s)=ω (.lb s):=λs=>by unfold aG.of;rw[(Rh g).base _ (by simp[Pk.slot])];rfl
          rcases zg h with⟨e,_⟩|⟨d',e,_,_,rfl⟩;.simp_all
          . cases e;refine⟨K,O,ω.of (Gw g dd),bl.refl _,k.gN (bM.refl (λ_=>False) _),aU.refl _,?_,?_,bM.refl _ _,λp r b w=>let⟨q,_,h⟩:=aG.jC w;.inl ⟨q,b,h⟩⟩;.show HR K O _ H (aQ leave M s).lb (aQ leave M s).g;rw[W,X];exact k.of T
            . refine xJ (S:=λ_=>False) k.inv U (bM.refl _ _) (bl.refl _) (aU.refl _) (λp r b h1 h2 h3 h=>⟨?_,λh=>h⟩) (λs i b h=>aP) (λ_ _ _ h=>h) (λ_=>aO) ?_
              . obtain⟨q,q1,q2⟩:=aG.jC h;have jS:p.slot:=by rcases h3 with⟨t,rfl⟩|⟨t,j,rfl⟩<;>trivial
                obtain⟨rfl,q3⟩:=ajk jS q1;have:Gw g dd q=J q:=by unfold Gw;cases g<;>grind[uf]
                grind[aG.of]
              . rcases s4 with⟨ts,AI,rfl⟩|⟨_,rfl|rfl⟩;.refine a.uX ?_;simp_all[aG.of,Gw,uf]
                .exact a
                .exact a|cons u A=>
          have mU:0<(u::A).length:=aO;have qM:∀{r b},ω pv=J (r,b)->(ow≠.no/\ow≠.any)->∀q b',ω.of (uY g) q≠J (r,b'):=by
            intro r b w jf q b' hq;obtain⟨q0,y1,y2⟩:=aG.jC hq;obtain rfl:=k.inj _ _ _ _ _ y2 w;rcases s4 with⟨ts,AI,rfl⟩|⟨_,h|h⟩;.rw[AI]at y1;have y1:pS ts q=J (.sl ts):=y1;cases q<;>simp only[pS]at y1;all_goals simp_all
            all_goals grind
          have xi:({aQ leave M s with sl:=cV (aQ leave M s).sl}:St).lb=M.lb/\({aQ leave M s with sl:=cV (aQ leave M s).sl}:St).g=M.g:=⟨W,X⟩;have Q:HR K O (ω.of (uY g)) H ({aQ leave M s with sl:=cV (aQ leave M s).sl}:St).lb ({aQ leave M s with sl:=cV (aQ leave M s).sl}:St).g:=aP;have E:(l++u::A).length=l.length+(u::A).length:=db;cases ow with
          |no=>simp_all|any=>simp_all|ty e1=>
            simp only at hr;rw[bN]at hr;by_cases B:e1=e0;.simp only[B,eu,aL]at hr;subst B;cases hr;obtain⟨a,s3'⟩:=a;cases a with|ay _ _ _ id D F cells k1 k2 k3 k4 k5 k6=>
                obtain⟨root,Y,i1,i2⟩:=k.di _ _ _ k1;have ju:ij K O l i.size D cells:=⟨k2,k3,k5,k6⟩;obtain⟨G,z2⟩:=ju.append I N;have fresh:F=J l.length->eW P ak rec cf K O ω H cB M st' tm o:=by
                  intro uF;subst uF;refine fin (n:=.sl H.next 0 (l.length+(u::A).length) Z i.size) (f:=H.cO ((cells.drop D).take (l.length*i.size)++nc) .op e1) (λR L _ _ _=>?_) m rfl rfl (λ_ h=>.inl h) ?_;.grind[SU]
                  .rw[<-E];exact alQ (M:={aQ leave M s with sl:=cV (aQ leave M s).sl}) Q s5 rfl h G aj pH
                rcases s3' with hd|⟨r,b,r1,r2⟩;.grind
                . obtain⟨tO,dT,aAe,c',rL,Tp,fl',t1,t2,t3,t4,_,t5⟩:=r2.ex;obtain⟨rfl,rfl,hl,rfl,rfl⟩:=AV.sl.inj t1;subst hl;rcases t5 with⟨rfl,t6,t7⟩|t5
                  . rw[i1]at t2;obtain⟨rfl,rfl,rfl,_⟩:=bQ.cells.inj (br t2);refine fin (n:=.sl H.next 0 (l.length+(u::A).length) Z i.size) (f:=H.hQ root (H.bh root).1 C ((cells.drop D).take (l.length*i.size)++nc) e1) (λR L _ _ _=>?_) m rfl rfl (λ_ h=>by
                    rcases vZ h with h|⟨h1,h2⟩;.grind
                    .subst h1;exact .inr ⟨h2,_,b,r1⟩) ?_;.grind[abO]
                    .rw[<-E];exact abG (x:=C) (M:={aQ leave M s with sl:=cV (aQ leave M s).sl}) Q s5 rfl h i1 t4 t6 G aj (qM r1 ⟨aO,aO⟩) (λh=>aP) ⟨_,b,r1⟩ pH
                  simp_all
            simp_all|full e1=>
            simp only at hr;rw[bN]at hr;by_cases B:e1=e0;.simp only[B,eu,aL]at hr;subst B;cases hr;obtain⟨a,tO,dT,aAe,rL,hA⟩:=a;cases a with|ay _ _ _ id D F cells k1 k2 k3 k4 k5 k6=>
                obtain⟨_,_,hl,uF,_⟩:=AV.sl.inj hA;have uF:F=J l.length:=aj;subst uF;obtain⟨root,Y,i1,i2⟩:=k.di _ _ _ k1;have ju:ij K O l i.size D cells:=⟨k2,k3,k5,k6⟩;obtain⟨G,z2⟩:=ju.append I N;refine fin (n:=.sl H.next 0 (l.length+(u::A).length) Z i.size) (f:=H.cO ((cells.drop D).take (l.length*i.size)++nc) .op e1) (λR L _ _ _=>?_) m rfl rfl (λ_ h=>.inl h) (tr ?_);.grind[SU]
                .rw[<-E];exact Od (dst:=J dd) (M:={aQ leave M s with sl:=cV (aQ leave M s).sl}) Q U h rfl G (.inl ⟨rfl,aj⟩)
            simp_all|ex e1=>
            simp only at hr;rw[bN]at hr;by_cases B:e1=e0
            . simp only[B,eu,aL]at hr;subst B;cases hr;rcases a with⟨hd,_⟩|⟨r,r1,r2⟩;.simp_all
              . obtain⟨l',rL,id,D,F,cells,Y,t1,t2,t3,t4,t5,t6,t7,t8⟩:=r2.ex;obtain⟨rfl,_,rfl⟩:=DV.ay.inj t1;subst t2;obtain⟨G,z2⟩:=t7.append I N;rcases t8 with⟨rfl,_,t9⟩|rfl
                . refine fin (n:=.sl H.next 0 (l.length+(u::A).length) Z i.size) (f:=H.hQ r (H.bh r).1 C ((cells.drop D).take (l.length*i.size)++nc) e1) (λR L _ _ _=>?_) m rfl rfl (λ_ h=>by
                    rcases vZ h with h|⟨h1,h2⟩;.simp_all
                    .subst h1;exact .inr ⟨h2,_,V,r1⟩) ?_;.grind[abO]
                  .rw[<-E];exact abG (x:=V) (M:={aQ leave M s with sl:=cV (aQ leave M s).sl}) Q s5 rfl h t3 t5 t6 G (by rw[E];exact z2.symm) (qM r1 ⟨aO,aO⟩) (λ_ j y hj=>k.clean _ _ _ _ r1 hj) ⟨_,V,r1⟩ pH
                . refine fin (n:=.sl H.next 0 (l.length+(u::A).length) Z i.size) (f:=H.cO ((cells.drop D).take (l.length*i.size)++nc) .op e1) (λR L _ _ _=>?_) m rfl rfl (λ_ h=>.inl h) (tr ?_);.rw[n1]at L;cases L;exact SU m mU qP t3 t5
                  .rw[<-E];exact Od (dst:=J dd) (M:={aQ leave M s with sl:=cV (aQ leave M s).sl}) Q U h rfl G (.inl ⟨rfl,by rw[E];exact z2.symm⟩)
            simp_all
         simp_all
       simp_all|_=>simp at hr
     simp_all
   simp_all
 simp_all
theorem Nu(t:Tr AV):∀(l:List aH)(K:aY)(ω:aG)(M:St),HR K O ω H M.lb M.g->ch K O ω H t M.sl->∃K' ω',pg ω H K K'/\HR K' O ω' H (l.foldl (aQ share) M).lb (l.foldl (aQ share) M).g/\ch K' O ω' H t (l.foldl (aQ share) M).sl/\(∀q r b,ω' q=J (r,b)->∃a,ω q=J (r,a))/\(∀x,x∈l->jN (l.foldl (aQ share) M) x)/\(l.foldl (aQ share) M).n=M.n/\(l.foldl (aQ share) M).fn=M.fn/\∀y,jN M y->jN (l.foldl (aQ share) M) y:=by intro l;induction l with|nil=>grind[pg.refl]|cons x l B=>
 intro K ω M w A;obtain⟨K1,c,e,i,k,m,D,E,F,n⟩:=Z3 w A x;obtain⟨g,d,f,o,s,G,I,L,N,u⟩:=B K1 c _ i k;refine⟨g,d,⟨e.1.trans f.1,λj x z=>?_⟩,o,s,λq r b h=>?_,λy P=>?_,aj,aj,λy h=>u y (n y h)⟩
 . rcases f.2 j x z with h|⟨p,b,h⟩;.exact e.2 j x h
   .obtain⟨a,v⟩:=m p _ b h;exact .inr ⟨p,a,v⟩
 all_goals grind
theorem eW.of(l:HR K O ω H cB.lb cB.g)(i:pg ω H K K1)(n:HR K1 O ω' H M.lb M.g)(c:∀q r b,ω' q=J (r,b)->∃a,ω q=J (r,a))(x:M.n=cB.n)(w:M.fn=cB.fn)(h:eW P ak rec cf K1 O ω' H cB M st' tm o):eW P ak rec cf K O ω H cB cB st' tm o:=by obtain⟨v,H',j,s,k,t,u,e⟩:=h;exact⟨v,H',j,λd hd=>aj,gY.trans l.inv i.1 (i.gN n) (aU.refl _) (bM.refl _ _) (λp r b m=>let⟨a,h⟩:=c p r b m;.inl ⟨p,a,h⟩) k,ae,aj,⟨e.bn,e.wl,e.gl,λr hr=>(e.wall r hr).imp_right λ⟨h,p,b,g⟩=>let⟨a,f⟩:=c p r b g;⟨h,p,a,f⟩,λr hr=>(e.aff r hr).imp_right λ⟨h,p,b,g⟩=>let⟨a,f⟩:=c p r b g;⟨h,p,a,f⟩⟩⟩
theorem aDb(A:dD P K O cf.aq)(m:HR K O ω H M.lb M.g)(B:ch K O ω H tm M.sl)(h:dM P cf.aq fk gs cr later ((handsOn o.op).foldl (aQ share) M) o=J st'):eW P ak rec cf K O ω H M M st' tm o:=by obtain⟨K1,d,g,j,p,q,v,w,z,_⟩:=Nu tm (handsOn o.op) K ω M m B;have D:=A.mono g.1 (aU.refl O);have up:eW P ak rec cf K1 O d H M ((handsOn o.op).foldl (aQ share) M) st' tm o->eW P ak rec cf K O ω H M M st' tm o:=λh=>eW.of m g j q w z h;cases b:o.op with
 |move x=>grind[aBs]|assign x=>grind[amt]|pick c x y=>grind[aD3,handsOn,eB]|alloc e=>grind[alY]|box e x=>grind[am5,handsOn,eB]|build t parts=>grind[anf,handsOn,eB]|buildSlice t len parts=>grind[ane,handsOn,eB]|load t x=>grind[aAI]|store t x y=>grind[handsOn,aJU]|nilCheck x=>grind[aBN]|binOp op t x y u=>grind[amO]|unOp op t x=>grind[aKT]|convert s t x=>grind[aoC]|makeFunc f first a=>cases f with|func f=>exact up (aug D j p b (λx n=>v x (by rw[b]at n|-;exact n)) h)|_=>simp_all[dM]
 |makeMap t r=>
 rcases r with _|r;.grind[aA3]
 simp_all[dM]|slice t x lo hi mx=>grind[aHW,handsOn,eB]|fieldAddr s x f=>grind[asX]|indexAddr t x y=>grind[axN]|index t x y=>grind[axP]|lookup t x k ok=>
 cases ok;.grind[aAS]
 simp_all[dM]|mapUpdate t x k y=>grind[aA7,handsOn,eB]|extract x i=>grind[asR]|call c=>have l:=h;unfold dM at l;rw[b]at l;grind[aAj,amj,aBc]|_=>unfold dM at h;rw[b]at h;simp at h
end
def rz(b:aG)(H a:Heap):Prop:=a.bn=H.bn/\(∀r,r∈a.bK->r∈H.bK\/(r<H.bn/\dH b r))/\∀r,r∈a.cK->r∈H.cK\/(r<H.bn/\dH b r)
structure Nx(K:aY)(O:bY)(ω:aG)(H:Heap)(K':aY)(ψ:bY)(ω':aG)(H':Heap):Prop where
 ext:bl K K'
 di:ta ω H H' K K'
 nh:aU O ψ
 keep:bM (dH ω) H H'
 lR:∀p r b,ω' p=J (r,b)->dH ω r\/H.next<=r
 log:rz ω H H'
section
variable{P:aM}{ak:bZ}{rec:Rec}{cf:cj}{K K' K1 K2:aY}{O ψ φ1 φ2:bY}{ω ω' ω0 ω1 ω2:aG}{H H' H1 H2:Heap}{S:Nat->Prop}{lb:dX}{g:GH}{M st' cB:St}{tm:Tr AV}{o:aC}
theorem rz.refl(a:aG)(H:Heap):rz a H H:=⟨rfl,λ_ h=>.inl h,λ_ h=>.inl h⟩
theorem rz.trans(i:ba H)(a:rz ω H H1)(d:∀p r b,ω1 p=J (r,b)->dH ω r\/H.next<=r)(b:rz ω1 H1 H2):rz ω H H2:=by
 have t:=i.bn;have g:∀r,r<H1.bn/\dH ω1 r->r<H.bn/\dH ω r:=by
   rintro r⟨e,p,c,f⟩;rw[a.1]at e;rcases d p r c f with h|h;.exact⟨e,h⟩
   .omega
 refine⟨b.1.trans a.1,λr hr=>?_,λr hr=>?_⟩
 . rcases b.2.1 r hr with h|h;.exact a.2.1 r h
   .exact .inr (g r h)
 . rcases b.2.2 r hr with h|h;.exact a.2.2 r h
   .exact .inr (g r h)
theorem Nx.refl(a:HR K O ω H lb g):Nx K O ω H K O ω H:=⟨bl.refl _,a.gN (bM.refl (λ_=>False) _),aU.refl _,bM.refl _ _,λp r b h=>.inl ⟨p,b,h⟩,rz.refl _ _⟩
theorem ta.trans(a:ta ω H H1 K K1)(g:∀p r b,ω1 p=J (r,b)->dH ω r\/H.next<=r)(u:H.next<=H1.next)(k:bM S H1 H2)(b:ta ω1 H1 H2 K1 K2):ta ω H H2 K K2:=λj x f=>by
 obtain⟨d,h⟩:=b j x f;refine⟨d,?_⟩;rcases h with h|⟨p,c,h⟩|h;.obtain⟨e,i⟩:=a j x h;rw[k.root j e];omega
 all_goals grind
theorem Nx.trans(i:ba H)(a:Nx K O ω H K1 φ1 ω1 H1)(b:Nx K1 φ1 ω1 H1 K2 φ2 ω2 H2):Nx K O ω H K2 φ2 ω2 H2 where
 ext:=a.ext.trans b.ext
 di:=a.di.trans a.lR a.keep.next b.keep b.di
 nh:=a.nh.trans b.nh
 keep:=a.keep.trans i a.lR b.keep
 lR:=λp r c h=>by
  rcases b.lR p r c h with⟨q,d,h⟩|h;.exact a.lR _ _ _ h
  .exact .inr (gv a.keep.next h)
 log:=a.log.trans i a.lR b.log
structure Ok(K:aY)(O:bY)(ω:aG)(H:Heap)(M:St)(tm:Tr AV):Prop where
 hr:HR K O ω H M.lb M.g
 sl:ch K O ω H tm M.sl
theorem eW.nx(h:eW P ak rec cf K O ω H cB M st' tm o):∃v H' K' ψ ω',fP P ak rec tm H o=J (.val v H')/\(∀d,o.dst=J d->d<M.n)/\Nx K O ω H K' ψ ω' H'/\Ok K' ψ ω' H' st' (iz tm o.dst v)/\st'.n=M.n/\st'.fn=M.fn/\wK ω (kindOf cf cB o.op) (isApp o.op) H H':=by obtain⟨v,H',k,l,⟨K',ψ,ω',b,c,e,f,g,i,j⟩,m,n,a⟩:=h;exact⟨v,H',K',ψ,_,k,l,⟨b,c,e,i,j,a.bn,a.wall,a.aff⟩,⟨f,g⟩,m,n,a⟩
theorem gY.nx{tm':Tr AV}(h:gY K O ω H st' tm' H')(l:rz ω H H'):∃K' ψ ω',Nx K O ω H K' ψ ω' H'/\Ok K' ψ ω' H' st' tm':=by obtain⟨K',ψ,ω',a,b,c,d,e,f,g⟩:=h;exact⟨K',ψ,_,⟨a,b,c,f,g,l⟩,⟨d,e⟩⟩
theorem DN:∀{l:aA}{i:Nat}{d:DV},cF l=V->l[i]?=J d->d.pure=V:=by intro l;induction l<;>grind[cF]
theorem ai0{d x:DV}(h:d.pure=V)(a:d.flat[j]?=J x):x.pure=V:=by cases d with|agg l=>exact DN (l:=l) (by grind[DV.pure]) a|_=>
 rcases j with _|j;.cases a;exact h
 simp[DV.flat]at a
theorem DR.pure{d:DV}(h:DR K O d a)(p:d.pure=V):DR K ψ d a:=by induction h with|bool b=>exact .bool b|int k n=>exact .int k n|str s=>exact .str s|nl=>exact .nl|ay l e esz id D c cells h w u v z _ q=>refine .ay l e _ id _ c _ h w u v z λi x j d a o g t=>q i x j d a o g t ?_;grind[ai0,DN,DV.pure]|ptr id D i h=>grind[DV.pure]|jV=>exact .jV|map r i h=>grind[DV.pure]|il=>exact .il|func f l1 l2 F G o g _ _ B E=>simp only[DV.pure,iC]at p;exact .func f l1 l2 F G o g (λi d a x y=>B i d a x y (DN p.1 x)) (λi d a x y=>E i d a x y (DN p.2 x))|dK l i h=>grind[DV.pure]|nilFunc=>exact .nilFunc|agg l m h A _ q=>exact .agg l m h A λi d a x y=>q i d a x y (DN (by grind[DV.pure]) x)|jk a h g=>grind[DV.pure]
theorem cJ.pure{d:DV}(h:cJ K O ω H p d a ow)(g:d.pure=V):cJ K ψ ω H p d a ow:=by cases ow with|no=>exact DR.pure h g|any=>exact h|full e=>exact⟨DR.pure h.1 g,h.2⟩|ty e=>exact⟨DR.pure h.1 g,h.2⟩|ex e=>refine Or.imp_right ?_ h;rintro⟨r,b,f⟩;obtain⟨l,esz,id,D,c,cells,fl,rfl,g2,g3,g4,g5,g6,g7,g8⟩:=f.ex;refine⟨r,b,⟨l,_,id,_,c,_,fl,rfl,g2,g3,g4,g5,g6,⟨g7.1,g7.2.1,g7.2.2.1,λi x j d a b f k=>(g7.2.2.2 i x j d a b f k).pure ?_⟩,g8⟩⟩;exact ai0 (DN (by simpa[DV.pure]using g) b) f
theorem aD6:∀{l:aA}{i:Nat}{d:DV},MS l=V->l[i]?=J d->d.plain=V:=by intro l;induction l<;>grind[MS]
theorem DR.plain{d:DV}(h:DR K O d a)(p:d.plain=V):DR K' ψ d a:=by induction h with|bool b=>exact .bool b|int k n=>exact .int k n|str s=>exact .str s|nl=>exact .nl|jV=>exact .jV|il=>exact .il|nilFunc=>exact .nilFunc|agg l m h c _ e=>exact .agg l m h c λi d a x y=>e i d a x y (aD6 (by grind[DV.plain]) x)|_=>grind[DV.plain]
theorem cJ.plain{d:DV}(h:cJ K O ω H p d a ow)(b:d.plain=V):DR K' ψ d a:=by cases ow with|no=>exact DR.plain h b|any=>obtain⟨rfl,rfl⟩:=h;exact .nl|full e=>exact DR.plain h.1 b|ty e=>exact DR.plain h.1 b|ex e=>
 rcases h with⟨rfl,rfl⟩|⟨r,g,f⟩;.exact .nl
 .obtain⟨l,esz,id,D,c,cells,fl,rfl,_⟩:=f.ex;grind[DV.plain]
theorem HR.frame(a:HR K O ω H lb g)(k:bM S H H')(n:ba H')(u:po H')(Q:∀p r b,ω p=J (r,b)->¬S r)(t:∀id x,K id=J x->¬S (rootOf H id)):HR K O ω H' lb g where
 inv:=n
 di:=λid cells e h=>by
  obtain⟨r,fl,d,f⟩:=a.di id cells e h;have hid:=a.inv.get _ _ d;have hr:=t id _ h;have q:=hr;rw[mF d]at q;have F:r<H.next:=by have:=(a.inv.root _ _ _ _ _ d).1;omega
  exact⟨r,fl,by rw[k.get id hid hr];exact d,by rw[k.dh r F q];exact f⟩
 inj:=a.inj
 clean:=λp r id x o j=>by obtain⟨cells,e⟩:=x;obtain⟨y,fl,d,_⟩:=a.di id cells e j;rw[k.root id (a.inv.get _ _ d)];exact a.clean p r id _ o j
 cq:=λp r b h=>fj (a.cq p r b h) k.next
 box:=λs b m=>by obtain⟨i,d,f⟩:=a.box s b m;exact⟨i,d,f.keep a.inv k (bl.refl _) (aU.refl _) (Q _ _ _ d) λD r c x=>⟨x,Q _ _ _ x⟩⟩
 kj:=λid w v=>by obtain⟨i,d,f,l⟩:=a.kj id w v;exact⟨i,d,f,l.keep a.inv k (bl.refl _) (aU.refl _) (Q _ _ _ f) λD r c x=>⟨x,Q _ _ _ x⟩⟩
 oQ:=a.oQ
 iJ:=u
structure ka(H H':Heap):Prop where
 tr:H'.tr=H.tr
 dh:H'.dh=H.dh
 next:H'.next=H.next
theorem ka.get(s:ka H H')(i:Nat):H'.get i=H.get i:=by unfold Heap.get;rw[s.tr]
theorem ka.bh(s:ka H H')(r:Nat):H'.bh r=H.bh r:=by unfold Heap.bh;rw[s.dh]
theorem ka.rootOf(s:ka H H')(i:Nat):rootOf H' i=rootOf H i:=by unfold AM.rootOf;rw[s.get]
theorem ka.keep(s:ka H H')(S:Nat->Prop):bM S H H':=⟨by rw[s.next];omega,λid _ _=>s.get id,λr _ _=>s.bh r,λid _=>s.rootOf id⟩
theorem ka.symm(s:ka H H'):ka H' H:=⟨s.tr.symm,s.dh.symm,s.next.symm⟩
theorem ka.trans(s:ka H H1)(t:ka H1 H2):ka H H2:=⟨t.tr.trans s.tr,t.dh.trans s.dh,t.next.trans s.next⟩
theorem ka.hinv(s:ka H H')(i:ba H)(t:H'.bn<=H'.next):ba H':=by
 refine⟨λid o h=>?_,λid l r fl e h=>?_,λid l r fl e h=>?_,λr f h=>?_,t⟩;.rw[s.get]at h;rw[s.next];exact i.get id o h
 .rw[s.get]at h;rw[s.bh];exact i.root id l r fl e h
 .rw[s.get]at h;obtain⟨c,b,a,d⟩:=i.oy id l r fl e h;exact⟨c,_,a,by rw[s.get];omega⟩
 .rw[s.dh]at h;rw[s.next];exact i.dh r f h
theorem ka.iJ(s:ka H H')(u:po H):po H':=λid l r fl e h=>by rw[s.get]at h;obtain⟨a,f,b⟩:=u id l r fl e h;exact⟨a,_,by rw[s.get];omega⟩
theorem Ok.same(s:ka H H')(e:H'.bn<=H'.next)(h:Ok K O ω H M tm):Ok K O ω H' M tm where
 hr:=h.hr.frame (S:=λ_=>False) (s.keep _) (s.hinv h.hr.inv e) (s.iJ h.hr.iJ) (λ_ _ _ _=>id) (λ_ _ _=>id)
 sl:=λt v l=>by obtain⟨a,b,c,d⟩:=h.sl t v l;exact⟨a,b,c,d.keep (S:=λ_=>False) h.hr.inv (s.keep _) (bl.refl _) (aU.refl _) (λ_ _ _ _ h=>⟨h,id⟩) (λ_ _ _ _ _ h=>h) (λ_ _=>rfl) (λ_ _ _ _ _=>id)⟩
theorem ajM(H:Heap):ka H H.fresh:=⟨rfl,rfl,rfl⟩
theorem aGJ(H a:Heap):ka a (H.resume a):=⟨rfl,rfl,rfl⟩
end
section
variable{P:aM}{K K':aY}{O ψ φ0:bY}{ω ω' ω0 gu:aG}{H H':Heap}{lb:dX}{g g':GH}{M st':St}{tm:Tr AV}
def bk(u:Bool)(d:ah Nat):Pk->Bool×Pk|.sl t=>if d=J t then(C,.sl 0)else(V,.sl t)|.tp t j=>if d=J t then(C,.tp 0 j)else(V,.tp t j)|.g id=>(u,.g id)|.gc id D=>(u,.gc id D)|p=>(V,p)
theorem amR{u:Bool}{d:ah Nat}:∀p q,bk u d p=bk u d q->p=q:=by intro p q h;cases p<;>cases q<;>simp only[bk]at h<;>grind
theorem amQ{u:Bool}{d:ah Nat}(h:(bk u d p).1=V):(bk u d p).2=p/\(u=V\/(∀id,p≠.g id)/\∀id D,p≠.gc id D):=by cases p<;>grind[bk]
def wP(u:Bool)(d:ah Nat)(a g:aG):aG:=λp=>bif(bk u d p).1 then a (bk u d p).2 else g (bk u d p).2
theorem Hv{u:Bool}{d:ah Nat}{b:Bool}(h:wP u d ω gu p=J (r,b)):((bk u d p).1=V/\ω p=J (r,b)/\(u=V\/(∀id,p≠.g id)/\∀id D,p≠.gc id D))\/((bk u d p).1=C/\gu (bk u d p).2=J (r,b)):=by grind[wP,amQ]
structure wE(pure:Bool)(K:aY)(O:bY)(ω:aG)(H:Heap)(lb:dX)(g:GH)(φ0:bY)(ω0:aG)(K':aY)(ψ:bY)(gu:aG)(H':Heap)(g':GH):Prop where
 hh:HR K O ω H lb g
 nx:Nx K φ0 ω0 H K' ψ gu H'
 hc:HR K' ψ gu H' [] g'
 nh:pure=C->φ0=O
 ret:∀p r b,(pure=V\/(∀id,p≠.g id)/\∀id D,p≠.gc id D)->ω p=J (r,b)->¬dH ω0 r
def bY.back(p:Bool)(a b:bY):bY:=bif p then a else b
def GH.back(p:Bool)(g a:GH):GH:=bif p then g else a
theorem wE.ext{p:Bool}(c:wE p K O ω H lb g φ0 ω0 K' ψ gu H' g'):aU O (bY.back p O ψ):=by cases p with|true=>exact aU.refl _|false=>have:=c.nx.nh;rw[c.nh rfl]at this;exact this
theorem wE.hr{u:Bool}(c:wE u K O ω H lb g φ0 ω0 K' ψ gu H' g')(d:ah Nat):HR K' (bY.back u O ψ) (wP u d ω gu) H' lb (GH.back u g g'):=by
 obtain⟨f,nx,j,v,o⟩:=c;have X:=wE.ext ⟨f,nx,j,v,o⟩;have L:∀{r:Nat}{b:Bool}{p q:Pk}{n:Bool},ω p=J (r,b)->(u=V\/(∀id,p≠.g id)/\∀id D,p≠.gc id D)->gu q=J (r,n)->False:=by
   intro r b p q n k l a;rcases nx.lR q r n a with h|h;.grind
   .have:=f.cq _ _ _ k;omega
 refine⟨j.inv,j.di,?_,?_,?_,?_,?_,?_,j.iJ⟩
 . intro p q r b n k l;rcases Hv k with⟨k1,a,A⟩|⟨k1,a⟩
   . rcases Hv l with⟨k2,m,_⟩|⟨_,m⟩;.exact f.inj _ _ _ _ _ a m
     grind
   . rcases Hv l with⟨_,m,E⟩|⟨k2,m⟩;.grind
     .exact amR p q (Prod.ext aj (j.inj _ _ _ _ _ a m))
 . intro p r id x t w;rcases Hv t with⟨_,a,A⟩|⟨_,a⟩
   . obtain⟨k1,k2⟩:=nx.di id x w;have hr:=f.cq _ _ _ a;rcases k2 with k2|k2|k2;.obtain⟨cells,e⟩:=x;obtain⟨F,fl,g1,_⟩:=f.di id _ e k2;rw[nx.keep.root id (f.inv.get _ _ g1)];exact f.clean p r id _ a k2
     all_goals grind
   .exact j.clean _ r id x a w
 . intro p r b t;rcases Hv t with⟨_,a,_⟩|⟨_,a⟩;.exact fj (f.cq _ _ _ a) nx.keep.next
   .exact j.cq _ _ _ a
 .intro s b B;obtain⟨i,k,l⟩:=f.box s b B;refine⟨i,k,l.keep f.inv nx.keep nx.ext X aj λD r c x=>⟨x,o (.lc s _) r c aP x⟩⟩
 .intro id z y;cases u with|true=>obtain⟨i,k,l,a⟩:=f.kj id z y;exact⟨i,k,l,a.keep f.inv nx.keep nx.ext (aU.refl _) aj λD r c x=>⟨x,o _ r c (.inl rfl) x⟩⟩|false=>obtain⟨i,k,l,a⟩:=j.kj id z y;exact⟨i,k,l,a.keep j.inv (bM.refl _ _) (bl.refl _) (aU.refl _) (λh=>h) λD r c x=>⟨x,λh=>h⟩⟩
 .intro id hid;cases u with|true=>exact f.oQ id hid|false=>exact j.oQ id hid
def lF(K:aY)(b:bY)(c:aG)(H:Heap)(v:SV)(a:AV):Prop:=match v with|.dv d o=>cJ K b c H (.sl 0) d a o|.tp l=>∃m,a=.cw m/\l.length=m.length/\∀(j:Nat)(x:DV×aX)(y:AV),l[j]?=J x->m[j]?=J y->cJ K b c H (.tp 0 j) x.1 y x.2|_=>False
theorem lF.pure{v:SV}(h:lF K O ω H v a)(p:v.pure=V):lF K ψ ω H v a:=by cases v with|dv d o=>exact cJ.pure h p|tp l=>obtain⟨m,c,e,f⟩:=h;refine⟨m,c,e,λj x y a b=>(f j x y a b).pure ?_⟩;exact List.all_eq_true.1 p x aj|_=>exact h.elim
theorem lF.qU{v:SV}(h:lF K O ω H v a):a≠.top:=by cases v with|dv d o=>exact cJ.qU h|tp l=>obtain⟨m,b,_⟩:=h;grind|_=>exact h.elim
theorem wE.ok{u:Bool}{v:SV}(c:wE u K O ω H M.lb M.g φ0 ω0 K' ψ gu H' g')(q:ch K O ω H tm M.sl)(k:lF K' ψ gu H' v a)(f:u=V->v.pure=V)(h:aJ {M with sl:=cV M.sl,g:=GH.back u M.g g'} dst v=J st'):Ok K' (bY.back u O ψ) (wP u dst ω gu) H' st' (iz tm dst a):=by
 have n:lF K' (bY.back u O ψ) gu H' v a:=by cases u with|true=>exact k.pure (f rfl)|false=>exact k
 have o:=by
   refine Ct c.hh.inv q c.nx.keep c.nx.ext c.ext (λp r b f h=>⟨?_,?_⟩) (λs i b h=>h);.cases p<;>first|exact h|exact f.elim
   .exact c.ret p r b (.inr ⟨λid e=>by subst e;exact f,λid D e=>by subst e;exact f⟩) h
 rcases zg h with⟨rfl,rfl⟩|⟨d,rfl,_,_,rfl⟩;.exact⟨c.hr _,o⟩
 . refine⟨c.hr _,?_⟩;refine xJ c.hc.inv o (bM.refl _ _) (bl.refl _) (aU.refl _) (λp r b t w z h=>⟨?_,id⟩) (λs i b h=>h) aP (λ_=>k.qU) ?_;.grind[wP,bk]
   .cases v with|dv x ow=>exact cJ.uX (by simp[wP,bk]) n|tp l=>obtain⟨m,k1,k2,k3⟩:=n;exact⟨m,k1,k2,λj x y a b=>(k3 j x y a b).uX (by simp[wP,bk])⟩|_=>exact n.elim
theorem wE.lR{u:Bool}{d:ah Nat}(c:wE u K O ω H lb g φ0 ω0 K' ψ gu H' g')(f:∀p r b,ω p=J (r,b)->dH ωo r)(e:∀r,dH ω0 r->dH ωo r):∀p r b,wP u d ω gu p=J (r,b)->dH ωo r\/H.next<=r:=by
 intro p r b h;rcases Hv h with⟨_,a,_⟩|⟨_,a⟩;.grind
 .exact(c.nx.lR _ _ _ a).imp_left (e r)
theorem Nx.up{o:bY}{g:aY}{e:aG}{d:bY}(t:ba H)(n:Nx K φ0 ω0 H K' ψ gu H')(f:∀r,dH ω0 r->dH ωo r)(q:bl g K)(I:ta ωo H H g K)(i:aU o d)(s:∀p r b,e p=J (r,b)->dH ωo r\/H.next<=r):Nx g o ωo H K' d e H' where
 ext:=q.trans n.ext
 di:=λj x u=>by
  obtain⟨k,c⟩:=n.di j x u;refine⟨k,?_⟩;rcases c with c|c|c;.obtain⟨l,m⟩:=I j x c;rw[n.keep.root j l];exact m
  .exact .inr (.inl (f _ c))
  .exact .inr (.inr c)
 nh:=i
 keep:=n.keep.zo t λr _ h=>f r h
 lR:=s
 log:=⟨n.log.1,λr hr=>(n.log.2.1 r hr).imp_right λ⟨a,b⟩=>⟨a,f r b⟩,λr hr=>(n.log.2.2 r hr).imp_right λ⟨a,b⟩=>⟨a,f r b⟩⟩
end
section
variable{P:aM}{K K' K2:aY}{O ψ φ0:bY}{ω ω' ω0 gu:aG}{H H':Heap}{lb:dX}{g g':GH}{M st':St}{tm:Tr AV}
theorem FT:∀{l:aA}{i:Nat}{d:DV},jB e l=V->l[i]?=J d->d.ia e=V:=by intro l;induction l<;>grind[jB]
theorem WB{d x:DV}(h:d.ia e=V)(a:d.flat[j]?=J x):x.ia e=V:=by cases d with|agg l=>exact FT (l:=l) (by grind[DV.ia]) a|_=>
 rcases j with _|j;.cases a;exact h
 simp[DV.flat]at a
theorem DR.ia{E:al->Prop}(K:∀id cells e,K' id=J (cells,e)->¬E e->K2 id=J (cells,e)){d:DV}(h:DR K' O d a)(L:∀e,E e->d.ia e=V):DR K2 O d a:=by induction h with
 |bool b=>exact .bool b|int k n=>exact .int k n|str s=>exact .str s|nl=>exact .nl|ay l e esz id D c cells h z u v A _ q=>
 have o:∀g,E g->e≠g/\jB g l=V:=λg w=>by grind[DV.ia,bN]
 refine .ay l e _ id _ c _ aj z u v A λi x j d a x1 x2 x3=>q i x j d a x1 x2 x3 λg w=>?_;exact WB (FT (o g w).2 x1) x2|ptr id D i h=>exact .ptr id _ i h|jV=>exact .jV|map r i h=>exact .map r i h|il=>exact .il|func f l1 l2 H I o p _ _ F G=>
 have t:∀g,E g->jB g l1=V/\jB g l2=V:=λg w=>by grind[DV.ia]
 exact .func f l1 l2 H I o p (λi d a x y=>F i d a x y λg w=>FT (t g w).1 x) (λi d a x y=>G i d a x y λg w=>FT (t g w).2 x)|dK l i h=>exact .dK l i h|nilFunc=>exact .nilFunc|agg l m h B _ q=>exact .agg l m h B λi d a x y=>q i d a x y λg w=>FT (by grind[DV.ia]) x|jk a h p=>exact .jk a h p
def Th(l:List (DV×aX))(j:Nat)(e:al):Prop:=∃d n,l[j]?=J (.ay d e n,.ty e)/\jB e d=V/\∀k y,l[k]?=J y->k=j\/y.1.ia e=V
theorem akl{l:List (DV×aX)}{x:DV×aX}(i:l[j]?=J x):(xL l j x=x/\∀e,¬Th l j e)\/∃d e n,x=(.ay d e n,.ty e)/\xL l j x=(.ay d e n,.ex e)/\Th l j e:=by
 obtain⟨d,o⟩:=x;have no:(∀dd e n,d=.ay dd e n->o≠.ty e)->∀e,¬Th l j e:=by rintro h e⟨dd,n,f,_⟩;grind
 cases d with
 |ay d e n=>cases o with
  |ty e1=>unfold xL;simp only;cases c:(aw e e1&&(jB e d&&l.zipIdx.all _))with|true=>simp only[iC,bN,mw]at c;obtain⟨rfl,a,b⟩:=c;refine .inr ⟨d,e,n,rfl,rfl,d,n,i,a,λk y g=>?_⟩;have:=List.all_eq_true.1 b _ (List.mk_mem_zipIdx_iff_getElem?.2 g);grind|false=>refine .inl ⟨rfl,?_⟩;rintro m⟨dd,p,f,a,b⟩;grind[bN]
  |_=>exact .inl ⟨rfl,aP⟩
 |_=>exact .inl ⟨by unfold xL;rfl,no λ_ _ _ e=>by simp at e⟩
open Classical in def aY.less(K a:aY)(E:al->Prop):aY:=λi=>match a i with|some (c,e)=>if K i=Z/\E e then Z else J (c,e)|none=>Z
open Classical in def JB(l:List (DV×aX))(a:aG):aG:=λp=>match p with|.tp 0 j=>if∃e,Th l j e then(a (.tp 0 j)).map λx=>(x.1,V)else a (.tp 0 j)|p=>a p
theorem NF{l:List (DV×aX)}{b:Bool}(h:JB l ω p=J (r,b)):∃a,ω p=J (r,a)/\(a=b\/∃j e,p=.tp 0 j/\Th l j e):=by
 unfold JB at h;split at h
 . rename_i j;split at h;.cases o:ω _<;>grind
   grind
 grind
theorem HR.bare(c:HR K' ψ gu H' [] g'):HR K' (λ_=>Z) gu H' [] .empty where
 inv:=c.inv
 di:=c.di
 inj:=c.inj
 clean:=c.clean
 cq:=c.cq
 box:=λs b h=>by simp[look]at h
 kj:=λid o h=>by simp[GH.get,GH.empty,look]at h
 oQ:=λ_ _=>rfl
 iJ:=c.iJ
theorem aiZ{th:Bool}{v:SV}(U:HR K O ω H lb g)(t:Nx K (λ_=>Z) ω0 H K' ψ gu H')(f:HR K' ψ gu H' [] g')(hv:lF K' ψ gu H' v a)(W:v.pure=V)(T:th=V->∀r,¬dH ω0 r):∃K2 z,Nx K (λ_=>Z) ω0 H K2 (λ_=>Z) z H'/\HR K2 (λ_=>Z) z H' [] .empty/\lF K2 (λ_=>Z) z H' (ri th v) a:=by have G:Nx K _ _ H K' (λ_=>Z) _ H':=⟨t.ext,t.di,aU.refl _,t.keep,t.lR,t.log⟩;have Q:lF K' (λ_=>Z) _ H' v a:=hv.pure W;cases v with
 |tp l=>
 rcases th with _|_;.exact⟨K',gu,G,f.bare,Q⟩
 have T:=T rfl;let E:al->Prop:=λe=>∃j,Th l j e;have Y:∀i x,K.less K' E i=J x->K' i=J x/\(K i=Z->¬E x.2):=by
   intro i x h;unfold aY.less at h;split at h;.rename_i c e w;split at h<;>grind
   grind
 have A:∀id cells e,K' id=J (cells,e)->¬E e->K.less K' E id=J (cells,e):=by grind[aY.less]
 have lX:bl K (K.less K' E):=λid x h=>by obtain⟨c,e⟩:=x;unfold aY.less;rw[t.ext id _ h];grind
 have oj:=λp r b h=>(t.lR p r b h).resolve_left (T r);obtain⟨m,rfl,m1,m2⟩:=Q;refine⟨_,JB l _,⟨lX,λj x hj=>t.di j x (Y j x hj).1,aU.refl _,t.keep,λp r b h=>let⟨M,S,_⟩:=NF h;t.lR p r M S,t.log⟩,?_,?_⟩
 . refine⟨f.inv,λid cells e h=>f.di id cells e (Y _ _ h).1,λp q r b c B h2=>?_,λp r id x W hx=>?_,λp r b h=>let⟨M,S,_⟩:=NF h;f.cq p r M S,λs b h=>by grind[look],λid o h=>by grind[GH.get,GH.empty,look],λ_ _=>rfl,f.iJ⟩;.obtain⟨b1,k1,_⟩:=NF B;obtain⟨b2,k2,_⟩:=NF h2;exact f.inj _ _ _ _ _ k1 k2
   . obtain⟨jH,lZ⟩:=Y id x hx;obtain⟨M,k1,k2⟩:=NF W;rcases k2 with rfl|⟨j,e,rfl,R⟩;.exact f.clean p r id x k1 jH
     .intro hr;have Fv:=oj _ _ _ k1;obtain⟨cells,u⟩:=x;obtain⟨root,fl,g1,_⟩:=f.di id cells u jH;rw[mF g1]at hr;subst hr;cases w:K id with|some y=>obtain⟨c2,e2⟩:=y;obtain⟨r2,Ap,g2,_⟩:=U.di id c2 e2 w;have bX:=U.inv.get _ _ g2;have F:=t.keep.root id bX;rw[mF g1,mF g2]at F;have:=(U.inv.root _ _ _ _ _ g2).1;omega|none=>
         obtain⟨d,n,hl,_,_⟩:=R;obtain⟨y,X⟩:∃y,m[j]?=J y:=⟨m[j]'aj,eZ _⟩;have P:=m2 j _ y hl X;rcases P.2 with h|⟨r3,b3,k3,k4⟩;.grind
         .have:r3=root:=aj;subst this;obtain⟨id3,_,_,_,_,_,_,_,t2,_⟩:=k4.ex;obtain⟨_,_,u1⟩:=f.iJ _ _ _ _ _ t2;obtain⟨_,_,u2⟩:=f.iJ _ _ _ _ _ g1;rw[u1]at u2;obtain⟨_,_,_,rfl⟩:=bQ.cells.inj (br u2);exact lZ w ⟨j,d,n,hl,ae,ae⟩
 . refine⟨m,rfl,?_,λj x y hx X=>?_⟩;.simp_all
   . have Qf:∃x0,l[j]?=J x0/\x=xL l j x0:=by grind
     obtain⟨x0,yI,rfl⟩:=Qf;have P:=m2 j x0 y yI X;rcases akl yI with⟨B,h2⟩|⟨d,e,n,rfl,B,R⟩
     . rw[B];have N:∀e,E e->x0.1.ia e=V:=by rintro e⟨k,w⟩;have hk0:=w;obtain⟨_,_,_,_,F⟩:=w;grind
       have qL:JB l gu (.tp 0 j)=gu (.tp 0 j):=by grind[JB]
       obtain⟨d,o⟩:=x0;cases o with|no=>exact DR.ia A P N|any=>exact P|ty e=>exact⟨DR.ia A P.1 N,P.2.imp_right λ⟨r,b,k1,k2⟩=>⟨r,b,aj,k2⟩⟩|full e=>exact⟨DR.ia A P.1 N,P.2⟩|ex e=>refine P.imp_right λ⟨r,k1,k2⟩=>⟨r,aj,?_⟩;obtain⟨l2,esz,id,D,c,cells,fl,rfl,t2,t3,t4,t5,t6,t7,t8⟩:=k2.ex;refine⟨l2,esz,id,D,c,cells,fl,rfl,t2,t3,t4,t5,t6,⟨t7.1,t7.2.1,t7.2.2.1,λi x k d a I L y3=>DR.ia A (t7.2.2.2 i x k d a I L y3) λu wZ=>?_⟩,t8⟩;have:=N u wZ;simp only[DV.ia,iC]at this;exact WB (FT this.2 I) L
     . rw[B];obtain⟨iH,F⟩:=P;rcases F with F|⟨r,b,k1,k2⟩;.grind
       . refine .inr ⟨r,?_,?_⟩;.unfold JB;simp only;rw[if_pos ⟨e,R⟩,k1];rfl
         . obtain⟨id,D,len,c,esz,cells,fl,t1,t2,t3,t4,t5,t6⟩:=k2.ex;subst t1;have hE:∀u,E u->jB u d=V:=by rintro u⟨k,w⟩;obtain⟨d',n',h5,h6,h7⟩:=w;grind[DV.ia]
           cases iH with|ay _ _ _ _ _ _ Tp z1 z2 z3 z4 z5 z6=>obtain⟨_,_,g1,_⟩:=f.di _ _ _ z1;rw[t2]at g1;obtain⟨rfl,_,_,_⟩:=bQ.cells.inj (br g1);exact⟨d,n,id,D,c,cells,fl,rfl,rfl,t2,t3,t4,t5,⟨z2,z3,z5,λi x k dd a I L y3=>DR.ia A (z6 i x k dd a I L y3) λu wZ=>WB (FT (hE u wZ) I) L⟩,t6⟩
 |_=>exact⟨K',gu,G,f.bare,Q⟩
end
def Ev(P:aM)(k:bZ)(f:bS)(S:aD)(H:Heap)(a:AV)(b:Heap):Prop:=k f S H=J (J (a,b))\/(k f S H=Z/\∃fr,wT P f S=J fr/\∃n,AM.run P k n fr H=J (.ret a b))
def YEv(P:aM)(k:bZ)(i:Nat)(S:aD)(H:Heap)(a:AV)(b:Heap):Prop:=∃fr,vU P k (.yield i) S H=J (.call fr H)/\∃n,AM.run P k n fr H=J (.ret a b)
def pV(K:aY)(b:bY)(c:aG)(H:Heap)(r:aA)(o:aX)(S:aD):Prop:=r.length=S.length/\∀(i:Nat)(d:DV)(a:AV),r[i]?=J d->S[i]?=J a->cJ K b c H (.sl i) d a (if i=0 then o else .no)
def rl(P:aM)(k:bZ)(j:cj)(r:eK):Prop:=∀f args ow g v l,r (.call f args ow g)=J (.val v l)->∀K e i H S,HR K e i H [] g->dD P K (λ_=>Z) j.aq->pV K e i H args ow S->∃a c d h b,Ev P k f S H a c/\(j.ko f args=Z->k f S H=Z)/\Nx K e i H d h b c/\HR d h b c [] l/\lF d h b c v a
def wL(P:aM)(k:bZ)(m:cj)(r:eK):Prop:=∀l args g v h,r (.dK l args g)=J (.val v h)->∀K d j H S i,HR K d j H [] g->dD P K (λ_=>Z) m.aq->bH K d args S->d l=J i->∃a c e f b,YEv P k i S H a c/\Nx K d j H e f b c/\HR e f b c [] h/\lF e f b c v a
section
variable{P:aM}{ak:bZ}{rec:eK}{cf:cj}{K K' K1 K2:aY}{O ψ φ0:bY}{ω ω' ω0 gu ω1:aG}{H H':Heap}{lb:dX}{g g':GH}{M st' st2:St}{tm:Tr AV}
def lN(p:Bool):Pk->ah Pk|.g id=>bif p then Z else J (.g id)|.gc id D=>bif p then Z else J (.gc id D)|_=>Z
theorem MJ{u:Bool}{q:Pk}(h:lN u p=J q):q=p/\u=C/\((∃id,p=.g id)\/∃id D,p=.gc id D):=by cases p<;>grind[lN]
theorem HR.callee(a:HR K O ω H lb g)(u:Bool):HR K (bif u then(λ_=>Z)else O) (ω.of (lN u)) H [] (bif u then .empty else g):=by
 obtain⟨f,c3,j⟩:=WR a (src:=lN _) (λp q y d e=>by grind[MJ]);refine⟨a.inv,a.di,f,c3,j,λs b h=>by grind[look],λid o h=>?_,λid hid=>?_,a.iJ⟩;.cases u with|true=>grind[GH.get,GH.empty,look]|false=>obtain⟨i,d,e,k⟩:=a.kj id o h;exact⟨i,d,e,k.keep a.inv (bM.refl _ _) (bl.refl _) (aU.refl _) (λh=>h) λD r c x=>⟨x,λh=>h⟩⟩
 .cases u with|true=>rfl|false=>exact a.oQ id hid
theorem HR.aoe{b:Bool}(d:HR K O ω H lb g)(n:p.slot)(Q:∀q b,ω q≠J (r,b))(u:r<H.next)(L:b=V->∀j x,K j=J x->rootOf H j≠r):HR K O (ω.set p (J (r,b))) H lb g:=by
 have back:∀q a c,ω.set p (J (r,b)) q=J (a,c)->(q=p/\a=r/\c=b)\/(q≠p/\ω q=J (a,c)):=by grind[aG.nQ,aG.lA]
 refine d.uX (bl.refl _) (λq f=>aG.lA _ _ λe=>f (e▸n)) d.di ?_ ?_ ?_
 . intro q s a c i k l;rcases back q a c k with⟨rfl,rfl,_⟩|⟨_,m⟩;.grind
   . rcases back s a i l with⟨_,rfl,_⟩|⟨_,h⟩;.grind
     .exact d.inj _ _ _ _ _ m h
 . intro q a j x f o;rcases back q a _ f with⟨_,rfl,t⟩|⟨_,h⟩;.grind
   .exact d.clean q a j x h o
 . intro q a c f;rcases back q a c f with⟨_,rfl,_⟩|⟨_,h⟩;.omega
   .exact d.cq _ _ _ h
theorem aEM(h:bH K O l m)(p:cF l=V):bH K ψ l m:=⟨h.1,λi d a x y=>(h.2 i d a x y).pure (DN p x)⟩
theorem acA(hC:rl P ak cf rec){f:bS}{s:aA}{S:aD}{v:SV}{T:GH}{fa:ah (Nat×Bool)}(u:Ok K O ω H st2 tm)(hg:dD P K O cf.aq)(cX:dD P K (λ_=>Z) cf.aq)(W:ku cf rec f s ow st2.g (λv g=>J (v,g))=J (v,T))(jG:aJ {st2 with sl:=cV st2.sl,g:=T} dst v=J st')(Y:∀r b,fa=J (r,b)->(∀q c,ω q≠J (r,c))/\r<H.next/\(b=V->∀j x,K j=J x->rootOf H j≠r))(sL:ow.yK=V->fa=Z)(nH:∀(ω0:aG),ω0 (.sl 0)=fa->pV K O ω0 H s ow S)(ho1:∀p r b,ω p=J (r,b)->dH ωo r)(xg:∀r b,fa=J (r,b)->dH ωo r):∃a H' K' ψ ω',Ev P ak f S H a H'/\(cf.ko f s=Z->ak f S H=Z)/\Ok K' ψ ω' H' st' (iz tm dst a)/\(∀(t:aY),bl t K->ta ωo H H t K->Nx t O ωo H K' ψ ω' H')/\(cf.eF f=V->fa=Z->(∀r,r∈H'.bK->r∈H.bK)/\∀r,r∈H'.cK->r∈H.cK):=by
 have hb:=u.hr.callee (cf.eF f);have C7:∀q r b,(ω.of (lN (cf.eF f))) q=J (r,b)->ω q=J (r,b)/\cf.eF f=C/\((∃id,q=.g id)\/∃id D,q=.gc id D):=by grind[aG.jC,MJ]
 have U:∀q r b,((ω.of (lN (cf.eF f))).set (.sl 0) fa) q=J (r,b)->(q=.sl 0/\fa=J (r,b))\/(ω q=J (r,b)/\cf.eF f=C/\((∃id,q=.g id)\/∃id D,q=.gc id D)):=by intro q r b h;by_cases e:q=.sl 0<;>grind[aG.nQ,aG.lA]
 have I:HR K (bif cf.eF f then(λ_=>Z)else O) ((ω.of (lN (cf.eF f))).set (.sl 0) fa) H [] (bif cf.eF f then .empty else st2.g):=by
  rcases fa with _|x
  . have:(ω.of (lN (cf.eF f))).set (.sl 0) Z=ω.of (lN (cf.eF f)):=by
     funext q;by_cases e:q=.sl 0;.subst e;rfl
     grind[aG.lA]
    grind
  obtain⟨r,b⟩:=x;obtain⟨k1,k2,k3⟩:=Y r b rfl;exact hb.aoe trivial (λq c h=>k1 q c (C7 q r c h).1) k2 k3
 have B:=nH ((ω.of (lN (cf.eF f))).set (.sl 0) fa) (aG.nQ _ _ _);have Dm:∀p r b,(cf.eF f=V\/(∀id,p≠.g id)/\∀id D,p≠.gc id D)->ω p=J (r,b)->¬dH ((ω.of (lN (cf.eF f))).set (.sl 0) fa) r:=by
  rintro p r b n h⟨q,c,L⟩;rcases U q r c L with⟨_,h1⟩|⟨h1,h2,h3⟩;.grind
  .have:=u.hr.inj _ _ _ _ _ h h1;grind
 have PX:∀r,dH ((ω.of (lN (cf.eF f))).set (.sl 0) fa) r->dH ωo r:=by rintro r⟨q,c,L⟩;grind
 have fin:∀(K':aY)(ψ:bY)(gu:aG)(H':Heap)(g':GH)(a:AV),Ev P ak f S H a H'->(cf.ko f s=Z->ak f S H=Z)->Nx K (bif cf.eF f then(λ_=>Z)else O) ((ω.of (lN (cf.eF f))).set (.sl 0) fa) H K' ψ gu H'->HR K' ψ gu H' [] g'->lF K' ψ gu H' v a->(cf.eF f=V->v.pure=V)->T=GH.back (cf.eF f) st2.g g'->∃a H' K' ψ ω',Ev P ak f S H a H'/\(cf.ko f s=Z->ak f S H=Z)/\Ok K' ψ ω' H' st' (iz tm dst a)/\(∀(t:aY),bl t K->ta ωo H H t K->Nx t O ωo H K' ψ ω' H')/\(cf.eF f=V->fa=Z->(∀r,r∈H'.bK->r∈H.bK)/\∀r,r∈H'.cK->r∈H.cK):=by
  intro K' ψ gu H' g' a e1 e0 e2 e3 e4 e5 e6;subst e6;have c:wE (cf.eF f) K O ω H st2.lb st2.g (bif cf.eF f then(λ_=>Z)else O) ((ω.of (lN (cf.eF f))).set (.sl 0) fa) K' ψ gu H' g':=⟨u.hr,e2,e3,λh=>aj,Dm⟩;refine⟨a,H',K',_,_,e1,e0,c.ok u.sl e4 e5 jG,λt X hI=>e2.up u.hr.inv PX X hI c.ext (c.lR ho1 PX),λn hn=>?_⟩;have xf:∀r,¬dH ((ω.of (lN (cf.eF f))).set (.sl 0) fa) r:=by rintro r⟨q,b,L⟩;grind
  exact⟨λr hr=>(e2.log.2.1 r hr).resolve_right λh=>xf r h.2,λr hr=>(e2.log.2.2 r hr).resolve_right λh=>xf r h.2⟩
 unfold ku at W;cases n:cf.eF f with
 |true=>rw[n]at W;simp only[aL]at W;cases dP:cF s with|false=>grind|true=>rw[dP]at W;simp only[aL]at W;obtain⟨m,hr,W⟩:=aE W;cases m with|out o=>grind|val w G=>simp only at W;cases F:w.pure with|false=>grind|true=>
     rw[F]at W;obtain⟨hv,Vp⟩:=j9 (br W);rw[n]at I;have E:pV K (λ_=>Z) ((ω.of (lN (cf.eF f))).set (.sl 0) fa) H s ow S:=⟨B.1,λi d a x y=>(B.2 i d a x y).pure (DN dP x)⟩;rw[n]at E;obtain⟨a,H',K1,A,ω1,N,M,b2,Q,R⟩:=hC f s ow .empty w G hr K (λ_=>Z) _ H S I cX E;obtain⟨K2,ω2,d1,d2,d3⟩:=aiZ (th:=cf.ri f&&ow.yK) u.hr b2 Q R F (λh r⟨q,b,L⟩=>by grind);subst hv;have Iz:(ri (cf.ri f&&ow.yK) w).pure=V:=by cases w with
     |tp l=>unfold ri;cases(cf.ri f&&ow.yK)with|false=>grind|true=>show(List.map (λx=>xL l x.2 x.1) l.zipIdx).all (λx=>x.1.pure)=V;refine List.all_eq_true.2 λy hy=>?_;obtain⟨z,hz,rfl⟩:=List.mem_map.1 hy;obtain⟨x0,k⟩:=z;have yI:=List.mk_mem_zipIdx_iff_getElem?.1 hz;have:=List.all_eq_true.1 F x0 (cI yI);grind[akl]
     |_=>exact F
     have m:=fin K2 (λ_=>Z) ω2 H' .empty a N M aj d2 d3 (λ_=>Iz) (by rw[n];exact Vp.symm);grind
 |false=>rw[n]at W;simp only[bg]at W;obtain⟨m,hr,W⟩:=aE W;cases m with|out o=>grind|val w G=>obtain⟨rfl,rfl⟩:=j9 (br W);rw[n]at I B;obtain⟨a,H',K1,A,ω1,N,M,b2,Q,R⟩:=hC f s ow st2.g w G hr K O _ H S I cX B;have m:=fin K1 A ω1 H' G a N M aj Q R (λh=>aj) (by rw[n];rfl);grind
end
end Go.VM
namespace Go.AM
open Go
variable{v:AV}{r:Bm}{H H' H1 H2 a:Heap}{cs:List cZ}{j l:Nat}{out:Out}{p:Pl}{rec:Rec}{tm:Tr AV}{w:aT}{O ψ:aZ}{F:cZ}
structure ru(ops:Array aC)(ord:an):Prop where
 nodup:ord.Nodup
 all:∀i,i<ops.size↔i∈ord
 before:∀(a b:an)(i:Nat)(o:aC),ord=a++i::b->ops[i]?=J o->∀e,e∈o.after.toList->uq .any e=V->e.on∈a
def J3(P:aM)(a:bZ)(e:Rec):Prop:=∀(o:Array aC)(fr:cu)(H:Heap)(r:Bz),wj o.toList=V->va P a e o o.toList 0 [] fr H=J r->∀(O:aZ)(w:aT)(F:cZ)(cs:List cZ)(d:an)(k:List Item),ba H->bA gR O H w->jc P O->fr.mode=.run->jb O fr F (.inRegion o d::k)->ru o d->Kb P O H w fr F cs (.inRegion o []::k) r
section
variable{P:aM}{O:aZ}{H:Heap}{w:aT}
theorem ado(d:nw P rec){f:cu}{F':cZ}{k:List Item}(i:ba H)(s:bA gR O H w)(g:jc P O)(b:step P (eT F cs w)=.next (eT F' cs w))(a:jb O {f with todo:=k} F' k)(c:F'.fn=F.fn)(h:rec {f with todo:=k} H=J out):kI P O H w f F cs out:=kI.after i s (fZ.refl i s) (Steps.one b) rfl c (d _ H out h O w F' cs i s g a)
theorem jb.to{f:cu}{a:List Item}(h:jb O f F a)(k:List Item):jb O {f with todo:=k} {F with todo:=k} k:=⟨h.fn,h.tmps,λ_=>rfl,h.defers,h.mode,h.kind,h.round⟩
theorem aaV(d:nw P rec){f:cu}{k:List Item}(i:ba H)(s:bA gR O H w)(g:jc P O)(m:f.mode=.run)(a:jb O f F f.todo)(b:∀(F:cZ),F.mode=.run->F.todo=f.todo->(stepG P V {frame:=F,callers:=cs,status:=.running,dying:=Z} w).bare=.go {frame:={F with todo:=k},callers:=cs,status:=.running,dying:=Z} w)(h:rec {f with todo:=k} H=J out):kI P O H w f F cs out:=ado d i s g (F':={F with todo:=k}) (step_lone_go (b F (a.run m) (a.todo m))) (a.to k) rfl h
theorem aF0{n:Func}{j:cu}{k:List Item}(K:bA gR O H w)(y:jb O j F k)(h:Jj P n j H=J v):∃u,(results n F.tmps).run P w=.ok u w/\VR O v u:=by
 unfold Jj at h;simp only[jE]at h;obtain⟨g,U,N⟩:=h;obtain⟨h1,h2⟩:=Mu U;have q:∃s:List aB,s.length=g.length/\∀(i:Nat)(x:ResultVar)(u:aB)(a:AV),n.results.toList[i]?=J x->s[i]?=J u->g[i]?=J a->((match x with|.tmp t=>pure (F.tmps.getD t undef)|.cell a t=>do Go.loadVar t (<-asAddr (F.tmps.getD a undef)):Sem aB)).run P w=.ok u w/\VR O a u:=by
  have T:∀(l:List ResultVar)(S:aD),cE (λ|.tmp t=>J (j.tmp t)|.cell a t=>match j.tmp a with|.ptr id o=>AM.loadVar P H t id o|_=>Z) l=J S->∃s:List aB,s.length=S.length/\∀(i:Nat)(x:ResultVar)(u:aB)(a:AV),l[i]?=J x->s[i]?=J u->S[i]?=J a->((match x with|.tmp t=>pure (F.tmps.getD t undef)|.cell a t=>do Go.loadVar t (<-asAddr (F.tmps.getD a undef)):Sem aB)).run P w=.ok u w/\VR O a u:=by intro l;induction l with|nil=>simp[QE]|cons x l Q=>
   intro S h;rw[QD]at h;obtain⟨a,d,h⟩:=aE h;obtain⟨t,M,h⟩:=aE h;cases h;obtain⟨s,B,D⟩:=Q t M;have A:∃u,((match x with|.tmp t=>pure (F.tmps.getD t undef)|.cell a t=>do Go.loadVar t (<-asAddr (F.tmps.getD a undef)):Sem aB)).run P w=.ok u w/\VR O a u:=by cases x with|tmp t=>simp only at d;cases d;exact⟨F.tmps.getD t undef,by rfl,y.tmps.2 t⟩|cell c t=>
    simp only at d;have m:=y.tmps.2 c;have e:j.tmp c=(j.tmps.get c).getD fR:=rfl;rw[<-e]at m;split at d;.rename_i id o hid;rw[hid]at m;simp only;generalize F.tmps.getD c undef=cv at m|-;cases m with|ptr _ _ p G=>obtain⟨u,l1,l2⟩:=aht (P:=P) K G trivial d;grind[asAddr]
    grind
   obtain⟨u,Y,Qc⟩:=A;refine⟨u::s,aj,λi x' u' a' e1 e2 e3=>?_⟩;cases i<;>grind
  grind
 obtain⟨s,B,D⟩:=q;have E:(n.results.mapM (λ|.tmp t=>pure (F.tmps.getD t undef)|.cell a t=>do Go.loadVar t (<-asAddr (F.tmps.getD a undef)):ResultVar->Sem aB)).run P w=.ok s.toArray w:=by have hm:=ajI (P:=P) (w:=w) (f:=(λ|.tmp t=>pure (F.tmps.getD t undef)|.cell a t=>do Go.loadVar t (<-asAddr (F.tmps.getD a undef)):ResultVar->Sem aB)) n.results.toList s ae (λi x u A z=>by grind);simp_all[Array.mapM_eq_mapM_toList]
 have L:aV O g s:=⟨B.symm,λi a u d z=>by have X:i<n.results.toList.length:=aj;exact(D i _ u a (eZ X) z d).2⟩;have R:(results n F.tmps).run P w=.ok (if h:s.toArray.size=1 then s.toArray[0]else .tuple s.toArray) w:=by unfold results;rw[Sem.run_bind];exact fH (λr=>Result.andThen r (λa W=>Sem.run P (pure (if h:a.size=1 then a[0]else Value.tuple a)) W)) E
 refine⟨_,R,?_⟩;cases g with|nil=>grind[aV.cw]|cons a g=>cases g with|nil=>obtain⟨u,t,rfl,e1,e2⟩:=L.cons_inv;grind|cons b g=>
  subst N;have I:¬s.toArray.size=1:=by grind
  rw[dif_neg I];exact L.cw _ rfl
theorem Mo(s:bA gR O H w)(a:O l=J p)(g:H.get l=J (.loop r)):p.base=0/\∃R:Loop,w.heap[p.aW]?=J (.loop R)/\He O r R:=s.obj l p _ a trivial (by intro b c f e h;grind) g
theorem Xe(i:ba H)(s:bA gR O H w){r':Bm}(a:Loop)(h:O l=J p)(g:H.get l=J (.loop r))(L:He O r' a):fZ O H w O (H.put l l (.loop r')) (World.eH w p.aW (.loop a)):=by obtain⟨b,R,c,d⟩:=Mo s h g;exact Re i s _ h g rfl rfl ⟨b,a,Rz w (s.stat.cq l p h).1 _,L⟩
theorem ahn{f:cu}{jump:ah bz}(q:ba H)(s:bA gR O H w)(m:f.mode=.run)(a:jb O f F f.todo)(n:f.roundOf=J l)(g:H.get l=J (.loop r))(k:∀(F:cZ)(c:cZ)(rest:List cZ)(b:Nat)(v:aB)(j:aT),F.mode=.run->F.todo=f.todo->F.roundOf=J b->F.kind=.normal->(Instr.endRound b jump).run P w=.ok v j->(stepG P V {frame:=F,callers:=c::rest,status:=.running,dying:=Z} w).bare=.go {frame:=c.finish v,callers:=rest,status:=.running,dying:=Z} j):kI P O H w f F cs (.ret (.bool jump.isNone) (H.put l l (.loop {r with state:=(if jump.isNone then .ready else .done),pending:=jump}))):=by
 have G:=a.round;rw[n]at G;rcases d:F.roundOf with _|b;.grind[zW]
 rw[d]at G;obtain⟨p,i,rfl⟩:=G;obtain⟨t,R,o,h⟩:=Mo s i g;have u:=Xe q s (r':={r with state:=(if jump.isNone then .ready else .done),pending:=jump}) {R with state:=(if jump.isNone then .ready else .done),pending:=jump} i g ⟨rfl,rfl,h.fn,h.tmps,h.params,h.assign,h.body,h.defers⟩;have x:(Instr.endRound p.aW jump).run P w=.ok (.bool jump.isNone) (World.eH w p.aW (.loop {R with state:=(if jump.isNone then .ready else .done),pending:=jump})):=by have e1:(getObj _).run P w=.ok _ w:=yZ o aO;simp_all[Jq,Instr.endRound,Instr.getLoop]
 refine⟨O,_,_,u,.bool _,λy=>aj,λ_ c rest e=>?_⟩;subst e;exact Steps.one (step_lone_go (k F c _ _ _ _ (a.run m) (a.todo m) d a.kind x))
theorem acb(d:nw P rec){fr f:cu}{o:Array aC}{k:List Item}(i:ba H)(s:bA gR O H w)(g:jc P O)(e:fr.todo=k)(Y:Kb P O H w fr F cs (.inRegion o []::k) (.next f H1))(h:rec f H1=J out):kI P O H w fr F cs out:=by
 obtain⟨ψ,c,a,j,p,f1,m,n⟩:=Y;have t:=f1.run m.mode;have G:step P (eT a cs c)=.next (eT {a with todo:=k} cs c):=step_lone_go (by simp[stepG,ug,t,f1.todo m.mode]);have b:jb ψ f {a with todo:=k} f.todo:=by rw[m.todo,e];exact⟨f1.fn,f1.tmps,λ_=>rfl,f1.defers,f1.mode,f1.kind,f1.round⟩
 exact kI.after i s p (j.trans (Steps.one G)) m.round n (d _ H1 _ h ψ c _ cs p.1 p.2.1 (g.mono p.2.2.ext) b)
theorem fZ.drew{a:aT}(h:fZ O H w.drew ψ H' a):fZ O H w ψ H' a:=⟨h.1,h.2.1,(ir.drew (S:=gR) ⟨h.1,h.2.1.up (λ_ _=>trivial),h.2.2⟩).2.2⟩
theorem ZL{b:bZ}(c:nw P rec)(T:kJ P b)(n:rA P)(l:J3 P b rec)(R:∀(o:Array aC)(t:Nat),wj o.toList=V->ru o (Region.schedule (P.follows .mixedOrders) o t)){fr:cu}{e:Nat}{o:Array aC}{d:Bool}{k:List Item}(i:ba H)(s:bA gR O H w)(g:jc P O)(m:fr.mode=.run)(p:fr.todo=.code (.region e o d)::k)(a:jb O fr F fr.todo)(h:yb P b rec fr H o d k=J out):kI P O H w fr F cs out:=by
 obtain⟨⟨r,H1⟩,hr,j⟩:=aE h;have E:=a.run m;have q:=a.todo m;rcases d with _|_;.have G:step P (eT F cs w)=.next (eT {F with todo:=.inRegion o (List.range o.size)::k} cs w):=step_lone_go (by simp_all[stepG,ug]);have A:jb O {fr with todo:=k} {F with todo:=.inRegion o (List.range o.size)::k} (.inRegion o (List.range' 0 o.toList.length)::k):=⟨a.fn,a.tmps,λ_=>by simp[List.range_eq_range'],a.defers,a.mode,a.kind,a.round⟩;exact kI.after i s (fZ.refl i s) (Steps.one G) rfl rfl (acb c (fr:={fr with todo:=k}) i s g rfl (aGm c T n _ 0 (by rfl) _ H _ hr O w _ cs i s g m A) j)
 rcases f:wj o.toList with _|_;.grind
 rw[f]at hr;have G:step P (eT F cs w)=.next (eT {F with todo:=.inRegion o (Region.schedule (P.follows .mixedOrders) o (w.tape w.drawn (.order F.fn e)))::k} cs w.drew):=step_lone_go (by simp_all[stepG,ug,Question.forced,Question.cut]);have Y:=l _ _ H _ f hr O _ {F with todo:=.inRegion _ (Region.schedule (P.follows .mixedOrders) o (w.tape w.drawn (.order F.fn e)))::k} cs _ k i s.drew g m ⟨a.fn,a.tmps,λ_=>rfl,a.defers,a.mode,a.kind,a.round⟩ aP;exact kI.after i s (fZ.refl i s.drew).drew (Steps.one G) rfl rfl (acb c (fr:={fr with todo:=k}) i s.drew g rfl Y j)
theorem zH.append{b:an}{c:List Deferred}:∀{l:an}{m:List Deferred},zH O l m->zH O b c->zH O (l++b) (m++c)|[],[],_,k=>k|_::_,_::_,⟨a,r⟩,k=>⟨a,r.append k⟩|[],_::_,r,_|_::_,[],r,_=>r.elim
theorem aFa{ak:bZ}(dC:nw P rec)(hn:rA P){o:cu}{f:aH}{d:Array Tmp}{s b:bz}{k:List Item}(hi:ba H)(W:bA gR O H w)(hg:jc P O)(hm:o.mode=.run)(ht:o.todo=.code (.rangeFunc f d s b)::k)(E:jb O o F o.todo)(h:Ks P ak rec o H f d s b k=J out):kI P O H w o F cs out:=by
 have tE:=E.run hm;have tJ:=E.todo hm;rw[ht]at tJ;unfold Ks at h;split at h
 . rename_i g first z hf;dsimp only at h;obtain⟨m,xd,T⟩:=aE h;clear h;have hr:=Frame.reads F;have Az:=(fL hg hr (λt e=>by subst e;exact E.tmps.2 t) hf).1;have PS:∃B j X mark,fZ O H w B m.2.2 j/\B m.1=J X/\zH B m.2.1 mark/\((F.roundOf=Z/\mark=[{target:=.collected w.heap.size,args:=#[]}]/\X.aW=w.heap.size/\j=World.push w (.deferred (J [])))\/(∃pb R,F.roundOf=J pb/\j=w/\mark=[]/\(getObj pb).run P w=.ok (.loop R) w/\R.defers=X.aW)):=by have pG:=E.round;cases dZ:o.roundOf with
     |none=>rw[dZ]at xd pG;simp only at xd;cases xd;cases C5:F.roundOf with|some b=>grind[zW]|none=>obtain⟨h1,T,U⟩:=Mx (P:=P) hi W (.deferred V) (.deferred (J [])) rfl ⟨rfl,xF w _⟩;exact⟨_,_,_,[{target:=.collected w.heap.size,args:=#[]}],⟨U.1,U.2.1.up (λ_ _=>.inl trivial),U.2.2⟩,T,⟨⟨_,T,rfl⟩,trivial⟩,.inl ⟨rfl,rfl,rfl,rfl⟩⟩
     |some l=>rw[dZ]at xd pG;simp only at xd;cases C5:F.roundOf with|none=>grind[zW]|some b=>
         rw[C5]at pG;obtain⟨p,hp,rfl⟩:=pG;split at xd;.rename_i r oc;cases xd;obtain⟨h0,R,h1,L⟩:=Mo W hp oc;obtain⟨q,hq,VH⟩:=L.defers;exact⟨O,w,q,[],fZ.refl hi W,hq,trivial,.inr ⟨p.aW,R,rfl,rfl,rfl,yZ h1 aO,VH⟩⟩
         grind
   obtain⟨B,j,X,mark,p1,VG,awu,aw2⟩:=PS;have PA:=E.mono p1.2.2.ext;obtain⟨n1,n2,n3⟩:=Mx (P:=P) p1.1 p1.2.1 (.loop {state:=.ready,pending:=Z,fn:=o.fn,n:=o.n,tmps:=o.tmps,params:=d.toList,assign:=s,body:=b,defers:=m.1}) (.loop {state:=.ready,pending:=Z,fn:=F.fn,tmps:=F.tmps,params:=d,assign:=s,body:=b,defers:=X.aW}) rfl ⟨rfl,_,xF j _,⟨rfl,rfl,PA.fn,PA.tmps,rfl,rfl,rfl,X,VG,rfl⟩⟩;obtain⟨I,Fy⟩:∃I,I=World.push j (.loop {state:=.ready,pending:=Z,fn:=F.fn,tmps:=F.tmps,params:=d,assign:=s,body:=b,defers:=X.aW}):=⟨_,rfl⟩;obtain⟨A,S⟩:∃A,A=gH B m.2.2.next ⟨j.heap.size,0,0,0⟩:=⟨_,rfl⟩;rw[<-Fy,<-S]at n3;rw[<-S]at n2;rw[<-Fy]at n1;have p2:fZ B m.2.2 j A _ I:=⟨n3.1,n3.2.1.up (λ_ _=>.inl trivial),n3.2.2⟩;have Q:=p1.trans hi W p2;have afO:(Instr.enterLoop F.fn F.tmps d s b F.roundOf).run P w=.ok (j.heap.size,mark) I:=by
     rcases aw2 with⟨e1,e2,e3,e4⟩|⟨pb,R,e1,e2,e3,e4,e5⟩
     . have sL:(newObj (.deferred (J []))).run P w=.ok w.heap.size j:=by rw[e4];rfl
       simp_all[Instr.enterLoop]
     simp_all[Instr.enterLoop,Instr.getLoop]
   split at T
   . rename_i c Hc fW;obtain⟨⟨v,H3⟩,yF,U⟩:=aE T;clear T;unfold yd at fW;split at fW;.simp_all
     . simp only[jE]at fW;obtain⟨c',yr,hy⟩:=fW;obtain⟨rfl,rfl⟩:=eV.call.inj hy;have hfe:∃K M:Array aB,F.eval f=.func (.func g) K M/\aV A first K.toList/\aV A z M.toList:=by generalize F.eval f=fv at Az;cases Az with|func _ _ _ K M h1 T g1 g2=>exact⟨K,M,rfl,aV.mono Q.2.2.ext ⟨ae,λi a v x y=>g1 i a v x aj⟩,aV.mono Q.2.2.ext ⟨ae,λi a v x y=>g2 i a v x aj⟩⟩
       obtain⟨K,M,hfe,jQ,nI⟩:=hfe;have VS:VR A (.yield m.2.2.next) (.func (.yield j.heap.size) #[] #[]):=VR.yield m.2.2.next ⟨j.heap.size,0,0,0⟩ n2;have nH:aV A (cQ (cQ first [.yield m.2.2.next]) z) ((K++#[Value.func (.yield j.heap.size) #[] #[]])++M).toList:=by rw[lQ,lQ,Array.toList_append,Array.toList_append];exact(jQ.append (aV.cons VS (aV.nil _))).append nI
       obtain⟨e1,e4,e7,fn,bd,e5,e6⟩:=KZ yr nH;have C':=Kz hn e5 e6 ((K++#[Value.func (.yield j.heap.size) #[] #[]])++M) I;obtain⟨G,hG⟩:∃G:cZ,G={F with todo:=.inRangeFunc j.heap.size::k,defers:=mark++F.defers}:=⟨_,rfl⟩;have bG:step P (eT F cs w)=.next (eT (Frame.enter P g ((K++#[Value.func (.yield j.heap.size) #[] #[]])++M) .normal) (G::cs) I):=by
         have vG:∀(D:Sem Next),D.run P I=.ok (.enter g ((K++#[Value.func (.yield j.heap.size) #[] #[]])++M)) I->(stepG.apply P V G cs Z D I).bare=.go {frame:=Frame.enter P g ((K++#[Value.func (.yield j.heap.size) #[] #[]])++M) .normal,callers:=G::cs,status:=.running,dying:=Z} I:=by simp_all[stepG.apply]
         refine step_lone_go ?_;have uI:G.eval f=F.eval f:=by rw[hG];rfl
         obtain⟨Ffn,Ft,aLP,Fd,Fm,Fk,Fr⟩:=F;simp only at tE tJ afO hG;subst tE;subst tJ;simp only[stepG,ug,Sem.runT_fst,afO,GStep.bare_after];rw[<-hG];exact vG _ (by have hyc:∀v,G.eval (.const v)=v:=λ_=>rfl;grind[resolve,Deferred.ofValue,invoke])
       obtain⟨ψ3,Y,u,p3,v3,s3⟩:=kI.back (dC c' _ _ yF A I _ (G::cs) Q.1 Q.2.1 (hg.mono Q.2.2.ext) e1);have hGF:jb A {o with todo:=k,defers:=cQ m.2.1 o.defers} G (.inRangeFunc j.heap.size::k):=by rw[hG,lQ];exact⟨E.fn,E.tmps.mono Q.2.2.ext,λ_=>rfl,(awu.mono p2.2.2.ext).append (E.defers.mono Q.2.2.ext),E.mode,E.kind,E.round.mono Q.2.2.ext⟩
       have hGm:G.mode=.run:=aP;have QW:=Q.trans hi W p3;have pD:G.finish u={G with todo:=.endRangeFunc j.heap.size::k}:=by rw[hG];rfl
       rw[pD]at s3;split at U
       . rename_i r oc;have hp3:ψ3 m.2.2.next=J ⟨j.heap.size,0,0,0⟩:=p3.2.2.ext _ _ n2;obtain⟨h0,R,hR,L⟩:=Mo QW.2.1 hp3 oc;have mV:r.state≠.busy:=by grind
         have Fu:=Xe QW.1 QW.2.1 (r':={r with state:=.exhausted}) {R with state:=.exhausted} hp3 oc ⟨rfl,L.pending,L.fn,L.tmps,L.params,L.assign,L.body,L.defers⟩;have QX:=QW.trans hi W Fu;have uH:(Instr.endLoop j.heap.size).run P Y=.ok R.pending (World.eH Y j.heap.size (.loop {R with state:=.exhausted})):=by
          have e1:(getObj j.heap.size).run P Y=.ok (.loop R) Y:=yZ hR aO;have e2:=λaa=>Jq (P:=P) (o':=aa) hR aO;have e3:R.state≠.busy:=by rw[L.state];omega
          simp_all[Instr.endLoop,Instr.getLoop]
         have AH:step P (eT {G with todo:=.endRangeFunc j.heap.size::k} cs Y)=.next (eT {G with todo:=(R.pending.map Item.code).toList++k} cs (World.eH Y j.heap.size (.loop {R with state:=.exhausted}))):=by have r1:=Sem.runT_fst P (Instr.endLoop j.heap.size) Y #[];rw[uH]at r1;exact step_lone_go (by simp_all[stepG,ug])
         have agw:=(Steps.head bG s3).trans (Steps.one AH);have hF4:∀N,jb ψ3 {o with todo:=N,defers:=cQ m.2.1 o.defers} {G with todo:=N} N:=λN=>have x:=hGF.mono p3.2.2.ext
          ⟨x.fn,x.tmps,λ_=>rfl,x.defers,x.mode,x.kind,x.round⟩;have aNi:=L.pending;have aMI:∀N,(R.pending.map Item.code).toList++k=N->rec {o with todo:=N,defers:=cQ m.2.1 o.defers} (H3.put m.2.2.next m.2.2.next (.loop {r with state:=.exhausted}))=J out->kI P O H w o F cs out:=by intro N Di h4;rw[Di]at agw;exact kI.after (fr1:={o with todo:=N,defers:=cQ m.2.1 o.defers}) hi W QX agw rfl aj (dC _ _ out h4 ψ3 _ _ cs QX.1 QX.2.1 (hg.mono QX.2.2.ext) (hF4 N))
         have h5:(match r.pending with|some c=>rec {o with todo:=.code c::k,defers:=cQ m.2.1 o.defers} (H3.put m.2.2.next m.2.2.next (.loop {r with state:=.exhausted}))|none=>rec {o with todo:=k,defers:=cQ m.2.1 o.defers} (H3.put m.2.2.next m.2.2.next (.loop {r with state:=.exhausted})))=J out:=by cases bG:r.state<;>rw[bG]at U<;>first|exact U|simp_all
         grind
       grind
   grind
 grind
theorem aKq(i:ba H)(s:bA gR O H w){r:Nat}(a:O r=J p)(g:H.get r=J (.deferred V)):∃c,(Instr.takeDeferred p.aW).run P w=.ok [] c/\fZ O H w O (H.put r r (.deferred C)) c:=by obtain⟨d,b⟩:=s.obj r p _ a trivial (by intro l j f e h;grind) g;have e1:(getObj _).run P w=.ok _ w:=yZ b aO;have e2:=λo=>Jq (P:=P) (o':=o) b aO;exact⟨_,by simp_all[Instr.takeDeferred],Re i s _ a g rfl rfl ⟨d,Rz w (s.stat.cq r p a).1 _⟩⟩
theorem aGr{B:bZ}(n:nw P rec)(oT:kJ P B)(hn:rA P)(iH:J3 P B rec)(PR:∀(o:Array aC)(t:Nat),wj o.toList=V->ru o (Region.schedule (P.follows .mixedOrders) o t)){f:cu}(q:f.mode=.run)(h:vw P B rec f H=J out)(i:ba H)(s:bA gR O H w)(m:jc P O)(d:jb O f F f.todo):kI P O H w f F cs out:=by
 have S:=d.run q;have z:=d.todo q;have T:∀(j:ah bz),ag9 f.todo=j->(j=Z\/j=J .ret)->(∀(F:cZ)(cs:List cZ)(w:aT),F.mode=.run->F.todo=f.todo->F.roundOf=Z->(stepG P V {frame:=F,callers:=cs,status:=.running,dying:=Z} w).bare=.go {frame:={F with mode:=.returning},callers:=cs,status:=.running,dying:=Z} w)->(∀(F:cZ)(c:cZ)(rest:List cZ)(b:Nat)(v:aB)(w K:aT),F.mode=.run->F.todo=f.todo->F.roundOf=J b->F.kind=.normal->(Instr.endRound b j).run P w=.ok v K->(stepG P V {frame:=F,callers:=c::rest,status:=.running,dying:=Z} w).bare=.go {frame:=c.finish v,callers:=rest,status:=.running,dying:=Z} K)->wO rec f H=J out->kI P O H w f F cs out:=by
   intro j X hj xi AH h;unfold wO at h;split at h;.rename_i u;have G:=step_lone_go (xi F cs w S z (d.aB3 u));exact kI.after (fr1:={f with mode:=.returning}) i s (fZ.refl i s) (Steps.one G) rfl rfl (n _ H out h O w {F with mode:=.returning} cs i s m ⟨d.fn,d.tmps,λhh=>by grind[cu.Rw],d.defers,rfl,d.kind,d.round⟩)
   grind[ahn]
 unfold vw at h;split at h;.rename_i g;refine T Z (by rw[g];rfl) (.inl rfl) ?_ ?_ h;all_goals simp_all[stepG,ug,doReturn]
 .rename_i k g;refine T (J .ret) (by rw[g];rfl) (.inr rfl) ?_ ?_ h;all_goals simp_all[stepG,ug,doReturn]
 iterate 5·rename_i g;exact aaV n i s m q d (λF x E=>by simp_all[stepG,ug]) h
 . rename_i c a b k g;have hr:=Frame.reads F;rw[g]at z;unfold xZ at h;split at h;iterate 2
     . rename_i W;have Q:=(fL m hr (λt e=>by subst e;exact d.tmps.2 t) W).1;refine ado n i s m ?_ (d.to _) ?_ h;rotate_left;.rfl
       refine step_lone_go ?_;generalize Ie:F.eval c=cv at Q;cases Q;simp_all[stepG,ug]
   simp_all
 iterate 4·rename_i g;exact aaV n i s m q d (λF x E=>by simp_all[stepG,ug]) h
 . rename_i id k g;unfold ya at h;split at h;.rename_i k' kA;exact aaV n i s m q d (λF x E=>by simp_all[stepG,ug]) h
   . rename_i kA;split at h;.simp_all
     . rename_i l u;split at h;.rename_i r y;cases h;exact ahn (jump:=J (.exit id)) i s q d u y (λF c rest b v K x E h3 h4 h5=>by simp_all[stepG,ug,doReturn])
       simp_all
 .grind[ZL]
 .grind[aFa]
 . rename_i k g;rw[g]at z;unfold BJ at h;split at h
   . rename_i l u;split at h
     . rename_i r y;split at h;.rename_i G;have I:=d.round;rw[u]at I;cases M:F.roundOf with|none=>grind[zW]|some b=>
        rw[M]at I;obtain⟨p,N,rfl⟩:=I;obtain⟨h0,R,x,L⟩:=Mo s N y;have A:=Xe i s (r':={r with state:=.busy}) {R with state:=.busy} N y ⟨rfl,L.pending,L.fn,L.tmps,L.params,L.assign,L.body,L.defers⟩;have U:R.state=.ready:=by rw[L.state,G]
        have Y:(Instr.beginRound p.aW).run P w=.ok () (World.eH w p.aW (.loop {R with state:=.busy})):=by have e1:(getObj p.aW).run P w=.ok (.loop R) w:=yZ x aO;simp_all[Jq,Instr.beginRound,Instr.getLoop]
        have D:step P (eT F cs w)=.next (eT {F with todo:=k} cs (World.eH w p.aW (.loop {R with state:=.busy}))):=by
         refine step_lone_go ?_;have pD:F.finish undef={F with todo:=k}:=by grind[Frame.finish]
         simp[stepG,ug,S,z,M,stepG.apply,Y,pD]
        exact kI.after (fr1:={f with todo:=k}) i s A (Steps.one D) rfl rfl (n _ _ out h O _ _ cs A.1 A.2.1 m (d.to k))
       simp_all
     simp_all
   simp_all
 grind
theorem aKX(j:nw P rec){f:cu}(m:f.mode=.returning)(h:EH P rec f H=J out)(i:ba H)(s:bA gR O H w)(l:jc P O)(a:jb O f F f.todo):kI P O H w f F cs out:=by
 have t:=a.mode.trans m;unfold EH at h;split at h;.grind
 . rename_i k;have r:=a.defers;split at h
   . rename_i d x hd;rw[hd]at r;rcases I:F.defers with _|⟨e,b⟩;.rw[I]at r;exact r.elim
     rw[I]at r;obtain⟨⟨p,n,rfl⟩,g⟩:=r;split at h;.rename_i q;obtain⟨c,t1,t3⟩:=aKq (P:=P) i s n q;have G:step P (eT F cs w)=.next (eT {F with defers:=b} cs c):=step_lone_go (by simp_all[stepG,unwind]);exact kI.after i s t3 (Steps.one G) rfl rfl (j _ _ _ h O c _ cs t3.1 t3.2.1 l ⟨a.fn,a.tmps,a.todo,g,a.mode,a.kind,a.round⟩)
     grind
   . rename_i hd;have I:F.defers=[]:=by
      rw[hd]at r;rcases I:F.defers with _|⟨e,b⟩;.rfl
      rw[I]at r;exact r.elim
     rw[UT]at h;obtain⟨fn,y,h⟩:=aE h;simp only[jE]at h;obtain⟨v,o,rfl⟩:=h;obtain⟨u,r1,r2⟩:=aF0 s a o;exact⟨O,w,u,fZ.refl i s,r2,λ_=>⟨F,Steps.refl P _,rfl,t,I,a.kind,fn,by rw[a.fn];omega,r1⟩,λA=>absurd k A⟩
theorem am0{a:bZ}(d:nw P rec)(T:kJ P a)(n:rA P)(i:J3 P a rec)(R:∀(o:Array aC)(t:Nat),wj o.toList=V->ru o (Region.schedule (P.follows .mixedOrders) o t)):nw P (body P a rec):=by intro fr H out h O w F cs hi s g b;grind[body,aGr,aKX]
theorem aGe{a:bZ}(T:kJ P a)(b:rA P)(c:∀rec,nw P rec->J3 P a rec)(R:∀(o:Array aC)(t:Nat),wj o.toList=V->ru o (Region.schedule (P.follows .mixedOrders) o t)):∀n,nw P (AM.run P a n):=by intro n;induction n with|zero=>intro fr H out h;simp_all[AM.run]|succ n i=>exact am0 i T b (c _ i) R
end
inductive Kind where|skip|quiet|act deriving DecidableEq
structure cW where
 fr:Nat->cu
 H:Nat->Heap
 H':Nat->Heap
 v:Nat->AV
 K:Nat->Kind
def cW.gL(R:cW)(P:aM)(i:Nat)(o:aC):jL:=⟨ey P (R.fr i).tmps (R.H i) o,(R.H' i).bK⟩
structure Kf(P:aM)(ak:bZ)(rec:Rec)(ops:Array aC)(R:cW)(i:Nat)(o:aC):Prop where
 slot:sW (R.fr i) o.dst (R.v i)=J (R.fr (i+1))skip:R.K i=.skip->wC ops (R.fr i).tmps o=J C/\R.v i=fR/\R.H (i+1)=R.H i
 run:R.K i≠.skip->wC ops (R.fr i).tmps o=J V/\fP P ak rec (R.fr i).tmps (R.H i).fresh o=J (.val (R.v i) (R.H' i))quiet:R.K i=.quiet->ov o.op=V/\R.H (i+1)=R.H i
 act:R.K i=.act->ov o.op=C/\R.H (i+1)=(R.H i).resume (R.H' i)/\sI ops o i (R.gL P i o) (R.H' i)=V/\tX o (R.H' i)=V/\within (R.gL P i o)=V
structure Kh(P:aM)(ak:bZ)(rec:Rec)(ops:Array aC)(R:cW):Prop where
 step:∀(i:Nat)(o:aC),ops[i]?=J o->Kf P ak rec ops R i o
 pair:∀(i k:Nat)(o q:aC),ops[i]?=J o->ops[k]?=J q->i<k->R.K i=.act->R.K k=.act->apart (R.gL P i o) (R.gL P k q)=V\/rj ops.toList i k=V
section
variable{P:aM}{ak:bZ}{rec:Rec}{ops:Array aC}
def cW.put(R:cW)(j:Nat)(f:cu)(a b:Heap)(d:AV)(c:Kind):cW:={fr:=λi=>if i=j then f else R.fr i,H:=λi=>if i=j then a else R.H i,H':=λi=>if i=j then b else R.H' i,v:=λi=>if i=j then d else R.v i,K:=λi=>if i=j then c else R.K i}
theorem Gs{o:aC}{l:List aC}{g:List (Nat×jL)}{f:cu}:va P ak rec ops (o::l) j g f H=(wC ops f.tmps o).bind λw=>bif !w then(sW f o.dst fR).bind λf=>va P ak rec ops l (eU j) g f H else(fP P ak rec f.tmps H.fresh o).bind λ|.val v H'=>(sW f o.dst v).bind λa=>bif ov o.op then va P ak rec ops l (eU j) g a H else bif iw (λ(e:Nat×jL)=>apart e.2 ⟨ey P f.tmps H o,H'.bK⟩||rj ops.toList e.1 j) g&&(sI ops o j ⟨ey P f.tmps H o,H'.bK⟩ H'&&(tX o H'&&within ⟨ey P f.tmps H o,H'.bK⟩))then va P ak rec ops l (eU j) ((j,⟨ey P f.tmps H o,H'.bK⟩)::g) a (H.resume H')else Z:=by simp[va,akm]
theorem aLi:∀(l:List aC)(j:Nat)(g:List (Nat×jL))(fr:cu)(H:Heap)(r:Bz),ops.toList.drop j=l->va P ak rec ops l j g fr H=J r->∃R:cW,R.fr j=fr/\R.H j=H/\r=.next (R.fr (j+l.length)) (R.H (j+l.length))/\(∀(i:Nat)(o:aC),j<=i->ops[i]?=J o->Kf P ak rec ops R i o)/\(∀(i k:Nat)(o q:aC),j<=i->ops[i]?=J o->ops[k]?=J q->i<k->R.K i=.act->R.K k=.act->apart (R.gL P i o) (R.gL P k q)=V\/rj ops.toList i k=V)/\(∀(e:Nat×jL)(k:Nat)(q:aC),e∈g->j<=k->ops[k]?=J q->R.K k=.act->apart e.2 (R.gL P k q)=V\/rj ops.toList e.1 k=V):=by intro l;induction l with
 |nil=>
 intro j g fr H r F h;cases h;have O:ops.size<=j:=by simp_all
 have L:∀(i:Nat)(o:aC),j<=i->ops[i]?=J o->False:=λi o hi m=>by grind
 exact⟨⟨λ_=>fr,λ_=>H,λ_=>H,λ_=>fR,λ_=>.skip⟩,rfl,rfl,rfl,λi o hi m=>(L i o hi m).elim,λi k o q hi m=>(L i o hi m).elim,λe k q _ b d=>(L k q b d).elim⟩|cons o l x=>
 intro j g fr H r F h;have m:ops[j]?=J o:=by have:(ops.toList.drop j)[0]?=J o:=aj;grind
 have z:ops.toList.drop (j+1)=l:=by have:(ops.toList.drop j).drop 1=l:=aj;grind[Et]
 have a:=h;simp only[Gs]at a;clear h;have u:∀(f:cu)(H1 n:Heap)(v:AV)(K:Kind)(y:List (Nat×jL))(R:cW),R.fr (j+1)=f->R.H (j+1)=H1->r=.next (R.fr (j+1+l.length)) (R.H (j+1+l.length))->(∀(i:Nat)(o:aC),j+1<=i->ops[i]?=J o->Kf P ak rec ops R i o)->(∀(i k:Nat)(o q:aC),j+1<=i->ops[i]?=J o->ops[k]?=J q->i<k->R.K i=.act->R.K k=.act->apart (R.gL P i o) (R.gL P k q)=V\/rj ops.toList i k=V)->(∀(e:Nat×jL)(k:Nat)(q:aC),e∈y->j+1<=k->ops[k]?=J q->R.K k=.act->apart e.2 (R.gL P k q)=V\/rj ops.toList e.1 k=V)->(∀e,e∈g->e∈y)->(K=.act->(j,(⟨ey P fr.tmps H o,n.bK⟩:jL))∈y)->(K=.act->∀e,e∈g->apart e.2 ⟨ey P fr.tmps H o,n.bK⟩=V\/rj ops.toList e.1 j=V)->Kf P ak rec ops (R.put j fr H n v K) j o->∃R:cW,R.fr j=fr/\R.H j=H/\r=.next (R.fr (j+(o::l).length)) (R.H (j+(o::l).length))/\(∀(i:Nat)(o:aC),j<=i->ops[i]?=J o->Kf P ak rec ops R i o)/\(∀(i k:Nat)(o q:aC),j<=i->ops[i]?=J o->ops[k]?=J q->i<k->R.K i=.act->R.K k=.act->apart (R.gL P i o) (R.gL P k q)=V\/rj ops.toList i k=V)/\(∀(e:Nat×jL)(k:Nat)(q:aC),e∈g->j<=k->ops[k]?=J q->R.K k=.act->apart e.2 (R.gL P k q)=V\/rj ops.toList e.1 k=V):=by
  intro f H1 n v K y R e1 e2 e3 e4 e5 e6 e7 e8 e9 ux;have hd:∀(i:Nat)(q:aC),i≠j->(R.put j fr H n v K).gL P i q=R.gL P i q:=λi q hi=>by grind[cW.gL,cW.put]
  have t:∀i,i≠j->(R.put j fr H n v K).K i=R.K i:=λi hi=>by grind[cW.put]
  have E:∀q,(R.put j fr H n v K).gL P j q=⟨ey P fr.tmps H q,n.bK⟩:=λq=>by simp[cW.gL,cW.put]
  have D:(R.put j fr H n v K).K j=K:=by simp[cW.put]
  refine⟨R.put j fr H n v K,by simp[cW.put],by simp[cW.put],?_,?_,?_,?_⟩;.grind[cW.put]
  . intro i q hi d;by_cases c:i=j;.grind
    . have s:=e4 i q ae d;have p:¬(i+1=j):=ae;refine⟨?_,?_,?_,?_,?_⟩;.simpa[cW.put,c,p]using s.slot
      .intro b;rw[t i c]at b;simpa[cW.put,c,p]using s.skip b
      .intro b;rw[t i c]at b;simpa[cW.put,c,p]using s.run b
      .intro b;rw[t i c]at b;simpa[cW.put,c,p]using s.quiet b
      .intro b;rw[t i c]at b;have:=s.act b;grind[cW.put]
  .grind
  .intro e k q B b d N;grind
 obtain⟨w,I,a⟩:=aE a;cases w with
 |false=>
  simp only[GZ,aL]at a;obtain⟨f,G,a⟩:=aE a;obtain⟨R,e1,e2,e3,e4,e5,e6⟩:=x (j+1) g f H r z a;refine u f H H fR .skip g R e1 e2 e3 e4 e5 e6 (λe h=>h) (λh=>aj) (λh=>aj) ⟨?_,?_,?_,?_,?_⟩;.grind[cW.put]
  .grind[cW.put]
  all_goals simp[cW.put]|true=>simp only[Bo,bg]at a;obtain⟨⟨v,H'⟩,M,a⟩:=aE a;obtain⟨f,G,a⟩:=aE a;cases d:ov o.op with
  |true=>
    rw[d]at a;simp only[aL]at a;obtain⟨R,e1,e2,e3,e4,e5,e6⟩:=x (j+1) g f H r z a;refine u f H H' v .quiet g R e1 e2 e3 e4 e5 e6 (λe h=>h) (λh=>aj) (λh=>aj) ⟨?_,?_,?_,?_,?_⟩;.grind[cW.put]
    .simp[cW.put]
    .grind[cW.put]
    .grind[cW.put]
    simp[cW.put]|false=>rw[d]at a;simp only[bg]at a;generalize A:(iw (λ(e:Nat×jL)=>apart e.2 ⟨ey P fr.tmps H o,H'.bK⟩||rj ops.toList e.1 j) g&&(sI ops o j ⟨ey P fr.tmps H o,H'.bK⟩ H'&&(tX o H'&&within ⟨ey P fr.tmps H o,H'.bK⟩)))=cond at a;cases cond with|false=>grind|true=>
      simp only[aL]at a;simp only[iC,rI,um,N1]at A;obtain⟨R,e1,e2,e3,e4,e5,e6⟩:=x (j+1) _ f _ r z a;refine u f _ H' v .act _ R e1 e2 e3 e4 e5 e6 (λe h=>iL _ h) (λ_=>eQ) (λ_ e B=>A.1 e B) ⟨?_,?_,?_,?_,?_⟩;.simpa[cW.put,e1]using G
      .intro b;simp[cW.put]at b
      .intro _;simp[cW.put,I,M]
      .intro b;simp[cW.put]at b
      grind[cW.gL,cW.put]
theorem aLj{f:cu}{r:Bz}(h:va P ak rec ops ops.toList 0 [] f H=J r):∃R:cW,R.fr 0=f/\R.H 0=H/\r=.next (R.fr ops.size) (R.H ops.size)/\Kh P ak rec ops R:=by obtain⟨R,e1,e2,e3,e4,e5,_⟩:=aLi _ 0 [] f H r (by rfl) h;exact⟨R,e1,e2,aj,⟨λi o a=>e4 i o ae a,λi k o q a b=>e5 i k o q ae a b⟩⟩
end
def gI(H a:Heap):Prop:=H.tr=a.tr/\H.dh=a.dh/\H.next=a.next
theorem gI.refl(H:Heap):gI H H:=⟨rfl,rfl,rfl⟩
theorem gI.symm{b:Heap}(h:gI a b):gI b a:=⟨h.1.symm,h.2.1.symm,h.2.2.symm⟩
theorem gI.trans{b c:Heap}(h:gI a b)(k:gI b c):gI a c:=⟨h.1.trans k.1,h.2.1.trans k.2.1,h.2.2.trans k.2.2⟩
theorem gI.get{b:Heap}(h:gI a b)(i:Nat):a.get i=b.get i:=by unfold Heap.get;rw[h.1]
theorem gI.bh{b:Heap}(h:gI a b)(r:Nat):a.bh r=b.bh r:=by unfold Heap.bh;rw[h.2.1]
theorem gI.root{b:Heap}(h:gI a b)(i:Nat):rootOf a i=rootOf b i:=by unfold rootOf;rw[h.get]
theorem gI.ro{b:Heap}(h:gI a b)(i:Nat):fJ a i↔fJ b i:=by unfold fJ;rw[h.get]
theorem gI.alive{b:Heap}(h:gI a b)(i:Nat):jr a i↔jr b i:=by
 unfold jr;rw[h.get];constructor;.intro x l r f e g;rw[<-h.bh];grind
 .intro x l r f e g;rw[h.bh];grind
theorem gI.fresh(H:Heap):gI H.fresh H:=⟨rfl,rfl,rfl⟩
theorem gI.resume(a H:Heap):gI (a.resume H) H:=⟨rfl,rfl,rfl⟩
theorem Stat.DY{n:Nat}(c:gI H1 H2)(h:Stat O H1 n):Stat O H2 n where
 cq:=λid p e=>by rw[<-c.get];exact h.cq id p e
 len:=λid p l r f e a b=>h.len id p l r f e a (by rw[c.get];exact b)
 inj:=λi j p q a b e ro=>by rw[<-c.root,<-c.root];exact h.inj i j p q a b e (λx=>ro ((c.ro i).1 x))
 mono:=λi j p q a b e ro d=>h.mono i j p q a b e (ro.imp (λx y=>x ((c.ro i).1 y)) (λx y=>x ((c.ro j).1 y))) d
theorem bA.DY{S:Nat->Prop}(c:gI H1 H2)(h:bA S O H1 w):bA S O H2 w:=⟨h.stat.DY c,λid p o a b e g=>h.obj id p o a (by rw[c.root];omega) ((c.alive id).2 e) (by rw[c.get];omega)⟩
theorem ba.DY(c:gI H1 H2)(h:ba H1)(t:H2.bn<=H2.next):ba H2 where
 get:=λid o g=>by rw[<-c.2.2];exact h.get id o (by rw[c.get];exact g)
 root:=λid l r a e g=>by rw[<-c.bh];exact h.root id l r a e (by rw[c.get];exact g)
 oy:=λid l r a e g=>by obtain⟨i,b,d,x⟩:=h.oy id l r a e (by rw[c.get];exact g);exact⟨i,b,d,by rw[<-c.get];exact x⟩
 dh:=λr f g=>by rw[<-c.2.2];exact h.dh r f (by rw[c.2.1];exact g)
 bn:=t
theorem ba.fresh(h:ba H):ba H.fresh:=h.DY (gI.fresh H).symm (bo _)
structure AF(H H':Heap):Prop where
 inv:ba H'
 next:H.next<=H'.next
 root:∀id,id<H.next->rootOf H' id=rootOf H id
 view:∀id o,id<H.next->rootOf H id∉H'.bK->H.get id=J o->H'.get id=J o/\(jr H id↔jr H' id)ro:∀id,id<H.next->fJ H id->fJ H' id
 keep:∀id o,id<H.next->H.get id=J o->∃o',H'.get id=J o'/\rq o o'
theorem AF.of{e:aT}(i:ba H)(h:fZ O H.fresh w ψ H' e):AF H H' where
 inv:=h.1
 next:=h.2.2.next
 root:=λid hid=>h.2.2.root id hid
 view:=λid o hid d g=>by obtain⟨a,b,c⟩:=h.2.2.view id o hid (qZ i hid) d g;exact⟨a,b,c⟩
 ro:=λid hid hr=>h.2.2.ro id hid hr
 keep:=λid o hid g=>h.2.2.keep id o hid g
theorem AF.ajh(i:ba H')(c:gI H H'):AF H H' where
 inv:=i
 next:=Nat.le_of_eq c.2.2
 root:=λid _=>(c.root id).symm
 view:=λid o _ _ h=>⟨by rw[<-c.get];exact h,c.alive id⟩
 ro:=λid _ hr=>(c.ro id).1 hr
 keep:=λid o _ h=>⟨o,by rw[<-c.get];exact h,rq.refl o⟩
section
variable{P:aM}{ak:bZ}{rec:Rec}{ops:Array aC}
def KH(H:Heap)(x:ah eV):Prop:=∀v H',x=J (.val v H')->H'=H
theorem KH.n:KH H Z:=λ_ _ h=>aj
theorem KH.o(v:ah AV):KH H (ff H v):=λ_ _ h=>(ni h).2.symm
theorem KH.b{b:Type}{x:ah b}{f:b->ah eV}(h:∀a,KH H (f a)):KH H (x.bind f):=λ_ _ g=>by obtain⟨a,_,c⟩:=aE g;exact h a _ _ c
theorem KH.c{c:Bool}{a b:ah eV}(h:KH H a)(d:KH H b):KH H (bif c then a else b):=aj
theorem aE4{o:aC}(q:ov o.op=V)(h:dV P ak tm H o=J (.val v H')):H'=H:=by suffices KH H _ from this _ _ h;unfold dV;split<;>first
 |(rename_i e;rw[e]at q;cases q;done)
 | (try simp only[El,CD,Eg,Em,GM,GX,GV,Ei,GS,CA,Ej,JW]
    repeat' first|exact KH.n|exact KH.o _|(apply KH.b;intro a)|apply KH.c|(dsimp only;done)|split)
theorem aDd{o:aC}(h:fP P ak rec tm H o=J (.val v H')):∀c,o.op≠.defer c:=by grind[fP,dV]
theorem WX{o:aC}(q:ov o.op=V)(h:fP P ak rec tm H o=J (.val v H')):H'=H:=by obtain⟨x,a,h⟩:=aE h;obtain⟨b,H1,rfl⟩:=Uz (λc e=>by grind[ov]) x a;grind[aE4]
def cW.HX(R:cW)(i:Nat):Heap:=match R.K i with|.act=>R.H' i|_=>(R.H i).fresh
theorem akC{R:cW}(a:Kh P ak rec ops R){i:Nat}{o:aC}(b:ops[i]?=J o):gI (R.H (i+1)) (R.HX i):=by
 have s:=a.step i o b;unfold cW.HX;rcases h:R.K i with _|_|_;.rw[(s.skip h).2.2];exact(gI.fresh _).symm
 .rw[(s.quiet h).2];exact(gI.fresh _).symm
 rw[(s.act h).2.1];simp[gI.resume]
theorem aLk(H:nw P rec)(oT:kJ P ak)(T:rA P){R:cW}(B:Kh P ak rec ops R){cs:List cZ}{k:List Item}(N:ba (R.H 0))(W:bA gR O (R.H 0) w)(L:jc P O)(S:(R.fr 0).mode=.run)(hF:jb O (R.fr 0) F (.inRegion ops (List.range' 0 ops.size)::k)):∀j,j<=ops.size->(∃ψ w' D,ba (R.H j)/\bA gR ψ (R.H j) w'/\Ext O ψ/\(∀id,(R.H 0).next<=id->id<(R.H j).next->∃p,ψ id=J p)/\jb ψ (R.fr j) D (.inRegion ops (List.range' j (ops.size-j))::k))/\ka (R.fr 0) (R.fr j)/\(R.fr j).defers=(R.fr 0).defers/\(R.fr j).n=(R.fr 0).n/\(R.fr j).fn=(R.fr 0).fn/\(∀i,i<j->AF (R.H i) (R.HX i)):=by intro j;induction j with|zero=>intro _;exact⟨⟨O,w,F,N,W,Ext.refl O,λid q g=>ae,ae⟩,⟨S,rfl,rfl⟩,rfl,rfl,rfl,λi h=>ae⟩|succ j ih=>
 intro hj;obtain⟨⟨ψ,w1,E,n,s1,x1,v1,f1⟩,m,m3,m4,m5,I⟩:=ih ae;have f:ops[j]?=J _:=np ae;generalize ops[j]=o at f;have st:=B.step j o f;obtain⟨sm,sd,sn,sf⟩:=aHq st.slot m.mode;have Q:=akC B f;have Y:List.range' j (ops.size-j)=j::List.range' (j+1) (ops.size-(j+1)):=by have:ops.size-j=(ops.size-(j+1))+1:=ae;grind[List.range'_succ]
 rw[Y]at f1;have s:ka _ _/\(R.fr _).defers=(R.fr 0).defers/\(R.fr _).n=(R.fr 0).n/\(R.fr _).fn=(R.fr 0).fn:=⟨m.trans sm,sd.trans m3,sn.trans m4,sf.trans m5⟩;by_cases K:R.K j=.skip
 . obtain⟨q,g,x⟩:=st.skip K;have v:=st.slot;rw[g]at v;obtain⟨g1,_⟩:=Pj f m.mode v f1 JI;refine⟨aj,s.1,s.2.1,s.2.2.1,s.2.2.2,λi lq=>?_⟩;by_cases e:i=j
   . subst e;have:R.HX i=(R.H i).fresh:=by grind[cW.HX]
     rw[this];exact AF.ajh n.fresh (gI.fresh _).symm
   grind
 . obtain⟨q,g⟩:=st.run K;have tE:=f1.run m.mode;have tJ:=f1.todo m.mode;have hw:=JO q (λa b d _ _=>f1.tmps.2 d);have vM:∀y,y∈o.op.operands.toList->eX ψ _ E.eval y:=λy _ t e=>by subst e;exact f1.tmps.2 t
   have G:=WZ (cs:=cs) H oT T n.fresh (s1.DY (gI.fresh _).symm) (L.mono x1) tE tJ f hw vM g;obtain⟨χ,w2,u,c,v2,_⟩:=G;have r:gI (R.HX j) (R.H' j):=by
     unfold cW.HX;rcases l:R.K j with _|_|_;.grind
     .rw[WX (st.quiet l).1 g];simp[gI.refl]
     simp[gI.refl]
   obtain⟨g1,_⟩:=Pj f m.mode st.slot (f1.mono c.2.2.ext) v2;have M:AF (R.H j) (R.HX j):=by
     unfold cW.HX;rcases l:R.K j with _|_|_;.grind
     .exact AF.ajh n.fresh (gI.fresh _).symm
     grind[AF.of]
   have z:(R.H (j+1)).bn<=(R.H (j+1)).next:=by
     rcases l:R.K j with _|_|_;.grind
     .rw[(st.quiet l).2];exact n.bn
     rw[(st.act l).2.1];show(R.H j).bn<=(R.H' j).next;have:=c.2.2.next;exact gv n.bn this
   refine⟨⟨χ,w2,_,(c.1.DY (Q.trans r).symm z),c.2.1.DY (Q.trans r).symm,x1.trans c.2.2.ext,?_,g1⟩,s.1,s.2.1,s.2.2.1,s.2.2.2,λi lq=>?_⟩;rotate_left;by_cases e:i=j;.grind
   .grind
   intro id x A;rw[(Q.trans r).2.2]at A;by_cases X:id<(R.H j).next;.obtain⟨p,U⟩:=v1 id x X;exact⟨p,c.2.2.ext _ _ U⟩
   .exact c.2.2.cover id (Nat.le_of_not_lt X) A
end
inductive sA(ops:Array aC):Nat->Nat->Prop where|bw{i j:Nat}{o:aC}{e:Edge}(ho:ops[j]?=J o)(he:e∈o.after.toList)(hb:uq .any e=V)(hi:e.on=i):sA ops i j|trans{i j:Nat}{o:aC}{e:Edge}(ho:ops[j]?=J o)(he:e∈o.after.toList)(hb:uq .any e=V)(h:sA ops i e.on):sA ops i j
theorem ru.CL{p:Array aC}{r:an}(h:ru p r){i:Nat}(g:sA p i j):∀(a b:an),r=a++j::b->i∈a:=by induction g with|bw f d c hi=>intro a b e;rw[<-hi];exact h.before a b _ _ e f _ d c|@trans j o x f d c _ n=>intro a b e;have m:=h.before a b _ _ e f _ d c;obtain⟨k,l,rfl⟩:=J5 m;grind
section
variable{ops:Array aC}
theorem ae7{b:Type}{Q:b->Nat->Prop}(g:Bool×Nat->b->Bool×Nat)(d:∀p a,(g p a).2=p.2+1)(c:∀p a,(g p a).1=V->p.1=V/\Q a p.2):∀(l:List b)(p:Bool×Nat),(fV g l p).1=V->p.1=V/\∀(i:Nat)(a:b),l[i]?=J a->Q a (p.2+i):=by intro l;induction l with|nil=>simp[pA]|cons a l e=>intro p h;rw[pA]at h;simp only[xS]at h;rw[<-pA]at h;grind
theorem aKu(n i:Nat):aw (Nat.mod (Nat.shiftRight n i) 2) 1=n.testBit i:=by rw[bN];have:Nat.mod _ 2=(n>>>i)%2:=rfl;simp_all
theorem amy(a:Tr Nat)(i j:Nat):AM.before a i j=((a.get j).getD 0).testBit i:=aKu _ _
theorem alN(t:Tr Nat)(i:Nat):∀(l:List Edge)(s:Nat),(fV (λs(e:Edge)=>bif uq .any e then Nat.lor s (Nat.lor (Nat.shiftLeft 1 e.on) ((t.get e.on).getD 0))else s) l s).testBit i=V->s.testBit i=V\/∃e,e∈l/\uq .any e=V/\(e.on=i\/((t.get e.on).getD 0).testBit i=V):=by intro l;induction l with|nil=>simp[pA]|cons e l c=>
 intro s h;rw[pA]at h;simp only[xS]at h;rw[<-pA]at h;rcases c _ h with a|⟨d,a,f,g⟩;.cases b:uq .any e with|false=>simp_all|true=>rw[b]at a;simp only[aL]at a;have e1:Nat.lor s (Nat.lor (Nat.shiftLeft 1 e.on) ((t.get e.on).getD 0))=s|||(1<<<e.on|||((t.get e.on).getD 0)):=rfl;grind[Nat.one_shiftLeft]
 grind
theorem al3:∀(l:List aC)(m:Nat)(t:Tr Nat),ops.toList.drop m=l->(∀j i,j<m->((t.get j).getD 0).testBit i=V->sA ops i j)->(∀j,m<=j->t.get j=Z)->∀j i,(((fV (λ(p:Tr Nat×Nat)(o:aC)=>(p.1.ins p.2 (fV (λs(e:Edge)=>bif uq .any e then Nat.lor s (Nat.lor (Nat.shiftLeft 1 e.on) ((p.1.get e.on).getD 0))else s) o.after.toList 0),eU p.2)) l (t,m)).1.get j).getD 0).testBit i=V->sA ops i j:=by intro l;induction l with|nil=>grind[pA]|cons o l u=>
 intro m t g n r j i h;have k:ops[m]?=J o:=by
   have:(ops.toList.drop m)[0]?=J o:=by rw[g];rfl
   rw[zO]at this;simpa using this
 have v:ops.toList.drop (m+1)=l:=by
   have:(ops.toList.drop m).drop 1=l:=by rw[g];rfl
   rw[Et]at this;exact this
 rw[pA]at h;simp only[xS]at h;rw[<-pA]at h;refine u (m+1) _ v ?_ ?_ j i h
 . intro q d y b;by_cases e:m=q
   . subst e;rw[Tr.lL]at b;simp only[EA]at b;rcases alN t d o.after.toList 0 b with c|⟨e,c,f,a⟩;.simp at c
     . rcases a with a|a;.exact .bw k c f a
       . by_cases X:e.on<m;.exact .trans k c f (n e.on d X a)
         .rw[r e.on ae]at a;simp at a
   .rw[Tr.jF _ _ e]at b;exact n q d ae b
 grind[Tr.jF]
theorem Hr{i:Nat}(h:AM.before (EE ops.toList).1 i j=V):sA ops i j:=by rw[amy]at h;exact al3 _ 0 _ (by rfl) ae (λj _=>Tr.get_nil j) j i h
structure Hg(ops:Array aC)(ws:Tr Nat):Prop where
 back:∀(j:Nat)(o:aC),ops[j]?=J o->∀e,e∈o.after.toList->uq .any e=V->e.on<j
 guard:∀(j:Nat)(o:aC)(g:Nat)(b:Bool),ops[j]?=J o->o.guard=J (g,b)->sA ops g j
 reads:∀(j:Nat)(o:aC)(t:Tmp),ops[j]?=J o->.tmp t∈o.op.operands.toList->ws.get t=Z\/∃k,ws.get t=J k/\(k=j\/sA ops k j\/sA ops j k)writes:∀(j:Nat)(o:aC)(t:Tmp),ops[j]?=J o->o.dst=J t->ws.get t=J j
 only:∀(t:Tmp)(k:Nat),ws.get t=J k->∃o,ops[k]?=J o/\o.dst=J t
theorem aLE:∀(l:List aC)(m:Nat)(t r:Tr Nat)(q:Nat),oN (λ(p:Tr Nat×Nat)(o:aC)=>match o.dst with|none=>J (p.1,eU p.2)|some t=>match p.1.get t with|none=>J (p.1.ins t p.2,eU p.2)|some _=>Z) l (t,m)=J (r,q)->(∀x k,t.get x=J k->r.get x=J k)/\(∀(i:Nat)(o:aC)(x:Tmp),l[i]?=J o->o.dst=J x->r.get x=J (m+i))/\∀x k,r.get x=J k->t.get x=J k\/∃i o,k=m+i/\l[i]?=J o/\o.dst=J x:=by intro l;induction l with|nil=>grind[H6]|cons o l n=>intro m t r q h;rw[H4]at h;obtain⟨p,f,h⟩:=aE h;obtain⟨t1,s⟩:=p;obtain⟨g1,g2,g3⟩:=n s t1 r q h;cases hd:o.dst with
 |none=>
 rw[hd]at f;obtain⟨rfl,rfl⟩:=j9 (br f);refine⟨g1,λi g x hi d=>?_,λx k d=>?_⟩;rotate_left
 . rcases g3 x k d with a|⟨i,g,a,b,c⟩;.grind
   .exact .inr ⟨i+1,g,ae,aj,c⟩
 grind|some x0=>rw[hd]at f;simp only at f;cases j:t.get x0 with|some k=>simp_all|none=>
   rw[j]at f;obtain⟨rfl,rfl⟩:=j9 (br f);refine⟨λx k d=>g1 x k ?_,λi g x hi d=>?_,λx k d=>?_⟩;rotate_left 2
   . rcases g3 x k d with a|⟨i,g,a,b,c⟩
     . by_cases e:x0=x;.subst e;rw[Tr.lL]at a;cases a;grind
       grind[Tr.jF]
     .exact .inr ⟨i+1,g,by rw[a];simp only[Nat.succ_eq_add_one];omega,by simpa using b,c⟩
   .rw[Tr.jF _ _ (λe=>by subst e;rw[j]at d;simp at d)];exact d
   .cases i with|zero=>simp at hi;subst hi;rw[hd]at d;cases d;have:=g1 x0 m (Tr.lL _ _ _);simpa using this|succ i=>have:=g2 i g x (by simpa using hi) d;rw[this];congr 1;omega
theorem aKx{o:aC}{t:Tmp}(h:Operand.tmp t∈o.op.operands.toList):t∈tmpsOf o:=by
 have k:∀(l:List _)(a:List _),(t∈a\/Operand.tmp t∈l)->t∈fV (λa x=>match x with|.tmp t=>t::a|_=>a) l a:=by intro l;induction l with|nil=>simp[pA]|cons x l i=>intro a h;rw[pA];simp only[xS];grind[pA]
 exact k _ _ (.inr h)
theorem ajj(h:wj ops.toList=V):∃w,Hg ops w:=by
 unfold wj at h;split at h;.simp at h
 . rename_i w I;refine⟨w,?_⟩;have s:(∀(j:Nat)(o:aC)(t:Tmp),ops[j]?=J o->o.dst=J t->w.get t=J j)/\∀(t:Tmp)(k:Nat),w.get t=J k->∃o,ops[k]?=J o/\o.dst=J t:=by
    unfold akJ at I;simp only[jE]at I;obtain⟨⟨r,q⟩,hr,rfl⟩:=I;obtain⟨_,g2,g3⟩:=aLE ops.toList 0 Tr.nil r q hr;refine⟨λj o t d m=>?_,λt k y=>?_⟩;.have:=g2 j o t (by simpa using d) m;simpa using this
    . rcases g3 t k y with a|⟨i,o,a,b,c⟩;.rw[Tr.get_nil]at a;simp at a
      .exact⟨o,by rw[a,jM];simpa using b,c⟩
   dsimp only at h;have U:=(ae7 (Q:=λ(o:aC)(j:Nat)=>(iw (λ(e:Edge)=>!(uq .any e)||cM e.on j) o.after.toList=V)/\((match o.guard with|none=>V|some (g,_)=>AM.before (EE ops.toList).1 g j&&(match oW ops.toList g with|some q=>q.dst.isSome|none=>C))=V)/\iw (λt=>match w.get t with|none=>V|some k=>aw k j||tied (EE ops.toList).1 k j) (tmpsOf o)=V) _ (λp a=>rfl) (λp a f=>by simp only[iC]at f;exact⟨f.1,f.2.1.1,f.2.1.2,f.2.2⟩) ops.toList (V,0) h).2;have l:∀(j:Nat)(o:aC),ops[j]?=J o->_:=λj o d=>U j o (by simpa using d);refine⟨λj o d e x v=>?_,λj o g b d z=>?_,λj o t d m=>?_,s.1,s.2⟩;.have:=(l j o d).1;rw[rI,um]at this;have:=this e x;rw[v,fB]at this;simpa using this
   .have:=(l j o d).2.1;rw[z]at this;simp only[iC]at this;have n:=this.1;rw[jM]at n;exact Hr n
   .have:=(l j o d).2.2;rw[rI,um]at this;have:=this t (aKx m);cases u:w.get t with|none=>exact .inl rfl|some k=>
      rw[u]at this;simp only[jM,N1,bN,mw]at this;refine .inr ⟨k,rfl,?_⟩;rcases this with e|e;.exact .inl e
      . unfold tied at e;rcases N1 _ _▸e with e|e;.exact .inr (.inl (Hr e))
        .exact .inr (.inr (Hr e))
theorem Hg.lt{w:Tr Nat}(h:Hg ops w){i:Nat}(a:sA ops i j):i<j:=by induction a with|bw o e b hi=>rw[<-hi];exact h.back _ _ o _ e b|trans o e b _ c=>exact Nat.lt_trans c (h.back _ _ o _ e b)
theorem NG{w:Tr Nat}(h:Hg ops w){i:Nat}(t:rj ops.toList i j=V)(l:i<j):sA ops i j:=by
 rcases N1 _ _▸t with e|e;.grind[Hr]
 .have:=h.lt (Hr e);omega
theorem auO{Q:Tr Nat}(h:Hg ops Q):∀(f t:Nat)(listed:Array Bool)(d:an),listed.size=ops.size->d.Nodup->(∀i,i∈d↔listed[i]?=J V)->(∀i,i∈d->i<ops.size)->ops.size<=f+d.length->(∀(a b:an)(i:Nat)(o:aC),d.reverse=a++i::b->ops[i]?=J o->∀e,e∈o.after.toList->uq .any e=V->e.on∈a)->ru ops (Region.linearise.go .any ops f t listed d):=by have done:∀(listed:Array Bool)(d:an),d.Nodup->(∀i,i∈d->i<ops.size)->(∀i,i<ops.size->i∈d)->(∀(a b:an)(i:Nat)(o:aC),d.reverse=a++i::b->ops[i]?=J o->∀e,e∈o.after.toList->uq .any e=V->e.on∈a)->ru ops d.reverse:=λlisted d g j H K=>⟨List.pairwise_reverse.2 (List.Pairwise.imp (λh=>Ne.symm h) g),λi=>⟨λhi=>List.mem_reverse.2 (H i hi),λhi=>j i (List.mem_reverse.1 hi)⟩,K⟩;intro f;induction f with
 |zero=>
 intro t listed d G q I X l r;simp only[Region.linearise.go];refine done listed d q X (λi hi=>?_) r;apply zG;intro p;have O:(i::d).Nodup:=List.nodup_cons.2 ⟨p,q⟩;have L:(i::d).length<=ops.size:=by have:=List.Nodup.length_le_of_subset O (l₂:=List.range ops.size) (λx T=>by grind);grind
 grind|succ f M=>
 intro t listed d G q I X l r;simp only[Region.linearise.go];split
 . rename_i i hi;have B:=cI hi;rw[List.mem_filter]at B;obtain⟨hr,z⟩:=B;have R:i<ops.size:=List.mem_range.1 hr;obtain⟨w,n⟩:∃w,ops[i]?=J w:=⟨_,np R⟩;have A:i<listed.size:=ae;have s:listed[i]?=J listed[i]:=np A;rw[iC]at z;obtain⟨U,v⟩:=z;have D:listed[i]=C:=by
     have:listed.getD i V=listed[i]:=by simp[Array.getD,A]
     grind
   have p:i∉d:=λS=>by grind
   rw[n]at v;simp only[iE,EA]at v;have F:∀e,e∈w.after.toList->uq .any e=V->e.on∈d:=by intro e m k;have g:=v;rw[<-Array.all_toList,um]at g;have:=g e m;rw[k]at this;simp only[Bo,vp]at this;refine(I e.on).2 ?_;rw[GY]at this;grind
   refine M _ _ (i::d) aj (List.nodup_cons.2 ⟨p,q⟩) ?_ ?_ aj ?_;.grind
   .grind
   . intro a b x o P W e m k;rw[List.reverse_cons]at P;rcases List.append_eq_append_iff.1 P with⟨c,g,j⟩|⟨c,g,j⟩;.cases c with|nil=>grind|cons y c=>simp at j
     .cases c<;>grind
 . rename_i Y;refine done listed d q X ?_ r;intro i;refine Nat.strongRecOn i ?_
   . intro i u hi;apply zG;intro p;have A:i<listed.size:=ae;have s:listed[i]?=J listed[i]:=np A;have D:listed[i]=C:=by grind
     have n:ops[i]?=J ops[i]:=np hi;have N:i∈(List.range ops.size).filter λi=>!listed.getD i V&&((ops[i]?).map (·.after.all λe=>!Region.binds .any e||listed.getD e.on C)).getD C:=by
      rw[List.mem_filter];refine⟨List.mem_range.2 hi,?_⟩;rw[n];have g:listed.getD i V=C:=by simp[Array.getD,A,D]
      rw[g];simp only[GZ,zD,iE,EA];rw[<-Array.all_toList,um];intro e m;cases k:uq .any e with|false=>rfl|true=>have E:=h.back i _ n e m k;have:=(I e.on).1 (u e.on E ae);simp[GY,this]
     grind[Nat.mod_lt]
theorem aAr{P:aM}(m:P.follows .mixedOrders=V)(o:Array aC)(t:Nat)(h:wj o.toList=V):ru o (Region.schedule (P.follows .mixedOrders) o t):=by obtain⟨w,hr⟩:=ajj h;rw[m];refine auO hr _ t _ [] aO G8 (λi=>?_) aO aO aO;grind
end
def oJ(n:Nat)(a:aZ):aZ:=λid=>if id<n then a id else Z
theorem Ai{n:Nat}{i:Nat}(h:i<n)(e:O i=J p):oJ n O i=J p:=by grind[oJ]
theorem uw{n:Nat}{i:Nat}(h:oJ n O i=J p):i<n/\O i=J p:=by grind[oJ]
def Below(n:Nat)(a:aZ):Prop:=∀id p,a id=J p->id<n
theorem VR.cut{n:Nat}(e:Below n ψ){a:AV}{c:aB}(h:VR ψ a c):∀{O:aZ}{v:aB},VR O a v->VR (oJ n O) a v:=by induction h with
 |top _=>intro O v k;cases k with|top n=>exact .top n
 |bool b=>intro O v k;cases k;exact .bool b|int S m=>intro O v k;cases k;exact .int S m|str l s h=>intro O v k;cases k with|str _ U N=>exact .str l U N
 |jV=>intro O v k;cases k;exact .jV|ptr id t p j=>intro O v k;cases k with|ptr _ _ q o=>exact .ptr id t q (Ai (e _ _ j) o)
 |bc=>intro O v k;cases k;exact .bc|sl id t len c z p W M j _ _ _ _ _ _ _=>intro O v k;cases k with|sl _ _ _ _ _ q G C o B D E F H I J=>exact .sl id t len c z q G C (Ai (e _ _ j) o) B D E F H I J
 |il=>intro O v k;cases k;exact .il|map r p j=>intro O v k;cases k with|map _ q o=>exact .map r q (Ai (e _ _ j) o)
 |func f l1 l2 K L w P _ _ Q R=>intro O v k;cases k with|func _ _ _ d1 d2 k1 k2 g1 g2=>
 refine .func f l1 l2 d1 d2 k1 k2 (λi a c x y=>?_) (λi a c x y=>?_)
 . have hi:i<K.size:=by rw[<-w];exact(List.getElem?_eq_some_iff.1 x).1
   exact Q i a _ x (np hi) (g1 i a c x y)
 . have hi:i<L.size:=by rw[<-P];exact(List.getElem?_eq_some_iff.1 x).1
   exact R i a _ x (np hi) (g2 i a c x y)|yield l p j=>intro O v k;cases k with|yield _ q o=>exact .yield l q (Ai (e _ _ j) o)
 |nilFunc=>intro O v k;cases k;exact .nilFunc|agg l c w V _ A=>intro O v k;cases k with|agg _ d k1 T g=>
 refine .agg l d k1 T λi a u x y=>?_;have hi:i<c.size:=by rw[<-w];exact(List.getElem?_eq_some_iff.1 x).1
 exact A i a _ x (np hi) (g i a u x y)|cw l c w _ A=>intro O v k;cases k with|cw _ d k1 g=>
 refine .cw l d k1 λi a u x y=>?_;have hi:i<c.size:=by rw[<-w];exact(List.getElem?_eq_some_iff.1 x).1
 exact A i a _ x (np hi) (g i a u x y)
theorem aV.cut{n:Nat}(b:Below n ψ){l:aD}{c d:List aB}(h:aV ψ l c)(k:aV O l d):aV (oJ n O) l d:=by
 refine⟨k.1,λi a v x y=>?_⟩;have hi:i<c.length:=by rw[<-h.1];exact(List.getElem?_eq_some_iff.1 x).1
 exact(h.2 i a _ x (eZ hi)).cut b (k.2 i a v x y)
theorem rF.cut{n m b:Nat}(a:Below n ψ){t:Tr AV}{c d:Array aB}(h:rF ψ m t c)(k:rF O b t d):rF (oJ n O) b t d:=⟨k.1,λi=>(h.2 i).cut a (k.2 i)⟩
theorem mn.cut{n:Nat}(f:Below n ψ){B:aT}{o:bQ}{q:Pl}(h:mn ψ w o p)(k:mn O B o q):mn (oJ n O) B o q:=by cases o with
 |cells l root Q e=>obtain⟨cs,S,_,_,_,_,F,_,_,_⟩:=h;obtain⟨C,E,D,k1,k2,k3,k4,k5,k6,k7⟩:=k;refine⟨C,E,D,k1,k2,k3,λi a j=>?_,k5,k6,k7⟩;obtain⟨c,_,H⟩:=F i a j;obtain⟨d,hd,J⟩:=k4 i a j;exact⟨d,hd,H.cut f J⟩|map P u=>
 obtain⟨_,s,_,g⟩:=h;obtain⟨k0,t,k1,k2⟩:=k;refine⟨k0,t,k1,k2.1,λi e x z I=>?_⟩;have hi:i<s.toList.length:=by rw[<-g.1];exact(List.getElem?_eq_some_iff.1 z).1
 have a:=g.2 i e _ z (eZ hi);have b:=k2.2 i e x z I;exact⟨a.1.cut f b.1,a.2.1.cut f b.2.1,b.2.2⟩|mapIter m A seen M=>obtain⟨_,T,_,g⟩:=h;obtain⟨k0,K,k1,k2⟩:=k;refine⟨k0,K,k1,?_⟩;cases m with|none=>exact k2|some r=>obtain⟨a,j,_⟩:=g;obtain⟨b,G,e⟩:=k2;exact⟨b,Ai (f _ _ j) G,e⟩
 |loop a=>obtain⟨_,N,_,g⟩:=h;obtain⟨k0,R,k1,k2⟩:=k;refine⟨k0,R,k1,k2.state,k2.pending,k2.fn,g.tmps.cut f k2.tmps,k2.params,k2.assign,k2.body,?_⟩;obtain⟨U,v,_⟩:=g.defers;obtain⟨L,y,e⟩:=k2.defers;exact⟨L,Ai (f _ _ v) y,e⟩|deferred c=>exact k
def cW.wr(R:cW)(i:Nat):an:=match R.K i with|.act=>(R.H' i).bK|_=>[]
def cW.gr(R:cW)(i:Nat):an:=match R.K i with|.act=>(R.H' i).cK|_=>[]
structure gJ(P:aM)(ak:bZ)(rec:Rec)(ops:Array aC)(ws:Tr Nat)(R:cW)(φ0:aZ):Prop where
 ok:Kh P ak rec ops R
 qY:Hg ops ws
 hinv:∀j,j<=ops.size->ba (R.H j)af:∀i,i<ops.size->AF (R.H i) (R.HX i)same:∀i,i<ops.size->gI (R.H (i+1)) (R.HX i)txt:∀i,i<=ops.size->∃ψ w m c,bA gR ψ (R.H i) w/\Ext φ0 ψ/\(∀id,(R.H 0).next<=id->id<(R.H i).next->∃p,ψ id=J p)/\rF ψ m (R.fr i).tmps c
section
variable{P:aM}{ak:bZ}{rec:Rec}{ops:Array aC}{ws:Tr Nat}{R:cW}{φ0:aZ}
theorem gJ.aBG(T:gJ P ak rec ops ws R φ0){i:Nat}(h:i<ops.size):(R.H i).next<=(R.H (i+1)).next:=by rw[(T.same i h).2.2];exact(T.af i h).next
theorem gJ.next(T:gJ P ak rec ops ws R φ0){m m':Nat}(h:m<=m')(a:m'<=ops.size):(R.H m).next<=(R.H m').next:=by induction m' with|zero=>grind|succ k i=>
 by_cases e:m=k+1;.grind
 .exact gv ae (T.aBG ae)
theorem gJ.root(T:gJ P ak rec ops ws R φ0){m a i:Nat}(h:m<=a)(c:a<=ops.size)(d:i<(R.H m).next):rootOf (R.H a) i=rootOf (R.H m) i:=by induction a with|zero=>have:m=0:=ae;subst this;rfl|succ k b=>
 by_cases e:m=k+1;.subst e;rfl
 .rw[(T.same k ae).root,(T.af k ae).root i (fj d (T.next ae ae)),b ae ae]
theorem gJ.keep(T:gJ P ak rec ops ws R φ0){m a i:Nat}{o:bQ}(h:m<=a)(p:a<=ops.size)(d:i<(R.H m).next)(g:(R.H m).get i=J o):∃b,(R.H a).get i=J b/\rq o b:=by induction a with|zero=>have:m=0:=ae;subst this;exact⟨o,g,rq.refl o⟩|succ k j=>
 by_cases e:m=k+1;.subst e;exact⟨o,g,rq.refl o⟩
 .obtain⟨l,c,l1⟩:=j ae ae;obtain⟨n,f,l2⟩:=(T.af k ae).keep i l (fj d (T.next ae ae)) c;exact⟨n,by rw[(T.same k ae).get];exact f,l1.trans l2⟩
theorem gJ.ro(T:gJ P ak rec ops ws R φ0){m a i:Nat}(h:m<=a)(b:a<=ops.size)(d:i<(R.H m).next)(r:fJ (R.H m) i):fJ (R.H a) i:=by induction a with|zero=>have:m=0:=ae;subst this;exact r|succ k c=>
 by_cases e:m=k+1;.subst e;exact r
 .exact((T.same k ae).ro i).2 ((T.af k ae).ro i (fj d (T.next ae ae)) aj)
theorem N6(R:cW)(i:Nat):(R.HX i).bK=R.wr i:=by unfold cW.HX cW.wr;cases R.K i<;>rfl
theorem G3(R:cW)(i:Nat):(R.HX i).cK=R.gr i:=by unfold cW.HX cW.gr;cases R.K i<;>rfl
theorem gJ.view(T:gJ P ak rec ops ws R φ0){m m' f:Nat}{o:bQ}(h:m<=m')(p:m'<=ops.size)(g:f<(R.H m).next)(w:∀i,m<=i->i<m'->rootOf (R.H m) f∉R.wr i)(j:(R.H m).get f=J o):(R.H m').get f=J o/\(jr (R.H m) f↔jr (R.H m') f):=by induction m' with|zero=>have:m=0:=ae;subst this;exact⟨j,Iff.rfl⟩|succ k n=>
 by_cases e:m=k+1;.subst e;exact⟨j,Iff.rfl⟩
 .obtain⟨a,b⟩:=n ae ae (λi l q=>w i l ae);have v:=fj g (T.next (m:=m) (m':=k) ae ae);obtain⟨c,d⟩:=(T.af k ae).view f o v (by rw[N6,T.root ae ae g];exact w k ae ae) a;exact⟨by rw[(T.same k ae).get];exact c,b.trans (d.trans ((T.same k ae).alive f).symm)⟩
def Valid(R:cW)(n:Nat)(a:an)(r m:Nat):Prop:=∀i,i<n->r∈R.wr i->(i∈a↔i<m)
theorem gJ.aK7(T:gJ P ak rec ops ws R φ0){a:an}{r m b d:Nat}{o:bQ}(v:Valid R ops.size a r m)(B:Valid R ops.size a r b)(g:m<=ops.size)(l:b<=ops.size)(c:d<(R.H m).next)(f:d<(R.H b).next)(j:rootOf (R.H ops.size) d=r)(q:(R.H m).get d=J o)(e:∃k,(R.H b).get d=J k):(R.H b).get d=J o/\(jr (R.H m) d↔jr (R.H b) d):=by
 by_cases h:m<=b;.refine T.view h l c (λi n p w=>?_) q;rw[<-T.root g ae c,j]at w;have e1:=v i ae w;have e2:=B i ae w;grind
 . obtain⟨k,A⟩:=e;have s:∀i,b<=i->i<m->rootOf (R.H b) d∉R.wr i:=λi n p w=>by rw[<-T.root l ae f,j]at w;have e1:=v i ae w;have e2:=B i ae w;grind
   obtain⟨x,y⟩:=T.view ae g f s A;grind
structure Inv(P:aM)(ops:Array aC)(ws:Tr Nat)(R:cW)(φ0:aZ)(w0:aT)(F0:cZ)(a:an)(O:aZ)(w:aT)(F:cZ):Prop where
 ext:Ext φ0 O
 aW:∀id p,O id=J p->p.aW<w.heap.size
 cq:∀id p,O id=J p->(id<(R.H 0).next/\φ0 id=J p)\/(φ0 id=Z/\∃i,i∈a/\i<ops.size/\(R.H i).next<=id/\id<(R.H (i+1)).next)obj:∀id p,O id=J p->∀m,m<=ops.size->id<(R.H m).next->∃o,(R.H m).get id=J o/\∀l r fl e,o=.cells l r fl e->l.length=p.len
 inj:∀i j p q,O i=J p->O j=J q->p.aW=q.aW->∀m,m<=ops.size->i<(R.H m).next->¬fJ (R.H m) i->rootOf (R.H ops.size) i=rootOf (R.H ops.size) j
 mono:∀i j p q,O i=J p->O j=J q->p.aW=q.aW->i<j->∀m,m<=ops.size->j<(R.H m).next->(¬fJ (R.H m) i\/¬fJ (R.H m) j)->p.base+p.len<=q.base+q.len
 cont:∀id p,O id=J p->∀m,m<=ops.size->Valid R ops.size a (rootOf (R.H ops.size) id) m->id<(R.H m).next->∀o,(R.H m).get id=J o->jr (R.H m) id->mn O w o p
 size:w0.heap.size<=w.heap.size
 os:w.os=w0.os
 tape:w.tape=w0.tape
 output:w.output=w0.output
 nA:∀b,b<w0.heap.size->w.heap[b]?=w0.heap[b]?\/∃id p,φ0 id=J p/\p.aW=b/\¬fJ (R.H 0) id/\∃i,i∈a/\i<ops.size/\(rootOf (R.H 0) id∈R.wr i\/rootOf (R.H 0) id∈R.gr i)new:∀id p,O id=J p->φ0 id=Z->w0.heap.size<=p.aW\/∃j q,φ0 j=J q/\q.aW=p.aW/\¬fJ (R.H 0) j/\rootOf (R.H ops.size) j=rootOf (R.H ops.size) id/\∃i,i∈a/\i<ops.size/\rootOf (R.H ops.size) j∈R.gr i
 mD:∀id p,O id=J p->φ0 id=Z->rootOf (R.H ops.size) id<(R.H 0).next->∃j q,φ0 j=J q/\rootOf (R.H ops.size) j=rootOf (R.H ops.size) id
 own:∀id p,O id=J p->∀i,i∈a->i<ops.size->(R.H i).next<=id->id<(R.H (i+1)).next->rootOf (R.H ops.size) id<(R.H i).next->rootOf (R.H ops.size) id∈R.gr i
 map:∀i,i∈a->i<ops.size->∀r,r∈R.wr i\/r∈R.gr i->r<(R.H i).next/\∃id p,O id=J p/\id<(R.H i).next/\rootOf (R.H ops.size) id=r
 cover:∀i,i∈a->i<ops.size->∀id,(R.H i).next<=id->id<(R.H (i+1)).next->∃p,O id=J p
 NK:F.tmps.size=(R.fr 0).n
 ND:∀t k,ws.get t=J k->k∈a->VR O (((R.fr ops.size).tmps.get t).getD fR) (F.tmps.getD t undef)JD:∀t,(∀k,ws.get t=J k->k∉a)->VR O (((R.fr 0).tmps.get t).getD fR) (F.tmps.getD t undef)fn:F.fn=F0.fn
 mode:F.mode=F0.mode
 kind:F.kind=F0.kind
 round:F.roundOf=F0.roundOf
 defers:F.defers=F0.defers
theorem gJ.slot(T:gJ P ak rec ops ws R φ0){i:Nat}{o:aC}(a:ops[i]?=J o)(t:Tmp):(R.fr (i+1)).tmps.get t=if o.dst=J t then J (R.v i)else(R.fr i).tmps.get t:=by have h:=(T.ok.step i o a).slot;rw[D1]at h;cases hd:o.dst with|none=>rw[hd]at h;obtain h:=br h;rw[<-h];simp|some d=>
 rw[hd]at h;simp only[fB]at h;by_cases b:d<(R.fr i).n
 . simp only[b,eu,aL]at h;have h:=br h;rw[<-h];simp only[xU];by_cases e:d=t;.subst e;rw[if_pos rfl,Tr.lL]
   .rw[if_neg e,Tr.jF _ _ e]
 .simp[b]at h
theorem gJ.Z5(T:gJ P ak rec ops ws R φ0)(t:Tmp):∀j,j<=ops.size->((∀k,ws.get t=J k->j<=k)->(R.fr j).tmps.get t=(R.fr 0).tmps.get t):=by intro j;induction j with|zero=>grind|succ j i=>intro a b;have h:ops[j]?=J _:=np ae;generalize ops[j]=o at h;rw[T.slot h t,if_neg,i ae aj];intro hd;have:=T.qY.writes j o t h hd;grind
theorem gJ.Z6(T:gJ P ak rec ops ws R φ0){t:Tmp}{k:Nat}(h:ws.get t=J k):∀j,k<j->j<=ops.size->(R.fr j).tmps.get t=J (R.v k):=by obtain⟨o,a,hd⟩:=T.qY.only t k h;intro j;induction j with|zero=>omega|succ j i=>
 intro c d;by_cases e:k=j;.subst e;rw[T.slot a t,if_pos hd]
 .have A:ops[j]?=J _:=np ae;generalize ops[j]=q at A;rw[T.slot A t,if_neg,i ae ae];intro b;have:=T.qY.writes j q t A b;grind
theorem Inv.operand(T:gJ P ak rec ops ws R φ0){u:aT}{f:cZ}{a b:an}{i:Nat}{o:aC}(I:Inv P ops ws R φ0 u f a O w F){r:an}(l:ru ops r)(n:r=a++i::b)(q:ops[i]?=J o){t:Tmp}(s:ws.get t=Z\/∃k,ws.get t=J k/\(k=i\/sA ops k i\/sA ops i k)):VR O (((R.fr i).tmps.get t).getD fR) (F.tmps.getD t undef):=by
 have hi:=(Array.getElem?_eq_some_iff.1 q).1;have B:i∉a:=λh=>by have:=l.nodup;grind
 rcases s with y|⟨k,d,c⟩;.rw[T.Z5 t i ae aP];exact I.JD t aP
 . have L:k∉a->i<=k->VR O (((R.fr i).tmps.get t).getD _) _:=λe x=>by rw[T.Z5 t i ae aP];exact I.JD t aP
   rcases c with rfl|c|c;.grind
   .have v:=l.CL c a b n;have g:=T.qY.lt c;have e:=I.ND t k d v;rw[T.Z6 d _ ae ae]at e;rw[T.Z6 d i g ae];omega
   .have p:=T.qY.lt c;refine L (λv=>?_) ae;obtain⟨j,m,rfl⟩:=J5 v;have:=l.CL c j (m++i::b) aj;grind
end
end Go.AM
