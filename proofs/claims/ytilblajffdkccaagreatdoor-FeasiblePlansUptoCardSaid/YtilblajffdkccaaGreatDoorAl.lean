/- Proved: what functions of the program and of the references answer, and that both agree (a part of the proof of FeasiblePlansUptoCardSaid, whose theorem stands in the last text), within the sizes that each theorem names. -/
import Derived.Test.YtilblajffdkccaaGreatDoorAk
open Option renaming some->J,none->Z
open Bool renaming true->V,false->C
open Bool renaming noConfusion->mK
open Go renaming TypeId->al,Value->aB,Oper->aC,Operand->aH,Program->aM,World->aT,Code->bz,FuncId->bS,Frame->cZ,lone->eT,IntKind->gZ,MapEntry->kZ
open Go.Builtin renaming zeroCells->nR,firstCells->oE,append_->s8,copy_->zF
open Go.Lib renaming compact->tb
open Go.Op renaming operands->eB,mapUpdate->rC
open Go.Proofs.Tryz renaming prog->eS
open Go.Region renaming binds->uq
open Go.stepG renaming exec->ug
open Int renaming ofNat->dI,sub->nS
open List renaming rec->kG,append->qA
open Nat renaming beq->aw,ble->bV,blt->cM,succ->eU,add->im,mul->jD
open SizeOf renaming sizeOf->kb
open UInt8 renaming toNat->nU
noncomputable section
set_option linter.all false
namespace Go.VM
open Go Go.AM Proofs.Tryz
variable{α:Type}{lim:Int}{S:List PK}{D:Nat}{x:Pr}{l:aA}{rs:aF}{p q:ab}{es:bR}
open Classical in def kR(r:ab):aF->Nat->Int|[],_=>-1|q::l,i=>if q=r then .ofNat i else kR r l (i+1)
theorem Qi(p:ab):∀(l:aF)(i:Nat),kS p l i=kR p.nf (l.map ab.nf) i
 |[],_=>rfl|q::l,i=>by
  rw[kS,de,kR,Qi p l];have:=ab.pc q p;cases h:q.same p;.rw[if_neg (λe=>by rw[this.2 e]at h;exact mK h)];rfl
  .rw[if_pos (this.1 h)];rfl
theorem L'(p:ab):∀(l:aF)(i:Nat),fD p.same l i=kR p.nf (l.map ab.nf) i
 |[],_=>rfl|q::l,i=>by
  rw[fD,de,kR,L' p l];have:=ab.pc p q;cases h:p.same q;.rw[if_neg (λe=>by rw[this.2 e.symm]at h;exact mK h)];rfl
  .rw[if_pos (this.1 h).symm];rfl
theorem IE(r:ab):∀(l:aF)(i:Nat),r∈l->∃n,kR r l i=.ofNat n/\i<=n/\l[n-i]?=J r
 |q::l,i,h=>by
  rw[kR];by_cases e:q=r;.rw[if_pos e];exact⟨i,rfl,bo _,by rw[Nat.sub_self,e];rfl⟩
  .rw[if_neg e];obtain⟨n,a,c,b⟩:=IE r l (i+1) (by
  rcases List.mem_cons.1 h with h|h;.exact absurd h.symm e
  .exact h);refine⟨n,a,ae,?_⟩;rw[show n-i=(n-(i+1))+1 by omega];exact b
theorem agS(r:ab):∀(l:aF)(i:Nat),r∉l->kR r l i=-1|[],_,_=>rfl|q::l,i,h=>by rw[kR,if_neg (λe=>h (by rw[e];exact eQ)),agS r l _ (λa=>h (iL _ a))]
theorem VY(r:ab):∀(l m:aF)(i:Nat),r∈l->kR r (l++m) i=kR r l i
 |q::l,m,i,h=>by
  rw[List.cons_append,kR,kR];by_cases e:q=r;.rw[if_pos e,if_pos e]
  . rw[if_neg e,if_neg e,VY r l m];rcases List.mem_cons.1 h with h|h;.exact absurd h.symm e
    .exact h
theorem VZ(r:ab):∀(l:aF)(i:Nat),r∉l->kR r (l++[r]) i=.ofNat (i+l.length)|[],i,_=>by rw[dk,kR,if_pos rfl];rfl|q::l,i,h=>by rw[List.cons_append,kR,if_neg (λe=>h (by rw[e];exact eQ)),VZ r l _ (λa=>h (iL _ a)),bU];congr 1;omega
theorem axG{r s:ab}{l:aF}(h:r∈l)(a:s∈l)(e:kR r l 0=kR s l 0):r=s:=by obtain⟨n,b,_,c⟩:=IE r l 0 h;obtain⟨m,d,_,f⟩:=IE s l 0 a;grind
theorem Dv(r:ab)(l:aF):ao (kR r l 0) 0=V↔r∉l:=by
 constructor;.intro h hr;obtain⟨n,a,_⟩:=IE r l 0 hr;grind[eP]
 .intro h;rw[agS r l 0 h];rfl
open Classical in def AQ(R:aF)(x:PK):Int×EK:=(if x.1=V then-1 else kR x.2.2 R 0,x.2.1)
def Edge.ek(e:Edge):Int×EK:=(e.dst,e.k)
theorem ZZ(e:Edge)(d:Int):(eA e d).ek=(d,e.k):=rfl
structure Inv(S:List PK)(es:bR)(rs:aF):Prop where
 e:es.map Edge.ek=S.map (AQ (rs.map ab.nf))z:∀x∈S,x.1=V->x.2.2=zP.nf
 r:∀x∈S,x.1=C->x.2.2∈rs.map ab.nf
 c:∀q∈rs,q.fe=0
theorem Inv.nil:Inv [] [] []:=⟨rfl,λ_ h=>absurd h gT,λ_ h=>absurd h gT,λ_ h=>absurd h gT⟩
theorem ahg(R:aF)(h:x.done=V):AQ R x.k=(-1,x.bw.k):=by grind[AQ,Pr.k]
theorem Qw(R:aF)(h:x.done=C):AQ R x.k=(kR x.rest.nf R 0,x.bw.k):=by grind[AQ,Pr.k]
theorem Inv.one(h:Inv S es rs)(d:x.done=V)(z:x.rest.nf=zP.nf):Inv (S++[x.k]) (es++[eA x.bw (-1)]) rs:=⟨by rw[eI,eI,h.e];grind[ahg,ZZ],λy a i=>by
 rcases List.mem_append.1 a with a|a;.exact h.z y a i
 .rw[List.mem_singleton.1 a];exact z,λy a i=>by
 rcases List.mem_append.1 a with a|a;.exact h.r y a i
 .rw[List.mem_singleton.1 a]at i;have:x.done=C:=i;grind,h.c⟩
theorem Inv.old(h:Inv S es rs)(d:x.done=C)(m:x.rest.nf∈rs.map ab.nf):Inv (S++[x.k]) (es++[eA x.bw (kR x.rest.nf (rs.map ab.nf) 0)]) rs:=⟨by rw[eI,eI,h.e];grind[Qw,ZZ],λy a i=>by
 rcases List.mem_append.1 a with a|a;.exact h.z y a i
 .rw[List.mem_singleton.1 a]at i;have:x.done=V:=i;grind,λy a i=>by
 rcases List.mem_append.1 a with a|a;.exact h.r y a i
 .rw[List.mem_singleton.1 a];exact m,h.c⟩
theorem Inv.new(h:Inv S es rs)(d:x.done=C)(m:x.rest.nf∉rs.map ab.nf)(e:x.rest.fe=0):Inv (S++[x.k]) (es++[eA x.bw (.ofNat rs.length)]) (rs++[x.rest]):=by
 have D:(rs++[x.rest]).map ab.nf=rs.map ab.nf++[x.rest.nf]:=aj;refine⟨?_,?_,?_,?_⟩
 . rw[eI,eI,h.e,D];simp only[de,bP,Qw _ d,ZZ,VZ _ _ 0 m,dU,jM];congr 1;refine List.map_congr_left λy a=>?_;unfold AQ;cases c:y.1;.rw[if_neg mK,if_neg mK,VY _ _ _ _ (h.r y a c)]
   rfl
 . intro y a i;rcases List.mem_append.1 a with a|a;.exact h.z y a i
   .rw[List.mem_singleton.1 a]at i;have:x.done=V:=i;grind
 . intro y a i;rw[D];rcases List.mem_append.1 a with a|a;.exact zQ _ (h.r y a i)
   .rw[List.mem_singleton.1 a];exact J7 _ (List.mem_singleton.2 rfl)
 . intro q b;rcases List.mem_append.1 b with b|b;.exact h.c q b
   grind
def Co(x:PK):aF:=bif x.1 then[]else[x.2.2]
theorem ZN(h:x.done=V):Co x.k=[]:=by grind[Co,Pr.k]
theorem Nj(h:x.done=C):Co x.k=[x.rest.nf]:=by grind[Co,Pr.k]
theorem DB(s:aF)(r:ab):(s++[r]).map ab.nf=s.map ab.nf++[r.nf]:=aP
def Eo(l:List Pr):Prop:=∀x∈l,x.done=V->x.rest.nf=zP.nf
theorem adt:∀(l:List Pr)(es:bR)(rs:aF)(S:List PK),Inv S es rs->Eo l->match kx l es rs with|none=>∃x∈l,x.done=C/\x.rest.fe≠0|some r=>Inv (S++l.map Pr.k) r.1 r.2/\r.2.map ab.nf=dd (rs.map ab.nf) ((l.map Pr.k).flatMap Co)/\∀x∈l,x.done=C->x.rest.fe=0
 |[],es,rs,S,h,_=>⟨by rw[bP,fy];exact h,rfl,λ_ h=>absurd h gT⟩|x::l,es,rs,S,h,z=>by
  have F:Eo l:=λy d=>z y (iL _ d);have g:∀(s:bR)(u:aF),Inv (S++[x.k]) s u->u.map ab.nf=dd (rs.map ab.nf) (Co x.k)->(x.done=C->x.rest.fe=0)->match kx l s u with|none=>∃y∈x::l,y.done=C/\y.rest.fe≠0|some r=>Inv (S++(x::l).map Pr.k) r.1 r.2/\r.2.map ab.nf=dd (rs.map ab.nf) (((x::l).map Pr.k).flatMap Co)/\∀y∈x::l,y.done=C->y.rest.fe=0:=by intro s u j k n;have:=adt l s u _ j F;cases e:kx l s u with|none=>rw[e]at this;obtain⟨y,a,b,c⟩:=this;exact⟨y,iL _ a,b,c⟩|some r=>
      rw[e]at this;obtain⟨a,b,c⟩:=this;refine⟨by rw[de,<-List.singleton_append,<-kr];exact a,?_,λy d=>?_⟩;.rw[de,vu,HD,<-k];exact b
      . rcases List.mem_cons.1 d with rfl|d;.exact n
        .exact c y d
  rw[kx];cases hd:x.done
  . rw[bg];cases i:ai x.rest.fe 0;.exact⟨x,eQ,hd,λf=>by rw[f]at i;exact mK i⟩
    . rw[aL];have W:=mR.1 i;rw[Qi];cases hi:ao (kR x.rest.nf (rs.map ab.nf) 0) 0
      . rw[bg];have m:x.rest.nf∈rs.map ab.nf:=by apply zG;intro o;rw[(Dv _ _).2 o]at hi;exact mK hi
        exact g _ _ (h.old hd m) (by rw[Nj hd,tx m];rfl) (λ_=>W)
      .rw[aL];have m:=(Dv _ _).1 hi;exact g _ _ (h.new hd m W) (by rw[Nj hd,tz m,DB];rfl) (λ_=>W)
  .exact g _ _ (h.one hd (z x eQ hd)) (by rw[ZN hd];rfl) (λf=>by rw[hd]at f;exact mK f)
theorem aGB(x y:Edge):x.xI y=V↔x.ek=y.ek:=by simp[Edge.xI,Edge.ek,mR,Edge.pc]
theorem al5(s:bR)(e:Edge):s.any e.xI=V↔e.ek∈s.map Edge.ek:=by grind[aGB]
theorem Inv.len(h:Inv S es rs):es.length=S.length:=by have:=fH List.length h.e;grind
theorem Inv.known(h:Inv S es rs)(g:x.done=V->x.rest.nf=zP.nf)(b:x.done=C->x.rest.nf∈rs.map ab.nf):AQ (rs.map ab.nf) x.k∈es.map Edge.ek↔x.k∈S:=by
 rw[h.e];constructor
 . intro m;obtain⟨y,c,e⟩:=List.mem_map.1 m;obtain⟨d,i,r⟩:=y;have z:=h.z _ c;have a:=h.r _ c;unfold AQ at e;have k:x.k=(x.done,x.bw.k,x.rest.nf):=rfl;rw[k]at e|-;simp only[Kc]at e;obtain⟨e1,e2⟩:=e;cases hd:x.done<;>cases d<;>rw[hd]at e1 g b;.grind[axG]
   .obtain⟨n,f,_⟩:=IE _ _ 0 (b rfl);grind
   .obtain⟨n,f,_⟩:=IE _ _ 0 (a rfl);grind
   grind
 grind
theorem Inv.ext(h:Inv S es rs)(c:q.fe=0):Inv S es (rs++[q]):=by
 refine⟨?_,h.z,λy a hd=>?_,λr hr=>?_⟩
 . rw[h.e,DB];refine List.map_congr_left λy a=>?_;unfold AQ;cases J:y.1;.rw[if_neg mK,if_neg mK,VY _ _ _ _ (h.r y a J)]
   rfl
 .rw[DB];exact zQ _ (h.r y a hd)
 . rcases List.mem_append.1 hr with hr|hr;.exact h.c r hr
   grind
theorem TD{a:Type}:∀(l o:List a),o.length<=(dd o l).length
 |[],_=>bo _|x::l,o=>by
  by_cases h:x∈o;.rw[tx h];exact TD l o
  .rw[tz h];have:=TD l (o++[x]);rw[db,Bu]at this;omega
theorem Mq{n:Nat}:ao 2048 (.ofNat n)=V↔2048<n:=by grind[eP]
theorem UE(h:Inv S es rs)(z:x.done=V->x.rest.nf=zP.nf)(r:x.done=C->x.rest.nf∈rs.map ab.nf)(e:Edge)(a:e.ek=AQ (rs.map ab.nf) x.k):(x.k∈S/\pw es e rs=(Z,(es,rs)))\/(x.k∉S/\2048<S.length+1/\(pw es e rs).1=J .ret)\/(x.k∉S/\S.length+1<=2048/\pw es e rs=(Z,(es++[e],rs))):=by
 have k:=h.known z r;rw[<-a,<-al5]at k;unfold pw;cases b:es.any _
 . have l:(es++[e]).length=S.length+1:=by rw[db,h.len];rfl
   grind[Mq]
 grind
def N4(S:List PK)(r:aF)(l:List Pr)(z:ah bz×(bR×aF)):Prop:=(z.1=Z/\Inv (dd S (l.map Pr.k)) z.2.1 z.2.2/\(dd S (l.map Pr.k)).length<=2048/\z.2.2.map ab.nf=dd (r.map ab.nf) ((l.map Pr.k).flatMap Co)/\∀x∈l,x.done=C->x.rest.fe=0)\/(z.1=J .ret/\(2048<(dd S (l.map Pr.k)).length\/∃x∈l,x.done=C/\x.rest.fe≠0))
theorem ae9:∀(l:List Pr)(es:bR)(rs:aF)(S:List PK),Inv S es rs->Eo l->S.length<=2048->N4 S rs l (bB fF l (es,rs))
 |[],es,rs,S,h,_,p=>.inl ⟨rfl,h,p,rfl,λ_ h=>absurd h gT⟩|x::l,es,rs,S,h,z,p=>by
  have F:Eo l:=λy n=>z y (iL _ n);have A:=z x eQ;have o:∀(j:List PK)(s:bR)(u:aF),fF x (es,rs)=(Z,(s,u))->Inv j s u->j.length<=2048->dd S (x.k::l.map Pr.k)=dd j (l.map Pr.k)->u.map ab.nf=dd (rs.map ab.nf) (Co x.k)->(x.done=C->x.rest.fe=0)->N4 S rs (x::l) (bB fF (x::l) (es,rs)):=by
    intro j s u k g D t E H;rw[rN,k];rcases ae9 l s u j g F D with⟨a,b,c,d,e⟩|⟨a,b⟩
    . refine .inl ⟨a,?_,?_,?_,?_⟩;.rw[de,t];exact b
      .rw[de,t];exact c
      .rw[de,vu,HD,<-E];exact d
      . intro y n;rcases List.mem_cons.1 n with rfl|n;.exact H
        .exact e y n
    . refine .inr ⟨a,?_⟩;rw[de,t];rcases b with b|⟨y,w,B⟩;.exact .inl b
      .exact .inr ⟨y,iL _ w,B⟩
  have stop:(fF x (es,rs)).1=J .ret->(2048<(dd S (x.k::l.map Pr.k)).length\/(x.done=C/\x.rest.fe≠0))->N4 S rs (x::l) (bB fF (x::l) (es,rs)):=by
    intro k g;refine .inr ⟨by rw[rN,k],?_⟩;rcases g with g|g;.exact .inl g
    .exact .inr ⟨x,eQ,g⟩
  have r:x.k∉S->2048<S.length+1->2048<(dd S (x.k::l.map Pr.k)).length:=λk g=>by rw[tz k];have:=TD (l.map Pr.k) (S++[x.k]);rw[db,Bu]at this;omega
  cases hd:x.done
  . cases hi:ao (kR x.rest.nf (rs.map ab.nf) 0) 0
    . have m:x.rest.nf∈rs.map ab.nf:=by apply zG;intro v;rw[(Dv _ _).2 v]at hi;exact mK hi
      have G:fF x (es,rs)=pw es (eA x.bw (kR x.rest.nf (rs.map ab.nf) 0)) rs:=by unfold fF;rw[hd,L',hi];rfl
      have i:x.rest.fe=0:=by obtain⟨q,I,e⟩:=List.mem_map.1 m;rw[<-acL e];exact h.c q I
      rcases UE h A (λ_=>m) (eA x.bw (kR x.rest.nf (rs.map ab.nf) 0)) (by rw[Qw _ hd];rfl)with⟨a,b⟩|⟨a,b,c⟩|⟨a,b,c⟩;.exact o S es rs (G.trans b) h p (tx a) (by rw[Nj hd,tx m];rfl) (λ_=>i)
      .exact stop (by rw[G];exact c) (.inl (r a b))
      .exact o _ _ _ (G.trans c) (h.old hd m) (by rw[db];exact b) (tz a) (by rw[Nj hd,tx m];rfl) (λ_=>i)
    . have m:=(Dv _ _).1 hi;cases i:ai x.rest.fe 0
      . have W:x.rest.fe≠0:=λf=>by rw[f]at i;exact mK i
        exact stop (by unfold fF;rw[hd,L',hi,i];rfl) (.inr ⟨hd,W⟩)
      . have W:=mR.1 i;have G:fF x (es,rs)=pw es (eA x.bw (.ofNat rs.length)) (rs++[x.rest]):=by unfold fF;rw[hd,L',hi,i];rfl
        have v:x.k∉S:=λf=>m (h.r _ f hd);have K:x.rest.nf∈(rs++[x.rest]).map ab.nf:=by rw[DB];exact J7 _ (List.mem_singleton.2 rfl)
        rcases UE (h.ext W) A (λ_=>K) (eA x.bw (.ofNat rs.length)) (by rw[Qw _ hd,DB,VZ _ _ 0 m,dU,jM];rfl)with⟨a,b⟩|⟨a,b,c⟩|⟨a,b,c⟩;.exact absurd a v
        .exact stop (by rw[G];exact c) (.inl (r a b))
        .exact o _ _ _ (G.trans c) (h.new hd m W) (by rw[db];exact b) (tz a) (by rw[Nj hd,tz m,DB];rfl) (λ_=>W)
  . have G:fF x (es,rs)=pw es (eA x.bw (-1)) rs:=by unfold fF;rw[hd];rfl
    rcases UE h A (λf=>by rw[hd]at f;exact mK f) (eA x.bw (-1)) (by rw[ahg _ hd];rfl)with⟨a,b⟩|⟨a,b,c⟩|⟨a,b,c⟩;.exact o S es rs (G.trans b) h p (tx a) (by rw[ZN hd];rfl) (λf=>by rw[hd]at f;exact mK f)
    .exact stop (by rw[G];exact c) (.inl (r a b))
    .exact o _ _ _ (G.trans c) (h.one hd (A hd)) (by rw[db];exact b) (tz a) (by rw[ZN hd];rfl) (λf=>by rw[hd]at f;exact mK f)
theorem TC{b:Type}:∀(l o:List b),∀x∈dd o l,x∈o\/x∈l
 |[],_,_,h=>.inl h|y::l,o,x,h=>by
  by_cases a:y∈o
  . rw[tx a]at h;rcases TC l o x h with h|h;.exact .inl h
    .exact .inr (iL _ h)
  . rw[tz a]at h;rcases TC l _ x h with h|h
    . rcases List.mem_append.1 h with h|h;.exact .inl h
      .rw[List.mem_singleton.1 h];exact .inr eQ
    .exact .inr (iL _ h)
theorem ab8{l m:List Pr}(h:∀x∈l,x.k∈m.map Pr.k):(∃x∈l,x.done=C/\x.rest.fe≠0)->∃x∈m,x.done=C/\x.rest.fe≠0:=by rintro⟨x,b,c,d⟩;obtain⟨y,e,a⟩:=List.mem_map.1 (h x b);have e1:y.done=x.done:=fH (λk=>k.1) a;have e2:y.rest.nf=x.rest.nf:=fH (λk=>k.2.2) a;grind[acL]
structure abx(a b:Int×(bR×aF)):Prop where
 c:a.1=b.1
 e:a.1=0->a.2.1.map Edge.ek=b.2.1.map Edge.ek
 r:a.1=0->a.2.2.map ab.nf=b.2.2.map ab.nf
theorem ao1(u:p.nf=q.nf)(t:SE p)(k:q.fe=0)(z:Eo (dF p))(m:Eo (eM q)):abx (eO p) (gE q):=by
 have f:dd [] ((dF p).map Pr.k)=(eM q).map Pr.k:=by grind[Xa,Xb]
 have f1:=ae9 _ [] [] [] Inv.nil z aP;have f2:=adt _ [] [] [] Inv.nil m;have F:=mR.2 k;have i:∀x∈dF p,x.k∈(eM q).map Pr.k:=λx g=>by grind[ON]
 have j:∀x∈eM q,x.k∈(dF p).map Pr.k:=λx g=>by have:x.k∈(eM q).map _:=Sz g;rw[<-f]at this;rcases TC _ _ _ this with h|h<;>grind
 unfold eO gE;rw[F,aL];unfold N4 at f1;rw[f,dU,bP]at f1;rcases f1 with⟨e,d,n,o,s⟩|⟨e,d⟩
 . rw[e];have l:ao 2048 (.ofNat (eM q).length)=C:=by grind[Mq]
   rw[l,bg];rcases hd:kx _ [] []with _|r;.rw[hd]at f2;obtain⟨x,a,b,c⟩:=ab8 j f2;grind
   rw[hd]at f2;obtain⟨g1,g2,_⟩:=f2;rw[dk]at g1;have D:(bB fF (dF p) ([],[])).2.2.map ab.nf=r.2.map ab.nf:=by grind[TB]
   refine⟨rfl,λ_=>?_,λ_=>D⟩;rw[d.e,g1.e,D]
 . rw[e];rcases d with d|d;.rw[Mq.2 d,aL];exact⟨rfl,λh=>absurd (show(17:Int)=0 from h) ae,λh=>absurd (show(17:Int)=0 from h) ae⟩
   . cases l:ao _ _
     . rcases hd:kx _ [] []with _|r;.exact⟨rfl,λh=>absurd (show(17:Int)=0 from h) ae,λh=>absurd (show(17:Int)=0 from h) ae⟩
       obtain⟨x,a,b,c⟩:=ab8 i d;grind
     .exact⟨rfl,λh=>absurd (show(17:Int)=0 from h) ae,λh=>absurd (show(17:Int)=0 from h) ae⟩
theorem RX{n:Int}(h:vg C n=V):n=0:=by grind[vg,mR]
theorem GP.rep(h:GP p):SE p:=by
 intro q b e;have z:=h.z q b;have f:=h.a q b;have g:q.args.length<=64:=by have c:=ab2 q;have d:=ab.ME p q b;have:=h.n;omega
 obtain⟨op,nl,args,ty,var,scope,s,cond⟩:=q;simp only[ab.op,ab.args]at e f g;obtain rfl:=mR.1 e;obtain⟨c,_,d,i,j,k⟩:=ah3 z g;have l:args.length=1:=by have m:ai (.ofNat _) 1=V:=f;grind[mR]
 obtain⟨a,rfl⟩:=List.length_eq_one_iff.1 l;have e1:=RX d;have e2:=RX i;have e3:=RX j;have e4:=RX k;subst e1 e2 e3 e4;have e5:cond.same _=V:=c;rw[Expr.pc]at e5;simp only[ab.nf,ab.fK,rO,ab.args,List.headD_cons,e5];rfl
theorem GP.zP(h:GP p):Eo (dF p):=λx a hd=>by rw[(Jd p h.a x a).z hd]
theorem GP.zR(h:GP p):Eo (eM p):=λx a hd=>by rw[(Gd p h.a x a).z hd]
theorem adw(h:GP p)(a:GP q)(e:p.nf=q.nf):abx (eO p) (gE q):=ao1 e h.rep a.r h.zP a.zR
theorem SJ:∀(l o:aF),(pq l o).map ab.nf=dd (o.map ab.nf) (l.map ab.nf)
 |[],_=>rfl|r::l,o=>by
  rw[pq,L',de];cases hi:ao (kR r.nf (o.map ab.nf) 0) 0;.rw[tx (zG λh=>by rw[(Dv _ _).2 h]at hi;exact mK hi)];exact SJ l o
  .rw[tz ((Dv _ _).1 hi),<-DB];exact SJ l _
theorem SL:∀(l o:aF),(oI l o).map ab.nf=dd (o.map ab.nf) (l.map ab.nf)
 |[],_=>rfl|r::l,o=>by
  rw[oI,Qi,de];cases hi:ao (kR r.nf (o.map ab.nf) 0) 0;.rw[tx (zG λh=>by rw[(Dv _ _).2 h]at hi;exact mK hi)];exact SL l o
  .rw[tz ((Dv _ _).1 hi),<-DB];exact SL l _
theorem IV{a b:Type}{f:α->b}{g:a->b}{l:List α}{m:List a}(h:l.map f=m.map g):l.length=m.length:=by grind[dU]
theorem ajo:∀(f i:Nat)(o c:aF),o.map ab.nf=c.map ab.nf->(∀q∈o,GP q)->(∀q∈c,GP q)->(u7 f i o=Z/\sh f i c=Z)\/∃a b,u7 f i o=J a/\sh f i c=J b/\a.map ab.nf=b.map ab.nf
 |0,_,_,_,_,_,_=>.inl ⟨rfl,rfl⟩|f+1,i,o,c,h,j,k=>by
  have hi:(o.map ab.nf)[i]?=(c.map ab.nf)[i]?:=by rw[h]
  rw[lE,lE]at hi;rw[u7,sh];cases e:o[i]? with
  |none=>rw[e]at hi;cases g:c[i]? with|none=>exact .inr ⟨o,c,rfl,rfl,h⟩|some q=>rw[g]at hi;exact absurd hi.symm aO
  |some p=>rw[e]at hi;cases g:c[i]? with|none=>rw[g]at hi;exact absurd hi aO|some q=>
  rw[g]at hi;have x:p.nf=q.nf:=br hi;have l:=j p (cI e);have m:=k q (cI g);obtain⟨d1,d2,d3⟩:=adw l m x;show(bif ai (eO p).1 0 then _ else Z)=Z/\(bif ai (gE q).1 0 then _ else Z)=Z\/∃a b,(bif ai (eO p).1 0 then _ else Z)=J a/\(bif ai (gE q).1 0 then _ else Z)=J b/\_;rw[<-d1];cases n:ai (eO p).1 0;.exact .inl ⟨rfl,rfl⟩
  . have d3:=d3 (mR.1 n);have d:(pq (eO p).2.2 o).map ab.nf=(oI (gE q).2.2 c).map ab.nf:=by rw[SJ,SL,d3,h]
    rw[aL,aL,IV d];cases ao 256 (.ofNat (oI (gE q).2.2 c).length);.exact ajo f (i+1) _ _ d (Kk _ _ (CU l).1 j).1 (Kl _ _ (KQ m).1 k).1
    .exact .inl ⟨rfl,rfl⟩
abbrev GK:=Int×Int×Int×Expr
def Guard.k(x:Guard):GK:=(x.scope,x.ty,x.var,x.cond.nf)
mutual
theorem N' : ∀ p : ab, (dR p.nf).map Guard.k = (dR p).map Guard.k
  | .mk o n args t v s a c => by
    have h := alK args
    have b := abD args
    simp only [ab.nf, dR]
    cases ai o 9
    · cases (ai o 1 || (ai o 8 || (ai o 10 || ai o 7)))
      · cases ai o 3
        · rfl
        · exact b
      · exact h
    · simp only [aL, de, h, Guard.k, Expr.IY]
theorem alK : ∀ l : aF, (nV (ab.fK l)).map Guard.k = (nV l).map Guard.k
  | [] => rfl
  | a :: l => by rw [ab.fK, nV, nV, N' a]
theorem abD : ∀ l : aF, (nW (ab.fK l)).map Guard.k = (nW l).map Guard.k
  | [] => rfl
  | a :: l => by rw [ab.fK, nW, nW, eI, eI, N' a, abD l]
end
abbrev VK:=Int×Int×EK
def Edge.vk(e:Edge):VK:=(e.src,e.dst,e.k)
def Stat.k(s:Stat):List GK:=s.guards.l.map Guard.k
theorem apD(e d:Edge):e.eqv d=V↔e.vk=d.vk:=by simp[Edge.eqv,Edge.vk,mR,Edge.pc]
theorem aJH(s t:Stat):s.same t=V↔s.k=t.k:=CK (λa b=>Guard.pc a b) _ _
theorem bm.pc(a b:bm):a.same b=V↔a.vars=b.vars/\a.scopes=b.scopes/\a.bE.l.map Edge.vk=b.bE.l.map Edge.vk/\a.gk.l.map Stat.k=b.gk.l.map Stat.k:=by grind[bm.same,mR,CK,apD,aJH]
theorem auz(l:aF)(i:Nat):(l.getD i zP).nf=(l.map ab.nf).getD i zP.nf:=aP
def aeQ(f:aF)(i:Nat)(r:aF)(x:Int×EK):VK:=(.ofNat i,bif ao x.1 0 then x.1 else kR (r.getD x.1.toNat zP.nf) f 0,x.2)
theorem atj(f:aF)(i:Nat)(r:aF)(x:Edge):(nC f i r x).vk=aeQ (f.map ab.nf) i (r.map ab.nf) x.ek:=by show(dI i,(bif ao _ 0 then x.dst else kS _ _ 0),x.k)=_;rw[Qi,auz];rfl
theorem aeR(f:aF)(i:Nat)(r:aF)(l:bR):(l.map (nC f i r)).map Edge.vk=(l.map Edge.ek).map (aeQ (f.map ab.nf) i (r.map ab.nf)):=by rw[Bw,Bw];exact fH (λg=>l.map g) (funext λx=>atj _ i r x)
theorem acj(f P:aF)(g:f.map ab.nf=P.map ab.nf):∀(l a:aF)(i:Nat)(s b:List Stat×bR),l.map ab.nf=a.map ab.nf->(∀q∈l,GP q/\(eO q).1=0)->(∀q∈a,GP q)->s.1.map Stat.k=b.1.map Stat.k->s.2.map Edge.vk=b.2.map Edge.vk->(tw f l i s).1.map Stat.k=(qD P a i b).1.map Stat.k/\(tw f l i s).2.map Edge.vk=(qD P a i b).2.map Edge.vk
 |[],[],_,_,_,_,_,_,c,d=>⟨c,d⟩|p::l,q::a,i,(v,es),(u,m),h,j,k,c,d=>by
  rw[de,de,List.cons.injEq]at h;obtain⟨x,t⟩:=h;obtain⟨n,e⟩:=j p eQ;obtain⟨d1,d2,d3⟩:=adw n (k q eQ) x;have o:(dR p).map Guard.k=(dR q).map Guard.k:=by rw[<-N' p,x,N' q]
  rw[tw,qD];refine acj f P g l a (i+1) _ _ t (λr hr=>j r (iL _ hr)) (λr hr=>k r (iL _ hr)) ?_ ?_;.rw[eI,eI,c];show _++[(dR p).map Guard.k]=_++[(dR q).map Guard.k];rw[o]
  .rw[eI,eI,d,aeR,aeR,d2 e,d3 e,g]|[],_::_,_,_,_,h,_,_,_,_=>by simp at h|_::_,[],_,_,_,h,_,_,_,_=>by simp at h
theorem adf(p:ab)(d:fY p):(vz p).2=(sG p).2/\∀a,(vz p).1.same a=(sG p).1.same a:=by
 unfold vz sG;cases c:ai _ 0;.grind
 . have g:=EJ d (mR.1 c);have g1:∀q∈[p],GP q:=λq f=>aj;rcases ajo 258 0 _ _ rfl g1 g1 with⟨h,b⟩|⟨l,m,h,b,e⟩;.grind
   .rw[h,b];have k1:=ZR _ 0 _ l h g1 ae ae;grind[Rn,acj,IV,bm.pc]
attribute[local congr]cC cD
set_option maxRecDepth 100000
set_option maxHeartbeats 1000000
abbrev iN(j:Nat):DV:=.int .i64 (.ofNat j)
abbrev gQ(p:an):DV:=cp V (p.map iN) 3 1
def mh(E:bR)(p:an)(v:Int):Bool:=p.any λj=>match E[j]? with|some e=>ai e.var v|none=>C
theorem arV(a:bm)(p:an)(v:Int)(f:a.bE.l.length<1100000)(d:∀j∈p,j<a.bE.l.length)(g:p.length<1100000):CC 95 [.agg a.cells,gQ p,iD v] (vB (mh a.bE.l p v)):=by
 have d1:=aJq;simp only[bq,opsOf,f95,go_sem]at d1;refine aK func95 ?_;simp only[go_sem,f95,bm.cells,mh];refine dJ p (λi=>[(7,iS i)]) (λi l=>vB (mh _ l v)) ae rfl rfl ?_ (λi j l hi x w b=>?_);.simp only[go_sem,mh,zM]
 .have c:=d j aj;have e:=eZ c;simp only[mh,nv,e]at b|-;simp only[go_sem,d1,hi,x,e,Edge.d,Edge.cells]at b|-;apply sp<;>intro h<;>simp only[h,w,b,go_sem]
abbrev fQ(o:List an):SV:=dz (o.map gQ) 24 1
abbrev Rec:=Int->an->Int->List an
def js(E:bR)(f:Rec)(s:Int)(p:an)(m:Int):bR->Nat->List an->List an|[],_,o=>o|x::l,i,o=>bif ao m (.ofNat o.length)then o else bif !ai x.src s||mh E p x.var then js E f s p m l (i+1) o else bif ao x.dst 0 then js E f s p m l (i+1) (o++[p++[i]])else js E f s p m l (i+1) (o++[p++[i]]++f x.dst (p++[i]) (m-.ofNat (o.length+1)))
section
variable{E:bR}{f:Rec}{s:Int}{p:an}{lim:Int}{x:Edge}{l:bR}{i:Nat}{o:List an}
theorem Ol(h:ao lim (.ofNat o.length)=V):js E f s p lim (x::l) i o=o:=by grind[js]
theorem Om(h:ao lim (.ofNat o.length)=C)(e:ai x.src s=C):js E f s p lim (x::l) i o=js E f s p lim l (i+1) o:=by grind[js]
theorem On(h:ao lim (.ofNat o.length)=C)(e:mh E p x.var=V):js E f s p lim (x::l) i o=js E f s p lim l (i+1) o:=by grind[js]
theorem Oo(h:ao lim (.ofNat o.length)=C)(e:ai x.src s=V)(u:mh E p x.var=C)(d:ao x.dst 0=V):js E f s p lim (x::l) i o=js E f s p lim l (i+1) (o++[p++[i]]):=by grind[js]
theorem Oq(h:ao lim (.ofNat o.length)=C)(e:ai x.src s=V)(u:mh E p x.var=C)(d:ao x.dst 0=C):js E f s p lim (x::l) i o=js E f s p lim l (i+1) (o++[p++[i]]++f x.dst (p++[i]) (lim-.ofNat (o.length+1))):=by grind[js]
end
theorem qW:gQ []=.nl:=rfl
theorem oX{p:an}(h:p≠[]):gQ p=.ay (p.map iN) 3 1:=vY h
theorem aiY(l:an):cF (l.map iN)=V:=lz (λ_=>rfl) l
theorem flN(l:an):((l.map iN).all λy=>decide (y.flat.length=1))=V:=by rw[um];intro y h;obtain⟨z,_,rfl⟩:=List.mem_map.1 h;rfl
theorem aEG(p:an):(gQ p).pure=V:=xE (aiY p)
theorem aEN(l:List an):cF (l.map gQ)=V:=lz aEG l
theorem uV(p:an)(i:Nat):gQ (p++[i])=.ay (p.map iN++[iN i]) 3 1:=by simp[oX]
theorem Ny(o:List α)(x:α):o++[x]≠[]:=aO
theorem aBn{s:St}{x:aH}{d a:Nat}{u:jq}:uR s x d u (.sr a)=aJ s (J d) (.sr a):=(rfl)
attribute[go_sem]aiY flN aBn
theorem QB{n:Nat}(k:ao lim (.ofNat n)=C){m:Nat}(h:lim<=m):n<=m:=by grind[eP]
theorem IU{n:Nat}(k:ao lim (.ofNat n)=C):((n+1:Nat):Int)<=lim+1:=by grind[eP]
theorem Qz{n:Nat}(a:-1<=lim)(b:lim<=4096)(k:ao lim (.ofNat n)=C):fS .i64 (nS lim (.ofNat (n+1)))=lim-.ofNat (n+1)/\-1<=lim-.ofNat (n+1)/\lim-.ofNat (n+1)<=4096:=by
 rw[eP]at k;have:=I5 k;have c:dI n=(n:Int):=rfl;have d:dI (n+1)=(n:Int)+1:=rfl;refine⟨?_,ae,ae⟩;rw[show nS _ _=lim-.ofNat _ from rfl];generalize e:lim-dI _=m;have h:m=-1\/0<=m:=ae;rcases h with rfl|h;.rfl
 grind[Int.eq_ofNat_of_zero_le,Bl]
theorem Of{new:aA}(h:l.length+new.length<10000):iM 24 1 24 (.ay l 24 1) (.ex 24) new=J (.ay (l++new) 24 1,.ex 24):=by grind[wN,bF]
theorem ato(l:List an):((l.map gQ).all λy=>decide (y.flat.length=1))=V:=by rw[um];intro y h;obtain⟨z,_,rfl⟩:=List.mem_map.1 h;cases z<;>rfl
theorem aiX:∀a b:aA,cF (a++b)=(cF a&&cF b)|[],b=>rfl|x::a,b=>by simp only[fA,cF,aiX a b,Bool.and_assoc]
attribute[go_sem]aEN ato aiX
theorem aKh(a:bm)(q:Rec)(s:Int)(p:an)(c:Int)(ha:a.bE.l.length<100)(X:∀j∈p,j<a.bE.l.length)(hl:p.length<100)(Q:-1<=c)(G:c<=4096)(P:∀i x,a.bE.l[i]?=J x->mh a.bE.l p x.var=C->∀M,-1<=M->M<=4096->(q x.dst (p++[i]) M).length<=M+1/\CC 46 [.agg a.cells,iD x.dst,gQ (p++[i]),iD M] (.val (fQ (q x.dst (p++[i]) M)) .empty)):CC 46 [.agg a.cells,iD s,gQ p,iD c] (.val (fQ (js a.bE.l q s p c a.bE.l 0 [])) .empty):=by
 have W:=λY=>arV a p Y ae X ae;simp only[bm.cells,go_sem]at W P;refine aK func46 ?_;simp only[go_sem,f46,bm.cells];refine iB a.bE.l ([]:List an) (λi o=>[(10,iS i),(9,fQ o)]) (λi l o=>.val (fQ (js a.bE.l q s p c l i o)) .empty) (λi l o=>(o.length:Int)<=c+1) ae rfl aj rfl (λo O=>?_) (λi x l o hi H y O D=>?_)
 . rcases fu (o=[])with h|h;.subst h;simp only[go_sem,js,fQ,bP]
   .simp only[go_sem,js,fQ,eE h]
 . have L:=W;rcases fu (p=[])with B|B
   . subst B;simp only[qW]at L;rcases fu (o=[])with h|h
     . subst h;simp only[go_sem,hi,qW];apply sp<;>intro k;.rw[Ol k];rfl
       . have r:=D [] O;simp only[go_sem,fQ,bP,qW]at r;have S:([]:List an).length<=4096:=QB (m:=4096) k G;have N:=BG (e:=24) (n:=1) (b:=24) (l:=([]:List an).map gQ) (v:=.ay [iN i] 3 1) ae ae aP;simp only[k,go_sem,H,Edge.d,Edge.cells];apply sp<;>intro e
         . simp only[e,go_sem,L];apply sp<;>intro u;.rw[On k u];simp only[u,go_sem,r,y]
           . simp only[u,go_sem,Kp];have t:=D ([]++[[]++[i]]) (by rw[db];exact IU k);rw[fQ,eE (Ny _ _),eI,de,uV,bP]at t;simp only[go_sem,bP,dk,qW]at t;apply sp<;>intro d;.rw[Oo k e u d];simp only[d,go_sem,t,y]
             . rw[Oq k e u d];simp only[d,go_sem];obtain⟨E,I,c3⟩:fS .i64 (nS c (.ofNat 1))=c-.ofNat 1/\-1<=c-.ofNat 1/\c-.ofNat 1<=4096:=Qz (n:=0) Q G k;obtain⟨R,w⟩:(q x.dst [i] (c-.ofNat 1)).length<=(c-.ofNat 1)+1/\CC 46 [.agg a.cells,iD x.dst,.ay [iN i] 3 1,iD (c-.ofNat 1)] (.val (fQ (q x.dst [i] (c-.ofNat 1))) .empty):=by have:=P i x H u _ I c3;rw[uV]at this;exact this
               have g:=D ([i]::q x.dst [i] (c-.ofNat 1)) aP;have K:(q x.dst [i] (c-.ofNat 1)).length<=4097:=ae;show _=J (bt.val (fQ (js a.bE.l q s [] c l (i+1) ([i]::q x.dst [i] (c-.ofNat 1)))) .empty);generalize q x.dst [i] (c-.ofNat 1)=F at w g K|-;simp only[bm.cells,go_sem]at w;have z:=Of (l:=[.ay [iN i] 3 1]) (new:=F.map gQ) (by simp only[dU,bU,eD];omega);rw[fQ,eE aO,de,oX (List.cons_ne_nil _ _)]at g;simp only[fA,dk,de,bP]at z g;rcases fu (F=[])with A|A;.subst A;simp only[bP,fQ,BD]at w z g;simp only[go_sem,qW]at g;simp only[E,w,z,go_sem,y,g]
               .simp only[go_sem,qW]at g;rw[fQ,eE A]at w;simp only[E,w,z,go_sem,y,g]
         .rw[Om k e];simp only[e,go_sem,r,y]
     . simp only[go_sem,hi,eE h,qW];apply sp<;>intro k;.rw[Ol k];simp only[k,go_sem,fQ,eE h]
       . have r:=D o O;simp only[go_sem,fQ,eE h,qW]at r;have S:(o:List an).length<=4096:=QB (m:=4096) k G;have N:=BG (e:=24) (n:=1) (b:=24) (l:=(o:List an).map gQ) (v:=.ay [iN i] 3 1) ae ae (by rw[dU];omega);simp only[k,go_sem,H,Edge.d,Edge.cells];apply sp<;>intro e
         . simp only[e,go_sem,L];apply sp<;>intro u;.rw[On k u];simp only[u,go_sem,r,y]
           . simp only[u,go_sem,Kp,N];have t:=D (o++[[]++[i]]) (by rw[db];exact IU k);rw[fQ,eE (Ny _ _),eI,de,uV,bP]at t;simp only[go_sem,bP,dk,qW]at t;apply sp<;>intro d;.rw[Oo k e u d];simp only[d,go_sem,t,y]
             . rw[Oq k e u d];simp only[d,go_sem];obtain⟨E,I,c3⟩:fS .i64 (nS c (.ofNat (o.length+1)))=c-.ofNat (o.length+1)/\-1<=c-.ofNat (o.length+1)/\c-.ofNat (o.length+1)<=4096:=Qz (n:=o.length) Q G k;obtain⟨R,w⟩:(q x.dst [i] (c-.ofNat (o.length+1))).length<=(c-.ofNat (o.length+1))+1/\CC 46 [.agg a.cells,iD x.dst,.ay [iN i] 3 1,iD (c-.ofNat (o.length+1))] (.val (fQ (q x.dst [i] (c-.ofNat (o.length+1)))) .empty):=by have:=P i x H u _ I c3;rw[uV]at this;exact this
               have g:=D (o++[i]::q x.dst [i] (c-.ofNat (o.length+1))) (by simp only[db,bU];have:dI (o.length+1)=(((o.length+1):Nat):Int):=rfl;omega);have K:(q x.dst [i] (c-.ofNat (o.length+1))).length<=4097:=ae;show _=J (bt.val (fQ (js a.bE.l q s [] c l (i+1) (o++[i]::q x.dst [i] (c-.ofNat (o.length+1))))) .empty);generalize q x.dst [i] (c-.ofNat (o.length+1))=F at w g K|-;simp only[bm.cells,go_sem]at w;have z:=Of (l:=o.map gQ++[.ay [iN i] 3 1]) (new:=F.map gQ) (by simp only[db,dU,bU,eD];omega);rw[fQ,eE aO,eI,de,oX (List.cons_ne_nil _ _)]at g;simp only[kr,fA,dk,de,bP]at z g;rcases fu (F=[])with A|A;.subst A;simp only[bP,fQ,BD]at w z g;simp only[go_sem,qW]at g;simp only[E,w,z,go_sem,y,g]
               .simp only[go_sem,qW]at g;rw[fQ,eE A]at w;simp only[E,w,z,go_sem,y,g]
         .rw[Om k e];simp only[e,go_sem,r,y]
   . rw[oX B]at L;have T:=Kq (f:=iN) (l:=p) (e:=3) (n:=1) (b:=8) (o:=.any) ae ae B ae;have U:=BG (e:=3) (n:=1) (b:=8) (l:=p.map iN) (v:=iN i) ae ae (by rw[dU];omega);rcases fu (o=[])with h|h
     . subst h;simp only[go_sem,hi,oX B];apply sp<;>intro k;.rw[Ol k];rfl
       . have r:=D [] O;simp only[go_sem,fQ,bP,oX B]at r;have S:([]:List an).length<=4096:=QB (m:=4096) k G;have N:=BG (e:=24) (n:=1) (b:=24) (l:=([]:List an).map gQ) (v:=.ay (p.map iN++[iN i]) 3 1) ae ae aP;simp only[k,go_sem,H,Edge.d,Edge.cells];apply sp<;>intro e
         . simp only[e,go_sem,L];apply sp<;>intro u;.rw[On k u];simp only[u,go_sem,r,y]
           . simp only[u,go_sem,T,U];have t:=D ([]++[p++[i]]) (by rw[db];exact IU k);rw[fQ,eE (Ny _ _),eI,de,uV,bP]at t;simp only[go_sem,dk,oX B]at t;apply sp<;>intro d;.rw[Oo k e u d];simp only[d,go_sem,t,y]
             . rw[Oq k e u d];simp only[d,go_sem];obtain⟨E,I,c3⟩:fS .i64 (nS c (.ofNat 1))=c-.ofNat 1/\-1<=c-.ofNat 1/\c-.ofNat 1<=4096:=Qz (n:=0) Q G k;obtain⟨R,w⟩:(q x.dst (p++[i]) (c-.ofNat 1)).length<=(c-.ofNat 1)+1/\CC 46 [.agg a.cells,iD x.dst,.ay (p.map iN++[iN i]) 3 1,iD (c-.ofNat 1)] (.val (fQ (q x.dst (p++[i]) (c-.ofNat 1))) .empty):=by have:=P i x H u _ I c3;rw[uV]at this;exact this
               have g:=D ((p++[i])::q x.dst (p++[i]) (c-.ofNat 1)) aP;have K:(q x.dst (p++[i]) (c-.ofNat 1)).length<=4097:=ae;show _=J (bt.val (fQ (js a.bE.l q s p c l (i+1) ((p++[i])::q x.dst (p++[i]) (c-.ofNat 1)))) .empty);generalize q x.dst (p++[i]) (c-.ofNat 1)=F at w g K|-;simp only[bm.cells,go_sem]at w;have z:=Of (l:=[.ay (p.map iN++[iN i]) 3 1]) (new:=F.map gQ) (by simp only[dU,bU,eD];omega);rw[fQ,eE aO,de,uV]at g;simp only[fA,dk]at z g;rcases fu (F=[])with A|A;.subst A;simp only[bP,fQ,BD]at w z g;simp only[go_sem,oX B]at g;simp only[E,w,z,go_sem,y,g]
               .simp only[go_sem,oX B]at g;rw[fQ,eE A]at w;simp only[E,w,z,go_sem,y,g]
         .rw[Om k e];simp only[e,go_sem,r,y]
     . simp only[go_sem,hi,eE h,oX B];apply sp<;>intro k;.rw[Ol k];simp only[k,go_sem,fQ,eE h]
       . have r:=D o O;simp only[go_sem,fQ,eE h,oX B]at r;have S:(o:List an).length<=4096:=QB (m:=4096) k G;have N:=BG (e:=24) (n:=1) (b:=24) (l:=(o:List an).map gQ) (v:=.ay (p.map iN++[iN i]) 3 1) ae ae (by rw[dU];omega);simp only[k,go_sem,H,Edge.d,Edge.cells];apply sp<;>intro e
         . simp only[e,go_sem,L];apply sp<;>intro u;.rw[On k u];simp only[u,go_sem,r,y]
           . simp only[u,go_sem,T,U,N];have t:=D (o++[p++[i]]) (by rw[db];exact IU k);rw[fQ,eE (Ny _ _),eI,de,uV,bP]at t;simp only[go_sem,oX B]at t;apply sp<;>intro d;.rw[Oo k e u d];simp only[d,go_sem,t,y]
             . rw[Oq k e u d];simp only[d,go_sem];obtain⟨E,I,c3⟩:fS .i64 (nS c (.ofNat (o.length+1)))=c-.ofNat (o.length+1)/\-1<=c-.ofNat (o.length+1)/\c-.ofNat (o.length+1)<=4096:=Qz (n:=o.length) Q G k;obtain⟨R,w⟩:(q x.dst (p++[i]) (c-.ofNat (o.length+1))).length<=(c-.ofNat (o.length+1))+1/\CC 46 [.agg a.cells,iD x.dst,.ay (p.map iN++[iN i]) 3 1,iD (c-.ofNat (o.length+1))] (.val (fQ (q x.dst (p++[i]) (c-.ofNat (o.length+1)))) .empty):=by have:=P i x H u _ I c3;rw[uV]at this;exact this
               have g:=D (o++(p++[i])::q x.dst (p++[i]) (c-.ofNat (o.length+1))) (by simp only[db,bU];have:dI (o.length+1)=(((o.length+1):Nat):Int):=rfl;omega);have K:(q x.dst (p++[i]) (c-.ofNat (o.length+1))).length<=4097:=ae;show _=J (bt.val (fQ (js a.bE.l q s p c l (i+1) (o++(p++[i])::q x.dst (p++[i]) (c-.ofNat (o.length+1))))) .empty);generalize q x.dst (p++[i]) (c-.ofNat (o.length+1))=F at w g K|-;simp only[bm.cells,go_sem]at w;have z:=Of (l:=o.map gQ++[.ay (p.map iN++[iN i]) 3 1]) (new:=F.map gQ) (by simp only[db,dU,bU,eD];omega);rw[fQ,eE aO,eI,de,uV]at g;simp only[kr,fA,dk]at z g;rcases fu (F=[])with A|A;.subst A;simp only[bP,fQ,BD]at w z g;simp only[go_sem,oX B]at g;simp only[E,w,z,go_sem,y,g]
               .simp only[go_sem,oX B]at g;rw[fQ,eE A]at w;simp only[E,w,z,go_sem,y,g]
         .rw[Om k e];simp only[e,go_sem,r,y]
def Af(E:bR):Nat->Rec|0=>λ_ _ _=>[]|n+1=>λs p lim=>js E (Af E n) s p lim E 0 []
theorem aa1{E:bR}{p:an}{i:Nat}{x:Edge}(h:E[i]?=J x)(u:mh E p x.var=C):i∉p:=by grind[mh,adF]
theorem MR(n:Nat)(p:an)(a:p.Nodup)(h:∀j∈p,j<n):p.length<=n:=by have:=List.Nodup.length_le_of_subset a (λx b=>List.mem_range.2 (h x b));grind
theorem Ot(E:bR)(f:Rec)(s:Int)(p:an)(a:Int)(b:∀i x,E[i]?=J x->mh E p x.var=C->∀m,-1<=m->m<=a->(f x.dst (p++[i]) m).length<=m+1):∀(l:bR)(i:Nat)(o:List an),E.drop i=l->o.length<=a+1->(js E f s p a l i o).length<=a+1
 |[],_,_,_,h=>h|x::l,i,o,hd,h=>by
  have d:E[i]?=J x:=by rw[<-Bt,hd];rfl
  have t:E.drop (i+1)=l:=by rw[<-zT,hd];rfl
  rw[js];cases k:ao a (.ofNat o.length)
  . have k1:=IU k;cases c:(!ai x.src s||mh E p x.var)
    . rw[J1]at c;cases e:ao x.dst 0;.refine Ot E f s p a b l (i+1) _ t ?_;have:=b i x d c.2 (a-.ofNat (o.length+1)) (by have:dI (o.length+1)=(o.length:Int)+1:=rfl;omega) (by have:dI (o.length+1)=(o.length:Int)+1:=rfl;omega);have:dI (o.length+1)=(o.length:Int)+1:=rfl;show((o++[p++[i]]++f x.dst (p++[i]) (a-.ofNat (o.length+1))).length:Int)<=_;rw[db,db,Bu];omega
      .exact Ot E f s p a b l (i+1) _ t (by rw[db];exact k1)
    .exact Ot E f s p a b l (i+1) _ t h
  .exact h
theorem WG{p:an}{i:Nat}(h:p.Nodup)(a:i∉p):(p++[i]).Nodup:=aj
theorem Uq(a:bm)(f:a.bE.l.length<100):∀(n:Nat)(s:Int)(p:an)(lim:Int),a.bE.l.length<p.length+n->p.Nodup->(∀j∈p,j<a.bE.l.length)->-1<=lim->lim<=4096->(Af a.bE.l n s p lim).length<=lim+1/\CC 46 [.agg a.cells,iD s,gQ p,iD lim] (.val (fQ (Af a.bE.l n s p lim)) .empty)
 |0,s,p,lim,o,c,b,_,_=>absurd (MR _ p c b) ae|n+1,s,p,lim,o,c,b,k,l=>by
  have hr:∀i x,a.bE.l[i]?=J x->mh a.bE.l p x.var=C->∀m,-1<=m->m<=4096->(Af a.bE.l n x.dst (p++[i]) m).length<=m+1/\CC 46 [.agg a.cells,iD x.dst,gQ (p++[i]),iD m] (.val (fQ (Af a.bE.l n x.dst (p++[i]) m)) .empty):=λi x d u m e g=>Uq a f n x.dst (p++[i]) m (by rw[db,Bu];omega) (WG c (aa1 d u)) (λj h=>by
  rcases List.mem_append.1 h with h|h;.exact b j h
  .rw[List.mem_singleton.1 h];exact(List.getElem?_eq_some_iff.1 d).1) e g;exact⟨Ot _ _ _ _ _ (λi x d u m e g=>(hr i x d u m e ae).1) _ _ _ rfl (by simp;omega),aKh a _ s p lim f b (by have:=MR _ p c b;omega) k l hr⟩
def Ke(E:bR)(q:an):Prop:=∃a i,q=a++[i]/\i<E.length/\a.length<100
theorem Ou(E:bR)(f:Rec)(s:Int)(p:an)(b:Int)(d:p.length<100)(c:∀i x,E[i]?=J x->mh E p x.var=C->∀m,∀q∈f x.dst (p++[i]) m,Ke E q):∀(l:bR)(i:Nat)(o:List an),E.drop i=l->(∀q∈o,Ke E q)->∀q∈js E f s p b l i o,Ke E q
 |[],_,_,_,h=>h|x::l,i,o,hd,h=>by
  have g:E[i]?=J x:=by rw[<-Bt,hd];rfl
  have t:E.drop (i+1)=l:=by rw[<-zT,hd];rfl
  have Y:Ke E (p++[i]):=⟨p,i,rfl,(List.getElem?_eq_some_iff.1 g).1,d⟩;rw[js];cases k:ao b (.ofNat o.length)
  . cases e:(!ai x.src s||mh E p x.var)
    . rw[J1]at e;cases j:ao x.dst 0
      . refine Ou E f s p b d c l (i+1) _ t λq a=>?_;rcases List.mem_append.1 a with a|a
        . rcases List.mem_append.1 a with a|a;.exact h q a
          .rw[List.mem_singleton.1 a];exact Y
        .exact c i x g e.2 _ q a
      . refine Ou E f s p b d c l (i+1) _ t λq a=>?_;rcases List.mem_append.1 a with a|a;.exact h q a
        .rw[List.mem_singleton.1 a];exact Y
    .exact Ou E f s p b d c l (i+1) _ t h
  .exact h
theorem S2(E:bR)(d:E.length<100):∀(n:Nat)(s:Int)(p:an)(lim:Int),p.Nodup->(∀j∈p,j<E.length)->∀q∈Af E n s p lim,Ke E q
 |0,s,p,lim,b,a,q,h=>absurd h gT|n+1,s,p,lim,b,a,q,h=>Ou E _ s p lim (by have:=MR _ p b a;omega) (λi x c u m=>S2 E d n x.dst (p++[i]) m (WG b (aa1 c u)) (λj h=>by
 rcases List.mem_append.1 h with h|h;.exact a j h
 .rw[List.mem_singleton.1 h];exact(List.getElem?_eq_some_iff.1 c).1)) E 0 [] rfl (λ_ h=>absurd h gT) q h
def ER(E:bR)(q:an):Bool:=match q.getLast? with
 |some j=>match E[j]? with|some e=>ao e.dst 0|none=>C
 |none=>C
def Ku(a:bm)(s:Int):List an:=Af a.bE.l (a.bE.l.length+1) s [] 4096
def uW(a:bm)(s:Int):List an×Bool:=bif ao 4096 (.ofNat (Ku a s).length)then([],C)else((Ku a s).filter (ER a.bE.l),V)
theorem aqA(a:bm)(A:a.bE.l.length<100)(s:Int):CC 25 [.agg a.cells,iD s] (.val (.tp [iV ((uW a s).1.map gQ) 24 1,(.bool (uW a s).2,.no)]) .empty):=by
 have d1:=aIP;simp only[bq,opsOf,f25,go_sem]at d1;obtain⟨F,p⟩:=Uq a A (a.bE.l.length+1) s [] 4096 aO G8 (λ_ h=>absurd h gT) ae ae;have z:=S2 a.bE.l A (a.bE.l.length+1) s [] 4096 G8 (λ_ h=>absurd h gT);rw[qW]at p;simp only[uW,Ku];generalize Af a.bE.l (a.bE.l.length+1) s [] 4096=L at F p z|-;simp only[bm.cells,go_sem]at p;refine aK func25 ?_;rcases fu (L=[])with h|h;.subst h;simp only[fQ,bP,BD]at p;simp only[go_sem,f25,bm.cells,p];have k:ao 4096 0=C:=rfl;simp only[k,go_sem];refine iB ([]:an) ([]:an) (λi _=>[(8,iS i)]) (λ_ _ _=>.val (.tp [(.nl,.any),(.bool V,.no)]) .empty) (λ_ _ _=>True) ae rfl trivial rfl (λo I=>?_) (λi x l o hi B w I y=>absurd hi aO);simp only[go_sem,eD]
 . rw[fQ,eE h]at p;simp only[go_sem,f25,bm.cells,p];apply sp<;>intro k;.simp only[k,go_sem,bP,iV]
   . simp only[k,go_sem];refine iB L ([]:List an) (λi o=>[(8,iS i),(7,fQ o)]) (λi l o=>.val (.tp [iV ((o++l.filter (ER a.bE.l)).map gQ) 24 1,(.bool V,.no)]) .empty) (λi l o=>o.length<=i) ae rfl (bo _) rfl (λo I=>?_) (λi q l o hi B w I y=>?_)
     . rcases fu (o=[])with m|m;.subst m;simp only[go_sem,fQ,bP,Sy,fy,iV]
       .rw[List.filter_nil,fy,rH m];simp only[go_sem,fQ,eE m]
     . obtain⟨g,j,rfl,G,K⟩:=z q (cI B);have u:a.bE.l[j]?=J a.bE.l[j]:=eZ G;generalize a.bE.l[j]=e at u;have H:ER a.bE.l (g++[j])=ao e.dst 0:=by grind[ER]
       have D:=aae g.length ae;have E:(g.map iN++[iN j])[g.length]?=J (iN j):=aP;have M:(g++[j]).length=g.length+1:=aO;have d:=y o ae;have f:=y (o++[g++[j]]) aP;have r:(L.map gQ)[i]?=J (.ay (g.map iN++[iN j]) 3 1):=by grind[uV]
       rw[fQ,eE (Ny _ _),eI,de,uV,bP]at f;rw[zN,H];rcases fu (o=[])with m|m
       . subst m;simp only[go_sem,fQ,bP,dk]at d f;simp only[go_sem,fQ,bP,hi,r,d1,D,E,u,Edge.d,Edge.cells];have t:iM 24 1 24 .nl .any [.ay (g.map iN++[iN j]) 3 1]=J (.ay [.ay (g.map iN++[iN j]) 3 1] 24 1,.ex 24):=abS ae ae;apply sp<;>intro c;.rw[if_pos c];simp only[c,go_sem,hi,r,w,t,f]
         .rw[if_neg aP];simp only[c,go_sem,w,d]
       . rw[fQ,eE m]at d;simp only[go_sem,fQ,eE m,hi,r,d1,D,E,u,Edge.d,Edge.cells];have t:=BG (e:=24) (n:=1) (b:=24) (l:=o.map gQ) (v:=.ay (g.map iN++[iN j]) 3 1) ae ae aj;simp only[go_sem,kr,fA,dk]at d f;apply sp<;>intro c;.rw[if_pos c];simp only[c,go_sem,hi,r,w,t,f]
         .rw[if_neg aP];simp only[c,go_sem,w,d]
def xB(P:List an×Bool)(a:bm)(s:Int):List an×Int:=bif ai a.gU 0 then(bif ao s 0||!ao s (.ofNat a.gk.l.length)then([],6)else bif P.2 then(P.1,0)else([],17))else([],a.gU)
theorem ev8(a:bm)(k:oD a)(g:ai a.gU 0=V->a.bE.l.length<100)(s:Int):CC 8 [.agg a.cells,iD s] (.val (.tp [iV ((xB (uW a s) a s).1.map gQ) 24 1,iO (xB (uW a s) a s).2]) .empty):=by
 have e1:=aqv a k;have e2:=λh=>aqA a h s;simp only[bm.cells,go_sem]at e1 e2;refine aK func8 ?_;simp only[go_sem,f8,bm.cells,e1,xB];generalize i:uW a s=P at e2|-;obtain⟨L,b⟩:=P;apply sp<;>intro h
 . have e2:=e2 (g h);simp only[h,go_sem];apply sp<;>intro f;.simp only[f,go_sem,iV,bP,N2]
   . simp only[f,go_sem];apply sp<;>intro d
     . rcases fu (L=[])with c|c;.subst c;simp only[bP,iV]at e2;simp only[d,e2,go_sem,iV];apply sp<;>intro e<;>simp only[e,go_sem,bP]
       .rw[rH c]at e2;simp only[d,e2,go_sem];apply sp<;>intro e<;>simp only[e,go_sem,bP,rH c,oH]
     .simp only[d,go_sem,iV,bP]
 .simp only[h,go_sem,iV,bP]
theorem arQ(a:bm)(x:Edge)(b y j:Nat)(g:GH)(h:g.get b=J (.box ⟨a.cells,[]⟩))(d:g.get y=J (.box ⟨x.cells,[]⟩))(e:Edge)(c:a.bE.l[j]?=J e):ev PP cf (.call 91 [iN j,.ptr b 0,.ptr y 0] .no g)=J (.val (.dv (.bool (ai e.var x.var)) .no) g):=by have d1:=aJo;simp only[bq,opsOf,f91,go_sem]at d1;refine aK func91 ?_;simp only[go_sem,f91,h,d,d1,c,Edge.d,Edge.cells]
theorem aeX:cf.fk 91=0/\cf.eF 91=C:=⟨by rfl,by rfl⟩
theorem aK5(a:bm)(x:Edge)(b y:Nat)(g:GH)(p:an)(c:g.get b=J (.box ⟨a.cells,[]⟩))(k:g.get y=J (.box ⟨x.cells,[]⟩))(i:∀j∈p,j<a.bE.l.length)(m:p.length<100):ev PP cf (.call 90 [gQ p,.func 91 [] [.ptr b 0,.ptr y 0]] .no g)=J (.val (.dv (.bool (mh a.bE.l p x.var)) .no) g):=by refine aex (d:=iN) (q:=λj=>match a.bE.l[j]? with|some e=>ai e.var x.var|none=>C) 91 [] [.ptr b 0,.ptr y 0] g V p ae (λj f=>.inl ⟨aeX.1,aeX.2,?_⟩) (.inl rfl) (λ_=>⟨rfl,rfl⟩);have l:=i j f;have h:a.bE.l[j]?=J a.bE.l[j]:=eZ l;rw[h];exact arQ a x b y j g c k _ h
theorem arS:CC 92 [.nl] (.val (.dv .nl .any) .empty):=by refine aK func92 ?_;rfl
set_option maxHeartbeats 4000000
abbrev CY:an->aA:=λq=>[gQ q]
abbrev BC:=List an×Nat×Bool
def fG(E:bR)(f:Int->an->Nat->BC)(s:Int)(p:an):bR->Nat->Nat->BC|[],_,c=>([],c,V)|x::l,i,c=>bif !ai x.src s||mh E p x.var then fG E f s p l (i+1) c else bif ao 4096 (.ofNat (c+1))then([[]],c+1,C)else bif ao x.dst 0 then((p++[i])::(fG E f s p l (i+1) (c+1)).1,(fG E f s p l (i+1) (c+1)).2)else bif(f x.dst (p++[i]) (c+1)).2.2 then((f x.dst (p++[i]) (c+1)).1++(fG E f s p l (i+1) (f x.dst (p++[i]) (c+1)).2.1).1,(fG E f s p l (i+1) (f x.dst (p++[i]) (c+1)).2.1).2)else f x.dst (p++[i]) (c+1)
structure HW(a:bm)(b c y f n cN:Nat)(g:GH):Prop where
 ga:g.get b=J (.box ⟨a.cells,[]⟩)gc:g.get c=J (.box ⟨[iN cN],[]⟩)gy:g.get y=J (.box ⟨[.dK n],[]⟩)gf:g.get f=J (.box ⟨[.func 89 [] [.ptr b 0,.ptr c 0,.ptr y 0,.ptr f 0]],[]⟩)nb:b<g.next
 nc:c<g.next
 ny:y<g.next
 nf:f<g.next
def Hc(k c:Nat)(g a:GH):Prop:=g.next<=a.next/\∀i,k<=i->i<g.next->i≠c->a.get i=g.get i
theorem Hc.hi{k c:Nat}{a b d:GH}(h:Hc k c a b)(e:Hi k b d):Hc k c a d:=⟨gv h.1 e.1,λj f g i=>(e.2 j f (fj g h.1)).trans (h.2 j f g i)⟩
theorem Hc.trans{k c:Nat}{a b d:GH}(h:Hc k c a b)(e:Hc k c b d):Hc k c a d:=⟨gv h.1 e.1,λj f g i=>(e.2 j f (fj g h.1) i).trans (h.2 j f g i)⟩
theorem HW.hi{a:bm}{b c y f n N k:Nat}{g e:GH}(h:HW a b c y f n N g)(j:k<=c)(m:k<=y)(l:k<=f)(i:e.get b=J (.box ⟨a.cells,[]⟩))(d:Hi k g e):HW a b c y f n N e:=⟨i,(d.2 c j h.nc).trans h.gc,(d.2 y m h.ny).trans h.gy,(d.2 f l h.nf).trans h.gf,fj h.nb d.1,fj h.nc d.1,fj h.ny d.1,fj h.nf d.1⟩
theorem arT(p:an)(l:p.length<900):CC 92 [.ay (p.map iN) 3 1] (.val (.dv (.ay (p.map iN) 3 1) (.ex 3)) .empty):=by have h:=arR (p.map dI) aj;rw[Bw]at h;exact h
section
variable{σ:Type}{n k:Nat}{ok:an->σ->Prop}{rel:ah bz->σ->GH->Prop}{step:an->σ->ah bz×σ}
def wlQ(k c:Nat)(g:GH)(r:ah bz->σ->GH->Prop)(R:BC)(z:ah bz×σ)(v:SV)(a:GH):Prop:=v=.dv (.bool (z.1.isNone&&R.2.2)) .no/\r z.1 z.2 a/\Hc k c g a/\(z.1=Z->R.2.2=V->a.get c=J (.box ⟨[iN R.2.1],[]⟩))
theorem aKk(U:zX CY ok n k rel step)(a:bm)(ha:a.bE.l.length<100)(E c y f:Nat)(F:Int->an->Nat->BC)(s:Int)(p:an)(hp:∀j∈p,j<a.bE.l.length)(hl:p.length<100)(gM:∀c s g,rel c s g->g.get E=J (.box ⟨a.cells,[]⟩)/\E<g.next)(yA:k<=c)(Fh:k<=y)(vK:k<=f)(BZ:c≠y)(C':c≠f)(C8:c≠E)(EM:Nat)(uG:EM<=4096)(P:σ)(cY:∀q X,qB step (fG a.bE.l F s p a.bE.l 0 EM).1 P q X->ok q X)(dC:∀i x,a.bE.l[i]?=J x->mh a.bE.l p x.var=C->∀cN,cN<=4096->∀r g,(∀q X,qB step (F x.dst (p++[i]) cN).1 r q X->ok q X)->rel Z r g->HW a E c y f n cN g->k<=g.next->((F x.dst (p++[i]) cN).2.2=V->(F x.dst (p++[i]) cN).2.1<=4096)/\Sat (ev PP cf (.call 89 [iD x.dst,gQ (p++[i]),.ptr E 0,.ptr c 0,.ptr y 0,.ptr f 0] .no g)) (wlQ k c g rel (F x.dst (p++[i]) cN) (bB step (F x.dst (p++[i]) cN).1 r)))(g:GH)(hr:rel Z P g)(hw:HW a E c y f n EM g)(hk:k<=g.next):Sat (ev PP cf (.call 89 [iD s,gQ p,.ptr E 0,.ptr c 0,.ptr y 0,.ptr f 0] .no g)) (wlQ k c g rel (fG a.bE.l F s p a.bE.l 0 EM) (bB step (fG a.bE.l F s p a.bE.l 0 EM).1 P)):=by
 generalize hR:fG a.bE.l F s p a.bE.l 0 EM=R at cY|-;refine kp func89 ?_;have w1:=hw.ga;simp only[bm.cells,go_sem]at w1;simp only[f89];simp only[go_sem,w1];refine vX a.bE.l (P,EM,g) (λi _=>[(15,iS i)]) (λs=>s.2.2) (λi l t=>rel Z t.1 t.2.2/\HW a E c y f n t.2.1 t.2.2/\Hc k c g t.2.2/\t.2.1<=4096/\∃D,R.1=D++(fG a.bE.l F s p l i t.2.1).1/\R.2=(fG a.bE.l F s p l i t.2.1).2/\bB step D P=(Z,t.1)) ae rfl rfl ⟨hr,hw,⟨bo _,λ_ _ _ _=>rfl⟩,uG,[],by rw[hR];rfl,by rw[hR],rfl⟩ (λt hI=>?_) (λi x l t hi hx kn hI ih=>?_)
 . obtain⟨r,cN,g1⟩:=t;obtain⟨i1,i2,i3,i4,D,w,H,A⟩:=hI;simp only[fG,fy]at w H;simp only[go_sem];refine⟨?_,?_,i3,?_⟩;.rw[w,A,H];rfl
   .rw[w,A];exact i1
   .intro _ _;rw[H];exact i2.gc
 . obtain⟨r,cN,g1⟩:=t;obtain⟨i1,i2,i3,i4,D,w,H,A⟩:=hI;have i4:cN<=4096:=i4;simp only at i1 i2 i3 w H A;obtain⟨j1,j2,j3,j4,j5,j6,j7,j8⟩:=i2;have j1':=j1;simp only[bm.cells,go_sem]at j1';have z1:(E=g1.next)=False:=bW ae;have z2:(c=g1.next)=False:=bW ae;have z3:(y=g1.next)=False:=bW ae;have z4:(f=g1.next)=False:=bW ae;simp only[go_sem,hi,hx,Edge.d,Edge.cells];generalize PN:GH.set (GH.alloc g1 _) g1.next _=L;have gn:L.next=g1.next+1:=by rw[<-PN];rfl
   have gl:Lo g1.next g1 L:=by rw[<-PN];exact(Lo.alloc (bo _)).trans (Lo.set (bo _))
   have gh:L.get g1.next=J (.box ⟨x.cells,[]⟩):=by rw[<-PN,oP,if_pos rfl];simp only[Edge.cells,go_sem]
   have q1:L.get E=J (.box ⟨a.cells,[]⟩):=(gl.2 _ j5).trans j1;have q2:=(gl.2 _ j6).trans j2;have q3:=(gl.2 _ j7).trans j3;have q4:=(gl.2 _ j8).trans j4;have hwx:HW a E c y f n cN L:=⟨q1,q2,q3,q4,ae,ae,ae,ae⟩;have kk:k<=g1.next:=gv hk i3.1;have rx:rel Z r L:=U.stay _ _ _ _ i1 (gl.mono kk);have cx:Hc k c g L:=⟨by have:=i3.1;omega,λj h1 O h3=>(gl.2 j (by have:=i3.1;omega)).trans (i3.2 j h1 O h3)⟩;clear PN;have u1:=aK5 a x E g1.next L p q1 gh hp ae;have gh':=gh;have q1':=q1;simp only[Edge.cells,bm.cells,go_sem]at gh' q1';apply eC<;>intro e
   . simp only[e,go_sem,u1];apply eC<;>intro u;.have m:=ih (r,cN,L) ⟨rx,hwx,cx,i4,D,by rw[w,fG,e,u];rfl,by rw[H,fG,e,u];rfl,A⟩;simp only[go_sem]at m;simp only[u,go_sem,kn,m]
     . have wc:fS .i64 (Int.add (.ofNat cN) 1)=.ofNat (cN+1):=xO ae;have y1:(E=c)=False:=bW (λh=>C8 h.symm);have y2:(y=c)=False:=bW (λh=>BZ h.symm);have y3:(f=c)=False:=bW (λh=>C' h.symm);have y4:(g1.next=c)=False:=bW ae;simp only[u,go_sem,q2,wc];generalize S:GH.set L c _=G;have S:L.set c (.box ⟨[iN (cN+1)],[]⟩)=G:=S;have gn2:G.next=g1.next+1:=by rw[<-S];exact gn
       have UX:Lo k L G:=by rw[<-S];exact Lo.set yA
       have p1:G.get E=J (.box ⟨a.cells,[]⟩):=by rw[<-S,oP,if_neg (λh=>C8 h.symm)];exact q1
       have p2:G.get c=J (.box ⟨[iN (cN+1)],[]⟩):=by rw[<-S,oP,if_pos rfl]
       have Y:G.get y=J (.box ⟨[.dK n],[]⟩):=by rw[<-S,oP,if_neg (λh=>BZ h.symm)];exact q3
       have W:G.get f=J (.box ⟨[.func 89 [] [.ptr E 0,.ptr c 0,.ptr y 0,.ptr f 0]],[]⟩):=by rw[<-S,oP,if_neg (λh=>C' h.symm)];exact q4
       have p5:G.get g1.next=J (.box ⟨x.cells,[]⟩):=by rw[<-S,oP,if_neg ae];exact gh
       have ry:rel Z r G:=U.stay _ _ _ _ rx UX;have Qd:HW a E c y f n (cN+1) G:=⟨p1,p2,Y,W,ae,ae,ae,ae⟩;have cy:Hc k c g G:=⟨by have:=cx.1;omega,λj h1 O h3=>by rw[<-S,oP,if_neg h3];exact cx.2 j h1 O h3⟩;clear S;have p1':=p1;have T:=p5;simp only[Edge.cells,bm.cells,go_sem]at p1' T;apply eC<;>intro o
       . have hT:fG a.bE.l F s p (x::l) i cN=([[]],cN+1,C):=by rw[fG,e,u,o];rfl
         rw[hT]at w H;obtain⟨g2,e2,r2,O⟩:=U.run [] r G (cY _ _ ⟨D,[],w,A⟩) ry ae;simp only[CY,qW]at e2;simp only[o,go_sem,Y,e2];refine⟨by rw[H,Bool.and_false],by rw[w,lT,A];show rel (bB step [[]] r).1 _ g2;rw[wW];exact r2,cy.hi O,λ_ h=>by rw[H]at h;exact mK h⟩
       . have key:∀aa:St->ah St,aa=aa:=λ_=>rfl;rcases fu (p=[])with h'|h'
         . subst h';have T4:=arS;simp only[o,go_sem,T,qW,T4];have o':cN+1<=4096:=by rw[eP]at o;have:=I5 o;have:dI (cN+1)=(cN:Int)+1:=rfl;omega
           apply eC<;>intro d
           . have hT:fG a.bE.l F s [] (x::l) i cN=([i]::(fG a.bE.l F s [] l (i+1) (cN+1)).1,(fG a.bE.l F s [] l (i+1) (cN+1)).2):=by rw[fG,e,u,o,d];rfl
             rw[hT]at w H;obtain⟨g2,e2,r2,O⟩:=U.run [i] r G (cY _ _ ⟨D,_,w,A⟩) ry ae;have K:bB step (D++[[i]]) P=step [i] r:=by rw[lT,A];exact wW _ _
             have B:bB step R.1 P=match(step [i] r).1 with|none=>bB step (fG a.bE.l F s [] l (i+1) (cN+1)).1 (step [i] r).2|some c=>(J c,(step [i] r).2):=by rw[w,lT,A];exact rN _ _ _ _
             generalize step [i] r=z at e2 r2 K B;obtain⟨Q,s2⟩:=z;rw[CY,oX (List.cons_ne_nil _ _)]at e2;simp only[go_sem,bP]at e2;cases Q with|none=>have m:=ih (s2,cN+1,g2) ⟨r2,Qd.hi yA Fh vK (gM _ _ _ r2).1 O,cy.hi O,o',D++[[i]],by rw[w,kr];rfl,H,K⟩;simp only[go_sem,qW]at m;simp only[pj]at e2;simp only[d,go_sem,Y,e2,kn,m]|some Q=>simp only[pn]at e2;simp only[d,go_sem,Y,e2];refine⟨by rw[B];rfl,by rw[B];exact r2,cy.hi O,λh=>by rw[B]at h;cases h⟩
           . obtain⟨f1,ad,g2,e2,f3,f4,f5,f6⟩:=dC i x hx u (cN+1) o' r G (λq X hq=>cY q X (by
             obtain⟨pre,post,a1,a2⟩:=hq;rw[fG,e,u,o,d]at w;simp only[Bo,J2,bg]at w;refine⟨D++pre,?_⟩;cases hF:(F x.dst ([]++[i]) (cN+1)).2.2;.rw[hF]at w;refine⟨post,?_,by rw[lT,A];exact a2⟩;rw[w,kr,<-a1];rfl
             .rw[hF]at w;refine⟨post++(fG a.bE.l F s [] l (i+1) (F x.dst ([]++[i]) (cN+1)).2.1).1,?_,by rw[lT,A];exact a2⟩;rw[w,aL,a1];simp)) ry Qd ae;have M:=w;have N:=H;rw[fG,e,u,o,d]at M N;simp only[Bo,J2,bg]at M N;rw[dk,oX (List.cons_ne_nil _ _)]at e2;generalize F x.dst ([]++[i]) (cN+1)=Fr at*;obtain⟨I,F2,F3⟩:=Fr;have K:bB step (D++I) P=bB step I r:=by rw[lT,A]
             have cg:=cy.trans f5;simp only[go_sem,bP]at e2;cases F3 with|false=>simp only[bg]at M N;simp only[Bool.and_false]at f3;subst f3;simp only[d,go_sem,W,T,e2];refine⟨by rw[N,Bool.and_false],by rw[M,K];exact f4,cg,λ_ h=>by rw[N]at h;exact mK h⟩|true=>
             simp only[aL]at M N;simp only[xP]at f3;subst f3;have B:bB step R.1 P=match(bB step I r).1 with|none=>bB step (fG a.bE.l F s [] l (i+1) F2).1 (bB step I r).2|some c=>(J c,(bB step I r).2):=by rw[M,lT,A];exact lT _ _ _ _
             simp only at e2 f4 f6 K B;generalize bB step I r=z at e2 f4 f6 K B;obtain⟨Q,s2⟩:=z;cases Q with|none=>have iR:=gM _ _ _ f4;have Fy:HW a E c y f n F2 g2:=⟨iR.1,f6 rfl trivial,(f5.2 y Fh ae (λh=>BZ h.symm)).trans Y,(f5.2 f vK ae (λh=>C' h.symm)).trans W,iR.2,by have:=f5.1;omega,by have:=f5.1;omega,by have:=f5.1;omega⟩;have m:=ih (s2,F2,g2) ⟨f4,Fy,cg,f1 rfl,D++I,by rw[M,kr],N,K⟩;simp only[go_sem,qW]at m;simp only[pj]at e2;simp only[d,go_sem,W,T,e2,kn,m]|some Q=>simp only[pn]at e2;simp only[d,go_sem,W,T,e2];refine⟨by rw[B];rfl,by rw[B];exact f4,cg,λh=>by rw[B]at h;cases h⟩
         . have T4:=arT p ae;have a3:=BG (e:=3) (n:=1) (b:=8) (l:=p.map iN) (v:=iN i) gD gD (by rw[dU];omega);simp only[o,go_sem,T,oX h',T4,a3];have o':cN+1<=4096:=by rw[eP]at o;have:=I5 o;have:dI (cN+1)=(cN:Int)+1:=rfl;omega
           apply eC<;>intro d
           . have hT:fG a.bE.l F s p (x::l) i cN=((p++[i])::(fG a.bE.l F s p l (i+1) (cN+1)).1,(fG a.bE.l F s p l (i+1) (cN+1)).2):=by rw[fG,e,u,o,d];rfl
             rw[hT]at w H;obtain⟨g2,e2,r2,O⟩:=U.run (p++[i]) r G (cY _ _ ⟨D,_,w,A⟩) ry ae;have K:bB step (D++[(p++[i])]) P=step (p++[i]) r:=by rw[lT,A];exact wW _ _
             have B:bB step R.1 P=match(step (p++[i]) r).1 with|none=>bB step (fG a.bE.l F s p l (i+1) (cN+1)).1 (step (p++[i]) r).2|some c=>(J c,(step (p++[i]) r).2):=by rw[w,lT,A];exact rN _ _ _ _
             generalize step (p++[i]) r=z at e2 r2 K B;obtain⟨Q,s2⟩:=z;rw[CY,uV]at e2;simp only[go_sem]at e2;cases Q with|none=>have m:=ih (s2,cN+1,g2) ⟨r2,Qd.hi yA Fh vK (gM _ _ _ r2).1 O,cy.hi O,o',D++[(p++[i])],by rw[w,kr];rfl,H,K⟩;simp only[go_sem,oX h']at m;simp only[pj]at e2;simp only[d,go_sem,Y,e2,kn,m]|some Q=>simp only[pn]at e2;simp only[d,go_sem,Y,e2];refine⟨by rw[B];rfl,by rw[B];exact r2,cy.hi O,λh=>by rw[B]at h;cases h⟩
           . obtain⟨f1,ad,g2,e2,f3,f4,f5,f6⟩:=dC i x hx u (cN+1) o' r G (λq X hq=>cY q X (by
             obtain⟨pre,post,a1,a2⟩:=hq;rw[fG,e,u,o,d]at w;simp only[Bo,J2,bg]at w;refine⟨D++pre,?_⟩;cases hF:(F x.dst (p++[i]) (cN+1)).2.2;.rw[hF]at w;refine⟨post,?_,by rw[lT,A];exact a2⟩;rw[w,kr,<-a1];rfl
             .rw[hF]at w;refine⟨post++(fG a.bE.l F s p l (i+1) (F x.dst (p++[i]) (cN+1)).2.1).1,?_,by rw[lT,A];exact a2⟩;rw[w,aL,a1];simp)) ry Qd ae;have M:=w;have N:=H;rw[fG,e,u,o,d]at M N;simp only[Bo,J2,bg]at M N;rw[uV]at e2;generalize F x.dst (p++[i]) (cN+1)=Fr at*;obtain⟨I,F2,F3⟩:=Fr;have K:bB step (D++I) P=bB step I r:=by rw[lT,A]
             have cg:=cy.trans f5;simp only[go_sem]at e2;cases F3 with|false=>simp only[bg]at M N;simp only[Bool.and_false]at f3;subst f3;simp only[d,go_sem,W,T,e2];refine⟨by rw[N,Bool.and_false],by rw[M,K];exact f4,cg,λ_ h=>by rw[N]at h;exact mK h⟩|true=>
             simp only[aL]at M N;simp only[xP]at f3;subst f3;have B:bB step R.1 P=match(bB step I r).1 with|none=>bB step (fG a.bE.l F s p l (i+1) F2).1 (bB step I r).2|some c=>(J c,(bB step I r).2):=by rw[M,lT,A];exact lT _ _ _ _
             simp only at e2 f4 f6 K B;generalize bB step I r=z at e2 f4 f6 K B;obtain⟨Q,s2⟩:=z;cases Q with|none=>have iR:=gM _ _ _ f4;have Fy:HW a E c y f n F2 g2:=⟨iR.1,f6 rfl trivial,(f5.2 y Fh ae (λh=>BZ h.symm)).trans Y,(f5.2 f vK ae (λh=>C' h.symm)).trans W,iR.2,by have:=f5.1;omega,by have:=f5.1;omega,by have:=f5.1;omega⟩;have m:=ih (s2,F2,g2) ⟨f4,Fy,cg,f1 rfl,D++I,by rw[M,kr],N,K⟩;simp only[go_sem,oX h']at m;simp only[pj]at e2;simp only[d,go_sem,W,T,e2,kn,m]|some Q=>simp only[pn]at e2;simp only[d,go_sem,W,T,e2];refine⟨by rw[B];rfl,by rw[B];exact f4,cg,λh=>by rw[B]at h;cases h⟩
   .have m:=ih (r,cN,L) ⟨rx,hwx,cx,i4,D,by rw[w,fG,e];rfl,by rw[H,fG,e];rfl,A⟩;simp only[go_sem]at m;simp only[e,go_sem,kn,m]
end
def ui(E:bR):Nat->Int->an->Nat->BC|0=>λ_ _ c=>([],c,V)|n+1=>λs p c=>fG E (ui E n) s p E 0 c
theorem Wn{c:Nat}(o:ao 4096 (.ofNat c)=C):c<=4096:=by grind[eP]
theorem R6(E:bR)(f:Int->an->Nat->BC)(s:Int)(p:an)(a:∀t q c,c<=4096->(f t q c).2.2=V->(f t q c).2.1<=4096):∀(l:bR)(i c:Nat),c<=4096->(fG E f s p l i c).2.2=V->(fG E f s p l i c).2.1<=4096
 |[],_,_,h,_=>h|x::l,i,c,h,b=>by
  rw[fG]at b|-;cases j:(!ai x.src s||mh E p x.var)<;>rw[j]at b
  . rw[bg]at b|-;cases e:ao 4096 (.ofNat (c+1))<;>rw[e]at b
    . rw[bg]at b|-;have d:=Wn e;cases k:ao x.dst 0<;>rw[k]at b
      . rw[bg]at b|-;cases g:(f x.dst (p++[i]) (c+1)).2.2<;>rw[g]at b;.rw[bg]at b|-;exact a _ _ _ d b
        .rw[aL]at b|-;exact R6 E f s p a l _ _ (a _ _ _ d g) b
      .exact R6 E f s p a l _ _ d b
    .exact mK b
  .exact R6 E f s p a l _ _ h b
theorem akH(E:bR):∀(n:Nat)(s:Int)(p:an)(c:Nat),c<=4096->(ui E n s p c).2.2=V->(ui E n s p c).2.1<=4096|0,_,_,_,h,_=>h|n+1,s,p,c,h,b=>R6 E _ s p (λt q c=>akH E n t q c) E 0 c h b
section
variable{σ:Type}{n k:Nat}{ok:an->σ->Prop}{rel:ah bz->σ->GH->Prop}{step:an->σ->ah bz×σ}
theorem aev(U:zX CY ok n k rel step)(a:bm)(v:a.bE.l.length<100)(b c y f:Nat)(M:∀c s g,rel c s g->g.get b=J (.box ⟨a.cells,[]⟩)/\b<g.next)(D:k<=c)(F:k<=y)(K:k<=f)(B:c≠y)(r:c≠f)(t:c≠b):∀(m:Nat)(s:Int)(p:an)(cN:Nat)(d:σ)(g:GH),a.bE.l.length<p.length+m->p.Nodup->(∀j∈p,j<a.bE.l.length)->cN<=4096->(∀q A,qB step (ui a.bE.l m s p cN).1 d q A->ok q A)->rel Z d g->HW a b c y f n cN g->k<=g.next->Sat (ev PP cf (.call 89 [iD s,gQ p,.ptr b 0,.ptr c 0,.ptr y 0,.ptr f 0] .no g)) (wlQ k c g rel (ui a.bE.l m s p cN) (bB step (ui a.bE.l m s p cN).1 d))
 |0,s,p,cN,d,g,I,l,e,_,_,_,_,_=>absurd (MR _ p l e) ae|m+1,s,p,cN,d,g,I,l,e,G,Y,hr,L,H=>aKk U a v b c y f _ s p e (by have:=MR _ p l e;omega) M D F K B r t cN G d Y (λi x z u o E O g1 w N P Q=>⟨akH _ m _ _ _ E,aev U a v b c y f M D F K B r t m x.dst (p++[i]) o O g1 (by rw[db,Bu];omega) (WG l (aa1 z u)) (λj h=>by
 rcases List.mem_append.1 h with h|h;.exact e j h
 .rw[List.mem_singleton.1 h];exact(List.getElem?_eq_some_iff.1 z).1) E w N P Q⟩) g hr L H
end
def acu(g:GH)(b q:Nat)(a:bm)(s:Int):Prop:=g.get b=J (.box ⟨a.cells,[]⟩)/\g.get q=J (.box ⟨[iD s],[]⟩)/\b<g.next/\q<g.next
def zp(a:bm)(s:Int):List an:=(ui a.bE.l (a.bE.l.length+1) s [] 0).1
theorem ayn(a:bm)(x:a.bE.l.length<100)(b q:Nat)(s:Int):vq CY 88 [] [.ptr b 0,.ptr q 0] (λg=>acu g b q a s) (zp a s):=by
 intro n k N l step j U M g hr m;obtain⟨y,z,B,K⟩:=M _ _ _ hr;suffices S:Sat (ev PP cf (.call 88 ([]++[.dK n]++[.ptr b 0,.ptr q 0]) .no g)) λv f=>v=.tp []/\l (bB step (zp a s) j).1 (bB step (zp a s) j).2 f/\Hi k g f by obtain⟨v,f,e,rfl,r,h⟩:=S;grind
 refine kp func88 ?_;have E:(q=g.next)=False:=bW ae;have F:(q=g.next+1)=False:=bW ae;have H:(q=g.next+1+1)=False:=bW ae;simp only[f88];simp only[go_sem,z,E,F,H];generalize d:GH.set _ _ _=G;have I:G.next=g.next+3:=by rw[<-d];rfl
 have gl:Lo g.next g G:=by rw[<-d];exact(((Lo.alloc ae).trans (Lo.alloc (by simp[cL]))).trans (Lo.alloc (by grind[cL]))).trans (Lo.set ae)
 have o:G.get g.next=J (.box ⟨[.dK n],[]⟩):=by grind[oP,pB,cL]
 have p:G.get (g.next+1)=J (.box ⟨[iN 0],[]⟩):=by grind[oP,pB,cL]
 have t:G.get (g.next+1+1)=J (.box ⟨[.func 89 [] [.ptr b 0,.ptr (g.next+1) 0,.ptr g.next 0,.ptr (g.next+1+1) 0]],[]⟩):=by grind[oP]
 have A:HW a b _ _ _ n 0 G:=⟨(gl.2 _ B).trans y,p,o,t,ae,ae,ae,ae⟩;have D:=U.stay _ _ _ _ hr (gl.mono m);obtain⟨v,f,e,e1,e2,e3,e4⟩:=aev U a x b _ _ _ (λc s g h=>⟨(M c s g h).1,(M c s g h).2.2.1⟩) ae m ae ae ae ae _ s [] 0 j G aO G8 (λ_ h=>absurd h gT) ae (λq L h=>h) D A ae;subst e1;rw[qW]at e;simp only[e,go_sem];refine⟨trivial,e2,⟨by have:=e3.1;omega,λi u w=>?_⟩⟩;rw[e3.2 i u ae ae];exact gl.2 i w
theorem ars(a:bm)(s:Int)(g:GH):ev PP cf (.call 42 [.agg a.cells,iD s] .no g)=J (.val (.dv (.func 88 [] [.ptr g.next 0,.ptr (g.next+1) 0]) .no) ((g.alloc (.box ⟨a.cells,[]⟩)).alloc (.box ⟨[iD s],[]⟩))):=by refine aK func42 ?_;simp only[go_sem,f42,bm.cells]
def xC(a:bm)(s:Int):List an×Bool:=bif(zp a s).any List.isEmpty then([],C)else(zp a s,V)
theorem R7(E:bR)(f:Int->an->Nat->BC)(s:Int)(p:an)(a:∀t q c,c<=4096->(f t q c).1.length+c<=(f t q c).2.1/\(f t q c).2.1<=4097/\((f t q c).2.2=V->(f t q c).2.1<=4096)):∀(l:bR)(i c:Nat),c<=4096->(fG E f s p l i c).1.length+c<=(fG E f s p l i c).2.1/\(fG E f s p l i c).2.1<=4097/\((fG E f s p l i c).2.2=V->(fG E f s p l i c).2.1<=4096)
 |[],_,_,h=>⟨by simp[fG],by simp only[fG];omega,λ_=>h⟩|x::l,i,c,h=>by
  rw[fG];cases r:(!ai x.src s||mh E p x.var)
  . rw[bg];cases m:ao 4096 (.ofNat (c+1))
    . rw[bg];have g:=Wn m;cases u:ao x.dst 0
      . rw[bg];obtain⟨o,j,e⟩:=a x.dst (p++[i]) (c+1) g;cases n:(f x.dst (p++[i]) (c+1)).2.2;.rw[bg];exact⟨ae,j,e⟩
        .rw[aL];obtain⟨k,b,d⟩:=R7 E f s p a l (i+1) _ (e n);exact⟨by simp only[db];omega,b,d⟩
      .obtain⟨k,b,d⟩:=R7 E f s p a l (i+1) _ g;exact⟨by simp only[aL,bU];omega,b,d⟩
    .exact⟨by simp;omega,by simp;omega,λh=>mK h⟩
  .exact R7 E f s p a l _ _ h
theorem akI(E:bR):∀(n:Nat)(s:Int)(p:an)(c:Nat),c<=4096->(ui E n s p c).1.length+c<=(ui E n s p c).2.1/\(ui E n s p c).2.1<=4097/\((ui E n s p c).2.2=V->(ui E n s p c).2.1<=4096)|0,_,_,c,h=>⟨by simp[ui],by simp only[ui];omega,λ_=>h⟩|n+1,s,p,c,h=>R7 E _ s p (λt q c=>akI E n t q c) E 0 c h
theorem aLB(a:bm)(s:Int):(zp a s).length<=4097:=by grind[akI,zp]
def Gu(x:an)(o:List an):ah bz×List an:=bif x.isEmpty then(J .ret,o)else(Z,o++[x])
theorem UP:∀(l o:List an),(l.any List.isEmpty=V/\(bB Gu l o).1=J .ret)\/(l.any List.isEmpty=C/\bB Gu l o=(Z,o++l))
 |[],o=>.inr ⟨rfl,by rw[fy];rfl⟩|x::l,o=>by
  rw[rN,Gu,nv];cases x.isEmpty
  . rcases UP l (o++[x])with h|h;.exact .inl h
    .exact .inr ⟨h.1,by rw[bg];exact h.2.trans aO⟩
  .exact .inl ⟨rfl,rfl⟩
def OA:List an->GO|[]=>.box ⟨[.nl],[]⟩|o=>.box ⟨[.ay (o.map gQ) 24 1],[(0,.ex 24)]⟩
theorem Te{o:List an}(h:o≠[]):OA o=.box ⟨[.ay (o.map gQ) 24 1],[(0,.ex 24)]⟩:=by
 cases o;.grind
 rfl
structure R23(a:bm)(s:Int)(o:List an)(g:GH):Prop where ga:g.get 1=J (.box ⟨[.nl],[]⟩)gb:g.get 2=J (.box ⟨[.bool C],[]⟩)gc:g.get 3=J (OA o)gd:acu g 4 5 a s
theorem aqo(a:bm)(G:a.bE.l.length<100)(s:Int):∃j,CC 23 [.agg a.cells,iD s] (.val (.tp [iV ((xC a s).1.map gQ) 24 1,(.bool (xC a s).2,.no)]) j):=by
 suffices S:Sat (ev PP cf (.call 23 [.agg a.cells,iD s] .no .empty)) λB j=>B=.tp [iV ((xC a s).1.map gQ) 24 1,(.bool (xC a s).2,.no)]by obtain⟨B,j,e,rfl⟩:=S;exact⟨j,e⟩
 have e1:=ars a s;have O:=ayn a G 4 5 s;have A:=aLB a s;rw[xC];simp only[bm.cells,go_sem]at e1;refine kp func23 ?_;simp only[f23];simp only[go_sem,bm.cells,e1];refine yX O Gu (λ_ o g=>R23 a s o g) [] (λm=>rfl) rfl ⟨rfl,rfl,rfl,⟨?_,rfl,by show 4<6;decide,by show 5<6;decide⟩⟩ (λc s j h=>h.gd) (λc s g3 g4 h i=>⟨(i.2 1 (by show 1<6;decide)).trans h.ga,(i.2 2 (by show 2<6;decide)).trans h.gb,(i.2 3 (by show 3<6;decide)).trans h.gc,⟨(i.2 4 (by show 4<6;decide)).trans h.gd.1,(i.2 5 (by show 5<6;decide)).trans h.gd.2.1,fj h.gd.2.2.1 i.1,fj h.gd.2.2.2 i.1⟩⟩) (λx o g2 K R hN L=>?_) (λg2 R hN=>?_);.simp only[bm.cells,go_sem]
 . obtain⟨r1,r2,r,p,q,t,u⟩:=R;refine ze L rfl ?_;simp only at hN L;have P:o.length<4097:=by
     obtain⟨pre,post,k,f⟩:=K;rcases UP pre []with h|h;.rw[f]at h;cases h.2
     .rw[f]at h;have E:o=pre:=(j9 h.2).2;have F:=fH List.length k;rw[db,bU]at F;rw[E];omega
   rcases fu (x=[])with y|y
   . subst y;simp only[CY,qW];simp only[go_sem,L,r1,r2];refine⟨rfl,⟨?_,?_,?_,?_,?_,?_,?_⟩,gF,rfl⟩;.simp only[go_sem,r1]
     .simp only[go_sem,r2]
     .simp only[go_sem,r];rfl
     .simp only[go_sem,p]
     .simp only[go_sem,q]
     .simp only[dW];exact t
     .simp only[dW];exact u
   . have I:Gu x o=(Z,o++[x]):=by rw[Gu];cases x with|nil=>exact absurd rfl y|cons=>rfl
     simp only[CY,oX y];have D:=BG (e:=24) (n:=1) (b:=24) (l:=o.map gQ) (v:=.ay (x.map iN) 3 1) gD gD (by rw[dU];omega);have w:dB [(0,.ex 24)] 0 1=[]:=rfl;rcases fu (o=[])with d|d;case' inl=>rw[d]at r;simp only[OA]at r
     case' inr=>rw[Te d]at r
     all_goals
     simp only[go_sem,L,r,D,w];rw[I];refine⟨rfl,⟨?_,?_,?_,?_,?_,?_,?_⟩,gF,rfl⟩;.simp only[go_sem,r1]
     .simp only[go_sem,r2]
     .rw[Te aO];simp only[go_sem,r,eI,de,bP,oX y,d,dk]
     .simp only[go_sem,p]
     .simp only[go_sem,q]
     .simp only[dW];exact t
     .simp only[dW];exact u
 . have H:=UP (zp a s) [];rcases H with⟨k,f⟩|⟨k,f⟩;.rw[k];generalize bB Gu (zp a s) []=z at R f|-;obtain⟨c,o⟩:=z;obtain rfl:c=J .ret:=f;obtain⟨r1,r2,r,p,q,t,u⟩:=R;simp only[go_sem,r1,r2,aL,bP,oH]
   . rw[k];rw[f]at R|-;rw[dk]at R;obtain⟨r1,r2,r,p,q,t,u⟩:=R;simp only at r;have w:dB [(0,.ex 24)] 0 1=[]:=rfl;rcases fu (zp a s=[])with d|d;.rw[d]at r|-;simp only[OA]at r;simp only[go_sem,r1,r2,r,bg,bP,oH]
     .rw[Te d]at r;simp only[go_sem,r1,r2,r,bg,rH d,w]
set_option maxHeartbeats 1000000
theorem ev7(a:bm)(k:oD a)(j:ai a.gU 0=V->a.bE.l.length<100)(s:Int):∃g,CC 7 [.agg a.cells,iD s] (.val (.tp [iV ((xB (xC a s) a s).1.map gQ) 24 1,iO (xB (xC a s) a s).2]) g):=by
 suffices S:Sat (ev PP cf (.call 7 [.agg a.cells,iD s] .no .empty)) λv _=>v=.tp [iV ((xB (xC a s) a s).1.map gQ) 24 1,iO (xB (xC a s) a s).2]by obtain⟨v,l,e,rfl⟩:=S;grind
 have e1:=aqn a k;have e2:=λh=>aqo a h s;simp only[bm.cells,go_sem]at e1 e2;refine kp func7 ?_;simp only[go_sem,f7,bm.cells,e1,xB];generalize m:xC a s=P at e2|-;obtain⟨L,b⟩:=P;apply eC<;>intro h
 . obtain⟨g,e2⟩:=e2 (j h);simp only[h,go_sem];apply eC<;>intro i;.simp only[i,go_sem,iV,bP,N2]
   . simp only[i,go_sem];apply eC<;>intro d
     . rcases fu (L=[])with c|c;.subst c;simp only[bP,iV]at e2;simp only[d,e2,go_sem,iV];apply eC<;>intro f<;>simp only[f,go_sem,bP]
       .rw[rH c]at e2;simp only[d,e2,go_sem];apply eC<;>intro f<;>simp only[f,go_sem,bP,rH c,oH]
     .simp only[d,go_sem,iV,bP]
 .simp only[h,go_sem,iV,bP]
def BM(f:ab->bm×Int)(t:Sl bJ)(q:cR)(a:bm):Int:=bif ai (EL t q) 0 then(bif ai (f q.pat).2 0 then(bif(f q.pat).1.same a then 0 else 22)else(f q.pat).2)else EL t q
theorem apH(t:Sl bJ)(q:cR)(a:bm)(e:kK t)(c:rE q)(A:oD (sG q.pat).1):CC 10 [.agg (jZ.cells ⟨t,q,a⟩)] (vI (BM sG t q a)):=by
 have e1:=aqV t q e c;have e2:=aqX _ c.p;have e3:=aqY _ a A;obtain⟨o,v,y,pat,J⟩:=q;simp only[BM];obtain⟨op,nl,args,ty,var,scope,s,cond⟩:=pat;obtain⟨f,g,c3,i,j,k,l,m,n⟩:=cond;simp only[cR.cells,ab.cells,Expr.cells,bm.cells,go_sem,fA,dk]at e1 e2 e3;refine aK func10 ?_;simp only[go_sem,f10,jZ.cells,cR.cells,ab.cells,Expr.cells,bm.cells,fA,dk,e1];apply sp<;>intro h
 . simp only[h,go_sem,e2];apply sp<;>intro b;.simp only[b,go_sem,e3];apply sp<;>intro d<;>simp only[d,go_sem]
   .simp only[b,go_sem]
 .simp only[h,go_sem]
theorem ev9(t:Sl bJ)(q:cR)(a:bm)(f:kK t)(c:rE q)(A:oD (vz q.pat).1):∃g,CC 9 [.agg (jZ.cells ⟨t,q,a⟩)] (.val (.dv (iD (BM vz t q a)) .no) g):=by
 suffices S:Sat (ev PP cf (.call 9 [.agg (jZ.cells ⟨t,q,a⟩)] .no .empty)) λv _=>v=.dv (iD (BM vz t q a)) .no by obtain⟨v,r,e,rfl⟩:=S;grind
 obtain⟨g1,e1⟩:=aqH t q f c;obtain⟨_,g2,e2,rfl⟩:=aqQ _ c.p;have e3:=aqT _ a A;obtain⟨u,w,y,pat,J⟩:=q;simp only[BM];obtain⟨op,nl,args,ty,var,scope,s,cond⟩:=pat;obtain⟨i,j,c3,k,l,m,n,o,p⟩:=cond;simp only[cR.cells,ab.cells,Expr.cells,bm.cells,go_sem,fA,dk]at e1 e2 e3;refine kp func9 ?_;simp only[go_sem,f9,jZ.cells,cR.cells,ab.cells,Expr.cells,bm.cells,fA,dk,e1];apply eC<;>intro h
 . simp only[h,go_sem,e2];apply eC<;>intro b;.simp only[b,go_sem,e3];apply eC<;>intro d<;>simp only[d,go_sem]
   .simp only[b,go_sem]
 .simp only[h,go_sem]
theorem ads(Q:Edge->Prop):∀(l:List Pr)(es:bR)(rs:aF)(r:bR×aF),(∀x∈l,∀d,Q (eA x.bw d))->(∀e∈es,Q e)->kx l es rs=J r->∀e∈r.1,Q e
 |[],es,rs,r,_,h,e=>by rw[kx]at e;cases e;exact h|x::l,es,rs,r,b,h,e=>by
  have g:∀d u,kx l (es++[eA x.bw d]) u=J r->∀e∈r.1,Q e:=λd u c=>ads Q l _ _ r (λy a=>b y (iL _ a)) (λy a=>by
    rcases List.mem_append.1 a with a|a;.exact h y a
    .rw[List.mem_singleton.1 a];exact b x eQ d) c;rw[kx]at e;cases f:x.done<;>rw[f]at e
  . cases i:ai x.rest.fe 0<;>rw[i]at e;.exact absurd e aO
    . cases j:ao (kS x.rest rs 0) 0<;>rw[j]at e;.exact g _ _ e
      .exact g _ _ e
  .exact g _ _ e
theorem aoY(h:GP p):∀e∈(gE p).2.1,qz e:=by
 unfold gE;rw[mR.2 h.r,aL];cases ao _ _
 . rcases hd:kx _ [] []with _|r;.grind
   refine ads _ _ _ _ r (λx c d=>?_) aP hd;have b:=Gd p h.a x c;have f:=h.n;have g:=h.c;exact⟨by have:=b.c;show x.bw.cond.nn<_;omega,by have:=b.k;show x.bw.gC.l.length<_;omega,λe a=>by have:=b.e e a;omega,by have:=b.o;show x.bw.opens.l.length<_;omega,by have:=b.p;show x.bw.gK.l.length<_;omega,by have:=b.i;show x.bw.inside.l.length<_;omega,by have:=b.l;show x.bw.fx.l.length<_;omega⟩
 grind
mutual
theorem SH : ∀ p : ab, ∀ g ∈ dR p, g.cond.nn <= p.cn
  | .mk o l args t v s e n, g, h => by
    have d := alI args
    have f := abB args
    rw [dR] at h
    rw [ab.cn]
    cases a : ai o 9 <;> rw [a] at h
    · cases b : (ai o 1 || (ai o 8 || (ai o 10 || ai o 7))) <;> rw [b] at h
      · cases c : ai o 3 <;> rw [c] at h
        · exact absurd h gT
        · have := f g h; omega
      · have := d g h; omega
    · rcases List.mem_cons.1 h with rfl | h
      · show n.nn <= _; omega
      · have := d g h; omega
theorem alI : ∀ l : aF, ∀ g ∈ nV l, g.cond.nn <= ab.gi l
  | [], _, h => absurd h gT
  | a :: l, g, h => by
    rw [nV] at h
    have := SH a g h
    rw [ab.gi]; omega
theorem abB : ∀ l : aF, ∀ g ∈ nW l, g.cond.nn <= ab.gi l
  | [], _, h => absurd h gT
  | a :: l, g, h => by
    rw [nW] at h
    rw [ab.gi]
    rcases List.mem_append.1 h with h | h
    · have := SH a g h; omega
    · have := abB l g h; omega
end
theorem aci(f:aF):∀(l:aF)(i:Nat)(s:List Stat×bR),(∀q∈l,GP q)->(∀x∈s.1,x.guards.l.length<=64/\∀g∈x.guards.l,g.cond.nn<=4160)->(∀e∈s.2,qz e)->(qD f l i s).1.length=s.1.length+l.length/\(∀x∈(qD f l i s).1,x.guards.l.length<=64/\∀g∈x.guards.l,g.cond.nn<=4160)/\∀e∈(qD f l i s).2,qz e
 |[],_,_,_,j,k=>⟨rfl,j,k⟩|q::l,i,(p,es),m,j,k=>by have d:=m q eQ;obtain⟨a,b⟩:=aci f l (i+1) (p++[⟨⟨V,dR q⟩⟩],es++(gE q).2.1.map (nC f i (gE q).2.2)) (λr hr=>m r (iL _ hr)) (λx c=>by
 rcases List.mem_append.1 c with c|c;.exact j x c
 .rw[List.mem_singleton.1 c];exact⟨gv (zZ q) d.n,λg n=>gv (SH q g n) d.c⟩) (λe h=>by
 rcases List.mem_append.1 h with h|h;.exact k e h
 .obtain⟨y,o,rfl⟩:=List.mem_map.1 h;have:=aoY d y o;exact⟨this.c,this.k,this.e,this.o,this.p,this.i,this.l⟩);rw[qD];refine⟨by rw[a];simp only[db,bU,eD];omega,b⟩
theorem abl:oD zA:=⟨aj,aj,λ_ h=>absurd h gT,λ_ h=>absurd h gT⟩
theorem adb(p:ab)(k:fY p):oD (sG p).1:=by
 unfold sG;cases f:ai _ 0;.exact abl
 . have l:=EJ k (mR.1 f);have g1:∀q∈[p],GP q:=λq e=>aj;rcases d:sh _ 0 _ with _|m;.exact abl
   have k2:=Rn 258 0 [p] m d g1 (kH _) (λj q i _=>absurd i (Nat.not_lt_zero _));have k3:=Rm _ 0 _ m d g1 aO aO;obtain⟨a,b,c⟩:=aci m m 0 ([],[]) (λq e=>(k2 q e).1) (λx h=>absurd h gT) (λx h=>absurd h gT);show oD (bif ao _ _ then(zA,(17:Int))else _).1;cases r:ao _ _
   . have:¬2048<(qD m m 0 ([],[])).2.length:=λn=>by grind[Mq]
     exact⟨aj,aj,λs t=>⟨aj,λg o=>aj⟩,c⟩
   simp[abl]
theorem qz.cg{x y:Edge}(h:qz x)(e:x.k=y.k):qz y:=by obtain⟨a,b,c,d,f,g,i⟩:=h;simp only[Edge.k,EK.mk.injEq]at e;obtain⟨_,_,e3,e4,e5,e6,e7,e8⟩:=e;refine⟨by grind[Expr.Ch],by grind[IV],λz j=>?_,aj,aj,aj,aj⟩;grind[List.mem_map_of_mem,Expr.Ch]
theorem oD.cg{a b:bm}(h:oD a)(e:a.same b=V):oD b:=by
 obtain⟨_,_,e1,e2⟩:=(bm.pc a b).1 e;refine⟨by rw[<-IV e2];exact h.s,by rw[<-IV e1];exact h.e,λs f=>?_,λx j=>?_⟩;.have:s.k∈b.gk.l.map Stat.k:=Sz f;rw[<-e2]at this;obtain⟨t,i,e⟩:=List.mem_map.1 this;have c:=h.g t i;refine⟨by rw[<-IV e];exact c.1,λg D=>?_⟩;have:g.k∈s.k:=Sz D;rw[<-e]at this;obtain⟨g2,d,e3⟩:=List.mem_map.1 this;have e4:g2.cond.nf=g.cond.nf:=fH (λk:GK=>k.2.2.2) e3;rw[<-Expr.Ch,<-e4,Expr.Ch];exact c.2 g2 d
 .have:x.vk∈b.bE.l.map Edge.vk:=Sz j;rw[<-e1]at this;obtain⟨y,l,e⟩:=List.mem_map.1 this;exact(h.x y l).cg (fH (λk:VK=>k.2.2) e)
theorem aop(p:ab)(h:fY p):oD (vz p).1:=by refine(adb p h).cg ?_;grind[adf,bm.pc]
theorem an5(t:Sl bJ)(q:cR)(a:bm)(h:fY q.pat):BM vz t q a=BM sG t q a:=by grind[adf,BM]
def iw(E:bR)(f:Int->an->List an)(s:Int)(p:an):bR->Nat->List an|[],_=>[]|x::l,i=>bif !ai x.src s||mh E p x.var then iw E f s p l (i+1)else(p++[i])::((bif ao x.dst 0 then[]else f x.dst (p++[i]))++iw E f s p l (i+1))
def CI(E:bR):Nat->Int->an->List an|0=>λ_ _=>[]|n+1=>λs p=>iw E (CI E n) s p E 0
theorem aKs(X Y:List α)(L:Nat):(X.take L++Y).take L=(X++Y).take L:=by grind[G9]
theorem amf(X F:List α)(L:Nat)(h:X.length<=L):X++F.take (L-X.length)=(X++F).take L:=by grind[List.take_append,G9]
theorem ab9(E:bR)(f:Rec)(F:Int->an->List an)(s:Int)(p:an)(L:Nat)(b:∀t q(m:Nat),f t q (m-1)=(F t q).take m):∀(l:bR)(i:Nat)(o:List an),o.length<=L->js E f s p ((L:Int)-1) l i o=(o++iw E F s p l i).take L
 |[],_,o,h=>by rw[js,iw,fy,G9 h]|x::l,i,o,h=>by
  have a:=ab9 E f F s p L b l (i+1);rw[js,iw];cases k:ao ((L:Int)-1) (.ofNat o.length)
  . have A:=IU k;have c:o.length+1<=L:=ae;rw[bg];cases d:(!ai x.src s||mh E p x.var)
    . rw[bg,bg];cases e:ao x.dst 0;.rw[bg,bg,show((L:Int)-1-.ofNat (o.length+1))=((L-(o.length+1):Nat):Int)-1 from by have:dI (o.length+1)=(o.length:Int)+1:=rfl;omega,b];have e1:=amf (o++[p++[i]]) (F x.dst (p++[i])) L (by rw[db];exact c);rw[db,Bu]at e1;rw[e1,a _ (by rw[Bv];omega),aKs];simp only[kr,fA,dk]
      .rw[aL,aL,a _ (by rw[db];exact c)];simp only[kr,fA,dk]
    .rw[aL,aL,a o h]
  . have:o.length=L:=by rw[eP]at k;have:=A2 k;have:dI o.length=(o.length:Int):=rfl;omega
    rw[aL,<-this,List.take_left]
theorem aca(E:bR):∀(n:Nat)(s:Int)(p:an)(m:Nat),Af E n s p ((m:Int)-1)=(CI E n s p).take m|0,_,_,_=>by rw[CI,List.take_nil];rfl|n+1,s,p,m=>by show js E (Af E n) s p ((m:Int)-1) E 0 []=_;rw[ab9 E _ (CI E n) s p m (λt q m=>aca E n t q m) E 0 [] (kH _),dk,CI]
theorem apm(E:bR)(p:an)(i:Nat)(x:Edge)(h:E[i]?=J x):ER E (p++[i])=ao x.dst 0:=by grind[ER]
theorem SQ(E:bR)(F:Int->an->List an)(s:Int)(p:an)(a:∀t q,∀r∈F t q,r.isEmpty=C):∀(l:bR)(i:Nat),∀r∈iw E F s p l i,r.isEmpty=C
 |[],_,r,h=>absurd h gT|x::l,i,r,h=>by
  rw[iw]at h;cases b:(!ai x.src s||mh E p x.var)<;>rw[b]at h
  . rw[bg]at h;rcases List.mem_cons.1 h with rfl|h;.cases p<;>rfl
    . rcases List.mem_append.1 h with h|h
      . cases c:ao x.dst 0<;>rw[c]at h;.exact a _ _ r h
        .exact absurd h gT
      .exact SQ E F s p a l (i+1) r h
  .exact SQ E F s p a l (i+1) r h
theorem abJ(E:bR):∀(n:Nat)(s:Int)(p:an),∀r∈CI E n s p,r.isEmpty=C|0,_,_,r,h=>absurd h gT|n+1,s,p,r,h=>SQ E _ s p (λt q r hr=>abJ E n t q r hr) E 0 r h
def Ki(E:bR)(A:List an)(c:Nat)(R:BC):Prop:=(c+A.length<=4096/\R=(A.filter (ER E),c+A.length,V))\/(4096<c+A.length/\R.2.2=C/\R.1.any List.isEmpty=V)
theorem akF(E:bR)(f:Int->an->Nat->BC)(F:Int->an->List an)(s:Int)(p:an)(r:∀t q c,c<=4096->Ki E (F t q) c (f t q c)):∀(l:bR)(i c:Nat),E.drop i=l->c<=4096->Ki E (iw E F s p l i) c (fG E f s p l i c)
 |[],_,c,_,h=>.inl ⟨h,rfl⟩|x::l,i,c,hd,h=>by
  have w:E[i]?=J x:=by rw[<-Bt,hd];rfl
  have v:E.drop (i+1)=l:=by rw[<-zT,hd];rfl
  have j:=λc h=>akF E f F s p r l (i+1) c v h;have e:=apm E p i x w;rw[fG,iw];cases y:(!ai x.src s||mh E p x.var)
  . rw[bg,bg];cases o:ao 4096 (.ofNat (c+1))
    . have m:=Wn o;rw[bg];cases n:ao x.dst 0
      . rw[bg,bg];rw[n]at e;rcases r x.dst (p++[i]) (c+1) m with⟨k,a⟩|⟨k,a,u⟩
        . rw[a];show Ki E _ c (bif V then _ else _);rw[aL];rcases j _ k with⟨d,b⟩|⟨d,b,g⟩;.refine .inl ⟨by simp only[bU,db];omega,?_⟩;simp only[b,zN,e,List.filter_append,bU,db];refine Prod.ext rfl (Prod.ext ?_ rfl);show _=_;simp only;omega
          .refine .inr ⟨by simp only[bU,db];omega,b,?_⟩;simp only[List.any_append,g,Bool.or_true]
        .rw[a,bg];exact .inr ⟨by simp only[bU,db];omega,a,u⟩
      . rw[aL,aL];rw[n]at e;rcases j _ m with⟨d,b⟩|⟨d,b,g⟩;.refine .inl ⟨by simp only[bU,db,eD];omega,?_⟩;simp only[b,zN,e,dk,bU,if_true];refine Prod.ext rfl (Prod.ext ?_ rfl);show _=_;simp only;omega
        .refine .inr ⟨by simp only[bU,db,eD];omega,b,?_⟩;simp only[nv,g,Bool.or_true]
    . rw[aL];have:4096<c+1:=by rw[eP]at o;have:=A2 o;have:dI (c+1)=(c:Int)+1:=rfl;omega
      exact .inr ⟨by simp only[bU];omega,rfl,rfl⟩
  .rw[aL,aL];exact j c h
theorem akG(E:bR):∀(n:Nat)(s:Int)(p:an)(c:Nat),c<=4096->Ki E (CI E n s p) c (ui E n s p c)|0,_,_,c,h=>.inl ⟨h,rfl⟩|n+1,s,p,c,h=>akF E _ (CI E n) s p (λt q c h=>akG E n t q c h) E 0 c rfl h
theorem aEJ(a:bm)(s:Int):xC a s=uW a s:=by have h:=aca a.bE.l (a.bE.l.length+1) s [] 4097;grind[akG,abJ,xC,uW,Ku,zp,Ki,G9,eP]
theorem aEF(p:an):gQ p=hZ ⟨V,p.map dI⟩:=by rw[hZ,Bw];rfl
theorem adK(L:List an)(l:L.length<1000000000)(q:∀x∈L,x.length<1000000000):CC 11 [cp V (L.map gQ) 24 1,cp V (L.map gQ) 24 1] (vB V):=by
 have h:=apL ⟨V,L.map λp=>⟨V,p.map dI⟩⟩ ⟨V,L.map λp=>⟨V,p.map dI⟩⟩ aj aP;have e:(L.map λp=>(⟨V,p.map dI⟩:Sl _)).map hZ=L.map gQ:=by rw[Bw];exact fH (λg=>L.map g) (funext λp=>(aEF p).symm)
 rw[QY,e]at h;show ev PP cf _=_;rw[h];congr 2;exact(CK (λa b=>by have:=CK (f:=id) (λa b=>mR) a.l b.l;rwa[List.map_id,List.map_id]at this) _ _).2 rfl
theorem k6:cf.fk 6=0:=by rfl
theorem p6:cf.eF 6=V:=by rfl
attribute[go_sem]k6 p6
theorem ev6(g:GH):ev PP cf (.call 6 [] .no g)=J (.val (.dv (.bool V) .no) g):=EV rfl rfl
theorem cv6{g:GH}{k:SV->GH->ah α}:ku cf (ev PP cf) 6 [] .no g k=k (.dv (.bool V) .no) g:=by rw[acB p6 rfl,ev6];rfl
attribute[go_sem]cv6
theorem an4(a:bm)(h:ai a.gU 0=V):a.bE.l.length<=2048:=by grind[mR,bm.gU,eP]
theorem aEI(a:bm)(b:a.bE.l.length<100)(s:Int):(uW a s).1.length<=4097/\∀x∈(uW a s).1,x.length<1000:=by
 have e:=(Uq a b (a.bE.l.length+1) s [] 4096 aO G8 aP ae ae).1;have c:=S2 _ b (a.bE.l.length+1) s [] 4096 G8 aP;unfold uW Ku;cases ao _ _
 . refine⟨?_,λx d=>?_⟩;.grind
   .obtain⟨q,i,rfl,_,h⟩:=c x (List.mem_filter.1 d).1;grind
 grind
theorem aEH(a:bm)(h:ai a.gU 0=V->a.bE.l.length<100)(s:Int):(xB (uW a s) a s).1.length<=4097/\∀x∈(xB (uW a s) a s).1,x.length<1000:=by grind[xB,aEI]
theorem ev3(t:Sl bJ)(q:cR)(p a:bm)(s:Int)(u:kK t)(j:rE q)(Q:oD p)(k:oD a)(y:∃b,CC 4 [.agg (jZ.cells ⟨t,q,p⟩)] (vB b)):∃g,CC 3 [.agg (jZ.cells ⟨t,q,p⟩),.agg a.cells,iD s] (.val (.dv (.bool V) .no) g):=by
 suffices S:Sat (ev PP cf (.call 3 [.agg (jZ.cells ⟨t,q,p⟩),.agg a.cells,iD s] .no .empty)) λv _=>v=.dv (.bool V) .no by obtain⟨v,O,e,rfl⟩:=S;exact⟨O,e⟩
 obtain⟨A,e4⟩:=y;obtain⟨B,e5⟩:=ev5 a k;have e7:=λh=>ev7 a k h s;have e8:=λh=>ev8 a k h s;obtain⟨g9,e9⟩:=ev9 t q p u j (aop q.pat j.p);have ux:=apH t q p u j (adb q.pat j.p);rw[an5 t q p j.p]at e9;have I:=λh=>aEH a h s;simp only[aEJ]at e7;generalize BM sG t q p=c at e9 ux;generalize xB (uW a s) a s=R at e7 e8 I;obtain⟨L,X⟩:=R;obtain⟨W,Y,U,pat,T⟩:=q;obtain⟨op,nl,args,ty,var,scope,w,cond⟩:=pat;obtain⟨D,E,c3,F,G,H,K,M,N⟩:=cond;simp only[jZ.cells,cR.cells,ab.cells,Expr.cells,bm.cells,go_sem,fA,dk]at e4 e5 e7 e8 e9 ux;have d1:=aJd;simp only[bq,opsOf,f3,go_sem]at d1;have e6:=ev6;refine kp func3 ?_;simp only[f3];simp only[go_sem,jZ.cells,cR.cells,ab.cells,Expr.cells,bm.cells,fA,dk,e4];have t1:∀(x:Int),ai x x=V:=λx=>mR.2 rfl;have m:ao 12 (.ofNat a.bE.l.length)=C->ai a.gU 0=V->a.bE.l.length<100:=λh _=>by grind[eP]
 have n:ao 2048 (.ofNat a.bE.l.length)=V->ai a.gU 0=V->a.bE.l.length<100:=λh P=>by grind[an4,Mq]
 have fin:(ai a.gU 0=V->a.bE.l.length<100)->True:=λ_=>trivial;apply eC<;>intro h
 . simp only[h,go_sem,e5];apply eC<;>intro r
   . simp only[r,go_sem];apply eC<;>intro f
     . simp only[f,go_sem];apply eC<;>intro i
       . simp only[i,go_sem];obtain⟨g7,e7⟩:=e7 (n i);have e8:=e8 (n i);obtain⟨z,o⟩:=I (n i);have tA:=adK L (Hf z ae) (λx l=>fj (o x l) ae);rcases fu (L=[])with d|d;.subst d;simp only[bP,oH,pr,go_sem]at e7 e8 tA;simp only[e7,e8,e9,ux,tA,d1,t1,go_sem]
         .simp only[rH d,vY d,go_sem]at e7 e8 tA;simp only[e7,e8,e9,ux,tA,d1,t1,go_sem]
       .simp only[i,go_sem]
     . simp only[f,go_sem];obtain⟨g7,e7⟩:=e7 (m f);have e8:=e8 (m f);obtain⟨z,o⟩:=I (m f);have tA:=adK L (Hf z gD) (λx l=>fj (o x l) gD);rcases fu (L=[])with d|d;.subst d;simp only[bP,oH,pr,go_sem]at e7 e8 tA;simp only[e7,e8,e9,ux,tA,d1,t1,go_sem]
       .simp only[rH d,vY d,go_sem]at e7 e8 tA;simp only[e7,e8,e9,ux,tA,d1,t1,go_sem]
   .simp only[r,go_sem]
 .simp only[h,go_sem]
set_option maxRecDepth 10000
section
variable{K K':aY}{O:bY}{ω:aG}{H H':Heap}{lb:dX}{g:GH}
theorem abZ{d:DV}{o:aX}{z:aD}(h:pV K O ω H [d] o z):∃a,z=[a]/\cJ K O ω H (.sl 0) d a o:=by obtain⟨b,c⟩:=h;match z,b with|[a],_=>exact⟨a,rfl,c 0 d a rfl rfl⟩
theorem ab0{d e:DV}{o:aX}{z:aD}(h:pV K O ω H [d,e] o z):∃a b,z=[a,b]/\cJ K O ω H (.sl 0) d a o/\DR K O e b:=by obtain⟨f,c⟩:=h;match z,f with|[a,b],_=>exact⟨a,b,rfl,c 0 d a rfl rfl,c 1 e b rfl rfl⟩
theorem ab1{d e f:DV}{o:aX}{z:aD}(h:pV K O ω H [d,e,f] o z):∃a b c,z=[a,b,c]/\cJ K O ω H (.sl 0) d a o/\DR K O e b/\DR K O f c:=by obtain⟨i,g⟩:=h;match z,i with|[a,b,c],_=>exact⟨a,b,c,rfl,g 0 d a rfl rfl,g 1 e b rfl rfl,g 2 f c rfl rfl⟩
theorem W0{e s:Nat}{a:AV}{o:aX}(h:cJ K O ω H (.sl 0) (.ay l e s) a o)(x:v8 o=V):∃r id D c cells f,ω (.sl 0)=J (r,V)/\a=.sl id D l.length c s/\H.get id=J (.cells cells r f e)/\f.wr=V/\(H.bh r).1<=id/\(H.bh r).2=id/\ij K O l s D cells/\G0 H id D l.length s r c cells:=by cases o with
 |ex g=>
 rcases h with⟨h,_⟩|⟨r,b,d⟩;.simp at h
 .obtain⟨i,L,id,D,c,cells,f,k1,k2,k3,k4,k5,k6,k7,k8⟩:=d.ex;obtain⟨rfl,rfl,rfl⟩:=DV.ay.inj k1;exact⟨r,id,D,c,cells,f,b,k2,k3,k4,k5,k6,k7,k8⟩|any=>obtain⟨h,_⟩:=h;simp at h|_=>simp[v8]at x
theorem QM{a:AV}{o:aX}{p:Pk}(h:cJ K O ω H p .nl a o):a=.bc:=by
 have k:DR K O .nl a->a=.bc:=λh=>by cases h;rfl
 cases o with|no=>exact k h|any=>exact h.2|ty e=>exact k h.1|full e=>exact k h.1|ex e=>
 rcases h with h|⟨r,_,h⟩;.exact h.2
 .obtain⟨l,L,id,D,c,cells,f,k1,_⟩:=h.ex;simp at k1
theorem ij.load{s:Nat}{c:aD}(h:ij K O l s D c){i r:Nat}{f:gS}{e:al}(g:H.get i=J (.cells c r f e))(v:(H.bh r).1<=i):H.load i D (l.length*s)=J ((c.drop D).take (l.length*s)):=by unfold Heap.load Heap.cellsOf;simp only[g,du,v,eu,aL,cU,ef,qx,qI];rw[lS (show D.add (l.length*s)<=c.length from h.2.1)];rfl
theorem ij.ints{c:aD}(h:ij K O l 1 D c)(o:l.all uQ=V):(c.drop D).take (l.length*1)=(l.map oC).map (AV.int .i64):=by
 have p:=h.2.1;apply List.ext_getElem?;intro i;by_cases b:i<l.length
 . rw[Ew ae,zO,lE,lE,eZ b];have x:uQ l[i]=V:=List.all_eq_true.1 o _ (G7 b);have m:D+i<c.length:=ae;have f:(l[i]).flat[0]?=J l[i]:=by cases hd:l[i]<;>rw[hd]at x<;>first|rfl|simp[uQ]at x
   obtain⟨a,e⟩:∃a,c[D+i]?=J a:=⟨_,eZ m⟩;have hr:=h.2.2.2 i l[i] 0 l[i] a (eZ b) f (by rw[Nat.mul_one,zU];exact e);rw[e];generalize l[i]=d at*;cases d with
   |int k n=>
   cases k<;>first|simp[uQ]at x|skip
   cases hr;rfl|_=>simp[uQ]at x
 . have g:((c.drop D).take (l.length*1))[i]?=Z:=by simp;omega
   have j:((l.map oC).map (AV.int .i64))[i]?=Z:=by simp;omega
   rw[g,j]
theorem aJS{z:bT}{i r:Nat}{c:aD}{f:gS}{e:al}(g:H.get i=J (.cells c r f e))(w:f.wr=V)(h:(H.bh r).1<=i)(a:(H.bh r).2=i)(b:D+z.length<=c.length):H.store i D (z.map (AV.int .i64))=J (H.dG i r (.cells (gG c D (z.map (AV.int .i64))) r f e)):=by unfold Heap.store;simp only[g,du,bN,h,a,w,ef,dU,eu,xP,zD];rw[lS (show D.add z.length<=c.length from b)];rfl
theorem adz{zs ys:bT}{A:aD}(c:D+(zs++ys).length<=A.length):ij K O (zs.map (DV.int .i64)) 1 D (gG A D ((zs++ys).map (AV.int .i64))):=by
 have l:=Bf A D ((zs++ys).map (AV.int .i64)) (by rw[dU];exact c);refine⟨gD,by rw[l,dU,Nat.mul_one];rw[db]at c;omega,λi x h=>?_,λi x j d a h e b=>?_⟩;.obtain⟨y,_,rfl⟩:=List.mem_map.1 (cI h);exact⟨rfl,λy g=>by obtain rfl:=List.mem_singleton.1 g;rfl⟩
 . rw[lE]at h;obtain⟨z,f,rfl⟩:=Option.map_eq_some_iff.1 h;have q:j=0:=by have:=(List.getElem?_eq_some_iff.1 e).1;have:j<1:=this;omega
   subst q;cases e;have hi:=(List.getElem?_eq_some_iff.1 f).1;rw[Cu _ _ _ (by rw[dU];exact c),if_pos (by rw[dU,db];omega)]at b;rw[show D+i*1+0-D=i by omega,lE,oF hi,f]at b;cases b;exact .int _ _
end
end Go.VM
namespace Go.AM
open Go Go.VM Proofs.Tryz
def E0:cH:=⟨[],fN (cQ gl []),.bool V,[]⟩
def wo:Tr Nat:=(((((Tr.nil.ins 0 0).ins 1 1).ins 2 2).ins 3 3).ins 4 4).ins 5 5
def Q2(a:bZ):bZ:=λf args H=>bif aw f 6 then(match args with|[]=>J (Cx 6 E0 [] H wo)|_=>J Z)else a f args H
theorem aEn{k:bZ}(p:G1 PP 6 E0)(q:kJ PP k):kJ PP (Q2 k):=by
 intro f args H v o h n w e c s hi j i m;unfold Q2 at h;rw[bN]at h;by_cases g:f=6
 . subst g;simp only[eu,aL]at h;split at h;.obtain⟨r,fr,y,E,X,k1,k2,k3,k4,k5⟩:=p;have l:=br h;rw[<-aEm]at l;obtain⟨x,t,u,a,b,d⟩:=aky Gc k1 k2 k3 k4 k5 l n w e c s hi j i m;exact⟨x,t,u,a,b,.inr d⟩
   .simp at h
 .simp only[g,mO,bg]at h;exact q f args H v o h n w e c s hi j i m
theorem HA{E H:Heap}{a:Nat->ah Nat}{i r:Nat}{f:gS}{l:aD}{e:al}(b:E.get i=J (.cells l i .ro e))(h:a i=J i)(g:H.get i=J (.cells l r f e))(v:(H.bh r).1<=i)(m:cE (nP a 50) l=J l)(q:wU (yh 50) l l=V):uv E H a i=V:=by unfold uv;simp only[b,h,g,m,q,bN,du,v,eu,zC]
theorem amw{H:Heap}(h:∀(i:Nat)(x:aD×al),gl[i]?=J x->∃r f,H.get i=J (.cells x.1 r f x.2)/\(H.bh r).1<=i):Cx 6 E0 [] H wo=J (.bool V,H):=by
 have k:∀i,i<6->uv E0.H H (sg E0.H.next wo) i=V:=by intro i hi;have n:E0.H.next=6:=aI;rw[n];match i,hi with|0,_=>obtain⟨r,f,a,b⟩:=h 0 _ rfl;exact HA aI aI a b aI aI|1,_=>obtain⟨r,f,a,b⟩:=h 1 _ rfl;exact HA aI aI a b aI aI|2,_=>obtain⟨r,f,a,b⟩:=h 2 _ rfl;exact HA aI aI a b aI aI|3,_=>obtain⟨r,f,a,b⟩:=h 3 _ rfl;exact HA aI aI a b aI aI|4,_=>obtain⟨r,f,a,b⟩:=h 4 _ rfl;exact HA aI aI a b aI aI|5,_=>obtain⟨r,f,a,b⟩:=h 5 _ rfl;exact HA aI aI a b aI aI
 have l:CJ (uv E0.H H (sg E0.H.next wo)) E0.H.next=V:=by have n:E0.H.next=6:=aI;rw[n]at k|-;show(bif uv E0.H H (sg 6 wo) 5 then(bif uv E0.H H (sg 6 wo) 4 then(bif uv E0.H H (sg 6 wo) 3 then(bif uv E0.H H (sg 6 wo) 2 then(bif uv E0.H H (sg 6 wo) 1 then(bif uv E0.H H (sg 6 wo) 0 then V else C)else C)else C)else C)else C)else C)=V;rw[k 0 gD,k 1 gD,k 2 gD,k 3 gD,k 4 gD,k 5 gD];rfl
 unfold Cx;rw[l,show Oi (sg E0.H.next wo) E0.args []=V from rfl,show UY (sg E0.H.next wo) 6=V from aI];rfl
def nj:bZ:=Q2 (Q5 (Q4 (Ja 370 3 1 8 (Ja 443 30 8 88 (Ja 476 174 2 16 gX)))))
theorem zc3:mJ PP 3=J [.int .i64 0]:=aI
theorem aLK:mJ PP 30=J [.int .i64 0,.bc,.int .i64 0,.int .i64 0,.int .i64 0,.int .i64 0,.int .i64 0,.str []]:=aI
theorem aLI:mJ PP 174=J [.int .i64 0,.int .i64 0]:=aI
theorem aEu(h:G1 PP 6 E0):kJ PP nj:=aEn h (aEq (aEp (W9 (W9 (W9 aiL auS aLI rfl) auR aLK rfl) auQ zc3 rfl)))
theorem V3:∀b a:an,VM.mY b a=AM.mY b a|[],a=>by cases a<;>rfl|x::b,[]=>rfl|x::b,y::a=>by show(aw x y&&VM.mY b a)=bif aw x y then AM.mY b a else C;rw[V3 b a];cases aw x y<;>rfl
theorem idx_eq(b:an):∀(a:an)(i:Nat),uO b i a=B' b a i|[],i=>by show(bif VM.mY b []then J i else Z)=bif AM.mY b []then J i else Z;rw[V3]|x::a,i=>by show(bif VM.mY b (x::a)then J i else uO b (i+1) a)=bif AM.mY b (x::a)then J i else B' b a (i+1);rw[V3,idx_eq b a]
end Go.AM
