/- Proved: drawn orders on the abstract machine, and the value machine over it (a part of the proof of RescaleReturnsUptoCardSaid, whose theorem stands in the last text): they hold for every program that the texts behind them run. -/
import Derived.Test.YtaeflaolgbjjlaaGreatDoorAd
open Option renaming some->J,none->Z
open Bool renaming true->V,false->C
open Go renaming TypeId->an,Oper->aB,Value->aC,Program->aG,Operand->aK,World->aW,Code->bF,FuncId->bV,Frame->dh,lone->fc,ResultVar->oy
open Go.Op renaming operands->eJ
open Go.Region renaming binds->tU
open Go.stepG renaming exec->tJ
open List renaming range->tO
open Nat renaming beq->aw,ble->br,blt->cm,succ->fg,add->gW
open Option renaming bind->qT
noncomputable section
set_option linter.all false
namespace Go.AM
open Go
variable{H:Heap}{k:List Item}{j m r:Nat}{p:Pl}{tm:Tr AV}{u:aC}{a ord:aD}{w w0:aW}{t:an}{φ ψ:bc}{F F0:dh}
inductive rR(ops:Array aB):Nat->Nat->Prop where|cJ{i j:Nat}{o:aB}{e:Edge}(ho:ops[j]?=J o)(he:e∈o.after.toList)(hb:tU .any e=V)(hi:e.on=i):rR ops i j|trans{i j:Nat}{o:aB}{e:Edge}(ho:ops[j]?=J o)(he:e∈o.after.toList)(hb:tU .any e=V)(h:rR ops i e.on):rR ops i j
theorem qP.Cc{p:Array aB}(h:qP p ord){i:Nat}(g:rR p i j):∀(a b:aD),ord=a++j::b->i∈a:=by induction g with|cJ f d c k=>intro a b e;rw[<-k];exact h.before a b _ _ e f _ d c|@trans j o x f d c _ q=>intro a b e;have m:=h.before a b _ _ e f _ d c;obtain⟨l,n,rfl⟩:=Jx m;grind
section
variable{ops:Array aB}
theorem adn{b:Type}{Q:b->Nat->Prop}(g:Bool×Nat->b->Bool×Nat)(d:∀p a,(g p a).2=p.2+1)(c:∀p a,(g p a).1=V->p.1=V/\Q a p.2):∀(l:List b)(p:Bool×Nat),(fO g l p).1=V->p.1=V/\∀(i:Nat)(a:b),l[i]?=J a->Q a (p.2+i):=by intro l;induction l with|nil=>simp[pc]|cons a l e=>intro p h;rw[pc]at h;simp only[AI]at h;rw[<-pc]at h;grind
theorem aJ1(n i:Nat):aw (Nat.mod (Nat.shiftRight n i) 2) 1=n.testBit i:=by rw[bE];have:Nat.mod _ 2=(n>>>i)%2:=rfl;simp_all
theorem ala(a:Tr Nat)(i j:Nat):AM.before a i j=((a.get j).getD 0).testBit i:=aJ1 _ _
theorem akg(t:Tr Nat)(i:Nat):∀(l:List Edge)(s:Nat),(fO (λs(e:Edge)=>bif tU .any e then Nat.lor s (Nat.lor (Nat.shiftLeft 1 e.on) ((t.get e.on).getD 0))else s) l s).testBit i=V->s.testBit i=V\/∃e,e∈l/\tU .any e=V/\(e.on=i\/((t.get e.on).getD 0).testBit i=V):=by intro l;induction l with|nil=>simp[pc]|cons e l c=>
 intro s h;rw[pc]at h;simp only[AI]at h;rw[<-pc]at h;rcases c _ h with a|⟨d,a,f,g⟩;.cases b:tU .any e with|false=>simp_all|true=>rw[b]at a;simp only[aR]at a;have e1:Nat.lor s (Nat.lor (Nat.shiftLeft 1 e.on) ((t.get e.on).getD 0))=s|||(1<<<e.on|||((t.get e.on).getD 0)):=rfl;grind[Nat.one_shiftLeft]
 grind
theorem akz:∀(l:List aB)(m:Nat)(t:Tr Nat),ops.toList.drop m=l->(∀j i,j<m->((t.get j).getD 0).testBit i=V->rR ops i j)->(∀j,m<=j->t.get j=Z)->∀j i,(((fO (λ(p:Tr Nat×Nat)(o:aB)=>(p.1.ins p.2 (fO (λs(e:Edge)=>bif tU .any e then Nat.lor s (Nat.lor (Nat.shiftLeft 1 e.on) ((p.1.get e.on).getD 0))else s) o.after.toList 0),fg p.2)) l (t,m)).1.get j).getD 0).testBit i=V->rR ops i j:=by intro l;induction l with|nil=>grind[pc]|cons o l u=>
 intro m t g n r j i h;have k:ops[m]?=J o:=by
   have:(ops.toList.drop m)[0]?=J o:=by rw[g];rfl
   rw[sS]at this;simpa using this
 have X:ops.toList.drop (m+1)=l:=by
   have:(ops.toList.drop m).drop 1=l:=by rw[g];rfl
   rw[DL]at this;exact this
 rw[pc]at h;simp only[AI]at h;rw[<-pc]at h;refine u (m+1) _ X ?_ ?_ j i h
 . intro q d H b;by_cases e:m=q
   . subst e;rw[Tr.lh]at b;simp only[DS]at b;rcases akg t d o.after.toList 0 b with c|⟨e,c,f,a⟩;.simp at c
     . rcases a with a|a;.exact .cJ k c f a
       . by_cases U:e.on<m;.exact .trans k c f (n e.on d U a)
         .rw[r e.on ab]at a;simp at a
   .rw[Tr.jr _ _ e]at b;exact n q d ab b
 grind[Tr.jr]
theorem GV{i:Nat}(h:AM.before (DY ops.toList).1 i j=V):rR ops i j:=by rw[ala]at h;exact akz _ 0 _ (by rfl) ab (λj _=>Tr.get_nil j) j i h
structure GJ(ops:Array aB)(ws:Tr Nat):Prop where
 back:∀(j:Nat)(o:aB),ops[j]?=J o->∀e,e∈o.after.toList->tU .any e=V->e.on<j
 guard:∀(j:Nat)(o:aB)(g:Nat)(b:Bool),ops[j]?=J o->o.guard=J (g,b)->rR ops g j
 reads:∀(j:Nat)(o:aB)(t:Tmp),ops[j]?=J o->.tmp t∈o.op.operands.toList->ws.get t=Z\/∃k,ws.get t=J k/\(k=j\/rR ops k j\/rR ops j k)writes:∀(j:Nat)(o:aB)(t:Tmp),ops[j]?=J o->o.dst=J t->ws.get t=J j
 only:∀(t:Tmp)(k:Nat),ws.get t=J k->∃o,ops[k]?=J o/\o.dst=J t
theorem aLb:∀(l:List aB)(m:Nat)(t r:Tr Nat)(q:Nat),nL (λ(p:Tr Nat×Nat)(o:aB)=>match o.dst with|none=>J (p.1,fg p.2)|some t=>match p.1.get t with|none=>J (p.1.ins t p.2,fg p.2)|some _=>Z) l (t,m)=J (r,q)->(∀x k,t.get x=J k->r.get x=J k)/\(∀(i:Nat)(o:aB)(x:Tmp),l[i]?=J o->o.dst=J x->r.get x=J (m+i))/\∀x k,r.get x=J k->t.get x=J k\/∃i o,k=m+i/\l[i]?=J o/\o.dst=J x:=by intro l;induction l with|nil=>grind[Hu]|cons o l s=>intro m t r q h;rw[Ht]at h;obtain⟨p,f,h⟩:=aF h;obtain⟨t1,u⟩:=p;obtain⟨g1,g2,g3⟩:=s u t1 r q h;cases hd:o.dst with
 |none=>
 rw[hd]at f;obtain⟨rfl,rfl⟩:=il (bt f);refine⟨g1,λi g x j d=>?_,λx k d=>?_⟩;rotate_left
 . rcases g3 x k d with a|⟨i,g,a,b,c⟩;.grind
   .exact .inr ⟨i+1,g,ab,ai,c⟩
 grind|some x0=>rw[hd]at f;simp only at f;cases n:t.get x0 with|some k=>simp_all|none=>
   rw[n]at f;obtain⟨rfl,rfl⟩:=il (bt f);refine⟨λx k d=>g1 x k ?_,λi g x j d=>?_,λx k d=>?_⟩;rotate_left 2
   . rcases g3 x k d with a|⟨i,g,a,b,c⟩
     . by_cases e:x0=x;.subst e;rw[Tr.lh]at a;cases a;grind
       grind[Tr.jr]
     .exact .inr ⟨i+1,g,by rw[a];simp only[Nat.succ_eq_add_one];omega,by simpa using b,c⟩
   .rw[Tr.jr _ _ (λe=>by subst e;rw[n]at d;simp at d)];exact d
   .cases i with|zero=>simp at j;subst j;rw[hd]at d;cases d;have:=g1 x0 m (Tr.lh _ _ _);simpa using this|succ i=>have:=g2 i g x (by simpa using j) d;rw[this];congr 1;omega
theorem aJ8{o:aB}{t:Tmp}(h:Operand.tmp t∈o.op.operands.toList):t∈tmpsOf o:=by
 have k:∀(l:List _)(a:List _),(t∈a\/Operand.tmp t∈l)->t∈fO (λa x=>match x with|.tmp t=>t::a|_=>a) l a:=by intro l;induction l with|nil=>simp[pc]|cons x l i=>intro a h;rw[pc];simp only[AI];grind[pc]
 exact k _ _ (.inr h)
theorem ahO(h:vD ops.toList=V):∃w,GJ ops w:=by
 unfold vD at h;split at h;.simp at h
 . rename_i w I;refine⟨w,?_⟩;have s:(∀(j:Nat)(o:aB)(t:Tmp),ops[j]?=J o->o.dst=J t->w.get t=J j)/\∀(t:Tmp)(k:Nat),w.get t=J k->∃o,ops[k]?=J o/\o.dst=J t:=by
    unfold ajf at I;simp only[ja]at I;obtain⟨⟨r,q⟩,hr,rfl⟩:=I;obtain⟨_,g2,g3⟩:=aLb ops.toList 0 Tr.nil r q hr;refine⟨λj o t d m=>?_,λt k y=>?_⟩;.have:=g2 j o t (by simpa using d) m;simpa using this
    . rcases g3 t k y with a|⟨i,o,a,b,c⟩;.rw[Tr.get_nil]at a;simp at a
      .exact⟨o,by rw[a,iZ];simpa using b,c⟩
   dsimp only at h;have z:=(adn (Q:=λ(o:aB)(j:Nat)=>(kY (λ(e:Edge)=>!(tU .any e)||cm e.on j) o.after.toList=V)/\((match o.guard with|none=>V|some (g,_)=>AM.before (DY ops.toList).1 g j&&(match oM ops.toList g with|some q=>q.dst.isSome|none=>C))=V)/\kY (λt=>match w.get t with|none=>V|some k=>aw k j||tied (DY ops.toList).1 k j) (tmpsOf o)=V) _ (λp a=>rfl) (λp a f=>by simp only[gD]at f;exact⟨f.1,f.2.1.1,f.2.1.2,f.2.2⟩) ops.toList (V,0) h).2;have l:∀(j:Nat)(o:aB),ops[j]?=J o->_:=λj o d=>z j o (by simpa using d);refine⟨λj o d e x v=>?_,λj o g b d A=>?_,λj o t d m=>?_,s.1,s.2⟩;.have:=(l j o d).1;rw[qf,AH]at this;have:=this e x;rw[v,eK]at this;simpa using this
   .have:=(l j o d).2.1;rw[A]at this;simp only[gD]at this;have n:=this.1;rw[iZ]at n;exact GV n
   .have:=(l j o d).2.2;rw[qf,AH]at this;have:=this t (aJ8 m);cases u:w.get t with|none=>exact .inl rfl|some k=>
      rw[u]at this;simp only[iZ,yU,bE,gZ]at this;refine .inr ⟨k,rfl,?_⟩;rcases this with e|e;.exact .inl e
      . unfold tied at e;rcases yU _ _▸e with e|e;.exact .inr (.inl (GV e))
        .exact .inr (.inr (GV e))
theorem GJ.lt{w:Tr Nat}(h:GJ ops w){i:Nat}(a:rR ops i j):i<j:=by induction a with|cJ o e b c=>rw[<-c];exact h.back _ _ o _ e b|trans o e b _ d=>exact Nat.lt_trans d (h.back _ _ o _ e b)
theorem MW{w:Tr Nat}(h:GJ ops w){i:Nat}(t:qK ops.toList i j=V)(k:i<j):rR ops i j:=by
 rcases yU _ _▸t with e|e;.grind[GV]
 .have:=h.lt (GV e);omega
theorem atp{Q:Tr Nat}(h:GJ ops Q):∀(f t:Nat)(listed:Array Bool)(d:aD),listed.size=ops.size->d.Nodup->(∀i,i∈d↔listed[i]?=J V)->(∀i,i∈d->i<ops.size)->ops.size<=f+d.length->(∀(a b:aD)(i:Nat)(o:aB),d.reverse=a++i::b->ops[i]?=J o->∀e,e∈o.after.toList->tU .any e=V->e.on∈a)->qP ops (Region.linearise.go .any ops f t listed d):=by have done:∀(listed:Array Bool)(d:aD),d.Nodup->(∀i,i∈d->i<ops.size)->(∀i,i<ops.size->i∈d)->(∀(a b:aD)(i:Nat)(o:aB),d.reverse=a++i::b->ops[i]?=J o->∀e,e∈o.after.toList->tU .any e=V->e.on∈a)->qP ops d.reverse:=λlisted d j k I K=>⟨List.pairwise_reverse.2 (List.Pairwise.imp (λh=>Ne.symm h) j),λi=>⟨λg=>List.mem_reverse.2 (I i g),λg=>k i (List.mem_reverse.1 g)⟩,K⟩;intro f;induction f with
 |zero=>
 intro t listed d G p O U l T;simp only[Region.linearise.go];refine done listed d p U (λi g=>?_) T;apply Gt;intro u;have P:(i::d).Nodup:=List.nodup_cons.2 ⟨u,p⟩;have L:(i::d).length<=ops.size:=by have:=List.Nodup.length_le_of_subset P (l₂:=tO ops.size) (λx S=>by grind);grind
 grind|succ f N=>
 intro t listed d G p O U l T;simp only[Region.linearise.go];split
 . rename_i i g;have A:=dw g;rw[List.mem_filter]at A;obtain⟨hr,z⟩:=A;have M:i<ops.size:=List.mem_range.1 hr;obtain⟨w,q⟩:∃w,ops[i]?=J w:=⟨_,mX M⟩;have E:i<listed.size:=ab;have r:listed[i]?=J listed[i]:=mX E;rw[gD]at z;obtain⟨W,v⟩:=z;have Y:listed[i]=C:=by
     have:listed.getD i V=listed[i]:=by simp[Array.getD,E]
     grind
   have u:i∉d:=λR=>by grind
   rw[q]at v;simp only[gF,DS]at v;have F:∀e,e∈w.after.toList->tU .any e=V->e.on∈d:=by intro e n m;have j:=v;rw[<-Array.all_toList,AH]at j;have:=j e n;rw[m]at this;simp only[xk,vR]at this;refine(O e.on).2 ?_;rw[Gq]at this;grind
   refine N _ _ (i::d) ai (List.nodup_cons.2 ⟨u,p⟩) ?_ ?_ ai ?_;.grind
   .grind
   . intro a b x o H X e n m;rw[List.reverse_cons]at H;rcases List.append_eq_append_iff.1 H with⟨c,j,k⟩|⟨c,j,k⟩;.cases c with|nil=>grind|cons y c=>simp at k
     .cases c<;>grind
 . rename_i su;refine done listed d p U ?_ T;intro i;refine Nat.strongRecOn i ?_
   . intro i s g;apply Gt;intro u;have E:i<listed.size:=ab;have r:listed[i]?=J listed[i]:=mX E;have Y:listed[i]=C:=by grind
     have q:ops[i]?=J ops[i]:=mX g;have D:i∈(tO ops.size).filter λi=>!listed.getD i V&&((ops[i]?).map (·.after.all λe=>!Region.binds .any e||listed.getD e.on C)).getD C:=by
      rw[List.mem_filter];refine⟨List.mem_range.2 g,?_⟩;rw[q];have j:listed.getD i V=C:=by simp[Array.getD,E,Y]
      rw[j];simp only[vU,yV,gF,DS];rw[<-Array.all_toList,AH];intro e n;cases m:tU .any e with|false=>rfl|true=>have B:=h.back i _ q e n m;have:=(O e.on).1 (s e.on B ab);simp[Gq,this]
     grind[Nat.mod_lt]
theorem azk{P:aG}(m:P.follows .mixedOrders=V)(o:Array aB)(t:Nat)(h:vD o.toList=V):qP o (Region.schedule (P.follows .mixedOrders) o t):=by obtain⟨w,hr⟩:=ahO h;rw[m];refine atp hr _ t _ [] aO List.nodup_nil (λi=>?_) aO aO aO;grind
end
def oB(n:Nat)(a:bc):bc:=λid=>if id<n then a id else Z
theorem zu{n:Nat}{i:Nat}(h:i<n)(e:φ i=J p):oB n φ i=J p:=by grind[oB]
theorem uc{n:Nat}{i:Nat}(h:oB n φ i=J p):i<n/\φ i=J p:=by grind[oB]
def Below(n:Nat)(a:bc):Prop:=∀id p,a id=J p->id<n
theorem VR.cut{n:Nat}(e:Below n ψ){a:AV}{c:aC}(h:VR ψ a c):∀{φ:bc}{v:aC},VR φ a v->VR (oB n φ) a v:=by induction h with
 |top _=>intro φ v k;cases k with|top n=>exact .top n
 |bool b=>intro φ v k;cases k;exact .bool b|int U m=>intro φ v k;cases k;exact .int U m|str l s h=>intro φ v k;cases k with|str _ X Q=>exact .str l X Q
 |eN=>intro φ v k;cases k;exact .eN|ptr id w p o=>intro φ v k;cases k with|ptr _ _ q t=>exact .ptr id w q (zu (e _ _ o) t)
 |bC=>intro φ v k;cases k;exact .bC|sl id w len c A p Y P o _ _ _ _ _ _ _=>intro φ v k;cases k with|sl _ _ _ _ _ q G N t D E F H I K L=>exact .sl id w len c A q G N (zu (e _ _ o) t) D E F H I K L
 |fR=>intro φ v k;cases k;exact .fR|map r p o=>intro φ v k;cases k with|map _ q t=>exact .map r q (zu (e _ _ o) t)
 |func f l1 l2 M O z R _ _ S T=>intro φ v k;cases k with|func _ _ _ d1 d2 k1 k2 g1 g2=>
 refine .func f l1 l2 d1 d2 k1 k2 (λi a c x y=>?_) (λi a c x y=>?_)
 . have j:i<M.size:=by rw[<-z];exact(List.getElem?_eq_some_iff.1 x).1
   exact S i a _ x (mX j) (g1 i a c x y)
 . have j:i<O.size:=by rw[<-R];exact(List.getElem?_eq_some_iff.1 x).1
   exact T i a _ x (mX j) (g2 i a c x y)|yield l p o=>intro φ v k;cases k with|yield _ q t=>exact .yield l q (zu (e _ _ o) t)
 |nilFunc=>intro φ v k;cases k;exact .nilFunc|agg l c z hs _ B=>intro φ v k;cases k with|agg _ d k1 W g=>
 refine .agg l d k1 W λi a u x y=>?_;have j:i<c.size:=by rw[<-z];exact(List.getElem?_eq_some_iff.1 x).1
 exact B i a _ x (mX j) (g i a u x y)|cM l c z _ B=>intro φ v k;cases k with|cM _ d k1 g=>
 refine .cM l d k1 λi a u x y=>?_;have j:i<c.size:=by rw[<-z];exact(List.getElem?_eq_some_iff.1 x).1
 exact B i a _ x (mX j) (g i a u x y)
theorem ba.cut{n:Nat}(b:Below n ψ){l:aJ}{c d:List aC}(h:ba ψ l c)(k:ba φ l d):ba (oB n φ) l d:=by
 refine⟨k.1,λi a v x y=>?_⟩;have e:i<c.length:=by rw[<-h.1];exact(List.getElem?_eq_some_iff.1 x).1
 exact(h.2 i a _ x (dD e)).cut b (k.2 i a v x y)
theorem qW.cut{n b:Nat}(a:Below n ψ){t:Tr AV}{c d:Array aC}(h:qW ψ m t c)(k:qW φ b t d):qW (oB n φ) b t d:=⟨k.1,λi=>(h.2 i).cut a (k.2 i)⟩
theorem lY.cut{n:Nat}(f:Below n ψ){A:aW}{o:b9}{q:Pl}(h:lY ψ w o p)(k:lY φ A o q):lY (oB n φ) A o q:=by cases o with
 |cells l root U e=>obtain⟨S,W,_,_,_,_,F,_,_,_⟩:=h;obtain⟨B,E,D,k1,k2,k3,k4,k5,k6,k7⟩:=k;refine⟨B,E,D,k1,k2,k3,λi a j=>?_,k5,k6,k7⟩;obtain⟨c,_,I⟩:=F i a j;obtain⟨d,hd,L⟩:=k4 i a j;exact⟨d,hd,I.cut f L⟩|map T u=>
 obtain⟨_,s,_,g⟩:=h;obtain⟨k0,t,k1,k2⟩:=k;refine⟨k0,t,k1,k2.1,λi e x y K=>?_⟩;have H:i<s.toList.length:=by rw[<-g.1];exact(List.getElem?_eq_some_iff.1 y).1
 have a:=g.2 i e _ y (dD H);have b:=k2.2 i e x y K;exact⟨a.1.cut f b.1,a.2.1.cut f b.2.1,b.2.2⟩|mapIter m z seen P=>obtain⟨_,X,_,g⟩:=h;obtain⟨k0,M,k1,k2⟩:=k;refine⟨k0,M,k1,?_⟩;cases m with|none=>exact k2|some r=>obtain⟨a,j,_⟩:=g;obtain⟨b,G,e⟩:=k2;exact⟨b,zu (f _ _ j) G,e⟩
 |loop a=>obtain⟨_,Q,_,g⟩:=h;obtain⟨k0,R,k1,k2⟩:=k;refine⟨k0,R,k1,k2.state,k2.pending,k2.fn,g.tmps.cut f k2.tmps,k2.params,k2.assign,k2.body,?_⟩;obtain⟨Y,v,_⟩:=g.defers;obtain⟨N,O,e⟩:=k2.defers;exact⟨N,zu (f _ _ v) O,e⟩|deferred c=>exact k
def db.wr(R:db)(i:Nat):aD:=match R.K i with|.act=>(R.H' i).bT|_=>[]
def db.gr(R:db)(i:Nat):aD:=match R.K i with|.act=>(R.H' i).cG|_=>[]
structure gk(P:aG)(ak:cg)(rec:Rec)(ops:Array aB)(ws:Tr Nat)(R:db)(φ0:bc):Prop where
 ok:JE P ak rec ops R
 qE:GJ ops ws
 hinv:∀j,j<=ops.size->bg (R.H j)af:∀i,i<ops.size->AF (R.H i) (R.HX i)same:∀i,i<ops.size->gj (R.H (i+1)) (R.HX i)Zw:∀i,i<=ops.size->∃ψ w m c,bM gC ψ (R.H i) w/\Ext φ0 ψ/\(∀id,(R.H 0).next<=id->id<(R.H i).next->∃p,ψ id=J p)/\qW ψ m (R.fr i).tmps c
section
variable{P:aG}{ak:cg}{rec:Rec}{ops:Array aB}{ws:Tr Nat}{R:db}{φ0:bc}
theorem gk.aAN(T:gk P ak rec ops ws R φ0){i:Nat}(h:i<ops.size):(R.H i).next<=(R.H (i+1)).next:=by rw[(T.same i h).2.2];exact(T.af i h).next
theorem gk.next(T:gk P ak rec ops ws R φ0){m':Nat}(h:m<=m')(a:m'<=ops.size):(R.H m).next<=(R.H m').next:=by induction m' with|zero=>grind|succ k i=>
 by_cases e:m=k+1;.grind
 .exact fX ab (T.aAN ab)
theorem gk.root(T:gk P ak rec ops ws R φ0){a i:Nat}(h:m<=a)(c:a<=ops.size)(d:i<(R.H m).next):rootOf (R.H a) i=rootOf (R.H m) i:=by induction a with|zero=>have:m=0:=ab;subst this;rfl|succ k b=>
 by_cases e:m=k+1;.subst e;rfl
 .rw[(T.same k ab).root,(T.af k ab).root i (gi d (T.next ab ab)),b ab ab]
theorem gk.keep(T:gk P ak rec ops ws R φ0){a i:Nat}{o:b9}(h:m<=a)(p:a<=ops.size)(d:i<(R.H m).next)(g:(R.H m).get i=J o):∃b,(R.H a).get i=J b/\qO o b:=by induction a with|zero=>have:m=0:=ab;subst this;exact⟨o,g,qO.refl o⟩|succ k j=>
 by_cases e:m=k+1;.subst e;exact⟨o,g,qO.refl o⟩
 .obtain⟨l,c,l1⟩:=j ab ab;obtain⟨n,f,l2⟩:=(T.af k ab).keep i l (gi d (T.next ab ab)) c;exact⟨n,by rw[(T.same k ab).get];exact f,l1.trans l2⟩
theorem gk.ro(T:gk P ak rec ops ws R φ0){a i:Nat}(h:m<=a)(b:a<=ops.size)(d:i<(R.H m).next)(r:fI (R.H m) i):fI (R.H a) i:=by induction a with|zero=>have:m=0:=ab;subst this;exact r|succ k c=>
 by_cases e:m=k+1;.subst e;exact r
 .exact((T.same k ab).ro i).2 ((T.af k ab).ro i (gi d (T.next ab ab)) ai)
theorem No(R:db)(i:Nat):(R.HX i).bT=R.wr i:=by unfold db.HX db.wr;cases R.K i<;>rfl
theorem Gx(R:db)(i:Nat):(R.HX i).cG=R.gr i:=by unfold db.HX db.gr;cases R.K i<;>rfl
theorem gk.view(T:gk P ak rec ops ws R φ0){m' f:Nat}{o:b9}(h:m<=m')(p:m'<=ops.size)(g:f<(R.H m).next)(w:∀i,m<=i->i<m'->rootOf (R.H m) f∉R.wr i)(j:(R.H m).get f=J o):(R.H m').get f=J o/\(jb (R.H m) f↔jb (R.H m') f):=by induction m' with|zero=>have:m=0:=ab;subst this;exact⟨j,Iff.rfl⟩|succ k n=>
 by_cases e:m=k+1;.subst e;exact⟨j,Iff.rfl⟩
 .obtain⟨a,b⟩:=n ab ab (λi l q=>w i l ab);have u:=gi g (T.next (m:=m) (m':=k) ab ab);obtain⟨c,d⟩:=(T.af k ab).view f o u (by rw[No,T.root ab ab g];exact w k ab ab) a;exact⟨by rw[(T.same k ab).get];exact c,b.trans (d.trans ((T.same k ab).alive f).symm)⟩
def Valid(R:db)(n:Nat)(a:aD)(r m:Nat):Prop:=∀i,i<n->r∈R.wr i->(i∈a↔i<m)
theorem gk.aKJ(T:gk P ak rec ops ws R φ0){b d:Nat}{o:b9}(v:Valid R ops.size a r m)(B:Valid R ops.size a r b)(g:m<=ops.size)(z:b<=ops.size)(e:d<(R.H m).next)(c:d<(R.H b).next)(j:rootOf (R.H ops.size) d=r)(p:(R.H m).get d=J o)(f:∃k,(R.H b).get d=J k):(R.H b).get d=J o/\(jb (R.H m) d↔jb (R.H b) d):=by
 by_cases h:m<=b;.refine T.view h z e (λi l n w=>?_) p;rw[<-T.root g ab e,j]at w;have e1:=v i ab w;have e2:=B i ab w;grind
 . obtain⟨k,K⟩:=f;have s:∀i,b<=i->i<m->rootOf (R.H b) d∉R.wr i:=λi l n w=>by rw[<-T.root z ab c,j]at w;have e1:=v i ab w;have e2:=B i ab w;grind
   obtain⟨x,y⟩:=T.view ab g c s K;grind
structure Inv(P:aG)(ops:Array aB)(ws:Tr Nat)(R:db)(φ0:bc)(w0:aW)(F0:dh)(a:aD)(φ:bc)(w:aW)(F:dh):Prop where
 ext:Ext φ0 φ
 aY:∀id p,φ id=J p->p.aY<w.heap.size
 cw:∀id p,φ id=J p->(id<(R.H 0).next/\φ0 id=J p)\/(φ0 id=Z/\∃i,i∈a/\i<ops.size/\(R.H i).next<=id/\id<(R.H (i+1)).next)obj:∀id p,φ id=J p->∀m,m<=ops.size->id<(R.H m).next->∃o,(R.H m).get id=J o/\∀l r fl e,o=.cells l r fl e->l.length=p.len
 inj:∀i j p q,φ i=J p->φ j=J q->p.aY=q.aY->∀m,m<=ops.size->i<(R.H m).next->¬fI (R.H m) i->rootOf (R.H ops.size) i=rootOf (R.H ops.size) j
 mono:∀i j p q,φ i=J p->φ j=J q->p.aY=q.aY->i<j->∀m,m<=ops.size->j<(R.H m).next->(¬fI (R.H m) i\/¬fI (R.H m) j)->p.base+p.len<=q.base+q.len
 cont:∀id p,φ id=J p->∀m,m<=ops.size->Valid R ops.size a (rootOf (R.H ops.size) id) m->id<(R.H m).next->∀o,(R.H m).get id=J o->jb (R.H m) id->lY φ w o p
 size:w0.heap.size<=w.heap.size
 os:w.os=w0.os
 tape:w.tape=w0.tape
 output:w.output=w0.output
 nh:∀b,b<w0.heap.size->w.heap[b]?=w0.heap[b]?\/∃id p,φ0 id=J p/\p.aY=b/\¬fI (R.H 0) id/\∃i,i∈a/\i<ops.size/\(rootOf (R.H 0) id∈R.wr i\/rootOf (R.H 0) id∈R.gr i)new:∀id p,φ id=J p->φ0 id=Z->w0.heap.size<=p.aY\/∃j q,φ0 j=J q/\q.aY=p.aY/\¬fI (R.H 0) j/\rootOf (R.H ops.size) j=rootOf (R.H ops.size) id/\∃i,i∈a/\i<ops.size/\rootOf (R.H ops.size) j∈R.gr i
 mi:∀id p,φ id=J p->φ0 id=Z->rootOf (R.H ops.size) id<(R.H 0).next->∃j q,φ0 j=J q/\rootOf (R.H ops.size) j=rootOf (R.H ops.size) id
 own:∀id p,φ id=J p->∀i,i∈a->i<ops.size->(R.H i).next<=id->id<(R.H (i+1)).next->rootOf (R.H ops.size) id<(R.H i).next->rootOf (R.H ops.size) id∈R.gr i
 map:∀i,i∈a->i<ops.size->∀r,r∈R.wr i\/r∈R.gr i->r<(R.H i).next/\∃id p,φ id=J p/\id<(R.H i).next/\rootOf (R.H ops.size) id=r
 cover:∀i,i∈a->i<ops.size->∀id,(R.H i).next<=id->id<(R.H (i+1)).next->∃p,φ id=J p
 MZ:F.tmps.size=(R.fr 0).n
 MU:∀t k,ws.get t=J k->k∈a->VR φ (((R.fr ops.size).tmps.get t).getD fo) (F.tmps.getD t undef)Jf:∀t,(∀k,ws.get t=J k->k∉a)->VR φ (((R.fr 0).tmps.get t).getD fo) (F.tmps.getD t undef)fn:F.fn=F0.fn
 mode:F.mode=F0.mode
 kind:F.kind=F0.kind
 round:F.roundOf=F0.roundOf
 defers:F.defers=F0.defers
theorem gk.slot(T:gk P ak rec ops ws R φ0){i:Nat}{o:aB}(a:ops[i]?=J o)(t:Tmp):(R.fr (i+1)).tmps.get t=if o.dst=J t then J (R.v i)else(R.fr i).tmps.get t:=by have h:=(T.ok.step i o a).slot;rw[Dq]at h;cases hd:o.dst with|none=>rw[hd]at h;obtain h:=bt h;rw[<-h];simp|some d=>
 rw[hd]at h;simp only[eK]at h;by_cases b:d<(R.fr i).n
 . simp only[b,dM,aR]at h;have h:=bt h;rw[<-h];simp only[xw];by_cases e:d=t;.subst e;rw[if_pos rfl,Tr.lh]
   .rw[if_neg e,Tr.jr _ _ e]
 .simp[b]at h
theorem gk.YX(T:gk P ak rec ops ws R φ0)(t:Tmp):∀j,j<=ops.size->((∀k,ws.get t=J k->j<=k)->(R.fr j).tmps.get t=(R.fr 0).tmps.get t):=by intro j;induction j with|zero=>grind|succ j i=>intro a b;have h:ops[j]?=J _:=mX ab;generalize ops[j]=o at h;rw[T.slot h t,if_neg,i ab ai];intro hd;have:=T.qE.writes j o t h hd;grind
theorem gk.YY(T:gk P ak rec ops ws R φ0){t:Tmp}{k:Nat}(h:ws.get t=J k):∀j,k<j->j<=ops.size->(R.fr j).tmps.get t=J (R.v k):=by obtain⟨o,a,hd⟩:=T.qE.only t k h;intro j;induction j with|zero=>omega|succ j i=>
 intro b c;by_cases e:k=j;.subst e;rw[T.slot a t,if_pos hd]
 .have w:ops[j]?=J _:=mX ab;generalize ops[j]=q at w;rw[T.slot w t,if_neg,i ab ab];intro l;have:=T.qE.writes j q t w l;grind
theorem Inv.operand(T:gk P ak rec ops ws R φ0){b:aD}{i:Nat}{o:aB}(I:Inv P ops ws R φ0 w0 F0 a φ w F)(l:qP ops ord)(j:ord=a++i::b)(n:ops[i]?=J o){t:Tmp}(p:ws.get t=Z\/∃k,ws.get t=J k/\(k=i\/rR ops k i\/rR ops i k)):VR φ (((R.fr i).tmps.get t).getD fo) (F.tmps.getD t undef):=by
 have r:=(Array.getElem?_eq_some_iff.1 n).1;have B:i∉a:=λh=>by have:=l.nodup;grind
 rcases p with s|⟨k,d,c⟩;.rw[T.YX t i ab aT];exact I.Jf t aT
 . have K:k∉a->i<=k->VR φ (((R.fr i).tmps.get t).getD _) _:=λe q=>by rw[T.YX t i ab aT];exact I.Jf t aT
   rcases c with rfl|c|c;.grind
   .have u:=l.Cc c a b j;have O:=T.qE.lt c;have e:=I.MU t k d u;rw[T.YY d _ ab ab]at e;rw[T.YY d i O ab];omega
   .have m:=T.qE.lt c;refine K (λu=>?_) ab;obtain⟨f,g,rfl⟩:=Jx u;have:=l.Cc c f (g++i::b) ai;grind
theorem zn(T:gk P ak rec ops ws R φ0){i:Nat}{o:aB}(a:ops[i]?=J o)(h:r∈R.wr i\/r∈R.gr i):R.K i=.act/\nY o.op=C/\wZ o.op=C:=by
 have K:R.K i=.act:=by grind[db.wr,db.gr]
 have s:=(T.ok.step i o a).act K;grind[sI,db.wr,db.gr]
theorem aJ3(h:Jd ops.toList j=V):∀(p:Nat)(q:aB),ops[p]?=J q->nY q.op=V\/wZ q.op=V\/p=j\/rR ops p j\/rR ops j p:=by have:=(adn (Q:=λ(o:aB)(p:Nat)=>(nY o.op||wZ o.op||aw p j||tied (DY ops.toList).1 p j)=V) _ ab aT _ _ h).2;intro p q b;have a:=this p q ai;grind[bE,tied,GV]
theorem adF(T:gk P ak rec ops ws R φ0){i:Nat}{o:aB}(a:ops[i]?=J o)(h:r∈R.gr i):Jd ops.toList i=V/\eA P (R.fr i).tmps (R.H i) o=Z:=by obtain⟨K,_,_⟩:=zn T a (.inr h);have s:=(T.ok.step i o a).act K;grind[rk,db.gr,db.gu]
theorem Ss(T:gk P ak rec ops ws R φ0){b:aD}{i c n:Nat}{o:aB}(l:qP ops ord)(q:ord=a++i::b)(e:ops[i]?=J o)(j:c∈a)(U:c<ops.size)(p:i<c)(m:r∈R.wr i\/r∈R.gr i)(d:n∈R.gr c):False:=by
 obtain⟨K,s,v⟩:=zn T e m;have O:ops[c]?=J ops[c]:=mX U;obtain⟨k,_⟩:=adF T O d;have B:i∉a:=λh=>by have:=l.nodup;grind
 rcases aJ3 k i o e with h|h|h|h|h;.grind
 .grind
 .omega
 .obtain⟨f,g,rfl⟩:=Jx j;have:=l.Cc h f (g++i::b) ai;grind
 .have:=T.qE.lt h;omega
def beyond(R:db)(i:Nat)(a b:bc):bc:=λid=>if(R.H i).next<=id/\id<(R.H (i+1)).next then b id else a id
theorem gk.alJ(T:gk P ak rec ops ws R φ0)(I:Inv P ops ws R φ0 w0 F0 a φ w F){b:bc}{n:aW}{d:Nat}{q:Pl}{o:b9}(e:φ d=J p)(l:m<=ops.size)(U:d<(R.H m).next)(u:(R.H m).get d=J o)(t:jb (R.H m) d)(h:lY b n o q):lY (oB (R.H m).next b) n o q:=by
 obtain⟨ψ,z,k,c,s,x1,v,_⟩:=T.Zw m l;have f:∃g,ψ d=J g:=by
  rcases I.cw d p e with⟨j,r⟩|⟨_,i,x,y,j,_⟩;.exact⟨p,x1 _ _ r⟩
  .exact v d (fX (T.next ab ab) j) U
 obtain⟨g,E⟩:=f;exact(s.obj d g o E trivial t u).cut (λd p h=>s.stat.lt (T.hinv m l) h) h
theorem gk.aaS(T:gk P ak rec ops ws R φ0){i:Nat}{t:Tmp}{v:aC}(a:i<=ops.size)(h:VR φ (((R.fr i).tmps.get t).getD fo) v):VR (oB (R.H i).next φ) (((R.fr i).tmps.get t).getD fo) v:=by obtain⟨ψ,w,k,c,s,x1,b,t1⟩:=T.Zw i a;exact(t1.2 t).cut (λid p h=>s.stat.lt (T.hinv i a) h) h
theorem Inv.Ar(T:gk P ak rec ops ws R φ0){i:Nat}(I:Inv P ops ws R φ0 w0 F0 a φ w F)(B:i<ops.size){S:Nat->Prop}(v:∀r,S r->Valid R ops.size a r i):bM S (oB (R.H i).next φ) (R.H i).fresh w:=by
 have c:=(gj.fresh (R.H i)).symm;refine bM.Dn c ⟨⟨λid p h=>?_,λid p l r A e h s=>?_,λx y p q b d n m=>?_,λx y p q b d n m O=>?_⟩,λid p o h u t s=>?_⟩;.obtain⟨b,d⟩:=uc h;obtain⟨o,z,_⟩:=I.obj id p d i ab b;exact⟨I.aY id p d,ai⟩
 .obtain⟨b,d⟩:=uc h;obtain⟨o,z,D⟩:=I.obj id p d i ab b;grind
 .obtain⟨f,g⟩:=uc b;obtain⟨j,k⟩:=uc d;rw[<-T.root ab (bJ _) f,<-T.root ab (bJ _) j];exact I.inj x y p q g k n i ab f m
 .obtain⟨f,g⟩:=uc b;obtain⟨j,k⟩:=uc d;exact I.mono x y p q g k n O i ab j m
 .obtain⟨b,d⟩:=uc h;rw[<-T.root ab (bJ _) b]at u;exact T.alJ I d ab b s t (I.cont id p d i ab (v _ u) b o s t)
theorem Inv.aBd(T:gk P ak rec ops ws R φ0){i:Nat}(I:Inv P ops ws R φ0 w0 F0 a φ w F)(x:i<ops.size)(B:i∉a):∀(id:Nat)(p:Pl),φ id=J p->(R.H i).next<=rootOf (R.H ops.size) id->rootOf (R.H ops.size) id<(R.H (i+1)).next->False:=by
 intro id;refine Nat.strongRecOn id ?_;intro id y p c t u;rcases I.cw id p c with⟨d,f⟩|⟨_,b,r,n,d,f⟩
 . have:rootOf (R.H ops.size) id<=id:=by obtain⟨o,h,_⟩:=I.obj id p c _ (bJ _) (gi d (T.next (lX _) (bJ _)));cases g:o.eu with|true=>cases o<;>simp[b9.eu]at g;rw[pY h];exact((T.hinv _ ab).root id _ _ _ _ h).1|false=>grind[yC]
   have:=T.next (lX i) ab;omega
 . have l:rootOf (R.H ops.size) id<=id:=by obtain⟨o,h,_⟩:=I.obj id p c _ (bJ _) (gi f (T.next ab (bJ _)));cases g:o.eu with|true=>cases o<;>simp[b9.eu]at g;rw[pY h];exact((T.hinv _ ab).root id _ _ _ _ h).1|false=>grind[yC]
   by_cases e:b=i;.grind
   . by_cases U:b<i;.have:=T.next (m:=b+1) (m':=i) ab ab;omega
     .have v:=T.next (m:=i+1) (m':=b) ab ab;have j:=I.own id p c b r n d f ab;obtain⟨_,A,z,k,q,s⟩:=I.map b r n _ (.inr j);grind
theorem R0{i d:Nat}(h:¬((R.H i).next<=d/\d<(R.H (i+1)).next)):beyond R i φ ψ d=φ d:=by grind[beyond]
theorem aaA{i d:Nat}(h:(R.H i).next<=d/\d<(R.H (i+1)).next):beyond R i φ ψ d=ψ d:=by grind[beyond]
theorem Tl{i:Nat}{b:aD}(h:F.todo=.inRegion ops (i::b)::k):(F.finish u).tmps=(match(ops[i]?).bind (·.dst)with|some d=>F.tmps.setIfInBounds d u|none=>F.tmps):=by grind[Frame.finish]
theorem Hs{i:Nat}{b:aD}(h:F.todo=.inRegion ops (i::b)::k):(F.finish u).fn=F.fn/\(F.finish u).mode=F.mode/\(F.finish u).kind=F.kind/\(F.finish u).roundOf=F.roundOf/\(F.finish u).defers=F.defers/\(F.finish u).todo=.inRegion ops b::k:=by grind[Frame.finish]
theorem gk.n(T:gk P ak rec ops ws R φ0):∀j,j<=ops.size->(R.fr j).n=(R.fr 0).n:=by intro j;induction j with|zero=>intro _;rfl|succ j i=>
 intro a;have o:ops[j]?=J _:=mX ab;have h:=(T.ok.step j _ o).slot;rw[<-i ab];rw[Dq]at h;split at h
 . rename_i d _;simp only[eK]at h;by_cases b:d<(R.fr j).n;.simp only[b,dM,aR]at h;rw[<-bt h]
   .simp[b]at h
 .rw[<-bt h]
set_option maxHeartbeats 4000000 in theorem Inv.step(T:gk P ak rec ops ws R φ0){w':aW}{b:aD}{i:Nat}{o:aB}{S:Nat->Prop}(I:Inv P ops ws R φ0 w0 F0 a φ w F)(hl:qP ops ord)(he:ord=a++i::b)(ho:ops[i]?=J o)(ht:F.todo=.inRegion ops (i::b)::k)(hSV:∀r,S r->Valid R ops.size a r i)(OG:∀r,r∈R.wr i->S r)(HD:∀r,r∈R.gr i->∀r',S r')(hp:hQ S (oB (R.H i).next φ) (R.H i).fresh w ψ (R.HX i) w')(hv:∀d,o.dst=J d->VR ψ (R.v i) u):Inv P ops ws R φ0 w0 F0 (a++[i]) (beyond R i φ ψ) w' (F.finish u):=by
 have N:i<ops.size:=(Array.getElem?_eq_some_iff.1 ho).1;have Bi:i∉a:=λh=>by have:=hl.nodup;grind
 obtain⟨ve,jv,fr⟩:=hp;have n01:=T.next (m:=0) (m':=i) ab ab;have ni1:=T.next (m:=i) (m':=i+1) ab ab;have uZ:(R.HX i).next=(R.H (i+1)).next:=((T.same i N).2.2).symm;have FL:∀id,id<(R.H i).next->rootOf (R.H i).fresh id=rootOf (R.H ops.size) id:=λid h=>by rw[(gj.fresh (R.H i)).root];exact(T.root ab (bJ _) h).symm
 have IZ:∀id,id<(R.H (i+1)).next->rootOf (R.HX i) id=rootOf (R.H ops.size) id:=λid h=>by rw[<-(T.same i N).root];exact(T.root ab (bJ _) h).symm
 have ψlt:∀id p,ψ id=J p->id<(R.H (i+1)).next:=λid p h=>by rw[<-uZ];exact jv.stat.lt ve h
 have aNl:∀id p,ψ id=J p->id<(R.H i).next->φ id=J p:=λid p h U=>by cases hc:oB (R.H i).next φ id with|some q=>have:=fr.ext _ _ hc;grind[uc]|none=>have h5:(R.H i).next<=id:=(fr.new id p h hc).1;omega
 have aLq:∀id p,φ id=J p->¬((R.H i).next<=id/\id<(R.H (i+1)).next):=λid p h hh=>by
   rcases I.cw id p h with⟨g,_⟩|⟨_,v,ry,nR,c,B⟩;.omega
   . by_cases e:v=i;.grind
     . by_cases U:v<i;.have:=T.next (m:=v+1) (m':=i) ab ab;omega
       .have:=T.next (m:=i+1) (m':=v) ab ab;omega
 have E1:Ext φ (beyond R i φ ψ):=λid p h=>by grind[R0]
 have E2:Ext ψ (beyond R i φ ψ):=λid p h=>by grind[aaA,R0]
 have n:∀id p,beyond R i φ ψ id=J p->((R.H i).next<=id/\id<(R.H (i+1)).next/\ψ id=J p)\/(¬((R.H i).next<=id/\id<(R.H (i+1)).next)/\φ id=J p):=λid p h=>by grind[aaA,R0]
 have Ng:∀id,(R.H i).next<=id->oB (R.H i).next φ id=Z:=λid h=>by grind[oB]
 have aNj:∀id,(R.H i).next<=id->id<(R.H (i+1)).next->φ0 id=Z:=λid g f=>by cases hc:φ0 id with|none=>rfl|some p=>exact absurd ⟨g,f⟩ (aLq id p (I.ext _ _ hc))
 have E:∀id p,φ id=J p->(R.H (i+1)).next<=id->∃M,M∈a/\M<ops.size/\i<M/\(R.H M).next<=id/\id<(R.H (M+1)).next:=λid p h Er=>by
   rcases I.cw id p h with⟨g,_⟩|⟨_,v,ry,nR,c,B⟩;.omega
   .refine⟨v,ry,nR,?_,c,B⟩;apply Gt;intro D;have:=T.next (m:=v+1) (m':=i+1) ab ab;omega
 have Zv:∀bk,bk<w.heap.size->w'.heap[bk]?=w.heap[bk]?\/∃A O,A<(R.H i).next/\φ A=J O/\O.aY=bk/\¬fI (R.H i) A/\(rootOf (R.H ops.size) A∈R.wr i\/rootOf (R.H ops.size) A∈R.gr i):=λbk L=>by
   rcases fr.nh bk L with h|⟨A,O,g,f,c,B⟩;.grind
   . obtain⟨a1,a2⟩:=uc g;refine .inr ⟨A,O,a1,a2,f,λhr=>c (((gj.fresh (R.H i)).ro A).2 hr),?_⟩;rw[FL A a1,No,Gx]at B;rcases B with B|B
     . have:rootOf (R.H ops.size) A<(R.H i).next:=by rw[T.root ab (bJ _) a1];exact qG (T.hinv i ab) a1
       have h4':(R.H i).next<=rootOf (R.H ops.size) A:=B;omega
     omega
 have aKy:∀id p,φ id=J p->(R.H (i+1)).next<=id->w'.heap[p.aY]?=w.heap[p.aY]?:=λid p h Er=>by
   rcases Zv p.aY (I.aY id p h)with D|⟨A,O,g,f,c,B,h5⟩;.omega
   . exfalso;have hr:=I.inj A id O p f h c i ab g B;obtain⟨M,G,H,c3,Q,K⟩:=E id p h Er;have aMw:rootOf (R.H ops.size) A<(R.H i).next:=by rw[T.root ab (bJ _) g];exact qG (T.hinv i ab) g
     have:=T.next (m:=i) (m':=M) ab ab;have hg:=I.own id p h M G H Q K ab;grind[Ss]
 have W:∀x px,(R.H i).next<=x->x<(R.H (i+1)).next->ψ x=J px->px.aY<w.heap.size->∃j q,j<(R.H i).next/\φ j=J q/\q.aY=px.aY/\¬fI (R.H i) j/\rootOf (R.H ops.size) j=rootOf (R.H ops.size) x/\rootOf (R.H ops.size) j∈R.gr i:=λx px g f c U=>by
   obtain⟨_,B⟩:=fr.new x px c (Ng x g);rcases B with B|⟨j,q,G,H,c3,Q,K⟩;.omega
   . obtain⟨d1,d2⟩:=uc G;refine⟨j,q,d1,d2,H,λhr=>c3 (((gj.fresh (R.H i)).ro j).2 hr),?_,?_⟩;.grind
     . rw[FL j d1,Gx]at K;rcases K with K|K
       . have:rootOf (R.H ops.size) j<(R.H i).next:=by rw[T.root ab (bJ _) d1];exact qG (T.hinv i ab) d1
         have c5':(R.H i).next<=rootOf (R.H ops.size) j:=K;omega
       omega
 have aAM:∀x px y py,(R.H i).next<=x->x<(R.H (i+1)).next->ψ x=J px->φ y=J py->py.aY=px.aY->rootOf (R.H ops.size) y=rootOf (R.H ops.size) x/\y<(R.H i).next:=λx px y py g f c B h5=>by
   obtain⟨j,q,G,H,c3,Q,K,c6⟩:=W x px g f c (by rw[<-h5];exact I.aY y py B);have hr:=I.inj j y q py H B (c3.trans h5.symm) i ab G Q;refine⟨hr.symm.trans K,?_⟩;apply Gt;intro Er;have ON:(R.H (i+1)).next<=y:=by grind
   obtain⟨M,d1,d2,d3,d4,d5⟩:=E y py B ON;have aMx:rootOf (R.H ops.size) j<(R.H i).next:=by rw[T.root ab (bJ _) G];exact qG (T.hinv i ab) G
   have:=T.next (m:=i) (m':=M) ab ab;have hg:=I.own y py B M d1 d2 d4 d5 ab;exact Ss T hl he ho d1 d2 d3 (.inr c6) hg
 have E5:∀x,x∈a++[i]↔x∈a\/x=i:=λx=>aO;have fH:w.heap.size<=w'.heap.size:=fr.size;have Mx:∀x m,x<(R.H (i+1)).next->i+1<=m->m<=ops.size->¬fI (R.H m) x->¬fI (R.HX i) x:=λx m g f c B h5=>B (T.ro f c g (((T.same i N).ro x).2 h5));have Y:∀x m,(R.H i).next<=x->m<=ops.size->x<(R.H m).next->i+1<=m:=λx m g f c=>by apply Gt;intro D;have:=T.next (m:=m) (m':=i) ab ab;omega
 have vS:∀r m,S r->Valid R ops.size (a++[i]) r m->i+1<=m->∀s,i+1<=s->s<m->s<ops.size->r∉R.wr s:=λr m hS hV z s g f c hw=>by
   have e1:=(hV s c hw).2 f;rcases(E5 s).1 e1 with e1|e1;.have:=(hSV r hS s c hw).1 e1;omega
   omega
 refine{ext:=I.ext.trans E1,aY:=?_,cw:=?_,obj:=?_,inj:=?_,mono:=?_,cont:=?_,size:=fX I.size fH,os:=fr.os.trans I.os,tape:=fr.tape.trans I.tape,output:=fr.output.trans I.output,nh:=?_,new:=?_,mi:=?_,own:=?_,map:=?_,cover:=?_,MZ:=?_,MU:=?_,Jf:=?_,fn:=?_,mode:=?_,kind:=?_,round:=?_,defers:=?_}
 . intro id p h;rcases n id p h with⟨_,_,c⟩|⟨_,c⟩;.exact(jv.stat.cw id p c).1
   .exact gi (I.aY id p c) fH
 . intro id p h;rcases n id p h with⟨g,f,c⟩|⟨_,c⟩;.grind
   .rcases I.cw id p c with hd|⟨hd,v,b1,b2⟩;all_goals grind
 . intro id p h m z U;rcases n id p h with⟨g,f,c⟩|⟨_,c⟩;.have kQ:=Y id m g z U;obtain⟨_,Pd⟩:=jv.stat.cw id p c;cases hg:(R.HX i).get id with|none=>grind|some o1=>
       have kz:(R.H (i+1)).get id=J o1:=by rw[(T.same i N).get];omega
       obtain⟨o2,g2,l2⟩:=T.keep kQ z f kz;refine⟨o2,g2,λl r fl e he=>?_⟩;subst he;cases hc:o1.eu with|true=>cases o1<;>simp[b9.eu]at hc;obtain⟨l',fl',e1,e2⟩:=l2.1 _ _ _ _ rfl;obtain⟨rfl,rfl,rfl,rfl⟩:=b9.cells.inj e1;rw[e2];exact jv.stat.len id p _ _ _ _ c hg|false=>exfalso;exact l2.2 (λl r fl e he=>by grind[b9.eu]) l r fl e rfl
   .exact I.obj id p c m z U
 . intro x y p q D X L m z U eC;rcases n x p D with⟨g,f,c⟩|⟨g1,c⟩
   . rcases n y q X with⟨k1,k2,k3⟩|⟨k1,k3⟩;.have:=jv.stat.inj x y p q c k3 L (Mx x m f (Y x m g z U) z eC);grind
     grind
   . rcases n y q X with⟨k1,k2,k3⟩|⟨k1,k3⟩;.grind
     .exact I.inj x y p q c k3 L m z U eC
 . intro x y p q D X L wO m z U eC;rcases n x p D with⟨g,f,c⟩|⟨g1,c⟩
   . rcases n y q X with⟨k1,k2,k3⟩|⟨k1,k3⟩;.have kQ:=Y y m k1 z U;exact jv.stat.mono x y p q c k3 L (eC.imp (Mx x m f kQ z) (Mx y m k2 kQ z)) wO
     grind
   . rcases n y q X with⟨k1,k2,k3⟩|⟨k1,k3⟩;.have awg:=(aAM y q x p k1 k2 k3 c L).2;have kQ:=Y y m k1 z U;have hψx:ψ x=J p:=fr.ext _ _ (zu awg c);exact jv.stat.mono x y p q hψx k3 L (eC.imp (Mx x m ab kQ z) (Mx y m k2 kQ z)) wO
     .exact I.mono x y p q c k3 L wO m z U eC
 . intro id p h m z hV U o' hg ha;have take:S (rootOf (R.H ops.size) id)\/(R.H i).next<=rootOf (R.H ops.size) id->id<(R.H (i+1)).next->ψ id=J p->(R.H (i+1)).get id=J o'->jb (R.H (i+1)) id->lY (beyond R i φ ψ) w' o' p:=λhS hid hψ kz TN=>by
     have Ep:(R.HX i).get id=J o':=by rw[<-(T.same i N).get];omega
     have TO:jb (R.HX i) id:=((T.same i N).alive id).1 TN;exact(jv.obj id p o' hψ (by rw[IZ id hid];exact hS) TO Ep).mono E2 rfl
   by_cases hw:rootOf (R.H ops.size) id∈R.wr i
   . have hS:=OG _ hw;have him:i<m:=(hV i N hw).1 ((E5 i).2 (.inr rfl));have aej:id<(R.H (i+1)).next:=by
       rcases n id p h with⟨_,f,_⟩|⟨_,c⟩;.omega
       . apply Gt;intro Er;obtain⟨M,G,H,c3,Q,K⟩:=E id p c ab;have avR:rootOf (R.H ops.size) id<(R.H i).next:=by
           have:rootOf (R.H ops.size) id∈(R.HX i).bT:=by grind[No]
           rcases fr.uK _ this with D|⟨D,_⟩;.grind[Heap.fresh]
           .exact D
         have:=T.next (m:=i) (m':=M) ab ab;have pR:=I.own id p c M G H Q K ab;grind[Ss]
     have hψ:ψ id=J p:=by
       rcases n id p h with⟨_,_,c⟩|⟨hn,c⟩;.omega
       .exact fr.ext _ _ (zu (by omega) c)
     have hex:∃o1,(R.H (i+1)).get id=J o1:=by obtain⟨_,iI⟩:=jv.stat.cw id p hψ;cases D:(R.HX i).get id with|none=>grind|some o1=>exact⟨o1,by rw[(T.same i N).get];omega⟩
     obtain⟨o1,kz⟩:=hex;obtain⟨e1,e2⟩:=T.view (m:=i+1) (m':=m) ab z aej (λs g f wN=>by rw[<-T.root (m:=i+1) ab (bJ _) aej]at wN;grind) kz;grind
   . have TM:Valid R ops.size a (rootOf (R.H ops.size) id) m:=λs kA wN=>by have:=hV s kA wN;rw[E5]at this;have cB:s≠i:=λe=>hw ai;constructor;all_goals grind
     rcases n id p h with⟨g,f,c⟩|⟨hn,c⟩;.
       have kQ:=Y id m g z U;have avt:∀s,i+1<=s->s<m->rootOf (R.H (i+1)) id∉R.wr s:=λs g1 g2 wN=>by
         rw[<-T.root (m:=i+1) ab (bJ _) f]at wN;by_cases K8:rootOf (R.H ops.size) id<(R.H i).next
         . have pR:rootOf (R.H ops.size) id∈R.gr i:=by have:=(fr.mi id p c (Ng id g) (by rw[IZ id f];exact K8)).1;grind[Gx]
           grind
         .have uX:=(TM s ab wN).2 g2;obtain⟨_,qy,p',b1,b2,b3⟩:=I.map s uX ab _ (.inl wN);refine I.aBd T N Bi qy p' b1 ab ?_;rw[b3,T.root (m:=i+1) ab (bJ _) f];exact qG (T.hinv (i+1) ab) f
       obtain⟨_,iI⟩:=jv.stat.cw id p c;cases D:(R.HX i).get id with|none=>grind|some o1=>
         have kz:(R.H (i+1)).get id=J o1:=by rw[(T.same i N).get];omega
         obtain⟨e1,e2⟩:=T.view (m:=i+1) (m':=m) kQ z f avt kz;rw[hg]at e1;cases e1;refine take ?_ f c kz (e2.2 ha);by_cases K8:rootOf (R.H ops.size) id<(R.H i).next;.left;have:=(fr.mi id p c (Ng id g) (by rw[IZ id f];exact K8)).1;grind[Gx]
         omega
     . have ix:=I.cont id p c m z TM U o' hg ha;by_cases auK:(R.H (i+1)).next<=id;.exact ix.mono E1 (aKy id p c auK)
       . have Lh:id<(R.H i).next:=by omega
         rcases Zv p.aY (I.aY id p c)with D|⟨A,O,g1,g2,g3,g4,g5⟩;.exact ix.mono E1 D
         .have hr:=I.inj A id O p g2 c g3 i ab g1 g4;rw[hr]at g5;have pR:rootOf (R.H ops.size) id∈R.gr i:=g5.resolve_left hw;have hS:=HD _ pR;have hVi:=hSV _ (hS (rootOf (R.H ops.size) id));obtain⟨oi,KZ,_⟩:=I.obj id p c i ab Lh;obtain⟨e1,e2⟩:=T.aKJ TM hVi z ab U Lh rfl hg ⟨oi,KZ⟩;obtain⟨f1,f2⟩:=T.view (m:=i) (m':=i+1) ab ab Lh (λs q1 q2 wN=>by have:s=i:=ab;subst this;rw[<-T.root (m:=s) ab (bJ _) Lh]at wN;grind) e1;exact take (.inl (hS _)) ab (fr.ext _ _ (zu Lh c)) f1 (f2.1 (e2.1 ha))
 . intro bk L;rcases I.nh bk L with D|⟨id,p,g,f,c,v,b1,b2,b3⟩
   . rcases Zv bk (gi L I.size)with X|⟨A,O,g1,g2,g3,g4,g5⟩;.grind
     .right;cases EM:φ0 A with|some q=>
         have e:=I.ext _ _ EM;rw[g2]at e;cases e;have HS:A<(R.H 0).next:=by rcases I.cw A O g2 with⟨hd,_⟩|⟨hd,_⟩;all_goals grind
         refine⟨A,O,EM,g3,λhr=>g4 (T.ro (lX i) ab HS hr),i,aO,N,?_⟩;rw[<-T.root (m:=0) (Nat.zero_le _) (bJ _) HS];omega|none=>
         rcases I.new A O g2 EM with X|⟨j,q,G,H,c3,Q,K⟩;.omega
         . have HS:j<(R.H 0).next:=by rcases I.cw j q (I.ext _ _ G)with⟨hd,_⟩|⟨hd,_⟩;all_goals grind
           refine⟨j,q,G,H.trans g3,c3,i,aO,N,?_⟩;rw[<-T.root (m:=0) (Nat.zero_le _) (bJ _) HS,Q];omega
   grind
 . intro id p h EM;rcases n id p h with⟨g,f,c⟩|⟨_,c⟩
   . by_cases L:w.heap.size<=p.aY;.exact .inl (fX I.size L)
     .obtain⟨j,q,G,H,c3,Q,K,c6⟩:=W id p g f c ab;cases Bj:φ0 j with|some q'=>
         have e:=I.ext _ _ Bj;rw[H]at e;cases e;have HS:j<(R.H 0).next:=by rcases I.cw j q H with⟨hd,_⟩|⟨hd,_⟩;all_goals grind
         exact .inr ⟨j,q,Bj,c3,λhr=>Q (T.ro (lX i) ab HS hr),K,i,aO,N,c6⟩|none=>
         rcases I.new j q H Bj with X|⟨j',q',d1,d2,d3,d4,v,d5,d6⟩;.omega
         grind
   . rcases I.new id p c EM with X|⟨j,q,G,H,c3,Q,v,K,c6⟩;.omega
     grind
 . intro id p h EM hr;rcases n id p h with⟨g,f,c⟩|⟨_,c⟩;.obtain⟨_,j,q,G,H⟩:=fr.mi id p c (Ng id g) (by rw[IZ id f];exact gi hr n01);obtain⟨d1,d2⟩:=uc G;rw[FL j d1,IZ id f]at H;cases Bj:φ0 j with|some q'=>grind|none=>obtain⟨j',q',e1,e2⟩:=I.mi j q d2 Bj ab;grind
   .exact I.mi id p c EM hr
 . intro id p h v ry nR g f hr;rcases(E5 v).1 ry with KP|rfl
   . rcases n id p h with⟨k1,k2,k3⟩|⟨_,c⟩
     . exfalso;by_cases U:v<i;.grind
       .have cB:v≠i:=λe=>Bi ai;have:=T.next (m:=i+1) (m':=v) ab ab;omega
     .exact I.own id p c v KP nR g f hr
   . rcases n id p h with⟨k1,k2,k3⟩|⟨hn,c⟩;.have:=(fr.mi id p k3 (Ng id g) (by rw[IZ id f];exact hr)).1;grind[Gx]
     omega
 . intro v ry nR r hr;rcases(E5 v).1 ry with KP|rfl;.obtain⟨g,id,p,f,c⟩:=I.map v KP nR r hr;exact⟨g,id,p,E1 _ _ f,c⟩
   . have key:r<(R.H v).next/\∃id p,oB (R.H v).next φ id=J p/\rootOf (R.H v).fresh id=r:=by
       rcases hr with hr|hr;.rw[<-No]at hr;rcases fr.uK r hr with D|⟨D,X⟩;all_goals grind[Heap.fresh]
       .rw[<-Gx]at hr;rcases fr.uT r hr with D|⟨D,X⟩;all_goals grind[Heap.fresh]
     obtain⟨g,id,p,f,c⟩:=key;obtain⟨d1,d2⟩:=uc f;exact⟨g,id,p,E1 _ _ d2,d1,aT⟩
 . intro v ry nR id g f;rcases(E5 v).1 ry with KP|rfl;.obtain⟨p,hp⟩:=I.cover v KP nR id g f;exact⟨p,E1 _ _ hp⟩
   .obtain⟨p,hp⟩:=fr.cover id g ab;exact⟨p,E2 _ _ hp⟩
 .rw[Tl ht];rw[ho];cases hd:o.dst<;>simp[hd,I.MZ]
 . intro t s kA uX;obtain⟨ok,dZ,hdk⟩:=T.qE.only t s kA;have OT:s<ops.size:=(Array.getElem?_eq_some_iff.1 dZ).1;have OK:=T.YY kA ops.size OT (bJ _);rw[Tl ht,ho];by_cases hd:o.dst=J t
   . have OS:s=i:=by have:=T.qE.writes i o t ho hd;simp_all
     rw[OS]at OK;have U:t<F.tmps.size:=by have:=(T.ok.step i o ho).slot;rw[Dq]at this;rw[hd]at this;simp only[eK]at this;rw[I.MZ,<-T.n i ab];grind
     rw[OK];simp only[cQ,hd];rw[Gq,Array.getElem?_setIfInBounds_self_of_lt U];exact(hv t hd).mono E2
   . have cB:s≠i:=λe=>by simp_all
     have g:=(I.MU t s kA aT).mono E1;have f:(match(J o).bind (·.dst)with|some d=>F.tmps.setIfInBounds d u|none=>F.tmps).getD t undef=F.tmps.getD t undef:=by cases u6:o.dst with|none=>grind|some d=>have:d≠t:=λe=>hd aT;simp only[cQ,u6,Gq];grind
     grind
 . intro t kA;have hd:o.dst≠J t:=λhd=>kA i (T.qE.writes i o t ho hd) aO;rw[Tl ht,ho];have f:(match(J o).bind (·.dst)with|some d=>F.tmps.setIfInBounds d u|none=>F.tmps).getD t undef=F.tmps.getD t undef:=by cases u6:o.dst with|none=>grind|some d=>have:d≠t:=λe=>hd aT;simp only[cQ,u6,Gq];grind
   rw[f];exact(I.Jf t (λk'' h D=>kA k'' h ((E5 k'').2 (.inl D)))).mono E1
 .rw[(Hs ht).1];exact I.fn
 .rw[(Hs ht).2.1];exact I.mode
 .rw[(Hs ht).2.2.1];exact I.kind
 .rw[(Hs ht).2.2.2.1];exact I.round
 .rw[(Hs ht).2.2.2.2.1];exact I.defers
theorem UZ(x:Nat)(l:aD):By x l=V↔x∈l:=by grind[By,qf,bE]
theorem abr{w:aD}{r:ah (List (Touch×Nat))}{x:Nat}(h:AM.clear w r=V)(a:x∈w):∃l,r=J l/\∀t,t∈l->t.2≠x:=by unfold AM.clear at h;grind[qf,UZ]
theorem JK{a b:jn}(h:apart a b=V):(AM.clear a.writes b.reads=V/\AM.clear b.writes a.reads=V/\∀x,x∈a.writes->x∉b.writes)\/PT a b=V:=by grind[apart,qf,UZ]
theorem Oy{o:aB}{k:AV}(h:eA P tm H o=J [(.look t k,r)]):wZ o.op=V/\∃m x,o.op=.lookup t m x C/\bB P tm m=J (.map r)/\bB P tm x=J k/\FQ P t k=V:=by
 obtain⟨g,op,j,Q,f,i⟩:=o;unfold eA at h;cases op<;>simp only at h<;>try(simp at h;done)
 case load=>split at h<;>simp at h
 case store=>split at h<;>simp at h
 case slice=>split at h<;>simp at h
 case mapEntry=>grind
 case lookup e m x ok=>cases ok with|true=>grind|false=>
  simp only at h;split at h
  . rename_i l d b c;simp only[xw,List.cons.injEq,Nv,and_true]at h;obtain⟨a,rfl⟩:=h;rcases s:FQ P e d with _|_;.grind
    rw[s]at a;obtain⟨rfl,rfl⟩:=Touch.look.inj a;exact⟨rfl,m,x,rfl,b,c,s⟩
  all_goals grind
 grind
theorem asq{o:aB}{k:AV}(h:eA P tm H o=J [(.entry t k,r)]):∃m x,o.op=.mapEntry t m x/\bB P tm m=J (.map r)/\bB P tm x=J k:=by
 obtain⟨d,op,b,Q,a,g⟩:=o;unfold eA at h;cases op<;>simp only at h<;>try(simp at h;done)
 case load=>split at h<;>simp at h
 case store=>split at h<;>simp at h
 case slice=>split at h<;>simp at h
 all_goals grind
theorem LI{a b:jn}(h:PT a b=V):∃t k c r,a.reads=J [(.look t k,r)]/\b.reads=J [(.entry t c,r)]/\sameKey k c=V:=by grind[PT,bE]
theorem Jp{i:Nat}(h:r∈R.wr i):R.K i=.act:=by grind[db.wr]
theorem Jq{i:Nat}{o:aB}(h:R.K i=.act):(R.gu P i o).writes=R.wr i:=by grind[db.gu,db.wr]
theorem asr(T:gk P ak rec ops ws R φ0){b:aD}{i:Nat}{o:aB}(c:qP ops ord)(u:ord=a++i::b)(f:ops[i]?=J o)(K:R.K i=.act)(D:(R.gu P i o).reads=Z\/∃l t,(R.gu P i o).reads=J l/\t∈l/\t.2=r):Valid R ops.size a r i\/∃t k,(R.gu P i o).reads=J [(.look t k,r)]:=by
 have B:i∉a:=λh=>by have:=c.nodup;grind
 have A:∀w,AM.clear w (R.gu P i o).reads=V->r∉w:=λw z g=>by grind[abr]
 by_cases n:∃t k,(R.gu P i o).reads=J [(.look t k,r)];.grind
 left;intro k v g;have d:=mX v;generalize ops[k]=q at d;have E:=Jp g;rcases Nat.lt_trichotomy k i with U|heq|O
 . refine⟨λ_=>U,λ_=>?_⟩;rcases T.ok.pair k i q o d f U E K with p|p
   . rcases JK p with⟨e,_,_⟩|e;.grind[Jq]
     .obtain⟨t,F,x,G,s,y,_⟩:=LI e;obtain⟨H,_⟩:=Oy s;grind[zn]
   .exact c.Cc (MW T.qE p U) a b u
 .grind
 . refine⟨λX=>?_,λh=>ab⟩;rcases T.ok.pair i k o q f d O K E with p|p;.grind[JK,Jq,LI]
   .obtain⟨j,m,rfl⟩:=Jx X;have:=c.Cc (MW T.qE p O) j (m++i::b) ai;grind
theorem aAb{p:Nat->Prop}(n:Nat)(b:∀j,p j->j<n):(∃j,p j)->∃j,p j/\∀a,p a->a<=j:=by induction n with|zero=>grind|succ n i=>
 rintro⟨j,h⟩;by_cases c:p n;.grind
 .exact i ai ⟨j,h⟩
theorem aih{a b:AV}(h:yE a b=V):a=b:=by unfold yE at h;grind[zC,xN]
theorem aHb:∀(s a:aJ),s.length=a.length->(List.zip s a).all (λp=>yE p.1 p.2)=V->s=a:=by intro s;induction s with|nil=>grind|cons x s i=>
 intro a h k;rcases a with _|⟨y,a⟩;.grind
 simp at h k;grind[aih]
theorem aHa{a b:AV}(h:sameKey a b=V):a=b:=by unfold sameKey at h;grind[bE,dS,qf,aHb,aih]
theorem arQ{k:AV}{e:eF}:∀(s:List eF)(i:Nat),oF P t k s i=J Z->mI P 50 t k e.1=J V->∃j,oF P t k (s++[e]) i=J (J (j,e)):=by intro s;induction s with|nil=>intro i _ h;refine⟨i,?_⟩;show((mI P 50 t k _).bind _)=_;grind|cons x s g=>intro i a c;have f:=a;obtain⟨b,d,f⟩:=aF f;cases b<;>simp_all[oF]
theorem azJ(T:gk P ak rec ops ws R φ0){b:aD}{i:Nat}{o:aB}{F:AV}(s:qP ops ord)(Q:ord=a++i::b)(D:ops[i]?=J o)(K:R.K i=.act)(Y:(R.gu P i o).reads=J [(.look t F,r)])(L:¬Valid R ops.size a r i):∃m,i<m/\m<=ops.size/\Valid R ops.size a r m/\∀j,i<=j->j<m->r∈R.wr j->∃q,ops[j]?=J q/\R.K j=.act/\(R.gu P j q).reads=J [(.entry t F,r)]:=by
 have hi:i<ops.size:=(Array.getElem?_eq_some_iff.1 D).1;have Bi:i∉a:=λh=>by have:=s.nodup;grind
 have vf:wZ o.op=V:=(Oy Y).1;have M:∀w,AM.clear w (R.gu P i o).reads=V->r∉w:=λw N c=>by obtain⟨l,g,n⟩:=abr N c;simp_all
 have X:r∉R.wr i:=λh=>by grind[zn]
 have y:∀k,k<ops.size->r∈R.wr k->k<i->k∈a:=λk f c U=>by
  have d:ops[k]?=J ops[k]:=mX f;generalize ops[k]=q at d;have E:=Jp c;rcases T.ok.pair k i q o d D U E K with p|p;.grind[JK,Jq,LI]
  .exact s.Cc (MW T.qE p U) a b Q
 have x:∀k,k<ops.size->r∈R.wr k->i<k->k∈a->∃q,ops[k]?=J q/\R.K k=.act/\(R.gu P k q).reads=J [(.entry t F,r)]:=λk f c O uX=>by
  have d:ops[k]?=J ops[k]:=mX f;generalize ops[k]=q at d;have E:=Jp c;rcases T.ok.pair i k o q D d O K E with p|p;.grind[JK,Jq,LI,aHa]
  .exfalso;obtain⟨u,v,rfl⟩:=Jx uX;have:=s.Cc (MW T.qE p O) u (v++i::b) ai;grind
 have I:∃j,j<ops.size/\j∈a/\r∈R.wr j/\i<j:=by apply Gt;intro su;apply L;intro k f c;grind
 obtain⟨j,⟨z,A,B,S⟩,OX⟩:=aAb ops.size (λj h=>h.1) I;have G:Valid R ops.size a r (j+1):=λk f c=>by
  constructor;.grind
  . intro U;rcases Nat.lt_trichotomy k i with h|h|h;.grind
    .grind
    . by_cases W:k=j;.grind
      . have d:ops[k]?=J ops[k]:=mX f;have H:ops[j]?=J ops[j]:=mX z;rcases T.ok.pair k j _ _ d H ab (Jp c) (Jp B)with p|p
        . exfalso;rcases JK p with⟨_,_,g⟩|g;.grind[Jq,Jp]
          .obtain⟨_,_,_,_,n,_,_⟩:=LI g;have:=(zn T d (.inl c)).2.2;rw[(Oy n).1]at this;grind
        .obtain⟨u,v,rfl⟩:=Jx A;have:=s.Cc (MW T.qE p ab) u (v++i::b) ai;grind
 refine⟨_,ab,ab,G,λk g n c=>?_⟩;have cB:k≠i:=λe=>ai;exact x k ab c ab ((G k ab c).2 n)
theorem azL(T:gk P ak rec ops ws R φ0){i:Nat}{u w:an}{k v:AV}(jg:P.underlying t=J (.map u w))(L:mI P 50 u k k=J V)(Q:i<=m)(W:m<=ops.size)(H:∀j,i<=j->j<m->r∈R.wr j->∃q,ops[j]?=J q/\R.K j=.act/\(R.gu P j q).reads=J [(.entry t k,r)])(h:∃s c,(R.H i).jL r=J (s,c)/\Aa P u w s k C=J v):∃s c,(R.H m).jL r=J (s,c)/\Aa P u w s k C=J v:=by
 have sw:r<(R.H i).next:=by obtain⟨s,c,n,_⟩:=h;exact(T.hinv i ab).get r _ (sD n)
 induction m with|zero=>have:i=0:=ab;subst this;exact h|succ j ih=>
 by_cases e:i=j+1;.subst e;exact h
 . obtain⟨s,c,n,g⟩:=ih ab ab (λj' a b=>H j' a ab);have E:=sD n;have G:rootOf (R.H j) r=r:=My n;have U:r<(R.H j).next:=(T.hinv j ab).get r _ E;by_cases F:r∈R.wr j;.obtain⟨q,X,B,vf⟩:=H j ab ab F;obtain⟨mm,x,O,kQ,kS⟩:=asq vf;have p:=((T.ok.step j q X).run (by rw[B];simp)).2;unfold ff at p;obtain⟨y,d,p⟩:=aF p;simp only[dX,O,Js]at d;rw[jg,kQ]at d;simp only at d;obtain⟨mo,kg,d⟩:=aF d;have K:(R.H j).jL r=J mo:=kg;rw[n]at K;cases K;rw[kS]at d;simp only[cQ]at d;cases D:pW P u k with|false=>rw[D]at d;simp at d|true=>
    rw[D]at d;simp only[aR]at d;obtain⟨M,o,d⟩:=aF d;have po:=T.same j ab;have sh:R.HX j=R.H' j:=by unfold db.HX;rw[B]
    have fin:∀f l,R.H' j=(R.H j).fresh.put r r (.map f l)->(R.H (j+1)).jL r=J (f,l):=λf l e=>by unfold Heap.jL;rw[po.get,sh,e];have:((R.H j).fresh.put r r (.map f l)).get r=J (.map f l):=Tr.lh _ _ _;rw[this]
    cases M with
    |some ie=>obtain⟨ii,I⟩:=ie;simp only at d;cases A:sameKey I.1 k with|false=>rw[A]at d;simp at d|true=>rw[A]at d;simp only[aR]at d;cases d;obtain⟨_,e2⟩:=B7.val.inj (bt p);exact⟨s,c,fin s c e2.symm,g⟩
    |none=>simp only[ja]at d;obtain⟨z,Y,rfl⟩:=d;obtain⟨_,e2⟩:=B7.val.inj (bt p);refine⟨dF s [(k,z,c)],fg c,fin _ _ e2.symm,?_⟩;unfold Aa at g|-;rw[o]at g;simp only[cQ,Y]at g;obtain⟨jj,S⟩:=arQ (P:=P) (e:=(k,z,c)) s 0 o L;rw[kZ,S];simp only[cQ];exact g
   .obtain⟨f1,_⟩:=T.view (m:=j) (m':=j+1) ab W U (λk' a b N=>by have:k'=j:=ab;subst this;rw[G]at N;exact F N) E;refine⟨s,c,?_,g⟩;unfold Heap.jL;rw[f1]
theorem asn(t:Tr AV)(H:Heap)(o:aB):eA P t H.fresh o=eA P t H o:=rfl
theorem aHB{k:AV}(h:FQ P t k=V):∃a e,P.underlying t=J (.map a e)/\mI P 50 a k k=J V:=by grind[FQ]
theorem asp{o:aB}{c:Call}(h:o.op=.call c)(d:¬∃b,c.callee=.builtin b):eA P tm H o=Z:=by obtain⟨f,op,t,Q,e,g⟩:=o;subst h;obtain⟨callee,args,a⟩:=c;cases callee with|builtin b=>grind|_=>rfl
theorem ard{f:Heap}{o:aB}{v:AV}(j:∀c,o.op=.call c->∃b,c.callee=.builtin b)(h:ff P ak rec tm H o=J (.val v f)):dX P ak tm H o=J (.val v f):=by unfold ff at h;obtain⟨x,a,h⟩:=aF h;rw[a];cases x with|val r g=>grind|call c g=>
 exfalso;by_cases G:∃c,o.op=.call c;.obtain⟨c,q⟩:=G;obtain⟨b,i⟩:=j c q;simp only[dX,q,BZ]at a;obtain⟨d,l,a⟩:=aF a;unfold yA at l;rw[i]at l;obtain⟨S,m,l⟩:=aF l;grind[ur,ja]
 .obtain⟨p,k,n⟩:=Ta (λc e=>G ⟨c,e⟩) _ a;simp_all
theorem azG{d:Heap}{o:aB}{b f:an}{m x:aK}{k v:AV}(j:o.op=.lookup t m x C)(u:P.underlying t=J (.map b f))(i:bB P tm m=J (.map r))(n:bB P tm x=J k)(h:ff P ak rec tm H o=J (.val v d)):d=H/\pW P b k=V/\∃s c,H.jL r=J (s,c)/\Aa P b f s k C=J v:=by unfold ff at h;obtain⟨y,a,h⟩:=aF h;simp only[dX,j,B1]at a;rw[u,i]at a;simp only at a;obtain⟨s,p,a⟩:=aF a;rw[n]at a;simp only[cQ]at a;cases g:pW P b k with|false=>grind|true=>
 rw[g]at a;simp only[aR]at a;simp only[ja]at p;obtain⟨D,F,rfl⟩:=p;obtain⟨s,c⟩:=D;obtain⟨q,l,a⟩:=aF a;have B:d=H/\Aa P b f s k C=J v:=by unfold Aa;rw[l];simp only[cQ];cases q with|none=>simp only at a|-;obtain⟨z,w,a⟩:=aF a;rw[w];cases a;simp_all|some A=>obtain⟨E,e⟩:=A;simp only at a|-;cases a;simp_all
 grind
theorem Inv.ao(T:gk P ak rec ops ws R φ0)(I:Inv P ops ws R φ0 w0 F0 a φ w F)(d:iP P φ0)(b:∀id p,φ0 id=J p->id<(R.H 0).next){i:Nat}(e:i<=ops.size):iP P (oB (R.H i).next φ):=λg z=>by obtain⟨p,h,c⟩:=d g z;exact⟨p,zu (gi (b g p h) (T.next ab e)) (I.ext _ _ h),c⟩
set_option maxHeartbeats 1600000 in theorem aDQ(eW:m8 P rec)(oI:jH P ak)(hn:qQ P)(T:gk P ak rec ops ws R φ0){H:List dh}{b:aD}{f:Nat}(hg:iP P φ0)(h0:∀id p,φ0 id=J p->id<(R.H 0).next)(I:Inv P ops ws R φ0 w0 F0 a φ w F)(s:qP ops ord)(E:ord=a++f::b)(G:F.todo=.inRegion ops (f::b)::k)(hm:F.mode=.run):∃K B u,Steps P (fc F H w) (fc (F.finish u) H B)/\Inv P ops ws R φ0 w0 F0 (a++[f]) K B (F.finish u):=by
 have L:f<ops.size:=(s.all f).2 ai;have g:ops[f]?=J ops[f]:=mX L;generalize ops[f]=o at g;have st:=T.ok.step f o g;have nO:=I.ao T hg h0 (i:=f) ab;have hinv:bg (R.H f).fresh:=(T.hinv f ab).fresh;have u6:∀y,y∈o.op.operands.toList->fj (oB (R.H f).next φ) (R.fr f).tmps F.eval y:=λy hy t e=>by subst e;exact T.aaS ab (I.operand T s E g (T.qE.reads f o t g hy))
 have X:∀{bb:Bool},vP ops (R.fr f).tmps o=J bb->Region.wanted o (yielded ops F.tmps)=bb:=λhb=>by refine Jo (φ:=φ) (c:=F.tmps) hb (λj U d O D=>?_);have at7:=T.qE.guard f o j U g O;cases H4:ops[j]? with|none=>grind|some q=>rw[H4]at D;exact I.operand T s E g (.inr ⟨j,T.qE.writes j q d H4 D,.inr (.inl at7)⟩)
 by_cases hK:R.K f=.skip
 . obtain⟨O,D,h3⟩:=st.skip hK;have hw:=X O;have A:R.HX f=(R.H f).fresh:=by grind[db.HX]
   refine⟨_,w,undef,Steps.one (step_lone_go (by simp_all[stepG,tJ])),Inv.step T (S:=λ_=>False) (ψ:=oB (R.H f).next φ) I s E g G (λ_ h=>h.elim) (λr h=>?_) (λr h=>?_) ?_ (λd _=>by grind[Jj])⟩;.grind[zn]
   .have:=(zn T g (.inr h)).1;grind
   .rw[A];exact hQ.refl hinv (I.Ar T L (λ_ h=>h.elim))
 . obtain⟨O,D⟩:=st.run hK;have hw:=X O;have hd:=aDO D;have plain:∀N:Nat->Prop,(∀r,N r->Valid R ops.size a r f)->Jv P N (R.fr f).tmps (R.H f).fresh o->(∀c,o.op=.call c->∃b,c.callee=.builtin b)->R.HX f=R.H' f->(∀r,r∈R.wr f->N r)->(∀r,r∈R.gr f->∀M,N M)->∃K B u,Steps P (fc F H w) (fc (F.finish u) H B)/\Inv P ops ws R φ0 w0 F0 (a++[f]) K B (F.finish u):=λN hS hf hc A OG W=>by have hex:dX P ak (R.fr f).tmps (R.H f).fresh o=J (.val (R.v f) (R.H' f)):=ard hc D;obtain⟨ψ,n,B,r1,r2,r3⟩:=acM hinv (I.Ar T L hS) nO (Frame.reads F) u6 hf hc hex;obtain⟨a1,a2,_⟩:=F4 (cs:=H) hm G g hw hd r1;cases n with|value u=>exact⟨_,B,u,Steps.one (a1 u rfl),Inv.step T I s E g G hS OG W ai (λd _=>r2)⟩|skip=>simp only[DQ]at r2;exact⟨_,B,undef,Steps.one (a2 rfl),Inv.step T I s E g G hS OG W (by rw[A];omega) (λd _=>by grind[Jj])⟩|_=>simp only[DQ]at r2
   cases Y:R.K f with|skip=>grind|quiet=>
   obtain⟨q1,q2⟩:=st.quiet Y;have TH:=Vq q1 D;have A:R.HX f=R.H' f:=by grind[db.HX]
   refine plain (λ_=>False) (λ_ h=>h.elim) (.inl q1) (λc e=>by grind[nY]) A (λr h=>?_) (λr h=>?_);.grind[zn]
   .have:=(zn T g (.inr h)).1;grind|act=>
   obtain⟨q1,q2,q3,q4,q5⟩:=st.act Y;have A:R.HX f=R.H' f:=by grind[db.HX]
   have vf:(R.gu P f o).reads=eA P (R.fr f).tmps (R.H f) o:=rfl;have wF:=λr=>asr T s E g Y (r:=r);have Z5:(R.gu P f o).reads=Z->∀r,Valid R ops.size a r f:=λwJ r=>by grind
   have W:∀r,r∈R.gr f->∀M,Valid R ops.size a M f:=λr h M=>Z5 (adF T g h).2 M;by_cases fG:∀c,o.op=.call c->∃b,c.callee=.builtin b
   . by_cases avW:∃t kk r,(R.gu P f o).reads=J [(.look t kk,r)]/\¬Valid R ops.size a r f
     . obtain⟨t,kk,r,hr,Ua⟩:=avW;obtain⟨eC,mm,x,gh,kQ,kS,La⟩:=Oy (vf▸hr);obtain⟨kt,et,hu,heq⟩:=aHB La;obtain⟨TH,KT,es,c,kg,Ew⟩:=azG gh hu kQ kS D;obtain⟨m,g1,g2,g3,g4⟩:=azJ T s E g Y hr Ua;obtain⟨es',c',KX,avd⟩:=azL T hu heq ab g2 g4 ⟨es,c,kg,Ew⟩;have Q:=(fE nO (Frame.reads F) (u6 mm (by grind[eJ])) kQ).1;have hvk:=(fE nO (Frame.reads F) (u6 x (by grind[eJ])) kS).1;have sw:r<(R.H f).next:=(T.hinv f ab).get r _ (sD kg);have mO:r<(R.H m).next:=gi sw (T.next ab g2);have EE:rootOf (R.H ops.size) r=r:=by rw[T.root (m:=m) g2 (bJ _) mO];grind[My]
       have HK:execOp F.eval o=(do pure (.value (<-Instr.lookup t (F.eval mm) (F.eval x) C))):=by grind[execOp]
       generalize F.eval mm=ad at Q HK;cases Q with|map _ p hp=>
         obtain⟨_,Ez⟩:=uc hp;obtain⟨_,aa,ha,HJ⟩:=I.cont r p Ez m g2 ai mO _ (sD KX) (λl M fl e h=>by rw[sD KX]at h;grind);obtain⟨z,z1,z2⟩:=US (P:=P) (w:=w) (φ:=φ) (arr:=aa) (mv:=.map (J p.aY)) hu (.inl ⟨p.aY,c',rfl,ha⟩) HJ (hvk.mono (λid q h=>(uc h).2)) KT avd;obtain⟨a1,_⟩:=F4 (P:=P) (w:=w) (cs:=H) (n:=.value z) (w':=w) hm G g hw hd aT;refine⟨_,w,z,Steps.one (a1 z rfl),Inv.step T (S:=λ_=>False) (ψ:=oB (R.H f).next φ) I s E g G (λ_ h=>h.elim) (λr h=>?_) (λr h=>?_) ?_ (λd KK=>?_)⟩;.grind[zn]
         .grind
         .rw[A,TH];exact hQ.refl hinv (I.Ar T L (λ_ h=>h.elim))
         . have Pc:(R.fr (f+1)).tmps.get d=J (R.v f):=by rw[T.slot g d,if_pos KK]
           have:=T.aaS (φ:=φ) (i:=f+1) (t:=d) (v:=z) ab aT;rw[Pc]at this;have uZ:(R.H (f+1)).next=(R.H f).next:=by rw[(T.same f L).2.2,A,TH];rfl
           grind
     . refine plain (λr=>Valid R ops.size a r f) (λ_ h=>h) (.inr ?_) fG A (λr h=>?_) W
       . rw[asn,<-vf];have ha:∀l t,(R.gu P f o).reads=J l->t∈l->Valid R ops.size a t.2 f:=λl t Et nT=>by rcases wF t.2 (.inr ⟨l,t,Et,nT,rfl⟩)with h|⟨t',kk,h⟩;all_goals grind
         grind
       .cases pn:(R.gu P f o).reads with|none=>simp_all|some l=>unfold within at q5;rw[pn]at q5;simp only[qf,AH]at q5;have:=(UZ _ _).1 (q5 r (by grind[Jq]));rw[Ac,List.mem_map]at this;obtain⟨t,nT,qu⟩:=this;rcases wF r (.inr ⟨l,t,pn,nT,qu⟩)with hx|⟨t',kk,hx⟩;all_goals grind
   . have⟨c,hc,hb⟩:∃c,o.op=.call c/\¬∃b,c.callee=.builtin b:=by simp_all
     have wJ:(R.gu P f o).reads=Z:=asp hc hb;have hV:=Z5 wJ;have dZ:=Vs (cs:=H) eW oI hn hinv (I.Ar T L (S:=gC) (λr _=>hV r)) nO hm G g hw u6 D;obtain⟨ψ,B,u,p1,p2,p3⟩:=dZ;refine⟨_,B,u,p3,Inv.step T (S:=gC) I s E g G (λr _=>hV r) (λ_ _=>trivial) (λ_ _ _=>trivial) ?_ (λd _=>p2)⟩;rw[A];exact⟨p1.1,p1.2.1.up (λ_ _=>trivial),p1.2.2⟩
theorem aBf{b x:Nat}{l:aD}:x∈Heap.note b r l↔x∈l\/(x=r/\r<b):=by
 constructor;.intro h;rcases vn h with h|⟨a,c⟩<;>grind
 grind[PZ,Fg]
theorem Qd{b x:Nat}:∀(s l:aD),x∈fO (λl r=>Heap.note b r l) s l↔x∈l\/(x∈s/\x<b):=by intro s;induction s with|nil=>simp[pc]|cons y a i=>grind[Heap.note,pc,aBf]
theorem aKT(c:JE P ak rec ops R):∀j,j<=ops.size->(R.H j).bu=(R.H 0).bu/\(∀r,r∈(R.H j).bT↔r∈(R.H 0).bT\/(r<(R.H 0).bu/\∃i,i<j/\r∈R.wr i))/\(∀r,r∈(R.H j).cG↔r∈(R.H 0).cG\/(r<(R.H 0).bu/\∃i,i<j/\r∈R.gr i)):=by intro j;induction j with|zero=>grind|succ j d=>
 intro l;obtain⟨b,f,g⟩:=d ab;have o:ops[j]?=J _:=mX ab;have st:=c.step j _ o;have a:R.H (j+1)=R.H j->R.K j≠.act->(R.H (j+1)).bu=(R.H 0).bu/\(∀r,r∈(R.H (j+1)).bT↔r∈(R.H 0).bT\/(r<(R.H 0).bu/\∃i,i<j+1/\r∈R.wr i))/\(∀r,r∈(R.H (j+1)).cG↔r∈(R.H 0).cG\/(r<(R.H 0).bu/\∃i,i<j+1/\r∈R.gr i)):=λe h=>by grind[db.wr,db.gr]
 rcases h:R.K j with _|_|_;.exact a (st.skip h).2.2 ai
 .exact a (st.quiet h).2 ai
 have e:=(st.act h).2.1;have w:R.wr j=(R.H' j).bT:=by grind[db.wr]
 have k:R.gr j=(R.H' j).cG:=by grind[db.gr]
 rw[e];refine⟨b,λr=>?_,λr=>?_⟩;.show r∈fO _ _ _↔_;grind[Qd]
 .show r∈fO _ _ _↔_;grind[Qd]
theorem Inv.first(T:gk P ak rec ops ws R φ0){W:List Item}(s:bM gC φ0 (R.H 0) w)(A:iM φ0 (R.fr 0) F W):Inv P ops ws R φ0 w F [] φ0 w F:=by
 have c:∀id p,φ0 id=J p->id<(R.H 0).next:=λid p h=>s.stat.lt (T.hinv 0 ab) h;refine{ext:=Ext.refl _,aY:=λid p h=>(s.stat.cw id p h).1,cw:=λid p h=>.inl ⟨c id p h,h⟩,obj:=?_,inj:=?_,mono:=?_,cont:=?_,size:=bJ _,os:=rfl,tape:=rfl,output:=rfl,nh:=λ_ _=>.inl rfl,new:=λid p h M=>ai,mi:=λid p h M=>ai,own:=λid p h i D=>ai,map:=λi D=>ai,cover:=λi D=>ai,MZ:=A.tmps.1,MU:=λt k _ hk=>ai,Jf:=λt _=>A.tmps.2 t,fn:=rfl,mode:=rfl,kind:=rfl,round:=rfl,defers:=rfl}
 . intro id p h m d U;obtain⟨_,K⟩:=s.stat.cw id p h;rcases j:(R.H 0).get id with _|v;.grind
   obtain⟨X,g2,l2⟩:=T.keep (lX m) d (c id p h) j;refine⟨X,g2,λl r z e B=>?_⟩;subst B;cases S:v.eu with|true=>cases v<;>simp[b9.eu]at S;obtain⟨l',L,e1,e2⟩:=l2.1 _ _ _ _ rfl;obtain⟨rfl,rfl,rfl,rfl⟩:=b9.cells.inj e1;rw[e2];exact s.stat.len id p _ _ _ _ h j|false=>exfalso;exact l2.2 (λl r z e B=>by grind[b9.eu]) l r z e rfl
 .intro x y p q f g u m d U n;rw[T.root ab ab (c x p f),T.root ab ab (c y q g)];exact s.stat.inj x y p q f g u (λh=>n (T.ro ab d (c x p f) h))
 .intro x y p q f g u wO m d U n;exact s.stat.mono x y p q f g u (n.imp (λa b=>a (T.ro ab d (c x p f) b)) (λa b=>a (T.ro ab d (c y q g) b))) wO
 . intro id p h m d O U o j Q;have G:=c id p h;obtain⟨_,K⟩:=s.stat.cw id p h;rcases E:(R.H 0).get id with _|v;.grind
   obtain⟨I,Y⟩:=T.view (lX m) d G (λi h1 N H=>by rw[<-T.root ab (bJ _) G]at H;have:=(O i ab H).2 N;grind) E;rw[j]at I;cases I;exact s.obj id p o h trivial (Y.2 Q) E
theorem aDT(W:m8 P rec)(t:jH P ak)(r:qQ P)(T:gk P ak rec ops ws R φ0){cs:List dh}(n:iP P φ0)(l:∀id p,φ0 id=J p->id<(R.H 0).next)(o:qP ops ord):∀(b a:aD)(φ:bc)(w:aW)(F:dh),ord=a++b->Inv P ops ws R φ0 w0 F0 a φ w F->F.todo=.inRegion ops b::k->F.mode=.run->∃c d e,Steps P (fc F cs w) (fc e cs d)/\Inv P ops ws R φ0 w0 F0 ord c d e/\e.todo=.inRegion ops []::k:=by intro b;induction b with|nil=>grind[Steps.refl]|cons i b s=>intro a φ w F m I h q;obtain⟨c,d,u,v,g⟩:=aDQ W t r T n l I o m h q;have fr:=Hs (u:=u) h;obtain⟨z,y,f,x,j,t2⟩:=s _ _ d _ ai g fr.2.2.2.2.2 ai;exact⟨_,y,f,v.trans x,j,t2⟩
theorem gk.az3(T:gk P ak rec ops ws R φ0){d:Nat}:∀n,n<=ops.size->(R.H 0).next<=d->d<(R.H n).next->∃i,i<n/\(R.H i).next<=d/\d<(R.H (i+1)).next:=by intro n;induction n<;>grind
set_option maxHeartbeats 1600000 in theorem anL(eW:m8 P rec)(oI:jH P ak)(hn:qQ P):Ju P ak rec:=by
 intro ops fr H r O' hr φ w F aa ord k hi hs hg O m hl;obtain⟨R,e1,e2,rfl,N⟩:=aKV hr;subst e1;subst e2;obtain⟨ws,D⟩:=ahO O';have hFt:iM φ (R.fr 0) {F with todo:=.inRegion ops (List.range' 0 ops.size)::k} (.inRegion ops (List.range' 0 ops.size)::k):=⟨m.fn,m.tmps,λ_=>rfl,m.defers,m.mode,m.kind,m.round⟩;have K:=aKW (cs:=aa) eW oI hn N hi hs hg O hFt;have T:gk P ak rec ops ws R φ:={
  ok:=N
  qE:=D
  hinv:=λj hj=>(K j hj).1.elim λ_ h=>h.elim λ_ h=>h.elim λ_ h=>h.1
  af:=λi u=>(K (i+1) ab).2.2.2.2.2 i ab
  same:=λi u=>aje N (mX u)
  Zw:=λi u=>by obtain⟨ψ,A,F',_,g,f,s,z⟩:=(K i u).1;exact⟨ψ,A,_,_,g,f,s,z.tmps⟩};have h0:∀id p,φ id=J p->id<(R.H 0).next:=λid p h=>hs.stat.lt hi h;have ta:=m.run O;have tj:=m.todo O;obtain⟨ψ,A,F',v,I,ht⟩:=aDT (cs:=aa) eW oI hn T hg h0 hl ord [] φ w F rfl (Inv.first T hs m) tj ta;obtain⟨_,m1,m3,m4,m5,_⟩:=K ops.size (bJ _);have B:∀i,i<ops.size->i∈ord:=λi h=>(hl.all i).1 h;obtain⟨lg1,W,X⟩:=aKT N ops.size (bJ _);have aeO:(R.H 0).bu<=(R.H 0).next:=hi.bu;have rt0:∀id,id<(R.H 0).next->rootOf (R.H ops.size) id=rootOf (R.H 0) id:=λid h=>T.root (lX _) (bJ _) h;have lt0:∀id,id<(R.H 0).next->id<(R.H ops.size).next:=λid h=>gi h (T.next (lX _) (bJ _));have L:∀id p,ψ id=J p->id<(R.H ops.size).next:=λid p h=>by
  rcases I.cw id p h with⟨g,_⟩|⟨_,i,_,u,_,f⟩;.grind
  .exact gi f (T.next ab (bJ _))
 have n:∀id p,ψ id=J p->rootOf (R.H ops.size) id<(R.H 0).next->∃j q,φ j=J q/\rootOf (R.H 0) j=rootOf (R.H ops.size) id:=λid p h Y=>by
  rcases I.cw id p h with⟨g,f⟩|⟨U,_⟩;.grind
  .obtain⟨j,q,a,b⟩:=I.mi id p h U Y;grind
 have G:Stat ψ (R.H ops.size) A.heap.size:={
  cw:=λid p h=>by obtain⟨o,ho,_⟩:=I.obj id p h ops.size (bJ _) (L id p h);exact⟨I.aY id p h,ai⟩
  len:=λid p l r fl e h kO=>by obtain⟨o,ho,hlen⟩:=I.obj id p h ops.size (bJ _) (L id p h);grind
  inj:=λx y p q Q S E eC=>I.inj x y p q Q S E ops.size (bJ _) (L x p Q) eC
  mono:=λx y p q Q S E eC wO=>I.mono x y p q Q S E wO ops.size (bJ _) (L y q S) eC};have Ar:bM gC ψ (R.H ops.size) A:=⟨G,λid p o h _ ha kO=>I.cont id p h ops.size (bJ _) (λi u _=>⟨λ_=>u,λ_=>B i u⟩) (L id p h) o kO ha⟩;have frm:Fr φ (R.H 0) w ψ (R.H ops.size) A:={
  ext:=I.ext
  size:=I.size
  os:=I.os
  tape:=I.tape
  output:=I.output
  next:=T.next (lX _) (bJ _)
  bu:=lg1
  bT:=λr h=>(W r).2 (.inl h)
  cG:=λr h=>(X r).2 (.inl h)
  root:=λid h=>rt0 id h
  view:=λid o g f s z=>by obtain⟨a,b⟩:=T.view (lX ops.size) (bJ _) g (λi _ M hw=>s ((W _).2 (.inr ⟨f,i,M,hw⟩))) z;simp_all
  nh:=λbk E=>by
   rcases I.nh bk E with h|⟨id,p,g,f,s,i,z,M,h6⟩;.grind
   grind
  new:=λid p h U=>by
   rcases I.cw id p h with⟨_,f⟩|⟨_,i,_,u,f,_⟩;.grind
   . refine⟨fX (T.next (lX i) ab) f,?_⟩;rcases I.new id p h U with s|⟨j,q,s,z,M,h6,i',h7,h8,h9⟩;.omega
     .refine .inr ⟨j,q,s,z,M,ai,?_⟩;grind
  ro:=λid g f=>T.ro (lX _) (bJ _) g f
  keep:=λid o g f=>T.keep (lX _) (bJ _) g f
  cover:=λid g f=>by obtain⟨i,a,b,c⟩:=T.az3 ops.size (bJ _) g f;exact I.cover i (B i a) a id b c
  mi:=λid p h U Y=>by
   rcases I.cw id p h with⟨_,f⟩|⟨_,i,Bi,u,f,s⟩;.grind
   .have:=T.next (lX i) (by omega:i<=ops.size);have pR:=I.own id p h i Bi u f s ab;exact⟨(X _).2 (.inr ⟨Y,i,u,pR⟩),n id p h ab⟩
  uK:=λr h=>by
   rcases(W r).1 h with h|⟨g,i,f,s⟩;.grind
   .obtain⟨_,id,p,a,_,c⟩:=I.map i (B i f) f r (.inl s);obtain⟨j,q,d,e⟩:=n id p a ab;grind
  uT:=λr h=>by
   rcases(X r).1 h with h|⟨g,i,f,s⟩;.grind
   .obtain⟨_,id,p,a,_,c⟩:=I.map i (B i f) f r (.inr s);obtain⟨j,q,d,e⟩:=n id p a ab;grind};refine⟨ψ,A,F',v,⟨T.hinv _ (bJ _),Ar,frm⟩,?_,m1,I.fn⟩;refine⟨by rw[I.fn,m.fn,m5],⟨by rw[I.MZ,m4],λt=>?_⟩,λ_=>ht,by rw[I.defers,m3];exact m.defers.mono I.ext,?_,by rw[I.kind,m.kind],by rw[I.round,m1.round];exact m.round.mono I.ext⟩;.cases Ie:ws.get t with|none=>rw[T.YX t ops.size (bJ _) (λk h=>ai)];exact I.Jf t (λk h=>ai)|some k'=>obtain⟨o,ho,_⟩:=D.only t k' Ie;exact I.MU t k' Ie (B k' (Array.getElem?_eq_some_iff.1 ho).1)
 .rw[I.mode,m1.mode,m.mode,O]
theorem S9{a:cg}(o:jH P a)(b:qQ P)(h:P.follows .mixedOrders=V)(n:Nat):m8 P (AM.run P a n):=by grind[aGL,anL,azk]
end
end Go.AM
namespace Go.VM
open Go Go.AM
variable{α β:Type}{x y:ah α}
def Le{a:Type}(x y:ah a):Prop:=∀o,x=J o->y=J o
theorem Le.refl(x:ah α):Le x x:=λ_ h=>h
theorem Le.none(y:ah α):Le Z y:=λ_ h=>ai
theorem Le.bind{f g:α->ah β}(h:Le x y)(k:∀a,Le (f a) (g a)):Le (x.bind f) (y.bind g):=λo b=>by obtain⟨a,c,b⟩:=aF b;rw[h a c,cQ];exact k a o b
theorem Le.GW(x:ah α){f g:α->ah β}(k:∀a,Le (f a) (g a)):Le (x.bind f) (x.bind g):=(Le.refl x).bind k
theorem Le.cond(b:Bool){a c:ah α}(h:Le x a)(k:Le y c):Le (bif b then x else y) (bif b then a else c):=ai
theorem Le.map(f:α->β)(h:Le x y):Le (x.map f) (y.map f):=λo b=>by
 rcases x with _|a;.grind
 rw[h a rfl];omega
section
variable{P:aG}{ak:cg}{rec Di:Rec}(h:∀fr H,Le (rec fr H) (Di fr H))
include h
theorem Vr(t:Tr AV)(H:Heap)(o:aB):Le (ff P ak rec t H o) (ff P ak Di t H o):=by refine Le.GW _ λr=>?_;cases r with|call c H=>exact(h c H).bind λa=>Le.refl _|_=>simp[Le.refl]
theorem anI(p:Array aB)(f:cD)(H:Heap)(o:aB):Le (A2 P ak rec p f H o) (A2 P ak Di p f H o):=by refine Le.GW _ λw=>?_;exact Le.cond _ ((Vr h _ _ _).bind λa=>Le.refl _) (Le.refl _)
theorem aib(o:Array aB):∀(l:List aB)(fr:cD)(H:Heap),Le (Am P ak rec o l fr H) (Am P ak Di o l fr H)|[],_,_=>Le.refl _|_::l,_,_=>(anI h _ _ _ _).bind λ|.next _ _=>aib o l _ _
theorem QM(p:Array aB):∀(l:List aB)(j:Nat)(g:List (Nat×jn))(fr:cD)(H:Heap),Le (vG P ak rec p l j g fr H) (vG P ak Di p l j g fr H)|[],_,_,_,_=>Le.refl _|o::l,j,g,fr,H=>by rw[FN,FN];exact Le.GW _ λw=>Le.cond _ (Le.GW _ λfr=>QM p l _ _ _ _) ((Vr h _ _ _).bind λ|.val _ _=>Le.GW _ λ_=>Le.cond _ (QM p l _ _ _ _) (Le.cond _ (QM p l _ _ _ _) (Le.refl _)))
theorem alK(f:cD)(H:Heap):Le (body P ak rec f H) (body P ak Di f H):=by
 unfold body;split;.unfold uN wj xD xE xF JM AX;repeat' first|exact Le.refl _|exact h _ _|exact QM h _ _ _ _ _ _|exact aib h _ _ _ _|refine Le.cond _ ?_ ?_|refine Le.GW _ λ_=>?_|refine Le.bind ?_ λ_=>?_|split|dsimp only
 all_goals grind[D0,Le.refl]
end
theorem aGW{P:aG}{a:cg}:∀(n:Nat)(fr:cD)(H:Heap),Le (AM.run P a n fr H) (AM.run P a (n+1) fr H):=by intro n;induction n with|zero=>intro fr H;exact Le.none _|succ n i=>intro fr H;exact alK i fr H
theorem I4{P:aG}{a:cg}{n m:Nat}(h:n<=m)(f:cD)(H:Heap):Le (AM.run P a n f H) (AM.run P a m f H):=by induction h with|refl=>simp[Le.refl]|step _ i=>exactλo b=>aGW _ _ _ o (i o b)
end Go.VM
namespace Go.VM
open Go Go.AM
variable{a:AV}{ops:Array aB}{fn:Func}{it:Item}{k:List Item}{r:Nat}{G:Out->Prop}{rc:Rec}{v:SV}{st1:St}{aS:aJ}{x:aK}{ow:aM}{captured:aq}{o0:b9}{f h:bV}
def vX(P:aG)(l:cg)(i:bR):Prop:=∀st f x aS st1 v,Py i st f x aS=J (st1,v)->∀K e k H t F,Ok K e k H st t->du P K (λ_=>Z) i.ao->bG K e aS F->∀d s,aH {st1 with sl:=cK st1.sl} d v=J s->∃h a c g j b,AM.bB P t x=J h/\Ev P l f (h::F) H a c/\Nx K e k H g j b c/\Ok g j b c s (gQ t d a)/\st1.n=st.n/\st1.fn=st.fn
section
variable{P:aG}{ak:cg}{rec:dR}{cf:bR}{K K' K1 K2:aX}{φ ψ φ0:ch}{ω ω' ω0 fW ω1:aI}{H H':Heap}{lb:dV}{g g':GH}{O st' st2:St}{tm:Tr AV}{o:aB}{ao:Nat->ah aq}
theorem al9(h:Ev P ak f aS H a H'):(∃fr,AM.xI P ak f aS H=J (.call fr H)/\ak f aS H=Z/\∃n,AM.run P ak n fr H=J (.ret a H'))\/AM.xI P ak f aS H=J (.val a H'):=by
 rcases h with h|⟨b,fr,d,n,c⟩;.simp_all[AM.xI]
 .refine .inl ⟨fr,?_,b,n,c⟩;simp_all[AM.xI]
theorem Qf{c:Call}{u:aK}{i p:aJ}(r:o.op=.call c)(l:c.callee=.value u)(q:AM.bB P tm u=J (.func f i p))(k:cu (AM.bB P tm) c.args.toList=J aS)(j:Ev P ak f (i++aS++p) H a H'):∃g,∀n,g<=n->ff P ak (AM.run P ak n) tm H o=J (.val a H'):=by
 have hr:yA P tm c=J {target:=.fn f p,args:=i++aS}:=by grind[yA,kZ]
 have e:dX P ak tm H o=AM.xI P ak f (i++aS++p) H:=by simp_all[dX,BZ,ur,kZ]
 rcases al9 j with⟨fr,h,_,n,b⟩|h;.refine⟨n,λm d=>?_⟩;unfold ff;rw[e,h];simp only[cQ];rw[I4 d fr H _ b];rfl
 simp_all[ff]
theorem aDP{c:Call}{u:aK}{i:Nat}(e:o.op=.call c)(k:c.callee=.value u)(l:AM.bB P tm u=J (.yield i))(j:cu (AM.bB P tm) c.args.toList=J aS)(g:ZV P ak i aS H a H'):∃f,∀n,f<=n->ff P ak (AM.run P ak n) tm H o=J (.val a H'):=by
 obtain⟨fr,h,n,b⟩:=g;have hr:yA P tm c=J {target:=.yield i,args:=aS}:=by grind[yA]
 refine⟨n,λm d=>?_⟩;unfold ff dX;rw[e];simp only[BZ];simp only[hr,cQ,h];rw[I4 d fr H _ b];rfl
theorem IC(s:bX K φ ω H tm O.sl){d:DV}(g:bj ao O x=J d)(f:∀l e n,d≠.ay l e n):jG O x:=by
 intro t b e e1 e2;have:bj ao O (.tmp t)=J b:=by show qT (match look O.sl t with|some .dd=>Z|r=>r) _=J b;rw[e2];rfl
 obtain⟨a,_,_,h⟩:=s t _ e2;rcases h with⟨h,_⟩|⟨r,_,h⟩;.omega
 .obtain⟨l,_,_,_,_,_,_,c,_⟩:=h.ex;grind
theorem Kw{l c:aq}(h:DR K φ (.func f l c) a):∃m b,a=.func f m b/\bG K φ l m/\bG K φ c b:=by cases h with|func _ _ _ m b d e g1 g2=>exact⟨m,b,rfl,⟨d,g1⟩,⟨e,g2⟩⟩
theorem oQ.Vn{r:aq}(h:bG K φ r aS):oQ K φ ω H r .no aS:=⟨h.1,λi d a x y=>by have:=h.2 i d a x y;split<;>exact this⟩
def DU(P:aG)(a:cg)(c:bR)(K:aX)(e:ch)(f:aI)(H:Heap)(t s:St)(m:Tr AV)(o:aB):Prop:=∃v H' K' ψ ω',(∃b,∀n,b<=n->ff P a (AM.run P a n) m H o=J (.val v H'))/\(∀d,o.dst=J d->d<t.n)/\Nx K e f H K' ψ ω' H'/\Ok K' ψ ω' H' s (gQ m o.dst v)/\s.n=t.n/\s.fn=t.fn/\((match kindOf c t o.op with|.wr=>False|_=>True)->(∀r,r∈H'.bT->r∈H.bT)/\(isApp o.op=C->∀r,r∈H'.cG->r∈H.cG))
theorem U1{c:Call}{i:aK}(h:c.callee=.value i)(a:x∈c.args.toList):x∈handsOn (.call c):=by cases c<;>grind[handsOn,eJ,Call.operands]
theorem I7{s a:St}{d:ah Tmp}(h:aH s d v=J a){n:Nat}{fn:bV}(b:s.n=n)(c:s.fn=fn):(∀t,d=J t->t<n)/\a.n=n/\a.fn=fn:=by grind[mW]
theorem Se{b:Type}{a:aq}{g:GH}{k:SV->GH->ah b}{x:b}(h:kb cf rec f a ow g k=J x):∃v g2,kb cf rec f a ow g (λv g=>J (v,g))=J (v,g2)/\k v g2=J x:=by unfold kb at h|-;cases p:cf.eQ f with
 |true=>
 rw[p]at h;rcases c:cA _ with _|_;.grind
 rw[c]at h;obtain⟨r,hr,h⟩:=aF h;grind|false=>rw[p]at h;obtain⟨r,hr,h⟩:=aF h;grind
theorem pe(h:du P K (λ_=>Z) ao):du P K φ ao:=h.mono (bo.refl _) (λid x h=>ai)
theorem PY(g:du P K φ ao)(s:bX K φ ω H tm O.sl){l:List aK}{d:aq}(n:∀x,x∈l->jG O x)(h:cu (bj ao O) l=J d):∃m,cu (AM.bB P tm) l=J m/\bG K φ d m:=by grind[UW]
theorem amp(M:qN P ak cf rec)(k:Ok K φ ω H O tm)(j:du P K (λ_=>Z) cf.ao){c:Call}{u:aK}{f S:aq}{l:GH}(T:o.op=.call c)(Q:c.callee=.value u)(n:bj cf.ao O u=J (.func h f captured))(s:cu (bj cf.ao ((handsOn o.op).foldl (aQ share) O)) c.args.toList=J S)(I:kb cf rec h (f++S++captured) .no ((handsOn o.op).foldl (aQ share) O).g (λv g=>J (v,g))=J (v,l))(q:aH {((handsOn o.op).foldl (aQ share) O)with sl:=cK ((handsOn o.op).foldl (aQ share) O).sl,g:=l} o.dst v=J st')(R:(match kindOf cf O o.op with|.wr=>False|_=>True)->cf.eQ h=V):DU P ak cf K φ ω H O st' tm o:=by obtain⟨K1,ω1,d,e,i,t,w,y,A,_⟩:=MI tm _ K ω O k.hr k.sl;have z:=j.mono d.1 (aU.refl _);obtain⟨af,f1,_,f3⟩:=sF (pe j) k.sl (IC k.sl n (λ_ _ _=>aO)) n;obtain⟨U,W,rfl,k1,k2⟩:=Kw f3;obtain⟨m,y1,y2⟩:=PY (pe z) i (λx hx=>w x (by grind[U1])) s;have N:bG K1 φ (f++S++captured) (U++m++W):=((k1.mono d.1 (aU.refl _)).append y2).append (k2.mono d.1 (aU.refl _));obtain⟨a,H',K',ψ,ω',D,_,E,F,G⟩:=aaZ M ⟨e,i⟩ (pe z) z I q (λ_ _ h=>ai) (λ_=>rfl) (λ_ _=>oQ.Vn N) (λp r b h=>let⟨B,L⟩:=t p r b h;⟨p,B,L⟩) (λ_ _ h=>ai);obtain⟨X,Y,s3⟩:=I7 q y A;exact⟨a,H',K',ψ,_,Qf T Q f1 y1 D,X,F K d.1 (d.fV e),E,Y,s3,λh=>let⟨w1,w2⟩:=G (R h) rfl;⟨w1,λ_=>w2⟩⟩
theorem amq(hC:qN P ak cf rec)(s:Ok K φ ω H O tm)(G:du P K (λ_=>Z) cf.ao){c:Call}{iu:aK}{xs:List aK}{S:aq}{d:DV}{g2:GH}(ho:o.op=.call c)(hc:c.callee=.value iu)(jK:c.args.toList=x::xs)(hf:bj cf.ao O iu=J (.func h [] captured))(hx:cR cf.ao O x=J (.dv d ow))(N:cu (bj cf.ao ((handsOn o.op).foldl (aQ share) (aQ leave O x))) xs=J S)(fG:kb cf rec h (d::(S++captured)) ow ((handsOn o.op).foldl (aQ share) (aQ leave O x)).g (λv g=>J (v,g))=J (v,g2))(jx:aH {((handsOn o.op).foldl (aQ share) (aQ leave O x))with sl:=cK ((handsOn o.op).foldl (aQ share) (aQ leave O x)).sl,g:=g2} o.dst v=J st')(hk:kindOf cf O o.op=.wr):DU P ak cf K φ ω H O st' tm o:=by
 obtain⟨af,f1,_,f3⟩:=sF (P:=P) (pe G) s.sl (IC s.sl hf (λ_ _ _=>aO)) hf;obtain⟨m1,m2,rfl,k1,k2⟩:=Kw f3;obtain rfl:=k1.rG;obtain⟨t,z,pv,x1,_,x3,x4,x5⟩:=PO (P:=P) (pe G) s.hr s.sl hx;obtain⟨e1,e2,e3,e4⟩:=BB leave O x;have K8:HR K φ (ω.of (rM z)) H (aQ leave O x).lb (aQ leave O x).g:=by rw[e3,e4];exact s.hr.of (Mt z)
 obtain⟨K1,ω1,k,X,Y,a4,a5,a6,a7,_⟩:=MI tm (handsOn o.op) K (ω.of (rM z)) (aQ leave O x) K8 x5;have R:=G.mono k.1 (aU.refl _);obtain⟨m,B,U⟩:=PY (P:=P) (pe R) Y (λy hy=>a5 y (by grind[U1])) N;have gN:bG K1 φ (S++captured) (m++m2):=U.append (k2.mono k.1 (aU.refl _));have CL:∃f:ah (Nat×Bool),(∀r b,f=J (r,b)->(∀q c,ω1 q≠J (r,c))/\r<H.next/\(b=V->∀j y,K1 j=J y->rootOf H j≠r))/\(ow.yh=V->f=Z)/\(∀ω0:aI,ω0 (.sl 0)=f->cN K1 φ ω0 H (.sl 0) d t ow)/\∀r b,f=J (r,b)->dL ω r:=by
  have uy:(∀ω0:aI,cN K1 φ ω0 H (.sl 0) d t ow)->∃f:ah (Nat×Bool),(∀r b,f=J (r,b)->(∀q c,ω1 q≠J (r,c))/\r<H.next/\(b=V->∀j y,K1 j=J y->rootOf H j≠r))/\(ow.yh=V->f=Z)/\(∀ω0:aI,ω0 (.sl 0)=f->cN K1 φ ω0 H (.sl 0) d t ow)/\∀r b,f=J (r,b)->dL ω r:=λh=>⟨Z,λ_ _ h=>ai,λ_=>rfl,λω0 _=>h ω0,λ_ _ h=>ai⟩;have W:∀r b,ω pv=J (r,b)->ow≠.no->ow≠.any->(∀ω0:aI,ω0 (.sl 0)=J (r,b)->cN K1 φ ω0 H (.sl 0) d t ow)->∃f:ah (Nat×Bool),(∀r b,f=J (r,b)->(∀q c,ω1 q≠J (r,c))/\r<H.next/\(b=V->∀j y,K1 j=J y->rootOf H j≠r))/\(ow.yh=V->f=Z)/\(∀ω0:aI,ω0 (.sl 0)=f->cN K1 φ ω0 H (.sl 0) d t ow)/\∀r b,f=J (r,b)->dL ω r:=by
   intro r b E vi CT cU;obtain⟨A,zW,rfl⟩:∃A,z=J A/\pv=.sl A:=by grind
   have aMP:∀q c,ω.of (rM z) q≠J (r,c):=by intro q c hq;obtain⟨q0,B,U⟩:=aI.iz hq;obtain rfl:=s.hr.inj _ _ _ _ _ U E;rw[zW]at B;have B:pE A q=J (.sl A):=B;cases q<;>simp only[pE]at B<;>grind
   refine⟨J (r,b),λr' F h=>?_,λh=>by grind[aM.yh],cU,λr' F h=>?_⟩
   . obtain⟨rfl,rfl⟩:=il (bt h);refine⟨λq c hq=>?_,s.hr.cw _ _ _ E,λhb j y Q=>?_⟩;.grind
     . subst hb;rcases k.2 j y Q with h|⟨q,c,h⟩;.exact s.hr.clean _ r j y E h
       grind
   .obtain⟨rfl,rfl⟩:=il (bt h);exact⟨_,b,E⟩
  cases ow with|no=>exact uy λ_=>DR.mono k.1 (aU.refl _) x3|any=>exact uy λ_=>x3|full e=>exact uy λ_=>⟨DR.mono k.1 (aU.refl _) x3.1,x3.2⟩|ty e=>
   rcases x3.2 with h|⟨r,b,u,w⟩;.exact uy λ_=>⟨DR.mono k.1 (aU.refl _) x3.1,.inl h⟩
   .exact W r b u aO aO λω0 D=>⟨DR.mono k.1 (aU.refl _) x3.1,.inr ⟨r,b,D,w⟩⟩|ex e=>
   rcases x3 with h|⟨r,u,w⟩;.exact uy λ_=>.inl h
   .refine W r V u aO aO λω0 D=>.inr ⟨r,D,?_⟩;obtain⟨l,I,id,T,cc,cells,fl,t1,t2,t3,t4,t5,t6,t7,t8⟩:=w.ex;exact⟨l,I,id,T,cc,cells,fl,t1,t2,t3,t4,t5,t6,t7.mono k.1 (aU.refl _),t8⟩
 obtain⟨f,z1,z2,z3,z4⟩:=CL;have CI:∀p r b,ω1 p=J (r,b)->dL ω r:=λp r b h=>by obtain⟨F,L⟩:=a4 p r b h;obtain⟨q,_,M⟩:=aI.iz L;exact⟨q,F,M⟩
 obtain⟨a,H',K',ψ,ω',b1,_,b2,b3,_⟩:=aaZ (st2:=(handsOn o.op).foldl (aQ share) (aQ leave O x)) (fa:=f) (ωo:=ω) hC ⟨X,Y⟩ (pe R) R fG jx z1 z2 (λω0 D=>⟨by simp[gN.1],λi dd aa p q=>by
  rcases i with _|i;.grind
  exact gN.2 i dd aa ai ai⟩:∀ω0:aI,ω0 (.sl 0)=f->oQ K1 φ ω0 H (d::(S++captured)) ow (t::(m++m2))) CI z4;obtain⟨s1,s2,s3⟩:=I7 jx (n:=O.n) (fn:=O.fn) ai ai;have hI:sQ ω H H K K1:=λj y Q=>by obtain⟨u,w⟩:=k.fV X j y Q;refine⟨u,w.imp_right (Or.imp_left ?_)⟩;rintro⟨p,b,h⟩;obtain⟨q,_,L⟩:=aI.iz h;exact⟨q,b,L⟩
 have KW:cu (AM.bB P tm) c.args.toList=J (t::m):=by simp_all[cu]
 refine⟨a,H',K',ψ,_,Qf ho hc f1 KW ai,s1,b3 K k.1 hI,b2,s2,s3,λh=>?_⟩;grind
theorem amr(hY:wa P ak cf rec)(k:Ok K φ ω H O tm)(z:du P K (λ_=>Z) cf.ao){c:Call}{B:aK}{l:Nat}{S:aq}{j:GH}(ho:o.op=.call c)(hc:c.callee=.value B)(A:bj cf.ao O B=J (.dT l))(t:cu (bj cf.ao ((handsOn o.op).foldl (aQ share) O)) c.args.toList=J S)(X:rec (.dT l S ((handsOn o.op).foldl (aQ share) O).g)=J (.val v j))(D:aH {((handsOn o.op).foldl (aQ share) O)with sl:=cK ((handsOn o.op).foldl (aQ share) O).sl,g:=j} o.dst v=J st')(hk:kindOf cf O o.op=.wr):DU P ak cf K φ ω H O st' tm o:=by
 obtain⟨K1,ω1,n,d,w,F,L,M,N,_⟩:=MI tm _ K ω O k.hr k.sl;have E:=z.mono n.1 (aU.refl _);obtain⟨Q,f1,_,f3⟩:=sF (pe z) k.sl (IC k.sl A (λ_ _ _=>aO)) A;obtain⟨i,hi,rfl⟩:∃i,φ l=J i/\Q=.yield i:=by cases f3<;>simp_all
 obtain⟨m,y1,y2⟩:=PY (pe E) w (λx hx=>L x (by grind[U1])) t;have hb:=d.callee C;obtain⟨a,H',K',ψ,ω',T,y,U,W⟩:=hY l S _ v j X K1 φ _ H m i hb E y2 hi;have G:∀q r b,(ω1.of (ly C)) q=J (r,b)->ω1 q=J (r,b)/\((∃id,q=.g id)\/∃id u,q=.gc id u):=by grind[aI.iz,L4]
 have I:∀p r b,ω1 p=J (r,b)->dL ω r:=λp r b h=>let⟨R,Y⟩:=F p r b h;⟨p,R,Y⟩;have s:vV C K1 φ _ H _ _ φ _ K' ψ _ H' j:=⟨d,y,U,λ_=>rfl,by rintro p r b hp h⟨q,e,f⟩;obtain⟨h1,h3⟩:=G q r e f;have:=d.inj _ _ _ _ _ h h1;grind⟩;obtain⟨s1,s2,s3⟩:=I7 D M N;refine⟨a,H',K',_,_,aDP ho hc f1 y1 T,s1,y.up d.inv (λr⟨q,e,f⟩=>I _ _ _ (G q r e f).1) n.1 (n.fV d) s.ext (s.lG I λr⟨q,e,f⟩=>I _ _ _ (G q r e f).1),s.ok w W aT D,s2,s3,λh=>?_⟩;grind
theorem akS(G:du P K φ ao)(o:Ok K φ ω H O tm){d:DV}(h:zp ao O x=J d):∃a,AM.bB P tm x=J a/\DR (K.plus H λr=>∃p,ω p=J (r,V)) φ d a:=by have A:∀{p:Pk}{dd:DV}{a:AV}{ow:aM},cN K φ ω H p dd a ow->DR (K.plus H λr=>∃p,ω p=J _) φ dd a:=λh=>(cN.Fw o.hr (λr hr=>⟨_,hr⟩) h).2;have ext:=aX.oN K H λr=>∃p,ω p=J (r,V);obtain⟨Q,M,h⟩:=aF h;obtain⟨a,F,U,k⟩:=qD G o.sl M;refine⟨a,F,?_⟩;cases Q with
 |dv T ow=>
 obtain rfl:=bt ab;rcases k with⟨t,_,_,_,c⟩|⟨_,⟨d2,e,c⟩|⟨d2,f,_,_,e,c⟩|⟨g,l,cells,e,e1,_⟩⟩;.exact A c
 .obtain⟨rfl,_⟩:=SV.dv.inj e;exact c.mono ext (aU.refl _)
 .obtain⟨rfl,_⟩:=SV.dv.inj e;exact c.mono ext (aU.refl _)
 grind|sr s=>
 obtain⟨y,q,rfl⟩:=Option.map_eq_some_iff.1 h;have c:tm.get s=J a:=by
  rcases k with⟨R,_,_,_,c⟩|⟨_,⟨_,e,_⟩|⟨_,_,_,_,e,_⟩|⟨_,_,_,_,e,_⟩⟩;.exact c
  all_goals grind
 unfold np at q;split at q;.rename_i l e n w I;cases q;obtain⟨S,v,_,D⟩:=o.sl s _ I;rw[c]at v;cases v;exact A (ow:=.ex w) D
 grind|gr id u=>
 simp only at h;obtain⟨i,m,root,z,e,g1,g2,g3⟩:∃i m root z e,φ id=J i/\H.get i=J (.cells m root z e)/\m[u]?=J a:=by
  rcases k with⟨R,_,_,_,c⟩|⟨_,⟨_,e,_⟩|⟨_,_,_,_,e,_⟩|⟨_,_,_,_,e,_⟩⟩;.exact c
  all_goals grind
 unfold Ea at h;rcases B:O.g.get id with _|N;.grind
 rw[B]at h;cases N with|box b=>obtain⟨j,W,X,L⟩:=o.hr.js id _ B;obtain⟨Y,E,w,k1,k2,k3,k4,k5,k6⟩:=L;grind|_=>grind
 |_=>grind
theorem az5(g:du P K φ ao)(o:Ok K φ ω H O tm):∀(l:List aK)(s:aq),cu (zp ao O) l=J s->∃m,cu (AM.bB P tm) l=J m/\bG (K.plus H λr=>∃p,ω p=J (r,V)) φ s m:=by intro l;induction l with|nil=>intro s h;obtain rfl:=bt (show J []=J s from h);exact⟨[],rfl,bG.nil⟩|cons x l i=>intro s h;have a:((zp _ O x).bind λb=>(cu _ l).bind _)=J s:=h;obtain⟨d,hd,a⟩:=aF a;obtain⟨t,c,a⟩:=aF a;grind[akS,bG.cons,cu]
theorem cN.ag0{p q:Pk}{d:DV}(h:cN K' ψ ω' H' p d a ow)(f:d.plain=V):cN K φ ω H q d a ow:=by
 have B:∀{id o len:Nat}{c:ah _}{s:Nat},DR K' ψ d (.sl id o len c s)->False:=by intro id o len c s h;cases h<;>simp[DV.plain]at f
 cases ow with|no=>exact DR.plain h f|any=>exact h|ty e=>
 refine⟨DR.plain h.1 f,?_⟩;rcases h.2 with g|⟨r,b,_,g⟩;.grind
 .obtain⟨id,o,len,c,s,cells,i,rfl,_⟩:=g.ex;exact(B h.1).elim|full e=>obtain⟨j,id,o,len,s,rfl⟩:=h;grind|ex e=>
 rcases h with h|⟨r,_,h⟩;.exact .inl h
 .obtain⟨l,s,id,o,c,cells,i,rfl,_⟩:=h.ex;grind[DV.plain]
theorem amk(hC:qN P ak cf rec)(k:Ok K φ ω H O tm)(e:du P K (λ_=>Z) cf.ao){c:Call}{F:aK}{f S:aq}{Y:GH}(ho:o.op=.call c)(hc:c.callee=.value F)(D:bj cf.ao O F=J (.func h f captured))(N:cf.eQ h=V)(su:cf.qJ h=C\/True)(i:cu (zp cf.ao O) c.args.toList=J S)(G:kb cf rec h (f++S++captured) .no O.g (λv g=>J (v,g))=J (v,Y))(I:v.plain=V)(L:aH {O with sl:=cK O.sl} o.dst v=J st'):DU P ak cf K φ ω H O st' tm o:=by
 obtain⟨af,f1,_,f3⟩:=sF (pe e) k.sl (IC k.sl D (λ_ _ _=>aO)) D;obtain⟨m1,m2,rfl,k1,k2⟩:=Kw f3;obtain⟨m,y1,y2⟩:=az5 (pe e) k _ _ i;have ext:=aX.oN K H λr=>∃p,ω p=J (r,V);have gN:=((k1.mono ext (aU.refl _)).append y2).append (k2.mono ext (aU.refl _));unfold kb at G;rw[N]at G;rcases U:cA (f++S++captured)with _|_;.grind
 rw[U]at G;obtain⟨t,hr,G⟩:=aF G;cases t with|out o=>grind|val u gg=>
 simp only at G;rcases E:u.pure with _|_;.grind
 rw[E]at G;obtain⟨rfl,_⟩:=il (bt G);have A:HR _ _ (λ_=>Z) H [] .empty:=⟨k.hr.inv,(Qn k.hr _ λr h=>h).1,λp q r b c h=>ai,λp r id x h=>ai,λp r b h=>ai,λs b h=>by grind[look],λid ob h=>by grind[GH.get,GH.empty,look],λ_ _=>rfl,k.hr.gV⟩;obtain⟨a,H',K',ψ,ω',T,_,d,W,X⟩:=hC h _ _ _ u gg hr _ _ _ H _ A (e.mono ext (aU.refl _)) (oQ.Vn (aFm gN U));obtain⟨K2,ω2,d1,d2,d3⟩:=ahv A d W X E (λ_ r⟨q,b,n⟩=>ai);have z:bQ (λ_=>False) H H':=d.keep.xg k.hr.inv λr _⟨q,b,n⟩=>ai;have tc:=k.hr.frame z d2.inv d2.gV aT aT;have kR:=xa k.hr.inv k.sl z (bo.refl _) (aU.refl _) aT (λ_ _ _ h=>h);have R:=xz (O:={O with sl:=cK _}) tc kR L d3.qC λdd _ _=>by cases w:qJ _ u with|dv x ow=>rw[w]at d3 I;exact cN.ag0 d3 I|tp l=>rw[w]at d3 I;obtain⟨mm,q1,q2,q3⟩:=d3;exact⟨mm,q1,q2,λj x y hx hy=>(q3 j x y hx hy).ag0 (List.all_eq_true.1 I x ai)⟩|_=>rw[w]at d3;exact d3.elim
 have B:(∀r,r∈H'.bT->r∈H.bT)/\∀r,r∈H'.cG->r∈H.cG:=⟨λr hr=>(d.log.2.1 r hr).resolve_right λ⟨_,q,b,n⟩=>ai,λr hr=>(d.log.2.2 r hr).resolve_right λ⟨_,q,b,n⟩=>ai⟩;obtain⟨M,ψ3,ω3,n1,n2⟩:=R.nx (qc.refl _ _);obtain⟨s1,s2,s3⟩:=I7 L rfl rfl;have Q:Nx K φ ω H K φ ω H':=⟨bo.refl _,k.hr.fV z,aU.refl _,z.xg k.hr.inv λ_ _ h=>h.elim,λp r b h=>.inl ⟨p,b,h⟩,d.log.1,λr hr=>.inl (B.1 r hr),λr hr=>.inl (B.2 r hr)⟩;exact⟨a,H',M,_,_,Qf ho hc f1 y1 T,s1,Q.trans k.hr.inv n1,n2,s2,s3,λ_=>⟨B.1,λ_=>B.2⟩⟩
end
section
variable{P:aG}{ak:cg}{rec:dR}{cf:bR}{K K' K1 K2:aX}{φ ψ φ0:ch}{ω ω' ω0 fW ω1:aI}{H H':Heap}{lb:dV}{g g':GH}{O st' st2:St}{tm:Tr AV}{o:aB}{gs cr:aD}{later:List aB}
theorem amh(hC:qN P ak cf rec)(hY:wa P ak cf rec)(hI:vX P ak cf)(k:Ok K φ ω H O tm)(B:du P K (λ_=>Z) cf.ao){c:Call}{i:aK}(q:o.op=.call c)(g:c.callee=.value i){r:St×SV}(h:qh cf rec O o.op i c.args.toList=J r)(D:aH {r.1 with sl:=cK r.1.sl} o.dst r.2=J st'):DU P ak cf K φ ω H O st' tm o:=by
 have L:∀{f:bV},i=.func f->kindOf cf O o.op=bif cf.eQ f&&!(aw (cf.fk f) 1||aw (cf.fk f) 2)then .rd else .wr:=by intro f e;subst e;rw[q];cases c;simp only at g;subst g;rfl
 have A:(∀f,i≠.func f)->kindOf cf O o.op=.wr:=by intro cB;rw[q];cases c;simp only at g;subst g;cases i<;>first|rfl|simp_all
 have yb:∀{f h:bV}{l1 l2:aq},i=.func f->bj cf.ao O i=J (.func h l1 l2)->h=f:=by intro f hq l1 l2 e h2;subst e;have:J (DV.func f [] [])=J (DV.func hq l1 l2):=h2;simp_all
 have X:∀{h:bV}{l1 l2:aq},bj cf.ao O i=J (.func h l1 l2)->((match kindOf cf O o.op with|.wr=>False|_=>True)->cf.eQ h=V/\aw (cf.fk h) 1=C/\aw (cf.fk h) 2=C):=by grind
 have T:∀{h:bV}{l1 l2:aq},bj cf.ao O i=J (.func h l1 l2)->(aw (cf.fk h) 1=V\/aw (cf.fk h) 2=V)->kindOf cf O o.op=.wr:=by grind
 unfold qh at h;obtain⟨v,t,h⟩:=aF h;split at h
 . rename_i j first captured;by_cases u:aw (cf.fk j) 1=V
   . rw[u]at h;simp only[aR]at h;split at h
     . rename_i x N I;obtain⟨aS,s,h⟩:=aF h;obtain⟨K1,ω1,z,F,G,R,S,a6,a7,_⟩:=MI tm N K ω O k.hr k.sl;have M:=B.mono z.1 (aU.refl _);obtain⟨m,y1,y2⟩:=PY (P:=P) (pe M) G (λy hy=>S y hy) s;obtain⟨Y,a,H',K',ψ,ω',b1,b2,b3,b4,b5,b6⟩:=hI _ j x aS r.1 r.2 h K1 φ ω1 H tm m ⟨F,G⟩ M y2 o.dst st' D;obtain⟨af,f1,_,f3⟩:=sF (P:=P) (pe B) k.sl (IC k.sl t (λ_ _ _=>aO)) t;obtain⟨m1,m2,rfl,k1,k2⟩:=Kw f3;obtain rfl:=k1.rG;obtain rfl:=k2.rG;have W:cu (AM.bB P tm) c.args.toList=J (Y::m):=by rw[I];grind[cu]
       obtain⟨s1,s2,s3⟩:=I7 D (n:=O.n) (fn:=O.fn) ai ai;have Q:Nx K φ ω H K1 φ ω1 H:=⟨z.1,z.fV F,aU.refl _,bQ.refl _ _,λp r b h=>let⟨b',h'⟩:=R p r b h;.inl ⟨p,b',h'⟩,qc.refl _ _⟩;refine⟨a,H',K',ψ,ω',Qf q g f1 W ai,s1,Q.trans k.hr.inv b3,b4,s2,s3,λhk=>?_⟩;grind
     grind
   . have u:=Bool.eq_false_iff.2 u;rw[u]at h;simp only[bS]at h;by_cases w:aw (cf.fk j) 2=V
     . rw[w]at h;simp only[aR]at h;split at h
       . rename_i x N I;split at h;.rename_i d ow hx;obtain⟨aS,s,h⟩:=aF h;grind[Se,amq]
         grind
       grind
     . have w:=Bool.eq_false_iff.2 w;rw[w]at h;simp only[bS]at h;by_cases q3:aw (cf.fk j) 3=V;.rw[q3]at h;simp only[aR]at h;cases U:cf.eQ j with|false=>grind|true=>rw[U]at h;simp only[aR]at h;obtain⟨aS,s,h⟩:=aF h;grind[Se,amk]
       .have q3:=Bool.eq_false_iff.2 q3;rw[q3]at h;simp only[bS]at h;obtain⟨aS,s,h⟩:=aF h;grind[Se,amp]
 .rename_i l;obtain⟨aS,s,h⟩:=aF h;obtain⟨E,hr,h⟩:=aF h;cases E with|out o=>simp at h|val v2 g2=>cases h;refine amr hY k B q g t s hr D (A λf e=>?_);subst e;have:J (DV.func f [] [])=J (DV.dT l):=t;simp at this
 grind
theorem aiE(t:qN P ak cf rec)(Y:wa P ak cf rec)(I:vX P ak cf)(k:Ok K φ ω H O tm)(f:du P K (λ_=>Z) cf.ao)(h:dH P cf rec gs cr later O o=J st'):DU P ak cf K φ ω H O st' tm o:=by
 have plain:dB P cf.ao cf.fk gs cr later ((handsOn o.op).foldl (aQ share) O) o=J st'->DU P ak cf K φ ω H O st' tm o:=by
  intro h;have hr:=λD=>aDM (ak:=ak) (rec:=D) (pe f) k.hr k.sl h;obtain⟨v,H',K',ψ,ω',i,j,l,m,p,q,d⟩:=(hr _).nx;refine⟨v,H',K',ψ,_,⟨0,λn s=>?_⟩,j,l,m,p,q,λx=>?_⟩;.exact Vr (λfr H=>I4 s fr H) tm H o _ i
  .have B:kindOf cf O o.op≠.wr:=ai;exact⟨d.wl B,d.gl B⟩
 unfold dH at h;cases e:o.op with
 |call c=>cases w:c.callee with|value u=>
  have g:((qh cf rec O (.call c) u c.args.toList).bind λr=>aH {r.1 with sl:=cK r.1.sl} o.dst r.2)=J st':=by cases c;grind
  obtain⟨r,hr,y⟩:=aF g;grind[amh]|builtin b=>grind|invoke a b=>grind
 |_=>rw[e]at h;refine plain ?_;rw[e];exact h
theorem Jo{w:Bool}(s:bX K φ ω H tm O.sl)(h:yR ops O o=J w):vP ops tm o=J w:=by
 unfold yR at h;unfold vP;rcases i:o.guard with _|k;.grind
 obtain⟨j,n⟩:=k;rw[i]at h;simp only at h|-;rcases hd:(ops[j]?).bind _ with _|d;.grind
 rw[hd]at h;simp only at h|-;split at h
 . rename_i b ow l;obtain⟨a,g,_,c⟩:=s d _ l;have:a=.bool b:=by cases ow with|no=>cases c;rfl|any=>obtain⟨f,_⟩:=c;grind|full e=>have c:=c.1;cases c;rfl|ty e=>have c:=c.1;cases c;rfl|ex e=>
    rcases c with⟨f,_⟩|⟨_,_,f⟩;.grind
    .obtain⟨_,_,_,_,_,_,_,p,_⟩:=f.ex;grind
   grind
 .rename_i l;obtain⟨a,g,_,m,rfl,f,_⟩:=s d _ l;grind
 grind
theorem QZ{f:cD}{d:ah Tmp}{v:AV}(h:∀t,d=J t->t<f.n):sL f d v=J {f with tmps:=gQ f.tmps d v}:=by rw[Dq];unfold gQ;cases d with|none=>rfl|some d=>simp only[eK,h d rfl,dM,aR]
theorem Q0(o:Ok K φ ω H O tm){d:ah Tmp}(h:aH O d (.tp [])=J st'):∃K' ψ ω',Nx K φ ω H K' ψ ω' H/\Ok K' ψ ω' H st' (gQ tm d fo)/\st'.n=O.n/\st'.fn=O.fn/\∀t,d=J t->t<O.n:=by obtain⟨K',ψ,ω',a,b⟩:=(Ca o.hr o.sl h).nx (qc.refl _ _);obtain⟨s,c,e⟩:=I7 h rfl rfl;grind
theorem aGS(F:qN P ak cf rec)(Y:wa P ak cf rec)(G:vX P ak cf):∀(l:List aB)(j:Nat)(K:aX)(φ:ch)(ω:aI)(H:Heap)(O:St)(fr:cD),Ok K φ ω H O fr.tmps->du P K (λ_=>Z) cf.ao->fr.n=O.n->jN P cf rec gs cr C ops l j [] O=J st'->∃m H' K' ψ ω',(∃c,∀n,c<=n->Am P ak (AM.run P ak n) ops l fr H=J (.next {fr with tmps:=m} H'))/\Nx K φ ω H K' ψ ω' H'/\Ok K' ψ ω' H' st' m/\st'.n=O.n/\st'.fn=O.fn:=by intro l;induction l with|nil=>intro j K φ ω H O fr ok p d h;obtain rfl:=bt (show J O=J st' from h);exact⟨fr.tmps,H,K,φ,ω,⟨0,λn _=>rfl⟩,Nx.refl ok.hr,ok,rfl,rfl⟩|cons o l N=>
 intro j K φ ω H O fr ok p d h;unfold jN at h;obtain⟨w,L,h⟩:=aF h;have I:=Jo ok.sl L;have s:∀{st1:St}{v:AV}{b:Heap}{K1:aX}{a:ch}{ω1:aI},(∃c,∀n,c<=n->A2 P ak (AM.run P ak n) ops fr H o=J (.next {fr with tmps:=gQ fr.tmps o.dst v} b))->Nx K φ ω H K1 a ω1 b->Ok K1 a ω1 b st1 (gQ fr.tmps o.dst v)->st1.n=O.n->st1.fn=O.fn->jN P cf rec gs cr C ops l (j+1) [] st1=J st'->∃m H' K' ψ ω',(∃c,∀n,c<=n->Am P ak (AM.run P ak n) ops (o::l) fr H=J (.next {fr with tmps:=m} H'))/\Nx K φ ω H K' ψ ω' H'/\Ok K' ψ ω' H' st' m/\st'.n=O.n/\st'.fn=O.fn:=by intro st1 v b K1 a ω1⟨r,A⟩u B x D E;obtain⟨m,H',K',ψ,ω',⟨Q,g1⟩,g2,g3,g4,g5⟩:=N (j+1) K1 a ω1 b st1 {fr with tmps:=gQ fr.tmps o.dst v} B (p.mono u.ext (aU.refl _)) (by rw[x];exact d) E;refine⟨m,H',K',ψ,ω',⟨max r Q,λn y=>?_⟩,u.trans ok.hr.inv g2,g3,by rw[g4,x],by rw[g5,D]⟩;show((A2 P ak (AM.run P ak n) ops fr H o).bind _)=_;rw[A n ab];exact g1 n ab
 cases w with|true=>simp only[aR,vU,Nl]at h;obtain⟨st1,M,h⟩:=aF h;obtain⟨v,b,K1,a,ω1,⟨r,e⟩,f,g,i,k,z,_⟩:=aiE F Y G ok p M;refine s ⟨r,λn y=>?_⟩ g i k z h;rw[J3,I];simp only[cQ,aR,e n y];rw[QZ λt q=>by rw[d];exact f t q];rfl|false=>simp only[bS]at h;obtain⟨st1,M,h⟩:=aF h;obtain⟨K1,a,ω1,e,f,g,i,k⟩:=Q0 ok M;refine s (v:=fo) ⟨0,λn _=>?_⟩ e f g i h;rw[J3,I];simp only[cQ,bS];rw[QZ λt q=>by rw[d];exact k t q];rfl
def DJ:Kd->jn->Prop|.no,d=>d.reads=J []/\d.writes=[]|.rd,d=>d.writes=[]|.wr,_=>True
theorem Su(r:ah (List (AM.Touch×Nat))):clear [] r=V:=by rfl
theorem abq(w:aD):clear w (J [])=V:=by cases w<;>rfl
theorem akF{c k:Kd}{d a:jn}(e:DJ c d)(b:DJ k a)(h:Kd.apart c k=V):apart d a=V:=by
 have L:∀w,kY (λx=>!(By x [])) w=V:=by simp[qf,By]
 have left:d.writes=[]->a.writes=[]->apart d a=V:=by simp_all[apart,Su]
 have o:d.reads=J []/\d.writes=[]->apart d a=V:=by rintro⟨e1,e2⟩;unfold apart;rw[e1,e2,Su,abq];rfl
 have n:a.reads=J []/\a.writes=[]->apart d a=V:=by simp_all[apart,Su,abq]
 rcases c with _|_|_;.exact o e
 . rcases k with _|_|_;.exact n b
   .exact left e b
   grind[Kd.apart]
 rcases k with _|_|_;.exact n b
 .grind[Kd.apart]
 grind[Kd.apart]
theorem aiH{t:an}{a:aK}{v:AV}(k:o.op=.store t a x)(h:ff P ak rc tm H o=J (.val v H')):H'.cG=H.cG/\∀r,r∈H'.bT->r∈H.bT\/∃id f,AM.bB P tm a=J (.ptr id f)/\sK H id=J r:=by
 unfold ff at h;obtain⟨r,hr,h⟩:=aF h;unfold dX at hr;rw[k]at hr;simp only[DH]at hr;split at hr;.rename_i id f i;obtain⟨m,q,hr⟩:=aF hr;cases s:AM.storeVar P H t id f m with|none=>rw[s]at hr;simp at hr|some p=>rw[s]at hr;cases hr;obtain⟨_,rfl⟩:=B7.val.inj (bt h);unfold AM.storeVar at s;obtain⟨n,_,s⟩:=aF s;obtain⟨b,_,s⟩:=aF s;cases c:aw (eM b) n with|false=>rw[c]at s;simp at s|true=>
  rw[c]at s;simp only[aR]at s;unfold Heap.store at s;split at s;.rename_i l root g e j;simp only at s;generalize(br (H.bn root).1 id&&(aw (H.bn root).2 id&&(br (gW f (eM b)) (eM l)&&g.wr)))=d at s;cases d with|false=>simp at s|true=>
   cases s;refine⟨xV ..,λr hr=>?_⟩;rw[xh]at hr;rcases vn hr with h|⟨rfl,_⟩;.exact .inl h
   .exact .inr ⟨id,f,i,by unfold sK;rw[j]⟩
  .simp at s
 .simp at hr
theorem az6{t:an}{m k:aK}{v:AV}(b:o.op=.mapUpdate t m k x)(h:ff P ak rc tm H o=J (.val v H')):H'.cG=H.cG:=by
 unfold ff at h;obtain⟨r,hr,h⟩:=aF h;unfold dX at hr;rw[b]at hr;simp only[DE]at hr;split at hr;.obtain⟨g,_,hr⟩:=aF hr;obtain⟨a,_,hr⟩:=aF hr;obtain⟨j,_,hr⟩:=aF hr;generalize pW P _ a=c at hr;cases c with|false=>simp at hr|true=>simp only[aR]at hr;obtain⟨f,_,hr⟩:=aF hr;cases f with
 |some d=>obtain⟨i,e⟩:=d;simp only at hr;generalize sameKey e.1 a=c at hr;cases c with|false=>simp at hr|true=>cases hr;obtain⟨_,rfl⟩:=B7.val.inj (bt h);rfl
 |none=>cases hr;obtain⟨_,rfl⟩:=B7.val.inj (bt h);rfl
 .simp at hr
theorem aJv{i o:Nat}{v:aJ}(h:H.store i o v=J H'):H'.cG=H.cG:=by
 unfold Heap.store at h;split at h;.rename_i l root f e g;simp only at h;generalize(br (H.bn root).1 i&&(aw (H.bn root).2 i&&(br (gW o (eM v)) (eM l)&&f.wr)))=c at h;cases c with|false=>simp at h|true=>cases h;exact xV ..
 .simp at h
theorem amW{c:Call}{v:AV}(q:o.op=.call c)(p:c.callee=.builtin .clear)(h:ff P ak rc tm H o=J (.val v H')):H'.cG=H.cG:=by
 unfold ff at h;obtain⟨r,hr,h⟩:=aF h;unfold dX at hr;rw[q]at hr;simp only[BZ,yA,p]at hr;obtain⟨d,hd,hr⟩:=aF hr;obtain⟨aS,_,hd⟩:=aF hd;obtain rfl:=bt hd;simp only[ur]at hr;have k:∀{g:AV}{a:Heap},im P H .clear c.argTypes aS=J (g,a)->a.cG=H.cG:=by
  intro g a b;rcases aS with _|⟨x,_|⟨y,aS⟩⟩;.simp[im]at b
  rotate_left;.simp[im]at b
  unfold im at b;simp only at b;split at b;.obtain⟨_,rfl⟩:=il (bt b);rfl
  .obtain⟨_,rfl⟩:=il (bt b);rfl
  .obtain⟨m,_,f⟩:=Option.map_eq_some_iff.1 b;obtain⟨_,rfl⟩:=il f;rfl
  .rename_i id s n cp e _ _ _;cases i:aw n 0 with|true=>rw[i]at b;obtain⟨_,rfl⟩:=il (bt b);rfl|false=>rw[i]at b;simp only[bS]at b;obtain⟨z,_,b⟩:=aF b;cases l:aw (eM z) e with|false=>rw[l]at b;simp at b|true=>rw[l]at b;obtain⟨t,j,f⟩:=Option.map_eq_some_iff.1 b;obtain⟨_,rfl⟩:=il f;exact aJv j
  .simp at b
 obtain⟨⟨g,a⟩,b,rfl⟩:=Option.map_eq_some_iff.1 hr;obtain⟨_,rfl⟩:=B7.val.inj (bt h);exact k b
theorem LS{l:aD}(h:∀r,r∈l->r∈([]:aD)):l=[]:=by cases l<;>grind[gK]
theorem abp{j:Nat}{d:ah (List (AM.Touch×Nat))}(h:H'.bT=[])(a:H'.cG=[]):rk ops o j ⟨d,H'.bT⟩ H'=V/\sI o H'=V/\within ⟨d,H'.bT⟩=V:=by
 refine⟨by grind[rk],?_,?_⟩;.grind[sI]
 .rw[h];cases d<;>rfl
theorem anM{v:AV}{j:Nat}(p:dH P cf rec gs cr later O o=J st')(E:nY o.op=C)(z:ff P ak rc tm H.fresh o=J (.val v H'))(u:(match kindOf cf O o.op with|.wr=>False|_=>True)->(∀r,r∈H'.bT->r∈H.fresh.bT)/\(isApp o.op=C->∀r,r∈H'.cG->r∈H.fresh.cG))(I:(isApp o.op||Lq cf O o.op)=V->Jd ops.toList j=V):DJ (kindOf cf O o.op) ⟨eA P tm H o,H'.bT⟩/\rk ops o j ⟨eA P tm H o,H'.bT⟩ H'=V/\sI o H'=V/\within ⟨eA P tm H o,H'.bT⟩=V:=by
 have rd:kindOf cf O o.op=.rd->isApp o.op=C->DJ (kindOf cf O o.op) ⟨eA P tm H o,H'.bT⟩/\rk ops o j ⟨eA P tm H o,H'.bT⟩ H'=V/\sI o H'=V/\within ⟨eA P tm H o,H'.bT⟩=V:=by intro e1 e2;obtain⟨k1,k2⟩:=u (by rw[e1];trivial);have w:=LS k1;rw[e1];exact⟨w,abp w (LS (k2 e2))⟩
 have no:kindOf cf O o.op=.no->isApp o.op=C->eA P tm H o=J []->DJ (kindOf cf O o.op) ⟨eA P tm H o,H'.bT⟩/\rk ops o j ⟨eA P tm H o,H'.bT⟩ H'=V/\sI o H'=V/\within ⟨eA P tm H o,H'.bT⟩=V:=by intro e1 e2 e3;obtain⟨k1,k2⟩:=u (by rw[e1];trivial);have w:=LS k1;rw[e1];exact⟨⟨e3,w⟩,abp w (LS (k2 e2))⟩
 have B:∀{x:ah St},x=Z->x=J st'->False:=λG D=>by rw[G]at D;simp at D
 cases d:o.op with
 |alloc e=>rw[<-d];exact no (by rw[d];rfl) (by rw[d];rfl) (by unfold eA;rw[d])|box e x=>rw[<-d];exact no (by rw[d];rfl) (by rw[d];rfl) (by unfold eA;rw[d])|buildSlice t n Q=>rw[<-d];exact no (by rw[d];rfl) (by rw[d];rfl) (by unfold eA;rw[d])|makeSlice t n Q=>rw[<-d];exact no (by rw[d];rfl) (by rw[d];rfl) (by unfold eA;rw[d])|makeMap t r=>rw[<-d];exact no (by rw[d];rfl) (by rw[d];rfl) (by unfold eA;rw[d])|load t a=>rw[<-d];exact rd (by rw[d];rfl) (by rw[d];rfl)|lookup t m k ok=>rw[<-d];exact rd (by rw[d];rfl) (by rw[d];rfl)|slice t x lo R S=>rw[<-d];exact rd (by rw[d];rfl) (by rw[d];rfl)|convert s t x=>rw[<-d];exact rd (by rw[d];rfl) (by rw[d];rfl)|store t a x=>
  obtain⟨g1,g2⟩:=aiH d z;have g1:H'.cG=[]:=g1;refine⟨trivial,by unfold rk;rw[g1],by unfold sI;rw[d];rfl,?_⟩;unfold within eA;rw[d];simp only;split;.rfl
  . rename_i l y;rw[qf];refine List.all_eq_true.2 λr hr=>?_;rcases g2 r hr with h|⟨id,N,K,A⟩;.exact absurd h (by show¬r∈[];simp)
    .have A:sK H id=J r:=A;rw[K]at y;simp only[A,gF]at y;cases y;unfold By;simp[Ac,qf,bE]|mapUpdate t m k x=>have g1:H'.cG=[]:=az6 d z;exact⟨trivial,by unfold rk;rw[g1],by unfold sI;rw[d];rfl,by unfold within eA;rw[d]⟩|call c=>rw[<-d];cases i:c.callee with
  |builtin b=>
    have q:dB P cf.ao cf.fk gs cr later ((handsOn o.op).foldl (aQ share) O) o=J st':=by unfold dH at p;rw[d]at p|-;cases c;simp only at i;subst i;exact p
    unfold dB at q;rw[d]at q;simp only at q;split at q;.rename_i g;exact rd (by rw[d];cases c;simp only at g;subst g;rfl) (by rw[d];cases c;simp only at g;subst g;rfl)
    . rename_i g;have e1:kindOf cf O o.op=.rd:=by rw[d];cases c;simp only at g;subst g;rfl
      have e2:isApp o.op=V:=by rw[d];cases c;simp only at g;subst g;rfl
      have e3:wZ o.op=C:=by rw[d];cases c;simp only at g;subst g;rfl
      have e4:eA P tm H o=Z:=by unfold eA;rw[d];cases c;simp only at g;subst g;rfl
      obtain⟨k1,_⟩:=u (by rw[e1];trivial);have w:=LS k1;rw[e1];refine⟨w,?_,by unfold sI;rw[e3];rfl,by unfold within;rw[e4]⟩;unfold rk;split;.rfl
      .rw[I (by rw[e2];rfl),e3,e4];rfl
    . rename_i g;have g1:H'.cG=[]:=amW d g z;have e3:wZ o.op=C:=by rw[d];cases c;simp only at g;subst g;rfl
      have e4:eA P tm H o=Z:=by unfold eA;rw[d];cases c;simp only at g;subst g;rfl
      have e5:kindOf cf O o.op=.wr:=by rw[d];cases c;simp only at g;subst g;rfl
      rw[e5];exact⟨trivial,by unfold rk;rw[g1],by unfold sI;rw[e3];rfl,by unfold within;rw[e4]⟩
    .rename_i g;exact rd (by rw[d];cases c;simp only at g;subst g;rfl) (by rw[d];cases c;simp only at g;subst g;rfl)
    .rename_i g;exact rd (by rw[d];cases c;simp only at g;subst g;rfl) (by rw[d];cases c;simp only at g;subst g;rfl)
    .simp at q|value L=>
    have e2:isApp o.op=C:=by rw[d];cases c;simp only at i;subst i;rfl
    have e3:wZ o.op=C:=by rw[d];cases c;simp only at i;subst i;rfl
    have e4:eA P tm H o=Z:=by unfold eA;rw[d];cases c;simp only at i;subst i;rfl
    cases M:kindOf cf O o.op with
    |no=>exfalso;rw[d]at M;cases c;simp only at i;subst i;cases L with|func f=>have:(bif cf.eQ f&&!(aw (cf.fk f) 1||aw (cf.fk f) 2)then Kd.rd else Kd.wr)=Kd.no:=M;generalize(cf.eQ f&&!(aw (cf.fk f) 1||aw (cf.fk f) 2))=F at this;cases F<;>simp at this|_=>simp[kindOf,nY]at M
    |rd=>rw[<-M];exact rd M e2|wr=>
      have e5:Lq cf O o.op=V:=by
       have:Lq cf O o.op=(match kindOf cf O o.op with|.wr=>V|_=>C):=by rw[d];cases c;simp only at i;subst i;rfl
       rw[this,M]
      refine⟨trivial,?_,by unfold sI;rw[e3];rfl,by unfold within;rw[e4]⟩;unfold rk;split;.rfl
      .rw[I (by rw[e5];simp),e3,e4];rfl
  |invoke a b=>exfalso;unfold dH at p;rw[d]at p;cases c;simp only at i;subst i;unfold dB at p;rw[d]at p;simp at p
 |_=>exfalso;first|(rw[d]at E;simp[nY]at E;done)|(unfold dH at p;rw[d]at p;unfold dB at p;rw[d]at p;simp at p)
end
section
variable{P:aG}{ak:cg}{rec:dR}{cf:bR}{K K':aX}{φ ψ:ch}{ω:aI}{H H':Heap}{O st':St}{tm:Tr AV}{o:aB}{gs cr:aD}{later:List aB}
def xl(a:ch)(k:Kx)(d:jn):Prop:=DJ k.kd d/\match k with|.s _=>True|.pt t g _=>∃r,(∃c,d.reads=J [(c,r)])/\(∀x,x∈d.writes->x=r)/\(∀id,t=J id->a id=J r)/\∀id,(g.get id).isSome=V->t≠J id->∃i,a id=J i/\i≠r
theorem xl.mono(h:aU φ ψ){k:Kx}{d:jn}(x:xl φ k d):xl ψ k d:=by
 refine⟨x.1,?_⟩;rcases k with k|⟨t,g,w⟩;.grind
 obtain⟨r,a,b,c,f⟩:=x.2;exact⟨r,a,b,λid e=>h _ _ (c id e),λid e k=>(f id e k).imp λi x=>⟨h _ _ x.1,x.2⟩⟩
theorem acV{k b:Kx}{d a:jn}(c:xl φ k d)(e:xl φ b a)(h:Kx.xP k b=V):apart d a=V/\apart a d=V:=by
 unfold Kx.xP at h;split at h;.obtain⟨r1,⟨p,f⟩,g,i,j⟩:=c.2;obtain⟨r2,⟨q,l⟩,m,n,o⟩:=e.2;constructor;all_goals grind[bt,clear,By,qf,bE,apart]
 grind
theorem akG{k e:Kx}{d c:jn}(a:xl φ k d)(b:xl φ e c)(h:Kx.apart k e=V):apart d c=V:=by
 unfold Kx.apart at h;rw[yU,yU]at h;rcases h with h|h|h;.exact akF a.1 b.1 h
 .exact(acV a b h).1
 .exact(acV b a h).2
theorem aw9{g:GH}{i:Nat}(h:(g.get i).isSome=V):∃o,g.get i=J o:=Option.isSome_iff_exists.1 h
theorem Oo(k:Ok K φ ω H O tm){p:Pk}{b:Bool}{t:ah Nat}(d:ω p=J (r,b))(e:∀id,p=.g id->t=J id):∀id,(O.g.get id).isSome=V->t≠J id->∃i,φ id=J i/\i≠r:=by intro id h a;obtain⟨o,c⟩:=aw9 h;obtain⟨i,g1,g2,_⟩:=k.hr.js id o c;refine⟨i,g1,?_⟩;rintro rfl;exact a (e id (k.hr.inj _ _ _ _ _ d g2))
theorem ahu(k:Ok K φ ω H O tm)(c:du P K (λ_=>Z) cf.ao){a:aK}{d o:Nat}{b:LB}(h:cR cf.ao O a=J (.dv (.ptr d o) ow))(g:O.g.get d=J (.box b)):∃i,AM.bB P tm a=J (.ptr i o)/\sK H i=J i/\φ d=J i/\ω (.g d)=J (i,V):=by obtain⟨v,n,_,f⟩:=nX (pe c) k.hr k.sl (by unfold bj;rw[h];rfl);cases f with|ptr _ _ i p=>obtain⟨j,g1,g2,g3⟩:=k.hr.js d _ g;obtain⟨m,l,e,k1,_⟩:=g3;grind[sK]
theorem anB{v:AV}(k:Ok K φ ω H O tm)(E:du P K (λ_=>Z) cf.ao)(w:dH P cf rec gs cr later O o=J st')(hv:ff P ak rc tm H.fresh o=J (.val v H'))(h:DJ (kindOf cf O o.op) ⟨eA P tm H o,H'.bT⟩):xl φ (jy cf O o.op) ⟨eA P tm H o,H'.bT⟩:=by cases p:o.op with
 |load t a=>
  have g:dB P cf.ao cf.fk gs cr later O o=J st':=by unfold dH at w;rw[p]at w;exact w
  rw[p]at h;unfold jy;simp only;split
  . rename_i id f ow D;have j:∃b,O.g.get id=J (.box b):=by unfold dB at g;rw[p]at g;grind
    obtain⟨b,j⟩:=j;obtain⟨i,F,I,h3,L⟩:=ahu k E D j;refine⟨h,i,⟨.rd,?_⟩,?_,?_,Oo k L (λq e=>aT)⟩;.grind[eA]
    .have:H'.bT=[]:=h;simp_all
    simp_all
  .exact⟨h,trivial⟩|store t a x=>
  have g:dB P cf.ao cf.fk gs cr later O o=J st':=by unfold dH at w;rw[p]at w;exact w
  rw[p]at h;obtain⟨_,g2⟩:=aiH p hv;unfold jy;simp only;unfold dB at g;rw[p]at g;simp only at g;obtain⟨sv,hx,g⟩:=aF g;cases sv with
  |dv d ow=>
    simp only at g;have wr:∀{i f r:Nat},AM.bB P tm a=J (.ptr i f)->sK H i=J r->(∃c,(jn.mk (eA P tm H o) H'.bT).reads=J [(c,r)])/\∀y,y∈(jn.mk (eA P tm H o) H'.bT).writes->y=r:=by
      intro i f r F I;refine⟨⟨.wr,?_⟩,?_⟩;.grind[eA]
      . intro y N;rcases g2 y N with h|⟨q,dj,e1,e2⟩;.exact absurd h (by show¬y∈[];simp)
        .rw[F]at e1;cases e1;have e2:sK H i=J y:=e2;simp_all
    split
    . rename_i id f Fs D;rw[D]at g;simp only at g;have j:∃b,O.g.get id=J (.box b):=by grind
      obtain⟨b,j⟩:=j;obtain⟨i,F,I,h3,L⟩:=ahu k E D j;obtain⟨A,B⟩:=wr F I;exact⟨trivial,i,A,B,λq e=>ai,Oo k L (λq e=>ai)⟩
    . rename_i s i f D;rw[D]at g;simp only at g;obtain⟨y,N,_⟩:=aF g;obtain⟨v',G,_,M⟩:=qD (P:=P) (pe E) k.sl D;rcases M with⟨t',rfl,hl,ht,id,o0,len,c,W,e1,e2⟩|⟨_,⟨d',e,_⟩|⟨_,_,_,_,e,_⟩|⟨_,_,_,_,e,_⟩⟩
      . have cV:∃l e n ow,look O.sl s=J (.dv (.ay l e n) (.ex ow)):=by
         have S:∃l e n ow,look (aQ share O x).sl s=J (.dv (.ay l e n) (.ex ow)):=by grind[np]
         obtain⟨l,e,n,ow,X⟩:=S;refine⟨l,e,n,ow,?_⟩;unfold aQ at X;cases x with
         |tmp u=>
         simp only at X;split at X
         . rename_i v0 _;rw[lN]at X;split at X;.have:=bt X;cases v0 with|dv d1 o1=>cases o1<;>simp[share,n7]at this|_=>simp[share]at this
           omega
         omega|_=>exact X
        obtain⟨l,e,n,ow,cV⟩:=cV;obtain⟨sa,R,_,z⟩:=k.sl s _ cV;rw[e1]at R;cases R;rcases z with⟨z,_⟩|⟨r,z,s3⟩;.cases z
        .obtain⟨l2,U,id2,T,c2,cells,Y,q1,q2,q3,_⟩:=s3.ex;cases q2;obtain⟨A,B⟩:=wr (r:=r) (by rw[G,e2]) (by unfold sK;rw[q3]);exact⟨trivial,r,A,B,(λq e=>by cases e),Oo k z (λq e=>by cases e)⟩
      all_goals grind
    .rename_i s f D;rw[D]at g;simp only at g;obtain⟨b,j,_⟩:=aF g;obtain⟨v',G,_,M⟩:=JG (P:=P) (pe E) k.hr k.sl D;obtain⟨i,Q,i2⟩:=k.hr.box s b j;obtain rfl:=M i _ Q;obtain⟨m,Y,e,q3,_⟩:=i2;obtain⟨A,B⟩:=wr (r:=i) G (by unfold sK;rw[q3]);exact⟨trivial,i,A,B,(λq e=>by cases e),Oo k Q (λq e=>by cases e)⟩
    .exact⟨h,trivial⟩|_=>simp at g
 |_=>rw[p]at h;exact⟨h,trivial⟩
end
section
variable{P:aG}{ak:cg}{rec:dR}{cf:bR}{K K' K1 K2:aX}{φ ψ φ0 φ1:ch}{ω ω' ω0 fW ω1:aI}{H H' H1:Heap}{lb:dV}{g g':GH}{O st' st2:St}{tm:Tr AV}{o:aB}{gs cr:aD}{later:List aB}
theorem af1{b:Nat}:∀(w l:aD),r∈fO (λl r=>Heap.note b r l) w l->r∈l\/(r∈w/\r<b):=by intro w;induction w with|nil=>intro l h;exact .inl h|cons x w i=>intro l h;have h:r∈fO _ w _:=h;grind[vn]
theorem Nx.quiet(h:HR K φ ω H lb g)(n:Nx K φ ω H.fresh K1 φ1 ω1 H.fresh):Nx K φ ω H K1 φ1 ω1 H:=⟨n.ext,n.dk,n.mS,bQ.refl _ _,n.lG,qc.refl _ _⟩
theorem Nx.resume(n:Nx K φ ω H.fresh K1 φ1 ω1 H1):Nx K φ ω H K1 φ1 ω1 (H.resume H1):=by
 refine⟨n.ext,n.dk,n.mS,⟨n.keep.next,n.keep.get,n.keep.dp,n.keep.root⟩,n.lG,rfl,λr hr=>?_,λr hr=>?_⟩
 . rcases af1 _ _ hr with h|⟨a,b⟩;.grind
   . rcases n.log.2.1 r a with h|⟨_,h⟩;.exact absurd h (by show¬r∈[];simp)
     grind
 . rcases af1 _ _ hr with h|⟨a,b⟩;.grind
   . rcases n.log.2.2 r a with h|⟨_,h⟩;.exact absurd h (by show¬r∈[];simp)
     grind
theorem aGR(hC:qN P ak cf rec)(hY:wa P ak cf rec)(hI:vX P ak cf){s0:St}(Ia:∀i o,ops.toList[i]?=J o->(isApp o.op||Lq cf s0 o.op)=V->Jd ops.toList i=V):∀(l:List aB)(a:Nat)(d:List (Nat×Kx))(B:List (Nat×jn))(K:aX)(φ:ch)(ω:aI)(H:Heap)(O:St)(fr:cD),ops.toList.drop a=l->(∀e,e∈B->∃k,(e.1,k)∈d/\xl φ k e.2)->Ok K φ ω H O fr.tmps->du P K (λ_=>Z) cf.ao->fr.n=O.n->jN P cf rec gs cr V ops l a d O=J st'->∃m H' K' ψ ω',(∃n0,∀n,n0<=n->vG P ak (AM.run P ak n) ops l a B fr H=J (.next {fr with tmps:=m} H'))/\Nx K φ ω H K' ψ ω' H'/\Ok K' ψ ω' H' st' m/\st'.n=O.n/\st'.fn=O.fn:=by intro l;induction l with|nil=>intro a d B K φ ω H O fr F y ok p q h;obtain rfl:=bt (show J O=J st' from h);exact⟨fr.tmps,H,K,φ,ω,⟨0,λn _=>rfl⟩,Nx.refl ok.hr,ok,rfl,rfl⟩|cons o l L=>
 intro a d B K φ ω H O fr F y ok p q h;have Y:ops.toList[a]?=J o:=by
  have:(ops.toList.drop a)[0]?=J o:=by rw[F];rfl
  rwa[sS,tQ]at this
 have X:ops.toList.drop (a+1)=l:=by
  have:(ops.toList.drop a).drop 1=l:=by rw[F];rfl
  rwa[DL]at this
 unfold jN at h;obtain⟨w,hw,h⟩:=aF h;have I:=Jo ok.sl hw;cases w with|false=>simp only[bS]at h;obtain⟨st1,M,h⟩:=aF h;obtain⟨K1,φ1,ω1,f,D,c,z,g⟩:=Q0 ok M;obtain⟨m,H',K',ψ,ω',⟨u,g1⟩,g2,g3,g4,g5⟩:=L (a+1) d B K1 φ1 ω1 H st1 {fr with tmps:=gQ fr.tmps o.dst fo} X (λe b=>(y e b).imp λk x=>⟨x.1,x.2.mono f.mS⟩) D (p.mono f.ext (aU.refl _)) (by rw[c];exact q) h;refine⟨m,H',K',ψ,ω',⟨u,λn N=>?_⟩,f.trans ok.hr.inv g2,g3,by rw[g4,c],by rw[g5,z]⟩;rw[FN,I];simp only[cQ,vU,aR];rw[QZ λt G=>by rw[q];exact g t G];exact g1 n N|true=>simp only[aR,xk,vR]at h;cases E:Iy ops.toList d a (jy cf O o.op)with|false=>rw[E]at h;simp at h|true=>
  rw[E]at h;simp only[aR]at h;obtain⟨st1,M,h⟩:=aF h;have Q:Ok K φ ω H.fresh O fr.tmps:=ok.same (aij H) (bJ _);obtain⟨v,H1,K1,φ1,ω1,⟨s,f⟩,D,c,z,g,R,b7⟩:=aiE hC hY hI Q p M;have W:sL fr o.dst v=J {fr with tmps:=gQ fr.tmps o.dst v}:=QZ λt G=>by rw[q];exact D t G
  have r:∀{U:List (Nat×jn)},(∀e,e∈U->e∈B\/(e.1=a/\xl φ (jy cf O o.op) e.2))->∀e,e∈U->∃k,(e.1,k)∈(a,jy cf O o.op)::d/\xl φ1 k e.2:=by
   intro U hA e b;rcases hA e b with h|⟨S,T⟩;.obtain⟨k,k1,k2⟩:=y e h;exact⟨k,kG _ k1,k2.mono c.mS⟩
   .exact⟨_,by rw[S];exact gK,T.mono c.mS⟩
  cases A:nY o.op with|true=>have hH:H1=H.fresh:=Vq A (f s (bJ _));subst hH;have nx:=Nx.quiet ok.hr c;have wV:Ok K1 φ1 ω1 H st1 (gQ fr.tmps o.dst v):=z.same (aij H).symm ok.hr.inv.bu;obtain⟨m,H',K',ψ,ω',⟨u,g1⟩,g2,g3,g4,g5⟩:=L (a+1) ((a,jy cf O o.op)::d) B K1 φ1 ω1 H st1 {fr with tmps:=gQ fr.tmps o.dst v} X (r λe b=>.inl b) wV (p.mono c.ext (aU.refl _)) (by rw[g];exact q) h;refine⟨m,H',K',ψ,ω',⟨max s u,λn N=>?_⟩,nx.trans ok.hr.inv g2,g3,by rw[g4,g],by rw[g5,R]⟩;rw[FN,I];simp only[cQ,xk,bS,f n ab,W,A,aR];exact g1 n ab|false=>
   obtain⟨d1,d2,d3,d4⟩:=anM (j:=a) (ops:=ops) M A (f s (bJ _)) b7 (Ia a o Y);have d1:=anB ok p M (f s (bJ _)) d1;have nx:=Nx.resume c;have wV:Ok K1 φ1 ω1 (H.resume H1) st1 (gQ fr.tmps o.dst v):=z.same (aHf H H1) (by have S:=ok.hr.inv.bu;have T:H.next<=H1.next:=c.keep.next;show H.bu<=H1.next;omega);obtain⟨m,H',K',ψ,ω',⟨u,g1⟩,g2,g3,g4,g5⟩:=L (a+1) ((a,jy cf O o.op)::d) ((a,⟨eA P fr.tmps H o,H1.bT⟩)::B) K1 φ1 ω1 (H.resume H1) st1 {fr with tmps:=gQ fr.tmps o.dst v} X (r λe b=>by
    rcases List.mem_cons.1 b with rfl|b;.exact .inr ⟨rfl,d1⟩
    .exact .inl b) wV (p.mono c.ext (aU.refl _)) (by rw[g];exact q) h;refine⟨m,H',K',ψ,ω',⟨max s u,λn N=>?_⟩,nx.trans ok.hr.inv g2,g3,by rw[g4,g],by rw[g5,R]⟩;have wB:kY (λ(e:Nat×jn)=>apart e.2 ⟨eA P fr.tmps H o,H1.bT⟩||qK ops.toList e.1 a) B=V:=by
    rw[qf];refine List.all_eq_true.2 λe b=>?_;obtain⟨k,k1,k2⟩:=y e b;have:=List.all_eq_true.1 E _ k1;simp only[yU]at this|-;rcases this with h|h;.exact .inl (akG k2 d1 h)
    .exact .inr h
   rw[FN,I];simp only[cQ,xk,bS,f n ab,W,A,wB,d2,d3,d4,xi,aR];exact g1 n ab
theorem YF(g:qN P ak cf rec)(Y:wa P ak cf rec)(I:vX P ak cf){d:Bool}{fr:cD}(l:Ok K φ ω H O fr.tmps)(c:du P K (λ_=>Z) cf.ao)(j:fr.n=O.n)(h:(bif !d||nk cf O ops.toList then jN P cf rec gs cr d ops ops.toList 0 [] O else Z)=J st'):∃t H' K' ψ ω',(∃a,∀n,a<=n->(bif d then(bif vD ops.toList then vG P ak (AM.run P ak n) ops ops.toList 0 [] fr H else Z)else Am P ak (AM.run P ak n) ops ops.toList fr H)=J (.next {fr with tmps:=t} H'))/\Nx K φ ω H K' ψ ω' H'/\Ok K' ψ ω' H' st' t/\st'.n=O.n/\st'.fn=O.fn:=by
 rcases d with _|_;.obtain⟨t,H',K',ψ,ω',⟨a,f⟩,b⟩:=aGS g Y I _ 0 K φ ω H O fr l c j (by simpa using h);exact⟨_,H',K',ψ,_,⟨a,λn k=>f n k⟩,b⟩
 rcases hd:nk cf O ops.toList with _|_;.grind
 rw[hd]at h;unfold nk at hd;simp only[gD]at hd;obtain⟨t,H',K',ψ,ω',⟨a,f⟩,b⟩:=aGR (s0:=O) g Y I (λi o m x=>by have:=List.all_eq_true.1 hd.2 _ (List.mk_mem_zipIdx_iff_getElem?.2 m);grind) _ 0 [] [] K φ ω H O fr rfl (λe p=>ai) l c j (by simpa using h);refine⟨_,H',K',ψ,_,⟨a,λn k=>?_⟩,b⟩;grind
end
def dQ(P:aG)(a:cg)(fr:cD)(H:Heap)(G:Out->Prop):Prop:=∃n o,AM.run P a n fr H=J o/\G o
section
variable{P:aG}{ak:cg}{rec:dR}{cf:bR}{K K' K1 K2:aX}{φ ψ φ0 φ1:ch}{ω ω' ω0 fW ω1:aI}{H H' H1:Heap}{lb:dV}{g g':GH}{O st' st2:St}{tm:Tr AV}{G:Out->Prop}{fr fC:cD}
theorem dQ.step(a:Nat)(h:∀n,a<=n->body P ak (AM.run P ak n) fr H=AM.run P ak n fC H')(r:dQ P ak fC H' G):dQ P ak fr H G:=by obtain⟨n,o,b,c⟩:=r;refine⟨max a n+1,o,?_,c⟩;show body P _ (AM.run P _ _) fr H=J o;rw[h _ ab];exact I4 ab _ H' o b
theorem dQ.same(h:∀rc,body P ak rc fr H=body P ak rc fC H')(r:dQ P ak fC H' G):dQ P ak fr H G:=by
 obtain⟨n,o,a,b⟩:=r;rcases n with _|n;.exact absurd a (by show¬(Z=J o);simp)
 exact⟨n+1,o,by show body P _ _ fr H=J o;rw[h];exact a,b⟩
theorem ahU:∀(n:Nat)(fr:cD)(H:Heap)(a b:List Item),fr.mode=.returning->AM.run P ak n {fr with todo:=a} H=AM.run P ak n {fr with todo:=b} H
 |0,_,_,_,_,_=>rfl|n+1,fr,H,a,b,h=>by
  have i:=ahU n;show body P ak (AM.run P ak n) _ H=body P ak (AM.run P ak n) _ H;obtain⟨fn,nn,tm,t,d,m,ro⟩:=fr;obtain rfl:m=.returning:=h;unfold body D0;simp only;split;.rfl
  . split
    . split;.exact i ⟨fn,nn,tm,t,‹aD›,.returning,_⟩ _ a b rfl
      .rfl
    .rfl
def Jg(o:eB)(r:List Item):List Item:=match o with|.fJ _=>r|.ext id _=>.code (.exit id)::r|.rt _=>.code .ret::r
def eB.F5:eB->St|.fJ O|.ext _ O|.rt O=>O
theorem R7{id:Nat}(h:fr.mode=.run):body P ak rc {fr with todo:=.code (.exit id)::k} H=(match exitTo id k with|some k=>rc {fr with todo:=k} H|none=>match fr.roundOf with|none=>Z|some l=>match H.get l with|some (.loop r)=>J (.ret (.bool C) (H.put l l (.loop {r with state:=.done,pending:=J (.exit id)})))|_=>Z):=by obtain⟨fn,nn,t,todo,d,m,o⟩:=fr;obtain rfl:m=.run:=h;rfl
theorem arl{d:Nat}(h:fr.mode=.run)(t:∀i,it=.inBlock i->i≠d)(r:dQ P ak {fr with todo:=.code (.exit d)::k} H G):dQ P ak {fr with todo:=.code (.exit d)::it::k} H G:=by
 refine r.same λrc=>?_;rw[R7 h,R7 h];have:exitTo d (it::k)=exitTo d k:=by cases it<;>grind[exitTo]
 grind
theorem aGv(m:fr.mode=.run)(r:dQ P ak {fr with todo:=.code .ret::k} H G):dQ P ak {fr with todo:=.code .ret::it::k} H G:=by
 obtain⟨n,o,h,a⟩:=r;rcases n with _|n;.exact absurd h (by show¬(Z=J o);simp)
 refine⟨n+1,o,?_,a⟩;rw[<-h];simp only[m];rcases fr.roundOf with _|l;.exact ahU n {fr with mode:=.returning,roundOf:=Z} H _ _ rfl
 rfl
theorem Db{o:eB}(h:fr.mode=.run)(n:∀O,o≠.fJ O)(t:∀i,it=.inBlock i->∀O,o≠.ext i O)(r:dQ P ak {fr with todo:=Jg o k} H G):dQ P ak {fr with todo:=Jg o (it::k)} H G:=by
 rcases o with O|⟨id,O⟩|O;.grind
 .exact arl h ai r
 exact aGv h r
def Nn(b:Nat)(a:aI)(H:Heap)(s:aD):Prop:=s.Nodup/\∀r,r∈s->H.get r=J (.deferred V)/\¬dL a r/\b<=r
structure xn(bs:Nat)(rd:ah Nat)(fr:cD)(O:St)(φ:ch)(ω:aI)(H:Heap):Prop where
 fn:fr.fn=O.fn
 n:fr.n=O.n
 mode:fr.mode=.run
 base:bs<=H.next
 rd:match rd with|none=>fr.roundOf=Z/\Nn bs ω H fr.defers|some l=>∃i,φ l=J i/\fr.roundOf=J i/\fr.defers=[]
theorem Nn.nx{d:aD}(i:bg H){s:Nat}(h:Nn s ω H d)(n:Nx K φ ω H K' ψ ω' H'):Nn s ω' H' d:=by
 refine⟨h.1,λr hr=>?_⟩;obtain⟨a,f,c⟩:=h.2 r hr;have U:=i.get _ _ a;have g:rootOf H r=r:=by grind[rootOf]
 refine⟨by rw[n.keep.get r U ai];omega,λ⟨p,b,e⟩=>?_,c⟩;rcases n.lG p r b e with h|h<;>grind
theorem xn.nx{b:Nat}{r:ah Nat}(d:bg H)(h:xn b r fr O φ ω H)(n:Nx K φ ω H K' ψ ω' H')(a:st'.n=O.n)(c:st'.fn=O.fn)(tm':Tr AV)(td:List Item):xn b r {fr with tmps:=tm',todo:=td} st' ψ ω' H':=by
 refine⟨by rw[c];exact h.fn,by rw[a];exact h.n,h.mode,fX h.base n.keep.next,?_⟩;have:=h.rd;rcases r with _|l;.exact⟨this.1,this.2.nx d n⟩
 obtain⟨i,k1,k2,k3⟩:=this;exact⟨i,n.mS _ _ k1,k2,k3⟩
def AD(P:aG)(a:cg)(b:Nat)(d:ah Nat)(K:aX)(c:ch)(e:aI)(H:Heap)(s:St)(f:cD)(r:List Item)(G:Out->Prop)(o:eB):Prop:=∀K' ψ ω' H' t m,Nx K c e H K' ψ ω' H'->Ok K' ψ ω' H' o.F5 t->o.F5.n=s.n->o.F5.fn=s.fn->xn b d {f with tmps:=t,defers:=m} o.F5 ψ ω' H'->dQ P a {f with tmps:=t,defers:=m,todo:=Jg o r} H' G
def GF(P:aG)(a:cg)(c:bR)(r:dR):Prop:=∀b O rd o,r (.loop b O rd)=J (.out o)->∀bs K φ ω H fr rest G,Ok K φ ω H O fr.tmps->du P K (λ_=>Z) c.ao->xn bs rd fr O φ ω H->AD P a bs rd K φ ω H O fr rest G o->dQ P a {fr with todo:=.code (.loop b)::rest} H G
theorem afW{b:Type}(l:List (Nat×b)):∀(a:aD)(t:Nat)(v:b),look (a.filterMap λs=>(look l s).map λv=>(s,v)) t=J v->look l t=J v:=by intro a;induction a with|nil=>simp[look]|cons k a i=>cases h:look l k<;>grind[look,bE]
theorem UY{l:aD}(o:Ok K φ ω H O tm):Ok K φ ω H (mask l O) tm where
 hr:=by obtain⟨a,c,d,e,f,g,i,j,k⟩:=o.hr;refine⟨a,c,d,e,f,λs b m=>g s b ?_,i,j,k⟩;exact afW O.lb _ s b m
 sl:=λt v h=>o.sl t v (afW O.sl _ t v h)
theorem ahz(a:bg H){i:Nat}{o:b9}(g:H.get i=J o0)(k:o0.eu=C)(n:o.eu=C):bg (H.put i r o):=by
 refine⟨λj c h=>?_,λj l b m e1 h=>?_,λj l b m e1 h=>?_,a.dp,a.bu⟩
 . by_cases e:j=i;.rw[e];exact a.get _ _ g
   .rw[oO H r _ e]at h;exact a.get j c h
 . by_cases e:j=i;.grind[wY,b9.eu]
   .rw[oO H r _ e]at h;exact a.root j l b _ e1 h
 . by_cases e:j=i;.grind[wY,b9.eu]
   .rw[oO H r _ e]at h;obtain⟨q,f,d,p⟩:=a.nZ j l b _ e1 h;grind[b9.eu,oO]
theorem QB{i:Nat}{o:b9}(g:H.get i=J o0)(h:o0.eu=C)(a:o.eu=C)(j:Nat):rootOf (H.put i r o) j=rootOf H j:=by grind[yC,wY,rootOf,oO]
theorem ahA{i:Nat}{o:b9}(g:H.get i=J o0)(a:o0.eu=C)(b:o.eu=C):bQ (λx=>x=i) H (H.put i r o)where
 next:=bJ _
 get:=λj _ h=>oO H r _ (λx=>h (by subst x;exact yC g a))
 dp:=λc _ h=>rfl
 root:=λj _=>QB g a b j
theorem ai4(u:oX H){i:Nat}{o:b9}(m:H.get i=J o0)(d:o0.eu=C)(g:o.eu=C):oX (H.put i r o):=λj l c f e h=>by
 by_cases a:j=i;.grind[wY,b9.eu]
 .rw[oO H r _ a]at h;obtain⟨n,b,k⟩:=u j l c f e h;grind[b9.eu,oO]
theorem YS{d i:Nat}{R R':AA}{y:GO}(A:Ok K φ ω H O tm)(Q:φ d=J i)(M:ω (.g d)=J (i,V))(t:H.get i=J (.loop R))(S:AE K φ ω (H.put i i (.loop R')) d y i):Ok K φ ω (H.put i i (.loop R')) {O with sl:=cK O.sl,g:=O.g.set d y} tm/\Nx K φ ω H K φ ω (H.put i i (.loop R')):=by
 have a:=A.hr;have m:=ahA (r:=i) (o:=.loop R') t rfl rfl;have B:∀q f b,q≠.g d->ω q=J _->¬f=i:=λq f b L h e=>by subst e;exact L (a.inj _ _ _ _ _ h M)
 have hr:HR K φ ω (H.put i i (.loop R')) O.lb (O.g.set d y):=by
   refine⟨ahz a.inv t rfl rfl,λj cells e1 G=>?_,a.inj,λp r1 j x w l=>by rw[QB t rfl rfl];exact a.clean p r1 j x w l,a.cw,λs b F=>?_,λk z n=>?_,λk P=>a.nu k P,ai4 a.gV t rfl rfl⟩;.obtain⟨root,N,g1,g2⟩:=a.dk j _ e1 G;exact⟨_,N,by grind[oO],g2⟩
   .obtain⟨j,l,u⟩:=a.box s b F;exact⟨j,l,u.keep a.inv m (bo.refl _) (aU.refl _) ai λv f c x=>⟨x,ai⟩⟩
   . have n:look (put _ d y) k=J z:=n;rw[lN]at n;by_cases e:k=d;.grind
     .rw[if_neg e]at n;obtain⟨j,l,u,E⟩:=a.js k z n;exact⟨j,l,u,E.keep a.inv m (bo.refl _) (aU.refl _) ai λv f c x=>⟨x,ai⟩⟩
 refine⟨⟨hr,?_⟩,?_⟩;.exact xa a.inv A.sl m (bo.refl _) (aU.refl _) (λp f b I h=>⟨h,B p f b (by intro e;subst e;exact I) h⟩) ai
 . refine⟨bo.refl _,a.fV m,aU.refl _,m.xg a.inv λr _ e=>⟨.g d,V,ai⟩,λp r b h=>.inl ⟨p,b,h⟩,rfl,λr hr=>?_,λr hr=>.inl hr⟩;rcases vn hr with h|⟨w,D⟩;.grind
   .exact .inr ⟨D,.g d,V,ai⟩
theorem auR(k:Ok K φ ω H O tm)(o:b9)(n:o.eu=C):Ok K φ ω (H.alloc o) O tm/\Nx K φ ω H K φ ω (H.alloc o):=by
 have a:bQ (λ_=>False) H (H.alloc o):=jY H _ _;have c:∀l r f e,o=.cells l r f e->r=H.next:=λl r f e h=>by grind[b9.eu]
 refine⟨⟨k.hr.frame a (we k.hr.inv _ c) (M3 k.hr.inv k.hr.gV _ c) ai ai,λt s m=>?_⟩,bo.refl _,k.hr.fV a,aU.refl _,jY H _ _,λp r b h=>.inl ⟨p,b,h⟩,rfl,λr hr=>.inl hr,λr hr=>.inl hr⟩;obtain⟨d,g,i,j⟩:=k.sl t s m;exact⟨d,g,i,j.keep k.hr.inv a (bo.refl _) (aU.refl _) ai ai ai ai⟩
def aEX:SV->SV:=λv=>match v with|.dv d .no=>SV.dv d .no|.dv d .any=>.dv d .any|.ev d=>.ev d|_=>.dd
theorem aER(l:cT):lO l=l.map λx=>(x.1,aEX x.2):=rfl
theorem aE0(s:bX K φ ω H tm O.sl):xx K φ tm (lO O.sl):=by
 intro t v h;rw[aER,qB _ _]at h;rcases b:look O.sl t with _|n;.grind
 rw[b]at h;cases h;obtain⟨a,e,_,c⟩:=s t _ b;refine⟨a,e,?_⟩;cases n with
 |dv d o=>cases o<;>first|exact c|trivial
 |ev d=>exact c|_=>trivial
theorem aAL(o:Ok K φ ω H O tm){r:ZU}{R:AA}(h:R.state=r.state/\R.pending=r.pending/\R.fn=r.fn/\R.n=r.n/\R.params=r.params/\R.assign=r.assign/\R.body=r.body)(c:xx K φ R.tmps r.sl):∃a ω',a O.g.next=J H.next/\Ok K a ω' (H.alloc (.loop R)) {O with g:=O.g.alloc (.loop r)} tm/\Nx K φ ω H K a ω' (H.alloc (.loop R)):=by
 have E:(H.alloc (.loop R)).get H.next=J (.loop R):=me H _;have i:bg (H.alloc (.loop R)):=we o.hr.inv _ (λl r A z g=>ai);obtain⟨a,ω',e,k,m,n,B,s⟩:=P5 (y:=.loop r) o.hr i (by grind[rootOf]) λa ω' d v=>⟨R,E,h.1,h.2.1,h.2.2.1,h.2.2.2.1,h.2.2.2.2.1,h.2.2.2.2.2.1,h.2.2.2.2.2.2,c.mono (bo.refl _) d⟩;refine⟨_,_,k,⟨m,λt w u=>?_⟩,bo.refl _,o.hr.fV (jY H _ (λ_=>False)),e,jY H _ _,λp r b c=>?_,rfl,λr hr=>.inl hr,λr hr=>.inl hr⟩;.obtain⟨f,g1,g2,g3⟩:=o.sl t w u;refine⟨f,g1,g2,g3.keep o.hr.inv (jY H _ _) (bo.refl _) e (λp r b c x=>⟨n p r b ?_ x,id⟩) ai ai ai⟩;rcases c with rfl|⟨j,rfl⟩<;>trivial
 . rcases s p r b c with⟨q,h⟩|rfl;.exact .inl ⟨q,b,h⟩
   omega
theorem aFO(hC:qN P ak cf rec){bs:Nat}{M:ah Nat}{f:aK}{m:Array Tmp}{X b:bF}{k:eB->ah bh}{N:bh}{s:List Item}(w:Ok K φ ω H O fr.tmps)(cZ:du P K (λ_=>Z) cf.ao)(Y:xn bs M fr O φ ω H)(h:exec P cf rec M (.rangeFunc f m X b) O k=J N)(hk:∀o,k o=J N->AD P ak bs M K φ ω H O fr s G o):dQ P ak {fr with todo:=.code (.rangeFunc f m X b)::s} H G:=by
 unfold exec at h;split at h;.rename_i hf first captured hv;cases uV:((cf.iK hf (first++[.dT O.g.next]++captured)).isSome||!(Ak M O.g))with|true=>grind|false=>
  rw[uV]at h;simp only[bS]at h;simp only[Nk,Bool.not_eq_false']at uV;obtain⟨avF,vf⟩:=uV;have avF:cf.iK hf (first++[.dT O.g.next]++captured)=Z:=by simp_all
  obtain⟨rs,Uk,h⟩:=aF h;cases rs with|out o=>simp_all|val v g'=>
  simp only at h;obtain⟨af,f1,_,f3⟩:=sF (P:=P) (pe cZ) w.sl (IC w.sl hv (λ_ _ _=>aO)) hv;obtain⟨m1,m2,rfl,k1,k2⟩:=Kw f3;have made:∃(d0:Nat)(F:aD)(j:Heap),(match fr.roundOf with
      |some l=>match H.get l with|some (.loop r)=>J (r.defers,([]:aD),H)|_=>Z
      |none=>J (H.next,[H.next],H.alloc (.deferred V)))=J (d0,F,j)/\Ok K φ ω j O fr.tmps/\Nx K φ ω H K φ ω j/\xn bs M {fr with defers:=dF F fr.defers} O φ ω j:=by have W:=Y.rd;cases M with
    |none=>
      obtain⟨r1,r3,r4⟩:=W;obtain⟨o1,n1⟩:=auR w (.deferred V) rfl;refine⟨H.next,[H.next],H.alloc (.deferred V),ai,o1,n1,⟨Y.fn,Y.n,Y.mode,fX Y.base n1.keep.next,r1,?_,?_⟩⟩;all_goals simp only[kZ]
      .refine List.nodup_cons.2 ⟨λhm=>?_,aT⟩;have:=w.hr.inv.get _ _ (r4 _ hm).1;omega
      . intro r hr;rcases List.mem_cons.1 hr with rfl|hr;.exact⟨me H _,λ⟨p,b,I⟩=>by have:=w.hr.cw p _ b I;omega,Y.base⟩
        .obtain⟨h1,h2,h3⟩:=r4 r hr;exact⟨by rw[nq H _ (by have:=w.hr.inv.get _ _ h1;omega)];omega,h2,h3⟩|some l=>
      obtain⟨i,r1,r2,r3⟩:=W;unfold Ak at vf;simp only at vf;split at vf;.rename_i r nO;obtain⟨i',q1,_,A,q2,_⟩:=w.hr.js l _ nO;obtain rfl:i=i':=bt (r1.symm.trans q1);refine⟨A.defers,[],H,aT,w,Nx.refl w.hr,⟨Y.fn,Y.n,Y.mode,Y.base,i,r1,r2,?_⟩⟩;grind[dF]
      simp_all
  obtain⟨d0,F,j,OW,U,Vh,fra⟩:=made;obtain⟨B,d,l1,Q,Qe⟩:=aAL U (r:={state:=.ready,pending:=Z,fn:=O.fn,n:=O.n,sl:=lO O.sl,params:=m.toList,assign:=X,body:=b}) (R:={state:=.ready,pending:=Z,fn:=fr.fn,n:=fr.n,tmps:=fr.tmps,params:=m.toList,assign:=X,body:=b,defers:=d0}) ⟨rfl,rfl,Y.fn,Y.n,rfl,rfl,rfl⟩ (aE0 U.sl);have gN:bG K B (first++[.dT O.g.next]++captured) (m1++[.yield j.next]++m2):=((k1.mono (bo.refl _) (Vh.mS.trans Qe.mS)).append (bG.cons (.dT _ _ l1) bG.nil)).append (k2.mono (bo.refl _) (Vh.mS.trans Qe.mS));obtain⟨a,E,S,u,D,c1,c0,c2,c3,c4⟩:=hC hf _ .no _ v g' Uk K B _ _ _ (Q.hr.callee C) cZ (oQ.Vn gN);have CG:∀q r b,(d.of (ly C)) q=J (r,b)->d q=J (r,b)/\((∃id,q=.g id)\/∃id off,q=.gc id off):=by grind[aI.iz,L4]
  have cr:vV C K B d (j.alloc (.loop {state:=.ready,pending:=Z,fn:=fr.fn,n:=fr.n,tmps:=fr.tmps,params:=m.toList,assign:=X,body:=b,defers:=d0})) O.lb (O.g.alloc (.loop {state:=.ready,pending:=Z,fn:=O.fn,n:=O.n,sl:=lO O.sl,params:=m.toList,assign:=X,body:=b})) B (d.of (ly C)) S u D E g':=⟨Q.hr,c2,c3,λ_=>rfl,by rintro p r bb I h⟨q,cc,hq⟩;obtain⟨h1,h3⟩:=CG q r cc hq;have:=Q.hr.inj _ _ _ _ _ h h1;simp_all⟩;have C9:Ok S u (wm C Z d D) E {O with sl:=cK O.sl,g:=g'} fr.tmps:=cr.ok (dst:=Z) (O:={O with g:=O.g.alloc (.loop {state:=.ready,pending:=Z,fn:=O.fn,n:=O.n,sl:=lO O.sl,params:=m.toList,assign:=X,body:=b})}) Q.sl c4 (λh=>aT) rfl;have CI:∀r,dL (d.of (ly C)) r->dL d r:=λr⟨q,cc,hq⟩=>⟨q,cc,(CG q r cc hq).1⟩;have nx3:Nx K B d _ S u (wm C Z d D) E:=c2.up Q.hr.inv CI (bo.refl _) (Q.hr.fV (bQ.refl (λ_=>False) _)) c2.mS (cr.lG (λp r bb h=>⟨p,bb,h⟩) CI);obtain⟨T,e1,n1,e2⟩:∃T,AM.xI P ak hf (m1++[.yield j.next]++m2) (j.alloc (.loop {state:=.ready,pending:=Z,fn:=fr.fn,n:=fr.n,tmps:=fr.tmps,params:=m.toList,assign:=X,body:=b,defers:=d0}))=J (.call T (j.alloc (.loop {state:=.ready,pending:=Z,fn:=fr.fn,n:=fr.n,tmps:=fr.tmps,params:=m.toList,assign:=X,body:=b,defers:=d0})))/\∃n,AM.run P ak n T (j.alloc (.loop {state:=.ready,pending:=Z,fn:=fr.fn,n:=fr.n,tmps:=fr.tmps,params:=m.toList,assign:=X,body:=b,defers:=d0}))=J (.ret a E):=by rcases c1 with c1|⟨p1,T,p2,n,p3⟩;all_goals grind[AM.xI]
  split at h
  . rename_i r nO;obtain⟨i,q1,qw,A,q2,q3,q4,q5,q6,q7,q8,q9,tE⟩:=C9.hr.js _ _ nO;have hi:i=j.next:=by have:=c2.mS _ _ l1;simp_all
    subst hi;obtain⟨LY,nx4⟩:=YS (R':={A with state:=.exhausted}) (y:=.loop {r with state:=.exhausted}) C9 q1 qw q2 ⟨_,wY _ _ _ _,rfl,q4,q5,q6,q7,q8,q9,tE⟩;have LY:Ok S u (wm C Z d D) (E.put j.next j.next (.loop {A with state:=.exhausted})) {O with sl:=cK O.sl,g:=g'.set O.g.next (.loop {r with state:=.exhausted})} fr.tmps:=by refine⟨LY.hr,λt sv L=>LY.sl t sv ?_⟩;show look (cK (cK O.sl)) t=J sv;have L:look (cK O.sl) t=J sv:=L;unfold cK at L|-;rw[qB (O.sl.map λx=>(x.1,pq x.2)) pq,L];rw[qB O.sl pq]at L;cases h0:look O.sl t with|none=>simp_all|some s0=>rw[h0]at L;cases L;cases s0<;>rfl
    have aC2:=((Vh.trans w.hr.inv Qe).trans w.hr.inv nx3).trans w.hr.inv nx4;have aLR:xn bs M {fr with tmps:=fr.tmps,defers:=dF F fr.defers} {O with sl:=cK O.sl,g:=g'.set O.g.next (.loop {r with state:=.exhausted})} u (wm C Z d D) (E.put j.next j.next (.loop {A with state:=.exhausted})):=xn.nx (st':={O with sl:=cK O.sl,g:=g'.set O.g.next (.loop {r with state:=.exhausted})}) (fr:={fr with defers:=dF F fr.defers}) (tm':=fr.tmps) (td:=fr.todo) U.hr.inv fra ((Qe.trans U.hr.inv nx3).trans U.hr.inv nx4) rfl rfl;have step:∀(o:eB),o.F5={O with sl:=cK O.sl,g:=g'.set O.g.next (.loop {r with state:=.exhausted})}->r.state≠.busy->k o=J N->(∀rc:Rec,(match A.pending with|some c=>rc {fr with todo:=.code c::s,defers:=dF F fr.defers} (E.put j.next j.next (.loop {A with state:=.exhausted}))|none=>rc {fr with todo:=s,defers:=dF F fr.defers} (E.put j.next j.next (.loop {A with state:=.exhausted})))=rc {fr with todo:=Jg o s,defers:=dF F fr.defers} (E.put j.next j.next (.loop {A with state:=.exhausted})))->dQ P ak {fr with todo:=.code (.rangeFunc f m X b)::s} H G:=by intro o ho hb hko Ld;have je:=hk o hko S u _ _ fr.tmps (dF F fr.defers) aC2 aT ai ai aT;refine dQ.step n1 (λn hn=>?_) je;have D7:=I4 hn T _ _ e2;obtain⟨fn,nn,ad,todo,aa,mode,roundOf⟩:=fr;obtain rfl:mode=.run:=Y.mode;unfold body uN JM;simp only at f1 OW e1 D7 Ld|-;rw[f1];simp only;refine(gY (λz=>qT z _) OW).trans ?_;simp only[cQ,kZ]at e1 D7|-;rw[e1];simp only[D7,cQ,q2];have hRb:A.state≠.busy:=aT;have Ph:=Ld (AM.run P ak n);simp only[kZ]at Ph;cases hRs:A.state with|busy=>simp_all|ready=>exact Ph|done=>exact Ph|exhausted=>exact Ph
    split at h;.simp_all
    . rename_i mM;split at h;.rename_i I;refine step (.fJ _) rfl (λe=>mM e) h λrc=>?_;rw[q4,I];rfl
      .rename_i I;refine step (.rt _) rfl (λe=>mM e) h λrc=>?_;rw[q4,I];rfl
      .rename_i id I;refine step (.ext id _) rfl (λe=>mM e) h λrc=>?_;rw[q4,I];rfl
      simp_all
  simp_all
 simp_all
end
section
variable{P:aG}{ak:cg}{rec:dR}{cf:bR}{K K' K1 K2:aX}{φ ψ φ0 φ1:ch}{ω ω' ω0 fW ω1:aI}{H H' H1:Heap}{lb:dV}{g g':GH}{O st' st2:St}{tm:Tr AV}{fr fC:cD}{bs:Nat}{rd:ah Nat}
theorem dQ.todo{d t:List Item}(m:fr.mode=.run)(h:∀(rc:Rec)(fr:cD),fr.mode=.run->body P ak rc {fr with todo:=d} H=rc {fr with todo:=t} H)(r:dQ P ak {fr with todo:=t} H G):dQ P ak {fr with todo:=d} H G:=r.step 0 λn _=>h _ fr m
theorem AD.here{r:List Item}{o:eB}(h:AD P ak bs rd K φ ω H O fr r G o)(k:Ok K φ ω H O fr.tmps)(d:xn bs rd fr O φ ω H)(e:o.F5=O):dQ P ak {fr with todo:=Jg o r} H G:=h K φ ω H fr.tmps fr.defers (Nx.refl k.hr) ai ai ai aT
theorem AD.trans{r:List Item}{o:eB}{v:Tr AV}{a:aD}(h:AD P ak bs rd K φ ω H O fr r G o)(i:bg H)(n:Nx K φ ω H K1 φ1 ω1 H1)(c:st1.n=O.n)(d:st1.fn=O.fn):AD P ak bs rd K1 φ1 ω1 H1 st1 {fr with tmps:=v,defers:=a} r G o:=λK' ψ ω' H' t m b z e1 e2 f=>h K' ψ ω' H' t m (n.trans i b) z ab ai f
theorem Om(hC:qN P ak cf rec)(hY:wa P ak cf rec)(hI:vX P ak cf)(hL:GF P ak cf rec)(G:Out->Prop):∀(c:bF)(O:St)(k:eB->ah bh)(s:bh)(K:aX)(φ:ch)(ω:aI)(H:Heap)(fr:cD)(rest:List Item),exec P cf rec rd c O k=J s->Ok K φ ω H O fr.tmps->du P K (λ_=>Z) cf.ao->xn bs rd fr O φ ω H->(∀o,k o=J s->AD P ak bs rd K φ ω H O fr rest G o)->dQ P ak {fr with todo:=.code c::rest} H G:=by intro c;induction c with
 |skip=>intro O k s K φ ω H fr rest h ok p d j;exact dQ.todo d.mode (λrc fr F=>by obtain⟨_,_,_,_,_,m,_⟩:=fr;obtain rfl:m=.run:=F;rfl) ((j _ h).here ok d rfl)|label l=>intro O k s K φ ω H fr rest h ok p d j;exact dQ.todo d.mode (λrc fr F=>by obtain⟨_,_,_,_,_,m,_⟩:=fr;obtain rfl:m=.run:=F;rfl) ((j _ h).here ok d rfl)|seq a b I L=>
 intro O k s K φ ω H fr rest h ok p d j;refine dQ.todo d.mode (λrc fr F=>by obtain⟨_,_,_,_,_,m,_⟩:=fr;obtain rfl:m=.run:=F;rfl) ?_;refine I O _ _ K φ ω H fr _ h ok p d λo u=>?_;intro K' ψ ω' H' t D A E e1 e2 q;rcases o with st1|⟨id,st1⟩|st1;.exact L _ k _ K' ψ _ H' {fr with tmps:=t,defers:=D} _ u E (p.mono A.ext (aU.refl _)) q λo2 wL=>(j o2 wL).trans ok.hr.inv A e1 e2
 .exact Db (fr:={fr with tmps:=t,defers:=D}) d.mode aO aO (j _ u K' ψ _ H' _ _ A E e1 e2 q)
 exact Db (fr:={fr with tmps:=t,defers:=D}) d.mode aO aO (j _ u K' ψ _ H' _ _ A E e1 e2 q)|cond x a b I L=>
 intro O k s K φ ω H fr rest h ok p d j;have h:(match bj _ O x with|some (.bool y)=>bif y then exec P cf _ rd a O k else exec P cf _ rd b O k|_=>Z)=J _:=h;split at h
 . rename_i y hx;obtain⟨av,N,_,Y⟩:=nX (pe p) ok.hr ok.sl hx;obtain rfl:av=.bool y:=by cases Y;rfl
   cases y with|true=>refine dQ.step 0 (λn _=>?_) (I O k _ K φ ω H fr _ h ok p d j);obtain⟨_,_,_,_,_,m,_⟩:=fr;obtain rfl:m=.run:=d.mode;unfold body uN wj xD xE xF AX;simp only at N|-;rw[N];rfl|false=>refine dQ.step 0 (λn _=>?_) (L O k _ K φ ω H fr _ h ok p d j);obtain⟨_,_,_,_,_,m,_⟩:=fr;obtain rfl:m=.run:=d.mode;unfold body uN wj xD xE xF AX;simp only at N|-;rw[N];rfl
 grind|block id b S=>
 intro O k s K φ ω H fr rest h ok p d j;refine dQ.todo d.mode (λrc fr F=>by obtain⟨_,_,_,_,_,m,_⟩:=fr;obtain rfl:m=.run:=F;rfl) ?_;refine S O _ _ K φ ω H fr _ h ok p d λo u=>?_;intro K' ψ ω' H' t D A E e1 e2 q;have pop:dQ P _ _ H' G->dQ P ak {fr with tmps:=t,defers:=D,todo:=.inBlock id::rest} H' G:=λr=>dQ.todo (fr:={fr with tmps:=t,defers:=D}) d.mode (λrc fr F=>by obtain⟨_,_,_,_,_,m,_⟩:=fr;obtain rfl:m=.run:=F;rfl) r;rcases o with st1|⟨i,st1⟩|st1;.exact pop (j _ u K' ψ _ H' _ _ A E e1 e2 q)
 . have u:(bif aw i id then k _ else k _)=J _:=u;rw[bE]at u;by_cases e:i=id
   . simp only[e,dM,aR]at u;have r:=j _ u K' ψ _ H' _ _ A E e1 e2 q;refine r.step 0 λn _=>?_;have hb:=R7 (P:=P) (ak:=ak) (rc:=AM.run P ak n) (H:=H') (id:=i) (k:=.inBlock id::rest) (fr:={fr with tmps:=t,defers:=D}) d.mode;refine hb.trans ?_;have he:exitTo i (.inBlock id::rest)=J rest:=by grind[exitTo]
     rw[he];rfl
   .simp only[e,kM,bS]at u;exact Db (fr:={fr with tmps:=t,defers:=D}) d.mode aO aT (j _ u K' ψ _ H' _ _ A E e1 e2 q)
 exact Db (fr:={fr with tmps:=t,defers:=D}) d.mode aO aO (j _ u K' ψ _ H' _ _ A E e1 e2 q)|loop b _=>
 intro O k s K φ ω H fr rest h ok p d j;obtain⟨r,hr,h⟩:=aF h;rcases r with⟨v,g⟩|o;.grind[fF]
 refine hL b _ rd o hr bs K φ ω H fr _ G (UY ok) p ⟨d.fn,d.n,d.mode,d.base,d.rd⟩ ?_;intro K' ψ ω' H' t D A E e1 e2 q;exact j o h K' ψ _ H' _ _ A E e1 e2 q|scope b S=>
 intro O k s K φ ω H fr rest h ok p d j;refine dQ.todo d.mode (λrc fr F=>by obtain⟨_,_,_,_,_,m,_⟩:=fr;obtain rfl:m=.run:=F;rfl) ?_;refine S O _ _ K φ ω H fr _ h ok p d λo u=>?_;intro K' ψ ω' H' t D A E e1 e2 q;rcases o with st1|⟨i,st1⟩|st1;.exact dQ.todo (fr:={fr with tmps:=t,defers:=D}) d.mode (λrc fr F=>by obtain⟨_,_,_,_,_,m,_⟩:=fr;obtain rfl:m=.run:=F;rfl) (j _ u K' ψ _ H' _ _ A E e1 e2 q)
 .exact Db (fr:={fr with tmps:=t,defers:=D}) d.mode aO aO (j _ u K' ψ _ H' _ _ A E e1 e2 q)
 exact Db (fr:={fr with tmps:=t,defers:=D}) d.mode aO aO (j _ u K' ψ _ H' _ _ A E e1 e2 q)|exit id=>intro O k s K φ ω H fr rest h ok p d j;exact(j _ h).here ok d rfl|ret=>intro O k s K φ ω H fr rest h ok p d j;exact(j _ h).here ok d rfl|region T ops B=>
 intro O k s K φ ω H fr rest h ok p d j;have h:(bif !B||nk cf O _ then(jN P cf _ _ _ _ _ _ 0 [] O).bind _ else Z)=J _:=h;have h2:∃st1,(bif !B||nk cf O ops.toList then jN P cf rec (cf.s8 O.fn) (cf.zt O.fn) B ops ops.toList 0 [] O else Z)=J st1/\k (.fJ (mask (cf.keep O.fn T) st1))=J s:=by
   rcases hc:(!B||nk cf O _)with _|_;.grind
   simp_all[aF]
 obtain⟨st1,h3,h4⟩:=h2;obtain⟨t,H',K',ψ,ω',⟨n0,r1⟩,r2,r3,U,W⟩:=YF (fr:={fr with todo:=rest}) hC hY hI ok p d.n h3;have q:=d.nx ok.hr.inv r2 U W t fr.todo;refine(j _ h4 K' ψ _ H' _ _ r2 (UY r3) U W ⟨q.fn,q.n,q.mode,q.base,q.rd⟩).step n0 λn hn=>?_;have:=r1 n hn;obtain⟨fn,nn,X,todo,Q,m,M⟩:=fr;obtain rfl:m=.run:=d.mode;exact gY (λz=>qT z _) this|rangeFunc f R rX b _ _=>grind[aFO]|goto l=>intro O k s K φ ω H fr rest h ok p d j;have h:(Z:ah _)=J _:=h;grind|refuse w=>intro O k s K φ ω H fr rest h ok p d j;have h:(Z:ah _)=J _:=h;grind
end
section
variable{P:aG}{ak:cg}{rec:dR}{cf:bR}{K K' K1 K2:aX}{φ ψ φ0 φ1:ch}{ω ω' ω0 fW ω1:aI}{H H' H1:Heap}{lb:dV}{g g':GH}{O st' st2:St}{tm tm':Tr AV}{fr fC:cD}{rd:ah Nat}
def yZ(K:aX)(d:ch)(e:aI)(H:Heap)(x:DV×aM)(a:AV)(f:ah (Nat×Bool)):Prop:=(∀r b,f=J (r,b)->(∀q c,e q≠J (r,c))/\r<H.next/\(b=V->∀j y,K j=J y->rootOf H j≠r))/\∀(ω0:aI)(p:Pk),ω0 p=f->cN K d ω0 H p x.1 a x.2
theorem aJ0(n:HR K φ ω H lb g){o:Pk}{d:DV}(h:cN K φ ω H o d a ow){src:Pk->ah Pk}(A:∀q,src q≠J o):∃f,yZ K φ (ω.of src) H (d,ow) a f/\∀r b,f=J (r,b)->dL ω r:=by
 have uy:(∀(ω0:aI)(p:Pk),cN K φ _ H p d a ow)->∃f,yZ K φ (ω.of src) H (d,ow) a f/\∀r b,f=J (r,b)->dL ω r:=λh=>⟨Z,⟨λ_ _ h=>ai,λω0 p _=>h ω0 p⟩,λ_ _ h=>ai⟩;have M:∀r b,ω o=J (r,b)->(∀(ω0:aI)(p:Pk),ω0 p=J (r,b)->cN K φ ω0 H p d a ow)->∃f,yZ K φ (ω.of src) H (d,ow) a f/\∀r b,f=J (r,b)->dL ω r:=by
  intro r b k U;refine⟨_,⟨λx t e=>?_,U⟩,λx t e=>?_⟩;.obtain⟨rfl,rfl⟩:=il (bt e);refine⟨λq c w=>?_,n.cw _ _ _ k,λu j y v=>by subst u;exact n.clean _ _ _ _ k v⟩;obtain⟨z,l,i⟩:=aI.iz w;obtain rfl:=n.inj _ _ _ _ _ i k;grind
  .obtain⟨rfl,rfl⟩:=il (bt e);exact⟨_,b,k⟩
 cases ow with|no=>exact uy λ_ _=>h|any=>exact uy λ_ _=>h|full e=>exact uy λ_ _=>h|ty e=>
  obtain⟨l,i⟩:=h;rcases i with i|⟨r,b,m,s⟩;.exact uy λ_ _=>⟨l,.inl i⟩
  .exact M r b m λω0 p k=>⟨l,aT⟩|ex e=>
  rcases h with i|⟨r,m,s⟩;.exact uy λ_ _=>.inl i
  .exact M r _ m λω0 p k=>.inr ⟨r,k,s⟩
theorem yZ.nx{x:DV×aM}{g:ah (Nat×Bool)}(h:yZ K φ ω H x a g)(l:bg H)(n:Nx K φ ω H K' ψ ω' H):yZ K' ψ ω' H x a g:=by
 refine⟨λr b e=>?_,λω0 p o=>?_⟩
 . obtain⟨i,k,t⟩:=h.1 r b e;have w:∀f,dL ω f->f≠r:=λf⟨q,c,d⟩e=>i q c (e▸d);refine⟨λq c d=>?_,k,λv j y m=>?_⟩;.rcases n.lG q r c d with⟨z,s,h⟩|h<;>grind
   .obtain⟨_,u⟩:=n.dk j y m;grind
 .exact(h.2 _ p o).keep l (bQ.refl _ _) n.ext n.mS λr b e=>⟨e,id⟩
theorem ahT{t:Tmp}{x:DV×aM}(k:Ok K φ ω H O tm)(h:uE O t=J (x,st1)):∃a f ω',tm.get t=J a/\Ok K φ ω' H st1 tm/\yZ K φ ω' H x a f/\(∀r b,f=J (r,b)->dL ω r)/\(∀p r b,ω' p=J (r,b)->dL ω r)/\st1.g=O.g:=by
 unfold uE at h;split at h;.rename_i d o l;obtain⟨rfl,rfl⟩:=il (bt h);obtain⟨a,c,g,e⟩:=k.sl t _ l;have y:=g aO;obtain⟨f,k1,k2⟩:=aJ0 (src:=pE t) k.hr e (λq i=>by cases q<;>simp only[pE]at i<;>grind);refine⟨a,f,_,c,⟨k.hr.of (Y2 t),Q2 k.hr k.sl l c y e⟩,k1,k2,λp r b h=>let⟨q,_,h⟩:=aI.iz h;⟨q,b,h⟩,rfl⟩
 grind
def IQ(P:aG)(m:Tr AV)(H:Heap):oy->ah AV|.tmp t=>J ((m.get t).getD fo)|.cell a t=>match(m.get a).getD fo with|.ptr id o=>AM.loadVar P H t id o|_=>Z
theorem aGl{r:oy}{A:DV×aM}(k:Ok K φ ω H O tm')(M:tm'.get (vF r)=tm.get (vF r))(h:IS P O r=J (A,st1)):∃a f K' ψ ω' v,IQ P tm H r=J a/\Nx K φ ω H K' ψ ω' H/\Ok K' ψ ω' H st1 v/\yZ K' ψ ω' H A a f/\(∀r b,f=J (r,b)->dL ω r)/\(∀t,t≠vF r->v.get t=tm'.get t):=by
 rcases r with t|⟨c,t⟩;.obtain⟨a,f,ω',D,E,F,G,I,_⟩:=ahT k (show uE O t=J _ from h);refine⟨a,f,K,φ,_,_,?_,⟨bo.refl _,k.hr.fV (bQ.refl (λ_=>False) _),aU.refl _,bQ.refl _ _,λp r b L=>.inl (I p r b L),qc.refl _ _⟩,E,F,G,λ_ _=>rfl⟩;show J _=J a;have M:tm'.get t=tm.get t:=M;grind
 have d:∀(y:Loc)(b:LB)(o i:Nat)(r:SV×LB)(st2:St),O.at y=J b->ω y.top=J (i,V)->oR K φ ω H y.pk b i->tm'.get c=J (.ptr i o)->fD P .take t b o=J r->aH (O.setAt y r.2) (J c) r.1=J st2->uE st2 c=J (A,st1)->∃a f K' ψ ω' v,IQ P tm H (.cell c t)=J a/\Nx K φ ω H K' ψ ω' H/\Ok K' ψ ω' H st1 v/\yZ K' ψ ω' H A a f/\(∀r b,f=J (r,b)->dL ω r)/\(∀z,z≠c->v.get z=tm'.get z):=by
   intro y b o i r st2 m X lu T l g R;obtain⟨a,a1,S⟩:=afJ k.hr k.sl m X lu l g;obtain⟨K1,ψ1,ω1,n,wV⟩:=S.nx (qc.refl _ _);obtain⟨a',f,ω2,D,E,F,G,I,_⟩:=ahT wV R;have:(tm'.ins c a).get c=J a:=Tr.lh _ _ _;rw[show gQ _ _ a=tm'.ins c a from rfl,this]at D;obtain rfl:=bt D;refine⟨a,f,K1,_,_,_,?_,⟨n.ext,n.dk,n.mS,n.keep,λp r b L=>?_,n.log⟩,E,F,λr b e=>?_,λz EG=>Tr.jr _ _ ai⟩;.show(match(tm.get c).getD _ with|.ptr id o=>AM.loadVar P H t id _|_=>Z)=J a;rw[<-(show tm'.get c=tm.get c from M),T];grind
   .obtain⟨q,B,u⟩:=I p r b L;exact n.lG q r B u
   . obtain⟨q,B,u⟩:=G r b e;rcases n.lG q r B u with h|h;.omega
     .have:=wV.hr.cw _ _ _ u;omega
 have h:(match look O.sl c with|some (.lp s o)=>(look _ s).bind _|some (.dv (.ptr id o) _)=>(match O.g.get id with|some (.box b)=>(fD P _ t b _).bind _|_=>Z)|_=>Z)=J _:=h;split at h;.rename_i s o l;obtain⟨b,m,h⟩:=aF h;obtain⟨r,hr,h⟩:=aF h;obtain⟨st2,g,h⟩:=aF h;obtain⟨i,w,N,_⟩:=k.hr.at (x:=.l s) m;obtain⟨a,g1,_,g3⟩:=k.sl c _ l;exact d (.l s) b _ i r _ m w N (by rw[g1,g3 i _ w]) hr g h
 . rename_i id o ow l;split at h
   . rename_i b W;obtain⟨r,hr,h⟩:=aF h;obtain⟨st2,g,h⟩:=aF h;have Q:O.at (.g id)=J b:=by grind[St.at]
     obtain⟨i,w,N,i3⟩:=k.hr.at Q;obtain⟨a,g1,_,g3⟩:=k.sl c _ l;have U:=cN.look k.hr g3;cases U with|ptr _ _ j Y=>have:=i3 id rfl;rw[Y]at this;obtain rfl:=bt this;exact d _ b _ j r _ Q w N g1 hr g h
   grind
 grind
theorem aBc:∀{l:aD},yp l=V->l.Nodup:=by intro l;induction l<;>grind[yp,bE]
theorem arM:∀(l:List oy)(s:List (DV×aM))(O st2:St)(K:aX)(φ:ch)(ω:aI)(tm':Tr AV),sZ P l O=J (s,st2)->Ok K φ ω H O tm'->(∀t,t∈l.map vF->tm'.get t=tm.get t)->(l.map vF).Nodup->∃(aS:aJ)(Y:List (ah (Nat×Bool)))(K':aX)(ψ:ch)(ω':aI)(v:Tr AV),cu (IQ P tm H) l=J aS/\Nx K φ ω H K' ψ ω' H/\Ok K' ψ ω' H st2 v/\s.length=aS.length/\s.length=Y.length/\(∀(j:Nat)(x:DV×aM)(a:AV)(e:ah (Nat×Bool)),s[j]?=J x->aS[j]?=J a->Y[j]?=J e->yZ K' ψ ω' H x a e)/\(∀(j:Nat)(r:Nat)(b:Bool),Y[j]?=J (J (r,b))->dL ω r)/\∀(i j:Nat)(r:Nat)(b c:Bool),Y[i]?=J (J (r,b))->Y[j]?=J (J (r,c))->i=j:=by intro l;induction l with|nil=>intro s O st2 K φ ω tm' h ok _ _;obtain⟨rfl,rfl⟩:=il (bt (show J ([],O)=J (s,st2)from h));exact⟨[],[],K,φ,ω,tm',rfl,Nx.refl ok.hr,ok,rfl,rfl,λj x a e h=>ai,λj r b h=>ai,λi j r b c h=>ai⟩|cons r l R=>
 intro s O st2 K φ ω tm' h ok I T;have h:((IS P O r).bind λx=>(sZ P l x.2).bind λy=>J (x.1::y.1,y.2))=J (s,st2):=h;obtain⟨⟨x,st1⟩,N,h⟩:=aF h;obtain⟨⟨U,F⟩,Q,h⟩:=aF h;obtain⟨rfl,rfl⟩:=il (bt h);rw[fS,List.nodup_cons]at T;obtain⟨a,e,K1,k,ω1,S,W,o,p,u,X,a6⟩:=aGl (tm:=tm) ok (I _ aO) N;obtain⟨aS,Y,K2,m,n,v,b1,w,B,b4,b5,b6,z,b8⟩:=R U st1 F K1 k ω1 S Q p (λt L=>by grind) T.2;have M:∀(j:Nat)(d:Nat)(b c:Bool),e=J (d,b)->Y[j]?=J (J (d,c))->False:=by intro j d b c e1 e2;obtain⟨q,D,g⟩:=z j d c e2;exact(u.1 d b e1).1 q D g
 refine⟨a::aS,e::Y,K2,m,n,v,?_,o.trans ok.hr.inv w,B,ai,ai,?_,?_,?_⟩;.grind[cu]
 .intro j y c f A E G;cases j with|zero=>cases A;cases E;cases G;exact u.nx ok.hr.inv w|succ j=>grind
 .intro j d b A;cases j with|zero=>grind|succ j=>
  obtain⟨q,c,g⟩:=z j d b ai;rcases o.lG q d c g with h|h;.omega
  .have:=p.hr.cw _ _ _ g;omega
 grind
theorem HR.amU{l:Pk->ah (Nat×Bool)}(d:HR K φ ω H lb g)(s:∀p x,l p=J x->p.slot)(m:∀p r b,l p=J (r,b)->(∀q c,ω q≠J (r,c))/\r<H.next/\(b=V->∀j y,K j=J y->rootOf H j≠r))(M:∀p q r b c,l p=J (r,b)->l q=J (r,c)->p=q):HR K φ (λp=>(l p).or (ω p)) H lb g:=by
 have back:∀p r b,(l p).or (ω p)=J (r,b)->l p=J (r,b)\/(l p=Z/\ω p=J (r,b)):=by simp_all
 refine d.uC (bo.refl _) (λq k=>?_) d.dk ?_ ?_ ?_;.cases i:l q<;>grind
 . intro p q r b c a e;rcases back p r b a with h|⟨_,h⟩;.grind
   . rcases back q r c e with f|⟨_,f⟩;.grind
     .exact d.inj _ _ _ _ _ h f
 . intro p r j x a e;rcases back p r _ a with h|⟨_,h⟩;.grind
   .exact d.clean p r j x h e
 . intro p r b a;rcases back p r b a with h|⟨_,h⟩;.grind
   .exact d.cw _ _ _ h
def AB(P:aG)(K:aX)(b:ch)(c:aI)(H:Heap)(v:SV)(g:GH)(o:Out):Prop:=∃a H' K' ψ ω',o=.ret a H'/\Nx K b c H K' ψ ω' H'/\HR K' ψ ω' H' [] g/\jR K' ψ ω' H' v a
theorem acX(Q:Ok K φ ω H O tm)(h:xQ P fn O=J (.val v g')):∃a K' ψ ω',((cu (IQ P tm H) fn.results.toList).map λ|[v]=>v|A=>.cM A)=J a/\Nx K φ ω H K' ψ ω' H/\HR K' ψ ω' H [] g'/\jR K' ψ ω' H v a:=by unfold xQ at h;cases T:yp (fn.results.toList.map vF)with|false=>grind|true=>rw[T]at h;simp only[aR]at h;cases D:sZ P fn.results.toList O with|none=>grind|some y=>
 obtain⟨s,st2⟩:=y;rw[D]at h;obtain⟨rfl,rfl⟩:=bh.val.inj (bt h);obtain⟨aS,Y,K',ψ,ω',vN,R,e,E,B,F,m,S,W⟩:=arM (tm:=tm) _ _ _ _ K φ ω tm D Q (λ_ _=>rfl) (aBc T);have u:=E.hr.callee C;have M:∀p r b,(ω'.of (ly C)) p=J (r,b)->ω' p=J (r,b):=λp r b h=>by grind[aI.iz,L4]
 have g:∀(j:Nat)(f:ah (Nat×Bool)),Y[j]?=J f->∃x a,s[j]?=J x/\aS[j]?=J a:=λj f i=>by have U:=(List.getElem?_eq_some_iff.1 i).1;exact⟨_,_,dD ab,dD ab⟩
 have fin:∀(l:Pk->ah (Nat×Bool))(z:Nat->Pk),(∀p x,l p=J x->∃j,p=z j/\Y[j]?=J (J x))->(∀j,(z j).slot)->∃d,(∀p,d p=(l p).or ((ω'.of (ly C)) p))/\Nx K φ ω H K' ψ d H/\HR K' ψ d H [] st2.g:=by
  intro l z N X;refine⟨λp=>(l p).or ((ω'.of (ly C)) p),λ_=>rfl,⟨e.ext,e.dk,e.mS,e.keep,λp r b h=>?_,e.log⟩,HR.amU u (λp x h=>?_) (λp r b h=>?_) (λp q r b c h1 h2=>?_)⟩;.cases I:l p with|none=>rw[I]at h;exact e.lG p r b (M p r b h)|some x=>grind
  .grind
  .obtain⟨j,_,i⟩:=N p (r,b) h;obtain⟨x,a,w,G⟩:=g j _ i;obtain⟨k1,k2,k3⟩:=(m j x a _ w G i).1 r b rfl;grind
  grind
 have cM:C' s=.tp s->aS.length≠1->∃a K' ψ ω',((cu (IQ P tm H) fn.results.toList).map λ|[v]=>v|A=>AV.cM A)=J a/\Nx K φ ω H K' ψ ω' H/\HR K' ψ ω' H [] st2.g/\jR K' ψ ω' H (C' s) a:=by
  intro e1 e2;obtain⟨d,n,o,c3⟩:=fin (λp=>match p with|.tp 0 j=>(Y[j]?).join|_=>Z) (λj=>.tp 0 j) (λp x h=>by grind) (λ_=>trivial);refine⟨.cM aS,K',ψ,d,?_,o,c3,?_⟩;.grind
  .rw[e1];refine⟨aS,rfl,B,λj x y w L=>?_⟩;have U:j<Y.length:=ai;refine(m j x y _ w L (dD U)).2 d (.tp 0 j) ?_;rw[n];show((Y[j]?).join).or _=_;rw[dD U];show(Y[j]).or ((ω'.of (ly C)) (.tp 0 j))=Y[j];have:(ω'.of (ly C)) (.tp 0 j)=Z:=rfl;grind
 by_cases k:s.length=1
 .obtain⟨x,rfl⟩:=List.length_eq_one_iff.1 k;obtain⟨a,rfl⟩:=List.length_eq_one_iff.1 (by rw[<-B];exact k);obtain⟨f0,rfl⟩:=List.length_eq_one_iff.1 (by rw[<-F];exact k);obtain⟨d,n,o,c3⟩:=fin (λp=>match p with|.sl 0=>f0|_=>Z) (λ_=>.sl 0) (λp x h=>by cases p with
  |sl t=>cases t with|zero=>have h:f0=J x:=h;exact⟨0,rfl,ai⟩|succ t=>grind
  |_=>grind) (λ_=>trivial);refine⟨a,K',ψ,d,ai,o,c3,?_⟩;refine(m 0 x a f0 rfl rfl rfl).2 d (.sl 0) ?_;rw[n];show f0.or ((ω'.of (ly C)) (.sl 0))=f0;have:(ω'.of (ly C)) (.sl 0)=Z:=rfl;grind
 .refine cM ?_ ab;match s,k with|[],_=>rfl|[_],h=>grind|_::_::_,_=>rfl
end
section
variable{P:aG}{K K':aX}{φ:ch}{ω:aI}{H:Heap}{g g':GH}
theorem aGJ(b:LB)(o l e:Nat)(a:Bool):(w7 b o l e a).length=l:=by simp[w7]
theorem ah3(b:LB)(o l e:Nat)(a:Bool){i:Nat}(h:i<l):(w7 b o l e a)[i]?=J (bif a then .agg ((b.cells.drop (o+i*e)).take e)else((b.cells.drop (o+i*e)).headD .nl)):=by simp[w7,h]
theorem ah2{c:aq}{o l e i:Nat}{a:Bool}(s:∀(k:Nat)(d:DV),c[k]?=J d->d.aV=V)(f:o+l*e<=c.length)(h:a=V\/e=1)(j:i<l):((bif a then DV.agg ((c.drop (o+i*e)).take e)else((c.drop (o+i*e)).headD .nl)).flat)=(c.drop (o+i*e)).take e:=by cases a with|true=>rfl|false=>
 obtain rfl:e=1:=by simpa using h
 simp only[bS];have b:o+i*1<c.length:=ab;have g:c[o+i*1]?=J c[o+i*1]:=dD b;have hd:c.drop (o+i*1)=c[o+i*1]::c.drop (o+i*1+1):=(DM b);rw[hd];have:=s _ _ g;simp only[List.headD_cons,List.take_succ_cons,List.take_zero];generalize c[o+i*1]=d at*;cases d<;>first|rfl|(simp[DV.aV]at this)
theorem Zz(E:HR K φ ω H [] g){d d2:DV}(h:yN P g d=J d2)(L:DR (K.plus H λr=>∃p,ω p=J (r,V)) φ d a):DR (K.plus H λr=>∃p,ω p=J (r,V)) φ d2 a/\(d.aV=V->d2.aV=V):=by cases d with
 |cV id n len e s=>
 simp only[yN]at h;split at h;.rename_i b B hb hag;cases w:(br (n+len*s) b.cells.length&&br 1 s&&(B||aw s 1)&&b.own.any (λx=>isFull e x.2))with|false=>rw[w]at h;simp at h|true=>rw[w]at h;cases h;simp only[gD,yU,bE,dg,gZ]at w;obtain⟨⟨⟨Q,q2⟩,q3⟩,q4⟩:=w;refine⟨?_,λ_=>rfl⟩;cases L with|cV _ _ _ _ _ i c hi hc=>
  obtain⟨i',N,O,p3⟩:=E.js id _ hb;rw[hi]at N;cases N;obtain⟨m,fl,D,G,U,W,X,h5,I⟩:=p3;obtain rfl:D=e:=by obtain⟨⟨k,o⟩,o1,M⟩:=List.any_eq_true.1 q4;cases o with
   |full t=>
    have o3:t=e:=by simpa[bE,isFull]using M
    exact(U.2 k t o1).symm.trans o3|_=>simp[isFull]at M
  have z:=lA G;have Y:K.plus H (λr=>∃p,ω p=J (r,V)) i=J (m,D):=by
   unfold aX.plus;have T:K i=Z:=by
    rcases f:K i with _|x;.rfl
    exact absurd z (E.clean _ _ i x O f)
   rw[T];rw[if_pos ⟨⟨.g id,by rw[z];exact O⟩,by rw[z];exact X,by rw[z];exact W⟩];exact Pt G
  have F:∀(k:Nat)(d:DV),b.cells[k]?=J d->d.aV=V:=λk d f=>by have bU:=(List.getElem?_eq_some_iff.1 f).1;exact(I k d _ f (dD ab)).1
  have l:=aGJ b n len s B;have v:=DR.ay (φ:=φ) (w7 b n len s B) D s i n c m Y q2 (by rw[l];omega) (λk f=>by rw[l];exact hc k f) (λj x q=>by
    have u:j<len:=by have:=(List.getElem?_eq_some_iff.1 q).1;omega
    rw[ah3 _ _ _ _ _ u]at q;cases q;have he:=ah2 F Q q3 u;have jt:(j+1)*s<=len*s:=lD _ u;rw[xu]at jt;rw[he];refine⟨by rw[qa,Jy];omega,λy hy=>?_⟩;obtain⟨k,f⟩:=List.mem_iff_getElem?.1 (RD (RE hy));exact F k y f) (λj x k S R q A wA=>by
    have u:j<len:=by have:=(List.getElem?_eq_some_iff.1 q).1;omega
    rw[ah3 _ _ _ _ _ u]at q;cases q;rw[ah2 F Q q3 u]at A;have f:k<s:=by have:=(List.getElem?_eq_some_iff.1 A).1;rw[qa]at this;omega
    rw[v7 f,sS]at A;exact(cN.Fw E (λr hr=>⟨_,hr⟩) (I _ S R A wA).2).2);rw[l]at v;exact v
 .simp at h|_=>cases h;exact⟨L,id⟩
theorem ai5(e:HR K φ ω H [] g){d c:DV}(h:ZA P g d=J c)(b:DR (K.plus H λr=>∃p,ω p=J (r,V)) φ d a):DR (K.plus H λr=>∃p,ω p=J (r,V)) φ c a:=by cases d with
 |agg l=>obtain⟨l2,s,rfl⟩:=Option.map_eq_some_iff.1 h;obtain⟨v,n⟩:=E3 s;cases b with|agg _ m u t j=>
 refine .agg l2 m ab (λd b=>?_) (λi d a f q=>?_)
 . obtain⟨i,k⟩:=List.mem_iff_getElem?.1 b;have U:i<l.length:=by have:=(List.getElem?_eq_some_iff.1 k).1;omega
   have g0:l[i]?=J l[i]:=dD U;obtain⟨o,e1,e2⟩:=n i _ g0;rw[k]at e2;cases e2;exact(Zz e e1 (j i _ m[i] g0 (dD ab))).2 (t _ (dw g0))
 . have U:i<l.length:=by have:=(List.getElem?_eq_some_iff.1 f).1;omega
   have g0:l[i]?=J l[i]:=dD U;obtain⟨o,e1,e2⟩:=n i _ g0;rw[f]at e2;cases e2;exact(Zz e e1 (j i _ a g0 q)).1
 |_=>exact(Zz (P:=P) (d2:=c) e (by exact h) b).1
theorem aKx(f:HR K φ ω H [] g){z:SV}{n:GH}(k:jR K φ ω H v a)(h:Az P (.val v g)=J (.val z n)):∃K' i,Nx K φ ω H K' φ i H/\HR K' φ i H [] n/\jR K' φ i H z a:=by
 let R:Nat->Prop:=λr=>∃p,ω p=J (r,V);obtain⟨t,_,_,_⟩:=Qn f R (λr h=>h);have E:n={g with sE:=[]}:=by cases v with|dv d o=>obtain⟨_,_,e⟩:=Option.map_eq_some_iff.1 h;exact(bh.val.inj e).2.symm|tp l=>obtain⟨_,_,e⟩:=Option.map_eq_some_iff.1 h;exact(bh.val.inj e).2.symm|_=>simp[Az]at h
 refine⟨K.plus H R,λ_=>Z,⟨aX.oN _ _ _,λj x u=>?_,aU.refl _,bQ.refl _ _,λp r b h=>by simp at h,qc.refl _ _⟩,?_,?_⟩
 . obtain⟨cells,e⟩:=x;obtain⟨root,F,k1,_⟩:=t j cells e u;refine⟨f.inv.get _ _ k1,?_⟩;rcases aX.Vz u with h|⟨p,h⟩;.exact .inl h
   .exact .inr (.inl ⟨p,_,h⟩)
 .subst E;exact⟨f.inv,t,λp q r b c h=>by simp at h,λp r id x h=>by simp at h,λp r b h=>by simp at h,λs b h=>by simp[look]at h,λid o h=>by simp[GH.get,look]at h,f.nu,f.gV⟩
 .cases v with|dv d o=>obtain⟨d2,e1,e2⟩:=Option.map_eq_some_iff.1 h;obtain⟨rfl,_⟩:=bh.val.inj e2;exact ai5 f e1 (cN.Fw f (λr k=>⟨_,k⟩) k).2|tp l=>
   obtain⟨l2,e1,e2⟩:=Option.map_eq_some_iff.1 h;obtain⟨rfl,_⟩:=bh.val.inj e2;obtain⟨I,D⟩:=E3 e1;obtain⟨m,rfl,G,B⟩:=k;refine⟨m,rfl,ab,λj x y w A=>?_⟩;have U:j<l.length:=by have:=(List.getElem?_eq_some_iff.1 w).1;omega
   have g0:l[j]?=J l[j]:=dD U;obtain⟨L,k1,k2⟩:=D j _ g0;rw[w]at k2;cases k2;obtain⟨d2,k3,rfl⟩:=Option.map_eq_some_iff.1 k1;exact ai5 f k3 (cN.Fw f (λr k=>⟨_,k⟩) (B j _ y g0 A)).2|_=>simp[Az]at h
end
def Nu(P:aG)(k:cg)(e:bR):Prop:=∀f args v,e.iK f args=J (J v)->∀ow,(e.fk f=2->vw ow=V)->∀g K h j H aS,HR K h j H [] g->du P K (λ_=>Z) e.ao->oQ K h j H args ow aS->∃a c d i b,Ev P k f aS H a c/\Nx K h j H d i b c/\HR d i b c [] g/\jR d i b c v a
section
variable{P:aG}{ak:cg}{rec:dR}{cf:bR}{K K' K1 K2:aX}{φ ψ φ0 φ1:ch}{ω ω' ω0 fW ω1:aI}{H H' H1:Heap}{lb:dV}{g g':GH}{O st' st2:St}{tm tm':Tr AV}{fr fC:cD}{rd:ah Nat}
theorem dQ.imp{a:Out->Prop}(h:∀o,G o->a o)(r:dQ P ak fr H G):dQ P ak fr H a:=let⟨n,o,b,c⟩:=r;⟨n,o,b,h o c⟩
theorem AB.trans{o:Out}(i:bg H)(n:Nx K φ ω H K1 φ1 ω1 H1)(h:AB P K1 φ1 ω1 H1 v g' o):AB P K φ ω H v g' o:=by obtain⟨a,H',K',ψ,ω',b,c,d,e⟩:=h;exact⟨a,H',K',ψ,_,b,n.trans i c,d,e⟩
theorem auS{o:b9}(k:Ok K φ ω H O tm)(q:H.get r=J o0)(d:o0.eu=C)(g:o.eu=C)(I:¬dL ω r){s:aX}{c:Heap}(n:Nx s φ0 ω0 c K φ ω H)(Q:c.next<=r)(P:c.bu<=c.next):Ok K φ ω (H.put r r o) O tm/\Nx s φ0 ω0 c K φ ω (H.put r r o):=by
 have u:=ahA (r:=r) q d g;have R:∀{id l a f e},H.get id=J (.cells l a f e)->a≠r:=by intro id l a f e h M;obtain⟨S,y,e2,z⟩:=k.hr.inv.nZ _ _ _ _ _ h;grind[b9.eu]
 have T:∀id x,K id=J x->¬rootOf H id=r:=by intro id x G;obtain⟨cells,e⟩:=x;obtain⟨a,f,g1,_⟩:=k.hr.dk id _ e G;grind[lA]
 have N:∀p a b,ω p=J _->¬a=r:=λp a b F e=>I ⟨p,b,e▸F⟩;refine⟨⟨k.hr.frame u (ahz k.hr.inv q d g) (ai4 k.hr.gV q d g) N T,λt v D=>?_⟩,n.ext,λj x B=>?_,n.mS,?_,n.lG,n.log.1,λa hr=>?_,n.log.2.2⟩;.obtain⟨w,g1,g2,g3⟩:=k.sl t v D;refine⟨w,g1,g2,?_⟩;cases v with|gr id L=>obtain⟨i,m,root,f,e,k1,k2,k3⟩:=g3;refine⟨i,m,root,f,e,k1,?_,k3⟩;grind[oO,b9.eu]|_=>exact g3.keep k.hr.inv u (bo.refl _) (aU.refl _) ai ai ai ai
 .rw[QB q d g];exact n.dk j x B
 .refine⟨n.keep.next,λid hid E=>?_,n.keep.dp,λid hid=>by rw[QB q d g];exact n.keep.root id hid⟩;rw[oO H r _ ab];exact n.keep.get id hid E
 . rcases vn hr with h|⟨z,A⟩;.exact n.log.2.1 a h
   .rw[n.log.1]at A;omega
def Kk(P:aG)(c:bR)(f:bV)(n:Func)(s:St):ah bh:=bif c.Ay f then(xQ P n s).bind (Az P)else xQ P n s
theorem arN(h:Kk P cf f fn O=J (.val v g')):(xQ P fn O=J (.val v g'))\/∃a g1,xQ P fn O=J (.val a g1)/\Az P (.val a g1)=J (.val v g'):=by unfold Kk at h;cases u:cf.Ay f with|false=>rw[u]at h;exact .inl h|true=>rw[u]at h;obtain⟨r,c,b⟩:=aF h;cases r with|val a g1=>exact .inr ⟨a,g1,c,b⟩|_=>simp[Az]at b
theorem arO(o:Ok K φ ω H O tm)(h:Kk P cf f fn O=J (.val v g')):∃a K' ψ ω',((cu (IQ P tm H) fn.results.toList).map λ|[v]=>v|s=>.cM s)=J a/\Nx K φ ω H K' ψ ω' H/\HR K' ψ ω' H [] g'/\jR K' ψ ω' H v a:=by
 rcases arN h with h|⟨n,g1,l,m⟩;.exact acX o h
 .obtain⟨a,K',ψ,ω',c,d,e,g⟩:=acX o l;obtain⟨K2,b,i,j,k⟩:=aKx e g m;exact⟨a,K2,ψ,b,c,d.trans o.hr.inv i,j,k⟩
theorem aGu{e:aX}{b:Heap}{nn:Nat}(B:bg b)(y:P.funcs[f]?=J fn)(k:Kk P cf f fn O=J (.val v g')):∀(s:aD)(H:Heap)(t:List Item),Nx e φ0 ω0 b K φ ω H->Ok K φ ω H O tm->s.Nodup->(∀r,r∈s->H.get r=J (.deferred V)/\¬dL ω r/\b.next<=r)->dQ P ak {fn:=f,n:=nn,tmps:=tm,todo:=t,defers:=s,mode:=.returning,roundOf:=Z} H (AB P e φ0 ω0 b v g'):=by intro s;induction s with
 |nil=>
 intro H t n ok _ _;obtain⟨a,K',ψ,ω',h,c,d,g⟩:=arO ok k;refine⟨1,_,?_,a,H,K',ψ,_,rfl,n.trans B c,d,g⟩;show(Kt f λf=>P.funcs[f]?).bind _=_;rw[Tx,y];have:IT P fn {fn:=f,n:=nn,tmps:=tm,todo:=t,defers:=[],mode:=.returning,roundOf:=Z} H=J a:=by refine Eq.trans ?_ h;rfl
 grind|cons r s i=>
 intro H t n ok p U;obtain⟨h,c,d⟩:=U r gK;rw[List.nodup_cons]at p;obtain⟨Fi,j⟩:=auS (o:=.deferred C) ok h rfl rfl c n d B.bu;refine dQ.step 0 (λm _=>?_) (i _ t j Fi p.2 λq l=>?_);.show(match H.get r with|some (.deferred V)=>AM.run P _ m {fn:=f,n:=nn,tmps:=tm,todo:=t,defers:=s,mode:=.returning,roundOf:=Z} _|_=>Z)=_;grind
 grind[oO]
theorem akW:∀(aS:aJ)(t0:Tr AV)(i t:Nat),(fO (λ(p:Tr AV×Nat)a=>(p.1.ins p.2 a,fg p.2)) aS (t0,i)).1.get t=if i<=t/\t<i+aS.length then aS[t-i]? else t0.get t:=by intro aS;induction aS with|nil=>intro t0 i t;rw[if_neg ai];rfl|cons a aS h=>intro t0 i t;have:(fO _ (a::aS) (t0,i))=fO (λ(p:Tr AV×Nat)a=>(p.1.ins p.2 a,fg p.2)) aS _:=rfl;grind[Tr.lh,Tr.jr]
theorem akU:∀(l:aq)(i:Nat)(ow:aM)(t:Nat)(s:SV),look (tX i ow l) t=J s->∃d,i<=t/\l[t-i]?=J d/\s=.dv d (if t=i then ow else .no):=by intro l;induction l<;>grind[tX,look,bE]
theorem amm(I:qN P ak cf rec)(Y:wa P ak cf rec)(L:vX P ak cf)(N:GF P ak cf rec)(R:Nu P ak cf)(Q:∀f args aS H,cf.iK f args=Z->ak f aS H=Z):qN P ak cf (yQ P cf rec):=by intro f args ow g v g' h K φ ω H aS q w j;simp only[yQ]at h;cases s:cf.iK f _ with
 |some r=>
 rcases r with _|v0;.grind
 have X:cf.fk f=2->vw ow=V:=λe=>by cases k:vw ow<;>simp_all
 obtain⟨a,H',K',ψ,ω',h1,c,y,z⟩:=R f _ v0 s ow X g K φ ω H aS q w j;grind|none=>
 rw[s]at h;obtain⟨fn,yb,h⟩:=aF h;obtain⟨b,hb,h⟩:=aF h;rw[dg]at h;by_cases l:args.length<=fn.ntmps
 . simp only[l,dM,aR]at h;have O:=Q f args aS H s;have M:aS.length<=fn.ntmps:=by rw[<-j.1];omega
   have D:wx P f aS=J {fn:=f,n:=fn.ntmps,tmps:=(fO (λ(p:Tr AV×Nat)a=>(p.1.ins p.2 a,fg p.2)) aS (Tr.nil,0)).1,todo:=[.code b],defers:=[],mode:=.run,roundOf:=Z}:=by grind[wx,dg,dS]
   have F:Ok K φ ω H {fn:=f,n:=fn.ntmps,sl:=tX 0 ow args,lb:=[],g:=g} (fO (λ(p:Tr AV×Nat)a=>(p.1.ins p.2 a,fg p.2)) aS (Tr.nil,0)).1:=by
    refine⟨q,λt sv T=>?_⟩;obtain⟨d,_,c,rfl⟩:=akU _ _ _ _ _ T;rw[Nat.sub_zero]at c;have u:t<aS.length:=by rw[<-j.1];grind
    have S:aS[t]?=J aS[t]:=dD u;have U:=j.2 t d _ c S;exact⟨aS[t],by grind[akW],λ_=>U.qC,U⟩
   have je:=Om (rd:=Z) (bs:=H.next) I Y L N (AB P K φ ω H v g') b _ _ _ K φ ω H {fn:=f,n:=fn.ntmps,tmps:=(fO (λ(p:Tr AV×Nat)a=>(p.1.ins p.2 a,fg p.2)) aS (Tr.nil,0)).1,todo:=[.code b],defers:=[],mode:=.run,roundOf:=Z} [] h F w ⟨rfl,rfl,rfl,bJ _,rfl,List.nodup_nil,λr h=>ai⟩ (λo k=>by
    have x:∀st1,(o=.fJ st1\/o=.rt st1)->Kk P cf f fn st1=J (.val v g')->AD P ak H.next Z K φ ω H {fn:=f,n:=fn.ntmps,sl:=tX 0 ow args,lb:=[],g:=g} {fn:=f,n:=fn.ntmps,tmps:=(fO (λ(p:Tr AV×Nat)a=>(p.1.ins p.2 a,fg p.2)) aS (Tr.nil,0)).1,todo:=[.code b],defers:=[],mode:=.run,roundOf:=Z} [] (AB P K φ ω H v g') o:=by
     intro st1 B pg K' ψ ω' H' tm' mH n' A e1 e2 G;obtain⟨_,r2,r3⟩:=G.rd;have E:o.F5=st1:=by rcases B with rfl|rfl<;>rfl
     rw[E]at A;have hr:=aGu (ak:=ak) (nn:=fn.ntmps) q.inv yb pg mH H' (Jg o []) n' A r2 r3;refine dQ.step 0 (λm _=>?_) hr;rcases B with rfl|rfl<;>rfl
    cases o with|fJ st1=>exact x st1 (.inl rfl) k|rt st1=>exact x st1 (.inr rfl) k|ext i st1=>simp at k);obtain⟨n,o,W,a,H',K',ψ,ω',rfl,c,y,z⟩:=je;exact⟨a,H',K',ψ,_,.inr ⟨O,_,D,n,W⟩,λ_=>O,c,y,z⟩
 grind
theorem azQ(j:qN P ak cf rec)(Y:wa P ak cf rec)(I:vX P ak cf)(L:GF P ak cf rec):GF P ak cf (yQ P cf rec):=by
 intro b O rd o h bs K φ ω H fr rest G ok g d c;refine dQ.todo d.mode (λrc fr k=>by obtain⟨_,_,_,_,_,m,_⟩:=fr;obtain rfl:m=.run:=k;rfl) ?_;refine Om j Y I L G b O _ _ K φ ω H fr _ h ok g d λl a=>?_;intro K' ψ ω' H' tm' i n z e1 e2 f;rcases l with st1|⟨id,st1⟩|st1;.have hr:=L b _ rd o a bs K' ψ _ H' _ _ G (UY z) (g.mono n.ext (aU.refl _)) ⟨f.fn,f.n,f.mode,f.base,f.rd⟩ (c.trans ok.hr.inv n (by rw[<-e1];rfl) (by rw[<-e2];rfl));refine dQ.same (λrc=>?_) hr;obtain⟨fn,nn,t,todo,e,m,r⟩:=fr;obtain rfl:m=.run:=d.mode;rfl
 .obtain rfl:=bh.out.inj (bt a);exact Db (fr:={fr with tmps:=tm',defers:=i}) d.mode aO aO (c K' ψ _ H' _ _ n z e1 e2 f)
 obtain rfl:=bh.out.inj (bt a);exact Db (fr:={fr with tmps:=tm',defers:=i}) d.mode aO aO (c K' ψ _ H' _ _ n z e1 e2 f)
theorem aEZ{s:cT}{p:Tmp}{d:DV}(h:xx K φ tm s)(g:DR K φ d a):xx K φ (tm.ins p a) (put s p (.dv d .no)):=by
 intro t v l;rw[lN]at l;by_cases e:t=p;.subst e;rw[if_pos rfl]at l;cases l;grind[Tr.lh]
 .rw[if_neg e]at l;obtain⟨b,c,f⟩:=h t v l;grind[Tr.jr]
theorem aHK{n:Nat}:∀(s:List Tmp)(b:aq)(aS:aJ)(sl:cT)(tm:Tr AV),xx K φ tm sl->bG K φ b aS->b.length=s.length->(∀p,p∈s->p<n)->xx K φ (fO (λt(p:Tmp×AV)=>bif cm p.1 n then t.ins p.1 p.2 else t) (List.zip s aS) tm) (BU s b sl):=by intro s;induction s with|nil=>intro b aS sl tm h _ _ _;exact h|cons p s i=>
 intro b aS sl tm h hd l e;rcases b with _|⟨d,b⟩;.grind
 obtain⟨a,t,rfl,c,O⟩:=hd.cons_inv;have:fO (λt(p:Tmp×AV)=>bif cm p.1 n then t.ins p.1 p.2 else t) (List.zip (p::s) (a::t)) tm=fO (λt(p:Tmp×AV)=>bif cm p.1 n then t.ins p.1 p.2 else t) (List.zip s t) (tm.ins p a):=by show fO _ (List.zip s t) (bif cm p n then tm.ins p a else tm)=_;grind[eK]
 rw[this];exact i b t _ _ (aEZ h c) O ai λq f=>e q ai
theorem aEY{s:cT}(h:xx K φ tm s):bX K φ ω H tm s:=by intro t v l;obtain⟨a,c,b⟩:=h t v l;refine⟨a,c,?_⟩;cases v with
 |dv d o=>cases o with|no=>exact⟨λ_=>DR.qC b,b⟩|any=>exact⟨λ_=>ai,b⟩|_=>grind
 |ev d=>refine⟨λ_=>?_,b⟩;grind|dd=>exact⟨λh=>absurd rfl h,trivial⟩|_=>grind
end
end Go.VM
