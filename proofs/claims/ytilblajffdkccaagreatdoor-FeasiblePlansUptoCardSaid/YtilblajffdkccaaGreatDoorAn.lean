/- Proved: a call of FeasiblePlans in the model answers true, at arguments of the given bulk (a part of the proof of FeasiblePlansUptoCardSaid, whose theorem stands in the last text). -/
import Derived.Test.YtilblajffdkccaaGreatDoorCards
import Derived.Test.YtilblajffdkccaaGreatDoorTie
import Derived.Test.YtilblajffdkccaaGreatDoorAm
import Derived.Test.YtilblajffdkccaaGreatDoorAr
open Option renaming some->J,none->Z
open Bool renaming true->V,false->C
open Bool renaming noConfusion->mK
open Go renaming TypeId->al,Value->aB,Oper->aC,Operand->aH,Program->aM,World->aT,Code->bz,FuncId->bS,Frame->cZ,lone->eT,IntKind->gZ,MapEntry->kZ
open Go.Builtin renaming zeroCells->nR,firstCells->oE,append_->s8,copy_->zF
open Go.Lib renaming compact->tb
open Go.Op renaming operands->eB,mapUpdate->rC
open Go.Proofs.Tryz renaming prog->eS
open Go.Region renaming binds->uq
open Go.stepG renaming exec->ug
open Int renaming ofNat->dI,sub->nS
open List renaming rec->kG,append->qA
open Nat renaming beq->aw,ble->bV,blt->cM,succ->eU,add->im,mul->jD
open SizeOf renaming sizeOf->kb
open UInt8 renaming toNat->nU
noncomputable section
set_option linter.all false
namespace Go.AM
open Go
set_option maxRecDepth 1000000
theorem k35:entry PP (AM.run PP (ig 6 3000 aaJ gX) 1000000) 6 CW g35=V:=aI
theorem xy:hJ tb1:=iZ ok0 k0 (by unfold e0;dsimp only;exact iI _)
theorem FX:hJ tb2:=iZ xy k1 (by unfold e1;dsimp only;exact iI _)
theorem DF:hJ tb3:=iZ FX k2 (by unfold e2;dsimp only;exact iI _)
theorem MG:hJ tb4:=iZ DF k3 (by unfold e3;dsimp only;exact iI _)
theorem ok5:hJ tb5:=iZ MG k4 (by unfold e4;dsimp only;exact iI _)
theorem ok6:hJ tb6:=iZ ok5 k5 (by unfold e5;dsimp only;exact iI _)
theorem ok7:hJ tb7:=iZ ok6 k6 (by unfold e6;dsimp only;exact iI _)
theorem ok8:hJ tb8:=iZ ok7 k7 (by unfold e7;dsimp only;exact iI _)
theorem ok9:hJ tb9:=iZ ok8 k8 (by unfold e8;dsimp only;exact iI _)
theorem aCj:hJ aah:=iZ ok9 k9 (by unfold e9;dsimp only;exact iI _)
theorem aCk:hJ aai:=iZ aCj V7 (by unfold ux;dsimp only;exact iI _)
theorem aCl:hJ aaj:=iZ aCk k11 (by unfold tA;dsimp only;exact iI _)
theorem aCm:hJ aak:=iZ aCl k12 (by unfold TG;dsimp only;exact iI _)
theorem aCn:hJ aal:=iZ aCm k13 (by unfold TH;dsimp only;exact iI _)
theorem aCo:hJ aam:=iZ aCn k14 (by unfold TI;dsimp only;exact iI _)
theorem aCp:hJ aan:=iZ aCo k15 (by unfold TJ;dsimp only;exact iI _)
theorem aCq:hJ aao:=iZ aCp k16 (by unfold TK;dsimp only;exact iI _)
theorem aCr:hJ aap:=iZ aCq k17 (by unfold TL;dsimp only;exact iI _)
theorem aCs:hJ aaq:=iZ aCr k18 (by unfold TM;dsimp only;exact iI _)
theorem aCt:hJ aat:=iZ aCs k19 (by unfold TN;dsimp only;exact iI _)
theorem aCu:hJ aau:=iZ aCt k20 (by unfold TO;dsimp only;exact iI _)
theorem aCv:hJ aav:=iZ aCu k21 (by unfold TP;dsimp only;exact iI _)
theorem aCw:hJ aaw:=iZ aCv k22 (by unfold TQ;dsimp only;exact iI _)
theorem aCx:hJ aax:=iZ aCw k23 (by unfold TR;dsimp only;exact iI _)
theorem aCy:hJ aay:=iZ aCx k24 (by unfold TS;dsimp only;exact iI _)
theorem aCz:hJ aaz:=iZ aCy k25 (by unfold TT;dsimp only;exact iI _)
theorem aCA:hJ aaA:=iZ aCz k26 (by unfold TU;dsimp only;exact iI _)
theorem aCB:hJ aaB:=iZ aCA k27 (by unfold TV;dsimp only;exact iI _)
theorem aCC:hJ aaC:=iZ aCB k28 (by unfold TW;dsimp only;exact iI _)
theorem aCD:hJ aaE:=iZ aCC k29 (by unfold TX;dsimp only;exact iI _)
theorem aCE:hJ aaF:=iZ aCD k30 (by unfold TY;dsimp only;exact iI _)
theorem aCF:hJ aaG:=iZ aCE k31 (by unfold TZ;dsimp only;exact iI _)
theorem aCG:hJ aaH:=iZ aCF k32 (by unfold T0;dsimp only;exact iI _)
theorem aCH:hJ aaI:=iZ aCG k33 (by unfold T1;dsimp only;exact iI _)
theorem aCI:hJ aaJ:=iZ aCH k34 (by unfold T2;dsimp only;exact iI _)
theorem aCJ:hJ akh:=iZ aCI k35 (by unfold CW;dsimp only;exact iI _)
theorem amx:G1 PP 6 CW:=aCJ 6 _ _ (by unfold akh iu;exact Tr.lL _ _ _) eQ
end Go.AM
namespace Go.VM
open Go Go.AM
variable{a:Addr}{cs:List aB}{ds:aA}{t:al}
structure Lx where
 c:aD
 e:al
 p:Pl
def lK(L:List Lx):aY:=λid=>L[id]?.map λx=>(x.c,x.e)
def lP(L:List Lx):aZ:=λid=>L[id]?.map Lx.p
structure G4(W:aT)(O:aZ)(x:Lx):Prop where
 n:x.c.length=x.p.len
 o:∃cs fz e1,W.heap[x.p.aW]?=J (.cells cs e1 fz)/\cs.size=x.p.oB/\x.p.base+x.p.len<=x.p.oB/\∀(i:Nat)(a:AV),x.c[i]?=J a->∃c,cs[x.p.base+i]?=J c/\VR O a c
 s:∀a,a∈x.c->a.bj=V
def Good(W:aT)(L:List Lx):Prop:=0<L.length/\∀(i:Nat)x,L[i]?=J x->G4 W (lP L) x
def N0:bY:=λ_=>Z
theorem Mh(L M:List Lx):Ext (lP L) (lP (L++M)):=λid p h=>by unfold lP at h|-;cases a:L[id]? with|none=>rw[a]at h;simp at h|some x=>rw[a]at h;rw[oF (List.getElem?_eq_some_iff.1 a).1,a];exact h
theorem Qu(L M:List Lx):bl (lK L) (lK (L++M)):=λid p h=>by unfold lK at h|-;cases a:L[id]? with|none=>rw[a]at h;simp at h|some x=>rw[a]at h;rw[oF (List.getElem?_eq_some_iff.1 a).1,a];exact h
theorem G4.mono{W:aT}{b d:aZ}{x:Lx}(h:Ext b d)(k:G4 W b x):G4 W d x:=by obtain⟨cs,f,e1,e,g,j,l⟩:=k.o;exact⟨k.n,⟨cs,f,e1,e,g,j,λi a m=>let⟨c,g1,g2⟩:=l i a m;⟨c,g1,g2.mono h⟩⟩,k.s⟩
def cm(W:aT)(s:aA)(c:List aB):Prop:=(∀d,d∈s->d.bj=V)/\∀L,Good W L->∃M v,Good W (L++M)/\bH (lK (L++M)) N0 s v/\aV (lP (L++M)) v c
section
variable{W:aT}
theorem cm.nil:cm W [] []:=⟨aO,λL h=>⟨[],[],by simpa using h,bH.nil,aV.nil _⟩⟩
theorem cm.append{e:aA}{b:List aB}(h:cm W ds cs)(k:cm W e b):cm W (ds++e) (cs++b):=by refine⟨λd hd=>(List.mem_append.1 hd).elim (h.1 d) (k.1 d),λL a=>?_⟩;obtain⟨M,v,g1,g2,g3⟩:=h.2 L a;obtain⟨N,b,k1,k2,k3⟩:=k.2 _ g1;refine⟨M++N,v++b,?_⟩;rw[<-kr];exact⟨k1,(g2.mono (Qu _ _) (aU.refl _)).append k2,(g3.mono (Mh _ _)).append k3⟩
theorem cm.one{d:DV}{c:aB}(a:AV)(s:d.bj=V)(h:∀K,DR K N0 d a)(k:∀e,VR e a c):cm W [d] [c]:=⟨by simpa using s,λL b=>⟨[],[a],by simpa using b,bH.cons (h _) bH.nil,aV.cons (k _) (aV.nil _)⟩⟩
theorem cm.int(k:gZ)(n:Int):cm W [.int k n] [.int k n]:=cm.one (.int k n) rfl (λ_=>.int k n) λ_=>.int k n
theorem cm.str(s:ByteArray):cm W [.str (s.data.toList.map nU)] [.string s]:=cm.one (.str _) rfl (λ_=>.str _) λ_=>.str _ s rfl
theorem cm.nl:cm W [.nl] [.slice Z 0 0]:=cm.one .bc rfl (λ_=>.nl) λ_=>.bc
theorem cm.len(h:cm W ds cs){L:List Lx}(a:Good W L):ds.length=cs.length:=by obtain⟨M,v,_,g2,g3⟩:=h.2 L a;exact g2.1.trans g3.1
theorem cm.at{e:aA}(o n:Nat)(h:cm W ds ((cs.drop o).take n))(k:cm W e (cs.drop (o+n))):cm W (ds++e) (cs.drop o):=by have:=h.append k;rw[<-Et,J9]at this;exact this
theorem cm.end(o:Nat)(h:cs.length=o):cm W [] (cs.drop o):=by rw[List.drop_of_length_le ae];exact cm.nil
theorem cm.row{f:Nat->aA}{g:Nat->List aB}:∀n,(∀i,i<n->cm W (f i) (g i))->cm W ((List.range n).flatMap f) ((List.range n).flatMap g)|0,_=>cm.nil|n+1,h=>by rw[List.range_succ,List.flatMap_append,List.flatMap_append];refine(cm.row n λi hi=>h i ae).append ?_;simpa using h n (Ka n)
theorem ZQ{d:Type}{f:Nat->List d}{k:Nat}:∀(n:Nat),(∀i,i<n->(f i).length=k)->((List.range n).flatMap f).length=n*k/\∀i j,i<n->j<k->((List.range n).flatMap f)[i*k+j]?=(f i)[j]?
 |0,_=>⟨aO,λi j h=>ae⟩|n+1,h=>by
  obtain⟨a,b⟩:=ZQ n λi hi=>h i ae;rw[List.range_succ,List.flatMap_append,List.flatMap_singleton];refine⟨by rw[db,a,h n (Nat.lt_succ_self n),Nat.succ_mul],λi j hi c=>?_⟩;by_cases e:i<n;.rw[oF,b i j e c];rw[a];calc i*k+j<i*k+k:=ae
   _=(i+1)*k:=(Nat.succ_mul i k).symm
   _<=n*k:=ml k e
  .obtain rfl:i=n:=ae;rw[oG ae,a];congr 1;omega
theorem Good.add{L:List Lx}{x:Lx}(h:Good W L)(k:G4 W (lP L) x):Good W (L++[x]):=by
 refine⟨aO,λi y a=>?_⟩;by_cases e:i<L.length;.rw[oF e]at a;exact(h.2 i y a).mono (Mh _ _)
 . rw[oG ae]at a;have:i-L.length=0:=by
    rcases SA (i-L.length)with z|z;.exact z
    .rw[List.getElem?_eq_none (by simp;omega)]at a;simp at a
   rw[this]at a;cases a;exact k.mono (Mh _ _)
theorem cm.RD{e s l m:Nat}{f:Nat->aA}{g:Nat->List aB}{u:aA}(p:Pl){w:Array aB}{F:Nat×Nat}{E:al}(y:0<s)(I:l<=m)(Y:W.heap[p.aW]?=J (.cells w E F))(ht:w.size=p.oB)(N:p.len=l*s)(hc:p.base+m*s<=p.oB)(U:m≠0->a=⟨p.aW,p.base,Z⟩)(B:∀i,i<l->(g i).length=s/\∀j,j<s->w[p.base+(i*s+j)]?=(g i)[j]?)(z:∀i,i<l->cm W (f i) (g i))(A:u.length=l)(r:∀i x,u[i]?=J x->x.flat=f i):cm W [.ay u e s] [.slice (J a) l m]:=by
 refine⟨by simp[DV.bj],λL H=>?_⟩;obtain⟨M,v,g1,g2,g3⟩:=(cm.row l z).2 L H;have hd:∀i,i<l->(f i).length=s:=λi hi=>((z i hi).len H).trans (B i hi).1;obtain⟨r1,r2⟩:=ZQ l λi hi=>(B i hi).1;obtain⟨d1,d2⟩:=ZQ l hd;have X:l*s<=m*s:=ml _ I;have O:v.length=l*s:=by rw[<-g2.1,d1]
 have D:∀k,k<l*s->∃i j,i<l/\j<s/\k=i*s+j:=λk o=>⟨k/s,k%s,(Nat.div_lt_iff_lt_mul y).2 o,Nat.mod_lt _ y,by rw[Nat.mul_comm];exact(Nat.div_add_mod k s).symm⟩;have K:G4 W (lP (L++M)) ⟨v,e,p⟩:=by
   refine⟨by rw[N];exact O,⟨w,F,E,Y,ht,(by show p.base+p.len<=p.oB;rw[N];omega),λk b n=>?_⟩,λb n=>?_⟩
   . have o:k<l*s:=by rw[<-O];exact(List.getElem?_eq_some_iff.1 n).1
     obtain⟨i,j,hi,q,rfl⟩:=D k o;obtain⟨c,P,Q⟩:=g3.get n;exact⟨c,by rw[(B i hi).2 j q,<-r2 i j hi q];exact P,Q⟩
   .obtain⟨d,d3,d4⟩:=g2.mem n;exact d4.bj ((cm.row l z).1 d d3)
 have G:=g1.add K;rw[kr]at G;have hid:(L++(M++[(⟨v,e,p⟩:Lx)]))[(L++M).length]?=J ⟨v,e,p⟩:=by rw[<-kr,oG (bo _)];simp
 have S:lK (L++(M++[(⟨v,e,p⟩:Lx)])) (L++M).length=J (v,e):=by unfold lK;rw[hid];rfl
 have T:lP (L++(M++[(⟨v,e,p⟩:Lx)])) (L++M).length=J p:=by unfold lP;rw[hid];rfl
 have R:bl (lK (L++M)) (lK (L++(M++[(⟨v,e,p⟩:Lx)]))):=by rw[<-kr];exact Qu _ _
 refine⟨M++[⟨v,e,p⟩],[.sl (L++M).length 0 u.length Z s],G,bH.cons (.ay u e s _ 0 Z v S y (by rw[A,O];omega) (λk o=>by simp at o) (λi x hi=>?_) (λi x j d b hi q n=>?_)) bH.nil,aV.cons ?_ (aV.nil _)⟩
 . have t:i<l:=by rw[<-A];exact(List.getElem?_eq_some_iff.1 hi).1
   rw[r i x hi];exact⟨hd i t,(z i t).1⟩
 . have t:i<l:=by rw[<-A];exact(List.getElem?_eq_some_iff.1 hi).1
   rw[r i x hi]at q;have yy:j<s:=by rw[<-hd i t];exact(List.getElem?_eq_some_iff.1 q).1
   rw[jM]at n;exact(g2.2 _ d b (by rw[d2 i j t yy];exact q) n).mono R (aU.refl _)
 .rw[A];exact .sl _ 0 l Z s p a m T I ae (λk o=>by simp at o) (λ_=>ae) (λh=>by rw[U h,zU]) y ae
end
open Go.Proofs.YtilblajffdkccaaGreatDoor.Rows (uptoBulk uptoBulkAll)
section
variable{H:Type}{enc:al×aB->H}{W:aT}
def Rd(e:al×aB->H)(W:aT)(n:Nat)(t:al){b:Type}(c:b->aA)(d:b->Nat):Prop:=∀cs x,DataW.trod e PP W 0 (λ_=>V) V n t cs=J x->∃a:b,d a<=uptoBulk x.1/\cm W (c a) cs
theorem aFv{n:Nat}(h:PP.underlying t=J (.int .i64)):Rd enc W n t (λz:Int=>[iD z]) λ_=>1:=λcs x a=>by obtain⟨z,rfl,rfl,_⟩:=DataW.trod_int h a;exact⟨z,by simp[uptoBulk],cm.int _ _⟩
theorem aFw{n:Nat}(h:PP.underlying t=J .string):Rd enc W n t (λs:an=>[.str s]) λs=>s.length+1:=λcs x a=>by obtain⟨s,rfl,rfl,_⟩:=DataW.trod_string h a;exact⟨s.data.toList.map nU,by simp[uptoBulk],cm.str s⟩
theorem aeE{f:Type}{Q:Nat->f->Prop}:∀(n:Nat),(∀i,i<n->∃a,Q i a)->∃l:List f,l.length=n/\∀(i:Nat)a,l[i]?=J a->Q i a
 |0,_=>⟨[],rfl,λi a h=>by simp at h⟩|n+1,h=>by
  obtain⟨l,d,g⟩:=aeE n λi hi=>h i ae;obtain⟨a,j⟩:=h n (Ka n);refine⟨l++[a],by simp[d],λi b c=>?_⟩;by_cases e:i<l.length;.rw[oF e]at c;exact g i b c
  .have hi:=(List.getElem?_eq_some_iff.1 c).1;simp at hi;obtain rfl:i=n:=ae;rw[oG ae,d,Nat.sub_self]at c;cases c;exact j
theorem acx{c:Type}{μ:c->Nat}:∀(l:List c)(s:List (DataW H)),l.length=s.length->(∀(i:Nat)a y,l[i]?=J a->s[i]?=J y->μ a<=uptoBulk y)->(l.map μ).sum<=uptoBulkAll s|[],_,_,_=>aO|a::l,[],h,_=>by simp at h|a::l,y::s,h,k=>by have f:=k 0 a y rfl rfl;have g:=acx l s (by simpa using h) λi b z d e=>k (i+1) b z (by simpa using d) (by simpa using e);simp only[de,List.sum_cons,uptoBulkAll];omega
theorem acg{b n:Nat}{d:Type}{q:List aB->ah d}{y:d}(h:(W.cells? b a n).bind q=J y):∃cs,W.cells? b a n=J cs/\q cs=J y:=by cases c:W.cells? b a n with|none=>rw[c]at h;simp at h|some cs=>rw[c]at h;exact⟨cs,rfl,h⟩
theorem wM(h:a.spot=Z)(n i:Nat):(a.add n).add i=⟨a.block,a.off+(n+i),Z⟩:=by obtain⟨b,o,s⟩:=a;simp only at h;subst h;unfold Addr.add;by_cases e:n=0<;>by_cases f:i=0<;>simp[e,f,By]
theorem acF{v:aB}(h:W.cell? a=J v):∃cs e1 f,W.heap[a.block]?=J (.cells cs e1 f)/\a.spot=Z/\cs[a.off]?=J v:=by
 unfold World.cell? at h;split at h;.rename_i c e1 f d;cases b:a.spot with|none=>rw[b]at h;exact⟨c,e1,f,d,rfl,by simpa using h⟩|some s=>rw[b]at h;simp at h
 .simp at h
theorem anN{c:Nat}(e:Nat)(h:0<c):c*e=(c-1)*e+e:=by cases c with|zero=>omega|succ k=>rw[Nat.succ_mul];rfl
theorem ZK{n:Nat}{e:al}{H:Type}{c:H->aA}{K:H->Nat}{esz:Nat}{d:H->DV}(hu:PP.underlying t=J (.slice e))(hc:PP.cellsOf e=esz)(Y:0<esz)(hd:∀a,(d a).flat=c a)(h0:∃cs e1 A,W.heap[0]?=J (.cells cs e1 A))(h:Rd enc W n e c K):Rd enc W (n+1) t (λs:Sl H=>[cp s.nl (s.l.map d) e esz]) λs=>(s.l.map K).sum+1:=λcs x B=>by
 rcases DataW.trod_slice hu B with⟨rfl,rfl⟩|⟨a,len,r,q,rest,m,hm,rfl,rfl,_,P,_,ju,X,I,_⟩;.exact⟨⟨V,[]⟩,by simp[uptoBulk],cm.nl⟩
 . obtain rfl:n=m:=ae;obtain⟨hr,I⟩:=I rfl;rw[hc]at X I;have G:∀i,i<len->∃b:H,∃v y,W.cells? 0 (a.add (i*esz)) esz=J v/\q[i]?=J y/\K b<=uptoBulk y.1/\cm W (c b) v:=λi hi=>by have T:i<q.length:=ae;have:=X i hi;rw[eZ T]at this;obtain⟨v,u,h4⟩:=acg this;obtain⟨b,N,O⟩:=h _ _ h4;exact⟨b,v,_,u,eZ T,N,O⟩
   have E:∀k,k<r->∃S,W.cells? 0 (a.add (k*esz)) esz=J S:=λk hk=>by
     by_cases e:k<len;.obtain⟨_,v,_,u,_⟩:=G k e;exact⟨v,u⟩
     .have:=I (k-len) ae;have kA:k-len<rest.length:=ae;rw[eZ kA,show len+(k-len)=k by omega]at this;obtain⟨v,u,_⟩:=acg this;exact⟨v,u⟩
   obtain⟨l,R,M⟩:=aeE len G;refine⟨⟨C,l⟩,?_,?_⟩
   . have:=acx (μ:=K) l (q.map (·.1)) (by simp[R,ju]) λi b y w hy=>by obtain⟨_,z,_,D,N,_⟩:=M i b w;rw[lE,D]at hy;cases hy;exact N
     simp only[uptoBulk];omega
   . have Fz:cp C (l.map d) e esz=.ay (l.map d) e esz:=by cases l<;>rfl
     show cm W [cp C (l.map d) e esz] _;rw[Fz];have U:∀i,i<len->∃b,l[i]?=J b:=λi hi=>⟨_,eZ ae⟩;suffices hs:∃(p:Pl)(cs:Array aB)(A:Nat×Nat)(e1:al),W.heap[p.aW]?=J (.cells cs e1 A)/\cs.size=p.oB/\p.len=len*esz/\p.base+r*esz<=p.oB/\(r≠0->a=⟨p.aW,p.base,Z⟩)by
       obtain⟨p,cs,A,e1,p1,p2,p3,p4,p5⟩:=hs;refine cm.RD (f:=λi=>((l[i]?).map c).getD []) (g:=λi=>(W.cells? 0 (a.add (i*esz)) esz).getD []) p Y P p1 p2 p3 p4 p5 (λi hi=>?_) (λi hi=>?_) (by simp[R]) λi x B=>?_;.obtain⟨b,w⟩:=U i hi;obtain⟨v,y,u,_,_,_⟩:=M i b w;obtain⟨_,F,C9⟩:=World.cells?_some u;rw[u];refine⟨F,λj hj=>?_⟩;have L:=p5 ae;have:=C9 j hj;rw[wM (by rw[L])]at this;unfold World.cell? at this;rw[show a.block=p.aW by rw[L],show a.off=p.base by rw[L]]at this;simp only[p1]at this;simpa using this
       .obtain⟨b,w⟩:=U i hi;obtain⟨v,y,u,_,_,O⟩:=M i b w;simp only[w,u,iE,EA];exact O
       .rw[lE]at B;cases w:l[i]? with|none=>rw[w]at B;simp at B|some b=>rw[w]at B;cases B;simp[hd]
     rcases SA r with D|D;.obtain⟨cs,e1,A,u⟩:=h0;have Q:len=0:=ae;subst Q;exact⟨⟨0,0,cs.size,0⟩,cs,A,e1,u,rfl,(Nat.zero_mul esz).symm,by rw[D,Nat.zero_mul];exact kH _,λh=>absurd D h⟩
     . obtain⟨c0,q0⟩:=E 0 D;obtain⟨_,l0,f0⟩:=World.cells?_some q0;have e0:=f0 0 Y;rw[eZ ae,Nat.zero_mul]at e0;rw[show(a.add 0).add 0=a by simp[Addr.add]]at e0;obtain⟨cs,e1,A,g1,g2,_⟩:=acF e0;obtain⟨S,qk⟩:=E (r-1) ae;obtain⟨_,lk,fk⟩:=World.cells?_some qk;have ek:=fk (esz-1) ae;rw[eZ ae,wM g2]at ek;obtain⟨qG,e1',UW,k1,_,k3⟩:=acF ek;simp only at k1 k3;rw[g1]at k1;obtain⟨rfl,_,_⟩:=Obj.cells.inj (br k1);have:=(Array.getElem?_eq_some_iff.1 k3).1;have hm:=anN esz D;refine⟨⟨a.block,a.off,cs.size,len*esz⟩,cs,A,e1,g1,rfl,rfl,?_,λ_=>?_⟩;.show a.off+r*esz<=cs.size;omega
       .obtain⟨b,o,s⟩:=a;simp only at g2;subst g2;rfl
end
end Go.VM
namespace Go.VM
open Go Go.AM
open Go.Proofs.YtilblajffdkccaaGreatDoor.Rows (uptoBulk uptoBulkAll)
def qt(t:al):ah (List (al×Nat×Nat)):=match PP.underlying t with|some (.struct s)=>J (s.toList.map λf=>(f.type,f.offset,PP.cellsOf f.type))|_=>Z
section
variable{H:Type}{enc:al×aB->H}{W:aT}
def Fl(e:al×aB->H)(W:aT)(n:Nat):List (al×Nat×Nat)->List aB->Nat->Prop|[],_,_=>True|(t,o,k)::l,c,b=>∃y a,DataW.trod e PP W 0 (λ_=>V) V n t ((c.drop o).take k)=J y/\b=uptoBulk y.1+a/\Fl e W n l c a
theorem ae1{n:Nat}{c:List aB}:∀(s:List Field)(a:List (DataW H×List MemPlace)),a.length=s.length->(∀(i:Nat)f,s[i]?=J f->DataW.trod enc PP W 0 (λ_=>V) V n f.type ((c.drop f.offset).take (PP.cellsOf f.type))=a[i]?)->Fl enc W n (s.map λf=>(f.type,f.offset,PP.cellsOf f.type)) c (uptoBulkAll (a.map (·.1)))|[],_,_,_=>trivial|f::s,[],h,_=>by simp at h|f::s,x::a,h,k=>⟨x,_,k 0 f rfl,rfl,ae1 s a (by simpa using h) λi g b=>k (i+1) g (by simpa using b)⟩
theorem wi{n:Nat}{t:al}{l:List (al×Nat×Nat)}{c:List aB}{x:DataW H×List MemPlace}(h:qt t=J l)(k:DataW.trod enc PP W 0 (λ_=>V) V n t c=J x):∃m b,n=m+1/\uptoBulk x.1=b+1/\c.length=PP.cellsOf t/\Fl enc W m l c b:=by
 unfold qt at h;split at h;.rename_i s u;cases h;obtain⟨o,m,a,rfl,d,e,g⟩:=DataW.trod_struct u k;exact⟨m,_,a,rfl,d,ae1 s.toList o (by simpa using e) λi f j=>g i f (by simpa using j)⟩
 .simp at h
theorem Nh{t:al}{a:Type}{c:a->aA}{b:a->Nat}:Rd enc W 0 t c b:=λs x h=>by simp[DataW.trod]at h
theorem DQ{t e:al}{b:Type}{c:b->aA}{f:b->Nat}{z:Nat}{d:b->DV}(u:PP.underlying t=J (.slice e))(k:PP.cellsOf e=z)(m:0<z)(l:∀a,(d a).flat=c a)(j:∃g e1 i,W.heap[0]?=J (.cells g e1 i))(h:∀n,Rd enc W n e c f):∀n,Rd enc W n t (λs:Sl b=>[cp s.nl (s.l.map d) e z]) λs=>(s.l.map f).sum+1|0=>Nh|n+1=>ZK u k m l j (h n)
theorem u3:PP.underlying 3=J (.int .i64):=aI
theorem u9:PP.underlying 9=J .string:=aI
theorem c3:PP.cellsOf 3=1:=aI
theorem aHv:qt 28=J [(3,0,1),(3,1,1),(9,2,1)]:=aI
theorem aHw:qt 30=J [(3,0,1),(26,1,1),(3,2,1),(3,3,1),(3,4,1),(28,5,3)]:=aI
theorem aHx:qt 32=J [(3,0,1),(25,1,1),(3,2,1),(3,3,1),(3,4,1),(3,5,1),(30,6,8)]:=aI
theorem aHC:qt 96=J [(3,0,1),(3,1,1),(3,2,1),(30,3,8)]:=aI
theorem aHu:qt 174=J [(3,0,1),(3,1,1)]:=aI
theorem aHA:qt 64=J [(3,0,1),(3,1,1),(3,2,1),(3,3,1),(30,4,8),(24,12,1),(24,13,1),(26,14,1),(62,15,1),(24,16,1)]:=aI
theorem aHz:qt 60=J [(58,0,1)]:=aI
theorem ajS:qt 38=J [(3,0,1),(3,1,1),(35,2,1),(36,3,1)]:=aI
theorem aHD:qt 99=J [(9,0,1),(3,1,1)]:=aI
theorem aHB:qt 91=J [(9,0,1),(89,1,1)]:=aI
theorem aHt:qt 101=J [(9,0,1),(3,1,1)]:=aI
theorem aHy:qt 34=J [(9,0,1),(23,1,1),(24,2,1),(32,3,14),(26,17,1)]:=aI
theorem ajT:qt 40=J [(22,0,1),(34,1,18),(38,19,4)]:=aI
theorem aoa:PP.cellsOf 28=3:=aI
theorem acT:PP.cellsOf 30=8:=aI
theorem acU:PP.cellsOf 32=14:=aI
theorem acY:PP.cellsOf 96=11:=aI
theorem acR:PP.cellsOf 174=2:=aI
theorem acW:PP.cellsOf 64=17:=aI
theorem acV:PP.cellsOf 60=1:=aI
theorem aoc:PP.cellsOf 38=4:=aI
theorem acZ:PP.cellsOf 99=2:=aI
theorem acX:PP.cellsOf 91=2:=aI
theorem acQ:PP.cellsOf 101=2:=aI
theorem aob:PP.cellsOf 34=18:=aI
theorem aod:PP.cellsOf 40=23:=aI
theorem Expr.QN:∀l:List Expr,(l.map Expr.nn).sum=Expr.aR l|[]=>rfl|e::l=>by rw[Expr.aR,<-Expr.QN l];rfl
mutual
def ab.mu : ab -> Nat
  | .mk _ _ l _ _ _ _ c => ab.AU l + c.nn + 1
def ab.AU : aF -> Nat
  | [] => 0
  | e :: l => e.mu + ab.AU l
end
theorem ab.ahL:∀l:aF,(l.map ab.mu).sum=ab.AU l|[]=>rfl|e::l=>by rw[ab.AU,<-ab.ahL l];rfl
variable(h0:∃cs e1 fz,W.heap[0]?=J (.cells cs e1 fz))
theorem mE(n:Nat):Rd enc W n 3 (λz:Int=>[iD z]) λ_=>1:=aFv u3
theorem Ng(n:Nat):Rd enc W n 9 (λs:an=>[.str s]) λs=>s.length+1:=aFw u9
theorem aFi(n:Nat):Rd enc W n 28 (λv:Int×Int×an=>[iD v.1,iD v.2.1,.str v.2.2]) λ_=>1:=λs x a=>by obtain⟨m,b,_,l,h,y,i,q0,_,o,j,q,_,r,k,e,_,_⟩:=wi aHv a;obtain⟨z,_,p⟩:=mE _ _ _ q0;obtain⟨f,_,c⟩:=mE _ _ _ q;obtain⟨g,_,d⟩:=Ng _ _ _ e;exact⟨(z,f,g),by dsimp only at*;omega,cm.at 0 1 p (cm.at 1 1 c (cm.at 2 1 d (cm.end 3 (h.trans aoa))))⟩
include h0
theorem Jg:∀n,Rd enc W n 30 Expr.cells Expr.nn/\Rd enc W n 26 (λs:Sl Expr=>[vD s]) λs=>Expr.aR s.l+1
 |0=>⟨Nh,Nh⟩|n+1=>by
  obtain⟨i,g⟩:=Jg n;refine⟨λc x h=>?_,?_⟩;.obtain⟨m,b,J,I,l,L,C,q0,e0,M,D,u,e1,N,E,v,e2,O,F,q3,e3,P,G,q4,e4,Q,H,q5,e5,_⟩:=wi aHw h;obtain rfl:n=m:=ae;obtain⟨w,_,p⟩:=mE _ _ _ q0;obtain⟨f,K,j⟩:=g _ _ u;obtain⟨y,_,k⟩:=mE _ _ _ v;obtain⟨A,_,o⟩:=mE _ _ _ q3;obtain⟨B,_,q⟩:=mE _ _ _ q4;obtain⟨z,_,r⟩:=aFi _ _ _ q5;exact⟨.mk w f.nl f.l y A B z.1 z.2.1 z.2.2,by dsimp only at*;simp only[Expr.nn];omega,cm.at 0 1 p (cm.at 1 1 j (cm.at 2 1 k (cm.at 3 1 o (cm.at 4 1 q (cm.at 5 3 r (cm.end 8 (l.trans acT)))))))⟩
  .have:=ZK (t:=26) (esz:=8) (d:=λe:Expr=>.agg e.cells) aI acT gD (λ_=>rfl) h0 i;intro c x h;obtain⟨a,k1,k2⟩:=this c x h;dsimp only at k1 k2;rw[Expr.QN]at k1;rw[<-Expr.nZ]at k2;exact⟨a,k1,k2⟩
end
end Go.VM
namespace Go.VM
open Go Go.AM
open Go.Proofs.YtilblajffdkccaaGreatDoor.Rows (uptoBulk uptoBulkAll)
def Guard.mu(g:Guard):Nat:=g.cond.nn+1
def Edge.mu(x:Edge):Nat:=x.cond.nn+x.opens.l.length+x.gK.l.length+Expr.aR x.gC.l+x.fx.l.length+x.inside.l.length+1
def Stat.mu(s:Stat):Nat:=(s.guards.l.map Guard.mu).sum+1
def bm.mu(a:bm):Nat:=(a.gk.l.map Stat.mu).sum+(a.bE.l.map Edge.mu).sum+1
def jX.mu(f:jX):Nat:=f.name.length+1
def bJ.mu(s:bJ):Nat:=s.name.length+(s.fields.l.map jX.mu).sum+1
def dg.mu(v:dg):Nat:=v.name.length+1
def cR.mu(q:cR):Nat:=q.name.length+(q.vars.l.map dg.mu).sum+q.key.l.length+q.pat.mu+Expr.aR q.jJ.l+1
def jZ.mu(p:jZ):Nat:=(p.types.l.map bJ.mu).sum+p.query.mu+p.S0.mu+1
theorem aaf{a:Type}:∀l:List a,(l.map λ_=>1).sum=l.length|[]=>rfl|_::l=>by rw[de,List.sum_cons,aaf l,bU,Ex]
section
variable{H:Type}{enc:al×aB->H}{W:aT}(h0:∃cs e1 fz,W.heap[0]?=J (.cells cs e1 fz))
theorem aFf(n:Nat):Rd enc W n 174 (λv:fU=>[iD v.scope,iD v.span]) λ_=>1:=λs x a=>by obtain⟨m,b,_,g,h,y,e,q0,_,i,f,q,_,_⟩:=wi aHu a;obtain⟨z,_,p⟩:=mE _ _ _ q0;obtain⟨d,_,c⟩:=mE _ _ _ q;exact⟨⟨z,d⟩,aj,cm.at 0 1 p (cm.at 1 1 c (cm.end 2 (h.trans acR)))⟩
theorem aFu(n:Nat):Rd enc W n 99 (λv:jX=>[.str v.name,iD v.kind]) jX.mu:=λs x a=>by obtain⟨m,b,_,g,h,y,e,q0,_,i,f,q,_,_⟩:=wi aHD a;obtain⟨z,_,p⟩:=Ng _ _ _ q0;obtain⟨d,_,c⟩:=mE _ _ _ q;exact⟨⟨z,d⟩,by grind[jX.mu],cm.at 0 1 p (cm.at 1 1 c (cm.end 2 (h.trans acZ)))⟩
theorem aFe(n:Nat):Rd enc W n 101 (λv:dg=>[.str v.name,iD v.ty]) dg.mu:=λs x a=>by obtain⟨m,b,_,g,h,y,e,q0,_,i,f,q,_,_⟩:=wi aHt a;obtain⟨z,_,p⟩:=Ng _ _ _ q0;obtain⟨d,_,c⟩:=mE _ _ _ q;exact⟨⟨z,d⟩,by grind[dg.mu],cm.at 0 1 p (cm.at 1 1 c (cm.end 2 (h.trans acQ)))⟩
include h0
theorem Rg(n:Nat):Rd enc W n 24 (λs:Sl Int=>[hZ s]) λs=>s.l.length+1:=λc x h=>by obtain⟨a,k1,k2⟩:=DQ (t:=24) (d:=iD) aP c3 ae (λ_=>rfl) h0 mE n c x h;dsimp only at k1 k2;rw[aaf]at k1;exact⟨a,k1,k2⟩
theorem aFp(n:Nat):Rd enc W n 62 (λs:Sl fU=>[yN s]) λs=>s.l.length+1:=λc x h=>by obtain⟨a,k1,k2⟩:=DQ (t:=62) (d:=fU.d) aP acR ae (λ_=>rfl) h0 aFf n c x h;dsimp only at k1 k2;rw[aaf]at k1;exact⟨a,k1,k2⟩
theorem aFr(n:Nat):Rd enc W n 89 (λs:Sl jX=>[HY s]) λs=>(s.l.map jX.mu).sum+1:=DQ aP acZ ae (λ_=>rfl) h0 aFu n
theorem aFh(n:Nat):Rd enc W n 23 (λs:Sl dg=>[ic s]) λs=>(s.l.map dg.mu).sum+1:=DQ aP acQ ae (λ_=>rfl) h0 aFe n
theorem aFs(n:Nat):Rd enc W n 91 (λv:bJ=>[.str v.name,HY v.fields]) bJ.mu:=λs x a=>by obtain⟨m,b,_,g,h,y,e,q0,_,k,f,q,_,_⟩:=wi aHB a;obtain⟨z,i,p⟩:=Ng _ _ _ q0;obtain⟨d,j,c⟩:=aFr h0 _ _ _ q;exact⟨⟨z,d⟩,by grind[bJ.mu],cm.at 0 1 p (cm.at 1 1 c (cm.end 2 (h.trans acX)))⟩
theorem aFg(n:Nat):Rd enc W n 22 (λs:Sl bJ=>[ep s]) λs=>(s.l.map bJ.mu).sum+1:=DQ aP acX ae (λ_=>rfl) h0 (aFs h0) n
theorem aFt(n:Nat):Rd enc W n 96 Guard.cells Guard.mu:=λs x a=>by obtain⟨m,b,_,t,h,y,k,q0,_,v,l,q,_,w,o,f,_,A,r,q3,_,_⟩:=wi aHC a;obtain⟨z,_,p⟩:=mE _ _ _ q0;obtain⟨g,_,c⟩:=mE _ _ _ q;obtain⟨i,_,d⟩:=mE _ _ _ f;obtain⟨j,u,e⟩:=(Jg h0 _).1 _ _ q3;refine⟨⟨z,g,i,j⟩,by grind[Guard.mu],?_⟩;have:=cm.at 0 1 p (cm.at 1 1 c (cm.at 2 1 d (cm.at 3 8 e (cm.end 11 (h.trans acY)))));grind[Guard.cells]
theorem aFn(n:Nat):Rd enc W n 58 (λs:Sl Guard=>[pC s]) λs=>(s.l.map Guard.mu).sum+1:=DQ aP acY ae (λ_=>rfl) h0 (aFt h0) n
theorem aFo(n:Nat):Rd enc W n 60 (λv:Stat=>[pC v.guards]) Stat.mu:=λs x a=>by obtain⟨m,b,_,d,h,y,c,q0,_,_⟩:=wi aHz a;obtain⟨z,e,p⟩:=aFn h0 _ _ _ q0;exact⟨⟨z⟩,by grind[Stat.mu],cm.at 0 1 p (cm.end 1 (h.trans acV))⟩
theorem aFk(n:Nat):Rd enc W n 35 (λs:Sl Stat=>[RI s]) λs=>(s.l.map Stat.mu).sum+1:=DQ aP acV ae (λ_=>rfl) h0 (aFo h0) n
theorem aFq(n:Nat):Rd enc W n 64 Edge.cells Edge.mu:=λL x a=>by obtain⟨m,b,_,M,h,T,B,q0,_,U,C,q,_,V,D,l,_,X,E,q3,_,Y,F,q4,_,Z,G,q5,_,y6,H,q6,_,y7,I,q7,_,y8,J,o,_,y9,K,q9,_,_⟩:=wi aHA a;obtain⟨z,_,p⟩:=mE _ _ _ q0;obtain⟨r,_,c⟩:=mE _ _ _ q;obtain⟨s,_,d⟩:=mE _ _ _ l;obtain⟨t,_,e⟩:=mE _ _ _ q3;obtain⟨u,N,f⟩:=(Jg h0 _).1 _ _ q4;obtain⟨v,O,g⟩:=Rg h0 _ _ _ q5;obtain⟨w,P,p6⟩:=Rg h0 _ _ _ q6;obtain⟨y,Q,i⟩:=(Jg h0 _).2 _ _ q7;obtain⟨z8,R,j⟩:=aFp h0 _ _ _ o;obtain⟨A,S,k⟩:=Rg h0 _ _ _ q9;refine⟨⟨z,r,s,t,u,v,w,y,z8,A⟩,by grind[Edge.mu],?_⟩;have:=cm.at 0 1 p (cm.at 1 1 c (cm.at 2 1 d (cm.at 3 1 e (cm.at 4 8 f (cm.at 12 1 g (cm.at 13 1 p6 (cm.at 14 1 i (cm.at 15 1 j (cm.at 16 1 k (cm.end 17 (h.trans acW)))))))))));grind[Edge.cells]
theorem aFl(n:Nat):Rd enc W n 36 (λs:Sl Edge=>[HF s]) λs=>(s.l.map Edge.mu).sum+1:=DQ aP acW ae (λ_=>rfl) h0 (aFq h0) n
theorem ajd(n:Nat):Rd enc W n 38 bm.cells bm.mu:=λs x a=>by obtain⟨m,b,_,t,h,y,k,q0,_,w,l,q,_,A,o,f,_,B,r,q3,_,_⟩:=wi ajS a;obtain⟨z,_,p⟩:=mE _ _ _ q0;obtain⟨g,_,c⟩:=mE _ _ _ q;obtain⟨i,u,d⟩:=aFk h0 _ _ _ f;obtain⟨j,v,e⟩:=aFl h0 _ _ _ q3;exact⟨⟨z,g,i,j⟩,by grind[bm.mu],cm.at 0 1 p (cm.at 1 1 c (cm.at 2 1 d (cm.at 3 1 e (cm.end 4 (h.trans aoc)))))⟩
theorem rdP:∀n,Rd enc W n 32 ab.cells ab.mu/\Rd enc W n 25 (λs:Sl ab=>[cp s.nl (ab.aN s.l) 32 14]) λs=>ab.AU s.l+1
 |0=>⟨Nh,Nh⟩|n+1=>by
  obtain⟨i,f⟩:=rdP n;refine⟨λc x h=>?_,?_⟩;.obtain⟨m,b,L,K,l,O,D,q0,e0,P,E,r,e1,Q,F,u,e2,R,G,q3,e3,S,H,q4,e4,T,I,q5,e5,U,J,q6,e6,_⟩:=wi aHx h;obtain rfl:n=m:=ae;obtain⟨v,_,p⟩:=mE _ _ _ q0;obtain⟨z,M,g⟩:=f _ _ r;obtain⟨w,_,j⟩:=mE _ _ _ u;obtain⟨y,_,k⟩:=mE _ _ _ q3;obtain⟨A,_,o⟩:=mE _ _ _ q4;obtain⟨B,_,q⟩:=mE _ _ _ q5;obtain⟨C,N,p6⟩:=(Jg h0 _).1 _ _ q6;refine⟨.mk v z.nl z.l w y A B C,by dsimp only at*;simp only[ab.mu];omega,?_⟩;have:=cm.at 0 1 p (cm.at 1 1 g (cm.at 2 1 j (cm.at 3 1 k (cm.at 4 1 o (cm.at 5 1 q (cm.at 6 8 p6 (cm.end 14 (l.trans acU))))))));simpa[ab.cells]using this
  .have:=ZK (t:=25) (esz:=14) (d:=λe:ab=>.agg e.cells) aI acU gD (λ_=>rfl) h0 i;intro c x h;obtain⟨a,k1,k2⟩:=this c x h;dsimp only at k1 k2;rw[ab.ahL]at k1;rw[<-ab.nZ]at k2;exact⟨a,k1,k2⟩
theorem aFj(n:Nat):Rd enc W n 34 cR.cells cR.mu:=λv x a=>by obtain⟨m,b,_,w,h,E,o,q0,_,F,r,q,_,G,s,g,_,H,t,q3,_,I,u,q4,_,_⟩:=wi aHy a;obtain⟨z,y,p⟩:=Ng _ _ _ q0;obtain⟨i,A,c⟩:=aFh h0 _ _ _ q;obtain⟨j,B,d⟩:=Rg h0 _ _ _ g;obtain⟨k,C,e⟩:=(rdP h0 _).1 _ _ q3;obtain⟨l,D,f⟩:=(Jg h0 _).2 _ _ q4;refine⟨⟨z,i,j,k,l⟩,by grind[cR.mu],?_⟩;have:=cm.at 0 1 p (cm.at 1 1 c (cm.at 2 1 d (cm.at 3 14 e (cm.at 17 1 f (cm.end 18 (h.trans aob))))));grind[cR.cells]
theorem aFm(n:Nat):Rd enc W n 40 jZ.cells jZ.mu:=λs x a=>by obtain⟨m,b,_,l,h,y,i,q0,_,u,j,q,_,v,k,e,_,_⟩:=wi ajT a;obtain⟨z,o,p⟩:=aFg h0 _ _ _ q0;obtain⟨f,r,c⟩:=aFj h0 _ _ _ q;obtain⟨g,t,d⟩:=ajd h0 _ _ _ e;refine⟨⟨z,f,g⟩,by grind[jZ.mu],?_⟩;have:=cm.at 0 1 p (cm.at 1 18 c (cm.at 19 4 d (cm.end 23 (h.trans aod))));grind[jZ.cells]
end
end Go.VM
namespace Go.VM
open Go Go.AM
variable{g:Nat}{t:al}
theorem D8{a:Type}{μ:a->Nat}{x:a}:∀{l:List a},x∈l->μ x<=(l.map μ).sum
 |[],h=>by simp at h|y::l,h=>by
  rw[de,List.sum_cons];rcases List.mem_cons.1 h with rfl|h;.omega
  .have:=D8 (μ:=μ) h;omega
theorem Cw{a:Type}{μ:a->Nat}(h:∀x,1<=μ x):∀l:List a,l.length<=(l.map μ).sum|[]=>bo _|y::l=>by have:=Cw h l;have:=h y;rw[de,List.sum_cons,bU];omega
theorem lM{e:Expr}{l:List Expr}(h:e∈l):e.nn<=Expr.aR l:=by rw[<-Expr.QN];exact D8 h
theorem ji(l:List Expr):l.length<=Expr.aR l:=by rw[<-Expr.QN];exact Cw Expr.DC l
mutual
theorem ab.ahY : ∀ p : ab, p.nn <= p.mu
  | .mk _ _ l _ _ _ _ c => by have := ab.ahZ l; simp only [ab.nn, ab.mu]; omega
theorem ab.ahZ : ∀ l : aF, ab.aR l <= ab.AU l
  | [] => bo _
  | p :: l => by have := ab.ahY p; have := ab.ahZ l; simp only [ab.aR, ab.AU]; omega
end
mutual
theorem ab.adh : ∀ (p q : ab), q ∈ nodes p -> q.cond.nn <= p.mu
  | .mk o n l t v s sp c, q, h => by
    simp only [nodes, J8] at h
    rcases h with rfl | h
    · simp only [ab.mu, ab.cond]; omega
    · have := ab.adi l q h; simp only [ab.mu]; omega
theorem ab.adi : ∀ (l : aF) (q : ab), q ∈ dL l -> q.cond.nn <= ab.AU l
  | [], q, h => by simp [dL] at h
  | p :: l, q, h => by
    simp only [dL, CF] at h
    rcases h with h | h
    · have := ab.adh p q h; simp only [ab.AU]; omega
    · have := ab.adi l q h; simp only [ab.AU]; omega
end
theorem bJ.nd(s:bJ):s.mu=s.name.length+(s.fields.l.map jX.mu).sum+1:=rfl
theorem jX.nd(f:jX):f.mu=f.name.length+1:=rfl
theorem dg.nd(f:dg):f.mu=f.name.length+1:=rfl
theorem Stat.nd(s:Stat):s.mu=(s.guards.l.map Guard.mu).sum+1:=rfl
theorem Guard.nd(g:Guard):g.mu=g.cond.nn+1:=rfl
theorem Edge.nd(x:Edge):x.mu=x.cond.nn+x.opens.l.length+x.gK.l.length+Expr.aR x.gC.l+x.fx.l.length+x.inside.l.length+1:=rfl
theorem bm.nd(a:bm):a.mu=(a.gk.l.map Stat.mu).sum+(a.bE.l.map Edge.mu).sum+1:=rfl
theorem cR.nd(q:cR):q.mu=q.name.length+(q.vars.l.map dg.mu).sum+q.key.l.length+q.pat.mu+Expr.aR q.jJ.l+1:=rfl
theorem jZ.nd(p:jZ):p.mu=(p.types.l.map bJ.mu).sum+p.query.mu+p.S0.mu+1:=rfl
theorem aKH{t:Sl bJ}(h:(t.l.map bJ.mu).sum<=1048576):kK t:=by
 refine⟨λs d=>?_,?_⟩
 . have a:=D8 (μ:=bJ.mu) d;have e:s.name.length+(s.fields.l.map jX.mu).sum+1<=1048576:=by rw[bJ.nd]at a;omega
   have g:=Cw (μ:=jX.mu) (λx=>by rw[jX.nd];omega) s.fields.l;refine⟨ae,λf c=>?_,ae⟩;have b:=D8 (μ:=jX.mu) c;rw[jX.nd]at b;omega
 .have:=Cw (μ:=bJ.mu) (λx=>by rw[bJ.nd];omega) t.l;omega
theorem aE3{q:cR}(h:q.mu<=1048576):rE q:=by
 rw[cR.nd]at h;have f:=Cw (μ:=dg.mu) (λx=>by rw[dg.nd];omega) q.vars.l;have g:=ab.ahY q.pat;have i:=ji q.jJ.l;refine⟨ae,⟨λv d=>?_,ae⟩,ae,⟨ae,λp c=>?_⟩,ae,λe b=>?_⟩;.have a:=D8 (μ:=dg.mu) d;rw[dg.nd]at a;omega
 .have:=ab.adh q.pat p c;omega
 .have:=lM b;omega
theorem ab5{a:bm}(h:a.mu<=1048576):oD a:=by
 rw[bm.nd]at h;have l:=Cw (μ:=Stat.mu) (λx=>by rw[Stat.nd];omega) a.gk.l;have m:=Cw (μ:=Edge.mu) (λx=>by rw[Edge.nd];omega) a.bE.l;refine⟨ae,ae,λs j=>?_,λx k=>?_⟩;.have b:=D8 (μ:=Stat.mu) j;rw[Stat.nd]at b;have c:=Cw (μ:=Guard.mu) (λx=>by rw[Guard.nd];omega) s.guards.l;refine⟨ae,λg i=>?_⟩;have d:=D8 (μ:=Guard.mu) i;rw[Guard.nd]at d;omega
 .have b:=D8 (μ:=Edge.mu) k;rw[Edge.nd]at b;have c:=ji x.gC.l;refine⟨ae,ae,λe f=>?_,ae,ae,ae,ae⟩;have:=lM f;omega
theorem arn(p:jZ)(a:bm)(s:Int)(d:p.mu<=1048576)(f:a.mu<=1048576):∃g,CC 3 [.agg p.cells,.agg a.cells,iD s] (.val (.dv (.bool V) .no) g):=by obtain⟨t,q,b⟩:=p;rw[jZ.nd]at d;dsimp only at d;have e:kK t:=aKH ae;have i:q.mu<=1048576:=ae;have h:=aE3 i;have c:oD b:=ab5 ae;have l:=Cw (μ:=bJ.mu) (λx=>by rw[bJ.nd];omega) t.l;exact ev3 t q b a s e h c (ab5 f) (ev4 t q b ae h.p.a h.p.b h.r h.e c)
mutual
def yl {H : Type} : DataW H -> List aB
  | .lit l => [l.value]
  | .agg p => Po p
  | _ => []
def Po {H : Type} : List (DataW H) -> List aB
  | [] => []
  | d :: l => yl d ++ Po l
end
def uk(t:al):Prop:=∀{H:Type}(e:al×aB->H)(W:aT)(h:Bool)n c x,DataW.trod e PP W 0 (λ_=>V) h n t c=J x->c=yl x.1
section
variable{H:Type}{enc:al×aB->H}{W:aT}{held:Bool}
theorem Pn{k:gZ}(h:PP.underlying t=J (.int k)):uk t:=λenc W held n c x a=>by obtain⟨z,rfl,rfl,_⟩:=DataW.trod_int h a;rfl
theorem ae0(h:PP.underlying t=J .bool):uk t:=λenc W held n c x a=>by obtain⟨z,rfl,rfl⟩:=DataW.trod_bool h a;rfl
def NI:Nat->List (al×Nat×Nat)->Nat->Prop|o,[],n=>o=n|o,(_,p,k)::l,n=>p=o/\NI (o+k) l n
theorem UL{n:Nat}{cs:List aB}:∀(l:List (al×Nat×Nat))(s:List (DataW H×List MemPlace))(o:Nat),NI o l cs.length->s.length=l.length->(∀(i:Nat)y,l[i]?=J y->DataW.trod enc PP W 0 (λ_=>V) held n y.1 ((cs.drop y.2.1).take y.2.2)=s[i]?)->(∀y,y∈l->uk y.1)->cs.drop o=Po (s.map (·.1))|[],[],o,h,_,_,_=>by have:o=cs.length:=h;rw[this,List.drop_length];rfl|[],x::s,o,_,h,_,_=>by simp at h|y::l,[],o,_,h,_,_=>by simp at h|(t,p,k)::l,x::s,o,h,d,b,c=>by obtain⟨rfl,h⟩:p=o/\NI (o+k) l cs.length:=h;have e1:=c _ eQ enc W held n _ _ (b 0 _ rfl);have e2:=UL l s (p+k) h (by simpa using d) (λi y a=>b (i+1) y (by simpa using a)) λy a=>c y (iL _ a);rw[de,Po,<-e1,<-e2,<-Et,J9]
theorem ae2{l:List (al×Nat×Nat)}(h:qt t=J l)(j:NI 0 l (PP.cellsOf t))(g:∀y,y∈l->uk y.1):uk t:=λenc W held n c x k=>by
 unfold qt at h;split at h;.rename_i s u;cases h;obtain⟨o,m,p,rfl,b,d,e⟩:=DataW.trod_struct u k;have:=UL (enc:=enc) (W:=W) (held:=held) (n:=m) (cs:=c) _ o 0 (by rw[b];exact j) (by simpa using d) (λi y a=>by rw[lE]at a;cases hi:s.toList[i]? with|none=>rw[hi]at a;simp at a|some f=>rw[hi]at a;cases a;dsimp only;exact e i f (by simpa using hi)) g;rw[wJ]at this;rw[yl];exact this
 .simp at h
theorem akn{e:al}{c:Nat}:∀(m s:Nat),NI (s*c) ((List.range' s m).map λi=>(e,i*c,c)) ((s+m)*c)|0,s=>rfl|m+1,s=>⟨rfl,by have:=akn (e:=e) (c:=c) m (s+1);rw[Nat.succ_mul,show s+1+m=s+(m+1)by omega]at this;exact this⟩
theorem Lh{e:al}{n:Nat}(u:PP.underlying t=J (.array n e))(l:PP.cellsOf t=n*PP.cellsOf e)(o:uk e):uk t:=λenc W held f s x p=>by
 obtain⟨q,m,r,rfl,d,g,k⟩:=DataW.trod_array u p;have b:=akn (e:=e) (c:=PP.cellsOf e) n 0;rw[Nat.zero_mul,jM,<-l,<-d]at b;have:=UL (enc:=enc) (W:=W) (held:=held) (n:=m) (cs:=s) _ q 0 b (by simpa using g) (λi y h=>by rw[lE]at h;cases hi:(List.range' 0 n)[i]? with|none=>rw[hi]at h;simp at h|some j=>
 rw[hi]at h;cases h;have a:i<n:=by have:=(List.getElem?_eq_some_iff.1 hi).1;simpa using this
 have:j=i:=by have:=hi;rw[List.getElem?_range' a]at this;simpa using this.symm
 subst this;dsimp only;exact k j a) λy h=>by obtain⟨j,_,rfl⟩:=List.mem_map.1 h;exact o
 rw[wJ]at this;rw[yl];exact this
end
theorem ahi{W:aT}:∀{l:List (String×DataW Unit)}{j:List MemPlace},DataW.LaidVars PP W l j->∀{n d},(n,d)∈l->∀{g t},PP.globalNamed n=J g->(PP.globals[g]?).map (·.type)=J t->uk t->∃s e z,W.heap[g]?=J (.cells s e z)/\s.toList=yl d
 |(m,f)::l,j,h,n,d,b,g,t,a,i,F=>by
  obtain⟨o,r,s,u,p,q,k1,k2,k3,k4,k5,_⟩:=h;rcases List.mem_cons.1 b with e|b
  . obtain⟨rfl,rfl⟩:=j9 e;obtain rfl:=br (a.symm.trans k1);obtain rfl:=br (i.symm.trans k2);unfold World.var? at k3;rw[a]at k3;have k3:(match W.heap[g]? with|some (.cells s _ _)=>J s|_=>Z)=J s:=k3;split at k3;.rename_i c e z k;cases k3;exact⟨_,e,z,k,F _ _ _ _ _ _ k4⟩
    .simp at k3
  .exact ahi k5 b a i F
set_option maxRecDepth 100000
def CN:AV->aB|.bool b=>.bool b|.int k n=>.int k n|_=>.nilIface
def AN:AV->Bool|.bool _|.int _ _=>V|_=>C
theorem amv{c:aZ}{l:aD}(h:l.all AN=V):aV c l (l.map CN)/\∀a,a∈l->a.bj=V:=by
 have k:∀a,a∈l->AN a=V:=λa b=>List.all_eq_true.1 h a b;refine⟨⟨aO,λi a v x y=>?_⟩,λa b=>?_⟩;.rw[lE,x]at y;cases y;have:=k a (cI x);cases a<;>first|exact .bool _|exact .int _ _|(simp[AN]at this)
 .have:=k a b;cases a<;>first|rfl|(simp[AN]at this)
theorem U1:PP.globals.size=6:=aI
theorem gn0:PP.globalNamed "tidegate/scope.table"=J 0:=aI
theorem gn1:PP.globalNamed "tidegate/pattern.shapes"=J 1:=aI
theorem gn3:PP.globalNamed "internal/strconv.uint64pow10"=J 3:=aI
theorem gn4:PP.globalNamed "math/bits.deBruijn32tab"=J 4:=aI
theorem gn5:PP.globalNamed "math/bits.deBruijn64tab"=J 5:=aI
theorem tys:(PP.globals.map (·.type))=#[261,326,3,585,597,598]:=aI
theorem gt(h:(#[261,326,3,585,597,598]:Array al)[g]?=J t):(PP.globals[g]?).map (·.type)=J t:=by rw[<-tys,Array.getElem?_map]at h;exact h
theorem RU:PP.underlying 4=J .bool:=aI
theorem at4:uk 261:=Lh (e:=260) (n:=8) aI aI (ae2 (t:=260) (l:=[(4,0,1),(4,1,1)]) aI (by rw[show PP.cellsOf 260=2 by kernel_rfl];exact⟨rfl,rfl,rfl⟩) (λy h=>by simp only[J8,gT,or_false]at h;rcases h with rfl|rfl<;>exact ae0 RU))
theorem at5:uk 326:=Lh (e:=325) (n:=11) aI aI (ae2 (t:=325) (l:=[(3,0,1),(3,1,1),(4,2,1),(4,3,1),(4,4,1),(4,5,1)]) aI (by rw[show PP.cellsOf 325=6 by kernel_rfl];exact⟨rfl,rfl,rfl,rfl,rfl,rfl,rfl⟩) (λy h=>by simp only[J8,gT,or_false]at h;rcases h with rfl|rfl|rfl|rfl|rfl|rfl<;>first|exact ae0 RU|exact Pn u3))
theorem at6:uk 585:=Lh (e:=450) (n:=20) aI aI (Pn (k:=.u64) aI)
theorem at7:uk 597:=Lh (e:=5) (n:=32) aI aI (Pn (k:=.u8) aI)
theorem at8:uk 598:=Lh (e:=5) (n:=64) aI aI (Pn (k:=.u8) aI)
open Go.Proofs.YtilblajffdkccaaGreatDoor in theorem fv0:yl (Rows.laid_tidegate_scope_table (H:=Unit))=((gl[0]?).getD ([],0)).1.map CN/\((gl[0]?).getD ([],0)).1.all AN=V:=⟨aI,aI⟩
open Go.Proofs.YtilblajffdkccaaGreatDoor in theorem fv1:yl (Rows.laid_tidegate_pattern_shapes (H:=Unit))=((gl[1]?).getD ([],0)).1.map CN/\((gl[1]?).getD ([],0)).1.all AN=V:=⟨aI,aI⟩
open Go.Proofs.YtilblajffdkccaaGreatDoor in theorem fv3:yl (Rows.laid_internal_strconv_uint64pow10 (H:=Unit))=((gl[3]?).getD ([],0)).1.map CN/\((gl[3]?).getD ([],0)).1.all AN=V:=⟨aI,aI⟩
open Go.Proofs.YtilblajffdkccaaGreatDoor in theorem fv4:yl (Rows.laid_math_bits_deBruijn32tab (H:=Unit))=((gl[4]?).getD ([],0)).1.map CN/\((gl[4]?).getD ([],0)).1.all AN=V:=⟨aI,aI⟩
open Go.Proofs.YtilblajffdkccaaGreatDoor in theorem fv5:yl (Rows.laid_math_bits_deBruijn64tab (H:=Unit))=((gl[5]?).getD ([],0)).1.map CN/\((gl[5]?).getD ([],0)).1.all AN=V:=⟨aI,aI⟩
theorem Ia:gl.length=6:=aI
theorem aGc:(((begin PP (λ_ _=>0) default).world.heap[2]?).bind Obj.row?)=J (#[.int .i64 0],3):=aI
theorem ana:PP.buildable 3=V:=aI
theorem ct3:PP.cellTypes PP.depth 3=J [3]:=aI
theorem UX:gl[2]?=J ([.top],3):=aI
theorem ah2:(Go.Proofs.YtilblajffdkccaaGreatDoor.Rows.feasiblePlansUptoRow.laid.filter λx=>x.2.handleName?.isSome)=[]:=aI
open Go.Proofs.YtilblajffdkccaaGreatDoor in theorem glb{W:aT}(L:laidMetH PP Rows.feasiblePlansUptoRow.laid W)(S:W.ShapedOpen PP):∀(g:Nat)x,gl[g]?=J x->∃c e z,W.heap[g]?=J (.cells c e z)/\∀f,aV f x.1 c.toList/\∀a,a∈x.1->a.bj=V:=by
 unfold laidMetH at L;rw[ah2]at L;obtain⟨A,b,_⟩:=L;have y:∀{n d g t},(n,d)∈Rows.feasiblePlansUptoRow.laid->PP.globalNamed n=J g->(PP.globals[g]?).map (·.type)=J t->uk t->yl d=((gl[g]?).getD ([],0)).1.map CN/\((gl[g]?).getD ([],0)).1.all AN=V->∀x,gl[g]?=J x->∃c e z,W.heap[g]?=J (.cells c e z)/\∀f,aV f x.1 c.toList/\∀a,a∈x.1->a.bj=V:=by intro n d g t r m o p i x h;obtain⟨c,e,z,k1,k2⟩:=ahi b r m o p;rw[h]at i;obtain⟨i,j⟩:=i;dsimp only[Option.getD_some]at i j;exact⟨c,e,z,k1,λf=>by rw[k2,i];exact amv j⟩
 intro g x h;have q:g<6:=by rw[<-Ia];exact(List.getElem?_eq_some_iff.1 h).1
 match g,q,h with
 |0,_,h=>exact y (iL _ (iL _ (iL _ (iL _ eQ)))) gn0 (gt rfl) at4 fv0 x h|1,_,h=>exact y (iL _ (iL _ (iL _ eQ))) gn1 (gt rfl) at5 fv1 x h|2,_,h=>
 obtain⟨c,k1,k2,k3⟩:=S.1 2 _ _ (by rw[U1];decide) aGc;obtain⟨B,k4,_,k5⟩:=k3 ana;rw[ct3]at k4;cases k4;have s:c.size=1:=k2;obtain⟨v,b⟩:∃v,c[0]?=J v:=⟨c[0],np ae⟩;obtain⟨u,k6,k7⟩:=k5 0 v b;obtain rfl:3=u:=br k6;rw[UX]at h;cases h;refine⟨c,3,(0,0),k1,λf=>?_⟩;have F:c.toList=[v]:=by obtain⟨l⟩:=c;match l,s,b with|[w],_,b=>simpa using b
 rw[F];unfold Cell.ok at k7;rw[u3]at k7;cases v with|int k n=>exact⟨aV.cons (by obtain rfl:=k7.1;exact .top n) (aV.nil f),by simp[AV.bj]⟩|_=>exact absurd k7 aO
 |3,_,h=>exact y (iL _ (iL _ eQ)) gn3 (gt rfl) at6 fv3 x h|4,_,h=>exact y eQ gn4 (gt rfl) at7 fv4 x h|5,_,h=>exact y (iL _ eQ) gn5 (gt rfl) at8 fv5 x h
theorem ahI:∀(l:List (aD×al))(H:Heap),(∀id,H.next<=id->H.get id=Z)->(fV (λH x=>H.cO x.1 .ro x.2) l H).next=H.next+l.length/\(fV (λH x=>H.cO x.1 .ro x.2) l H).dh=H.dh/\∀id,(fV (λH x=>H.cO x.1 .ro x.2) l H).get id=if id<H.next then H.get id else(l[id-H.next]?).map λx=>.cells x.1 id .ro x.2:=by intro l;induction l with
 |nil=>
 intro H n;refine⟨rfl,rfl,λid=>?_⟩;show H.get id=_;split;.rfl
 .rename_i h;rw[n id ae];rfl|cons x l i=>
 intro H n;have u:∀id,(H.cO x.1 .ro x.2).next<=id->(H.cO x.1 .ro x.2).get id=Z:=λid hid=>by have hid:H.next+1<=id:=hid;unfold Heap.cO;rw[nE _ _ ae];exact n id ae
 obtain⟨c,d,e⟩:=i _ u;have e1:(H.cO x.1 .ro x.2).next=H.next+1:=rfl;refine⟨?_,d,λid=>?_⟩;.show(fV _ l (H.cO x.1 .ro x.2)).next=_;rw[c,e1,bU];omega
 . show(fV _ l (H.cO x.1 .ro x.2)).get id=_;rw[e,e1];by_cases a:id<H.next;.rw[if_pos ae,if_pos a];unfold Heap.cO;exact nE _ _ ae
   . rw[if_neg a];by_cases b:id=H.next;.subst b;rw[if_pos ae,Nat.sub_self];unfold Heap.cO;rw[mS];rfl
     .rw[if_neg ae,show id-H.next=(id-(H.next+1))+1 by omega,J6]
def lH(L:List Lx):List (aD×al):=L.map λx=>(x.c,x.e)
section
variable{W:aT}{L:List Lx}
theorem Mg(L:List Lx)(i:Nat):(fN (lH L)).get i=(L[i]?).map λx=>.cells x.c i .ro x.e:=by
 have h:∀i,oL.next<=i->oL.get i=Z:=λi _=>by unfold Heap.get oL;rfl
 obtain⟨_,_,a⟩:=ahI (lH L) oL h;have:=a i;rw[if_neg (by unfold oL;exact Nat.not_lt_zero _),show oL.next=0 from rfl,Nat.sub_zero]at this;unfold fN;rw[this,lH,lE,Option.map_map];rfl
theorem azT(L:List Lx)(r:Nat):(fN (lH L)).bh r=(0,r):=by
 have h:∀id,oL.next<=id->oL.get id=Z:=λid _=>by unfold Heap.get oL;rfl
 obtain⟨_,a,_⟩:=ahI (lH L) oL h;unfold Heap.bh fN;rw[a];rfl
theorem ahe{i:Nat}{l r f e}(h:(fN (lH L)).get i=J (.cells l r f e)):∃x,L[i]?=J x/\l=x.c/\r=i/\f=.ro/\e=x.e:=by rw[Mg]at h;cases a:L[i]? with|none=>rw[a]at h;simp at h|some x=>rw[a]at h;obtain⟨rfl,rfl,rfl,rfl⟩:=bQ.cells.inj (br h);exact⟨x,rfl,rfl,rfl,rfl,rfl⟩
theorem Qv{i:Nat}{p:Pl}(h:lP L i=J p):∃x,L[i]?=J x/\x.p=p:=by unfold lP at h;cases a:L[i]? with|none=>rw[a]at h;simp at h|some x=>rw[a]at h;exact⟨x,rfl,br h⟩
theorem Qt{i:Nat}{p:Pl}(h:lP L i=J p):fJ (fN (lH L)) i:=by obtain⟨x,a,_⟩:=Qv h;exact⟨x.c,i,x.e,by rw[Mg,a];rfl⟩
theorem Good.Be(h:Good W L):bA gR (lP L) (fN (lH L)) W:=by
 refine⟨⟨λid p a=>?_,λid p l r n e a k=>?_,λi j p q a g _ hr=>absurd (Qt a) hr,λi j p q a g _ hr=>?_⟩,λid p o a _ _ d=>?_⟩;.obtain⟨x,b,rfl⟩:=Qv a;obtain⟨c,z,e1,k1,_⟩:=(h.2 id x b).o;exact⟨(Array.getElem?_eq_some_iff.1 k1).1,by rw[Mg,b];rfl⟩
 .obtain⟨x,b,rfl⟩:=Qv a;obtain⟨y,m,rfl,_⟩:=ahe k;obtain rfl:=br (b.symm.trans m);exact(h.2 id x b).n
 . rcases hr with hr|hr;.exact absurd (Qt a) hr
   .exact absurd (Qt g) hr
 .obtain⟨x,b,rfl⟩:=Qv a;rw[Mg,b]at d;cases d;obtain⟨c,z,e1,k1,k2,k3,k4⟩:=(h.2 id x b).o;exact⟨c,z,e1,k1,k2,k3,k4,(h.2 id x b).s,λf=>absurd rfl f,λf=>by cases f⟩
theorem HR.start(L:List Lx):HR (lK L) N0 (λ_=>Z) (fN (lH L)) [] .empty:=by
 refine⟨iI _,λid cells e h=>?_,λp q r b c h=>(by cases h),λp r id x h=>(by cases h),λp r b h=>(by cases h),λs b h=>(by cases h),λid o h=>(by cases h),λid _=>rfl,λid l r f e h=>?_⟩;.unfold lK at h;cases a:L[id]? with|none=>rw[a]at h;simp at h|some x=>rw[a]at h;obtain⟨rfl,rfl⟩:=j9 (br h);exact⟨id,.ro,by rw[Mg,a];rfl,by rw[azT];exact kH _⟩
 .obtain⟨x,a,rfl,rfl,rfl,rfl⟩:=ahe h;exact⟨_,_,h⟩
end
open Go.Proofs.YtilblajffdkccaaGreatDoor (Rows.feasiblePlansUptoRow)
open Go.Proofs.YtilblajffdkccaaGreatDoor.Rows (uptoBulk uptoBulkAll)
def QC(g:Nat)(x:aD×al):Lx:=⟨x.1,x.2,⟨g,0,x.1.length,x.1.length⟩⟩
def L0:List Lx:=(List.range 6).map λg=>QC g ((gl[g]?).getD ([],0))
theorem abv:L0.length=6:=by unfold L0;rw[dU,List.length_range]
theorem Sw{x:aD×al}(h:gl[g]?=J x):L0[g]?=J (QC g x):=by
 have a:g<6:=by rw[<-Ia];exact(List.getElem?_eq_some_iff.1 h).1
 unfold L0;rw[lE,List.getElem?_range a,Option.map_some,h];rfl
theorem ak1{y:Lx}(h:L0[g]?=J y):∃x,gl[g]?=J x/\y=QC g x:=by
 have b:g<gl.length:=by rw[Ia,<-abv];exact(List.getElem?_eq_some_iff.1 h).1
 have a:=eZ b;rw[Sw a]at h;exact⟨_,a,(br h).symm⟩
section
variable{W:aT}
theorem auP(L:laidMetH PP Rows.feasiblePlansUptoRow.laid W)(S:W.ShapedOpen PP):Good W L0:=by
 refine⟨by rw[abv];decide,λi y n=>?_⟩;obtain⟨x,m,rfl⟩:=ak1 n;obtain⟨s,e,f,b,d⟩:=glb L S i x m;obtain⟨h,g⟩:=d (lP L0);have l:x.1.length=s.size:=by rw[h.1,Array.length_toList]
 refine⟨rfl,⟨s,f,e,b,l.symm,?_,λj a k=>?_⟩,g⟩;.show 0+x.1.length<=x.1.length;omega
 .obtain⟨c,k1,k2⟩:=h.get k;exact⟨c,by show s[0+j]?=J c;rw[jM,<-Array.getElem?_toList];exact k1,k2⟩
theorem lK0(M:List Lx){x:aD×al}(h:gl[g]?=J x):lK (L0++M) g=J x:=by
 have:lK L0 g=J x:=by unfold lK;rw[Sw h];rfl
 exact Qu _ _ _ _ this
theorem ds0:BI ((gl[0]?).getD ([],0)).1=J Ln:=aI
theorem KU:BI ((gl[1]?).getD ([],0)).1=J Lp:=aI
theorem auC(M:List Lx):dD PP (lK (L0++M)) (λ_=>Z) cf.aq:=by
 refine⟨λg l h=>?_,λg x h=>lK0 M h⟩;have k:∀g,g<6->BI ((gl[g]?).getD ([],0)).1=J l->g<PP.globals.size/\(∀y,y∈l->y.bj=V)/\∃cells e,lK (L0++M) g=J (cells,e)/\bH (lK (L0++M)) (λ_=>Z) l cells:=λg d c=>by have f:=eZ (l:=gl) (i:=g) (by rw[Ia];exact d);rw[f]at c;obtain⟨j,m⟩:=ab7 (K:=lK (L0++M)) (O:=λ_=>Z) c;exact⟨by rw[U1];exact d,m,_,_,lK0 M f,j⟩
 have h:(bif aw g 0 then J Ln else bif aw g 1 then J Lp else Z)=J l:=h;rw[bN,bN]at h;by_cases a:g=0;.subst a;rw[lS rfl,aL]at h;cases h;exact k 0 gD ds0
 . rw[wS a,bg]at h;by_cases b:g=1;.subst b;rw[lS rfl,aL]at h;cases h;exact k 1 gD KU
   .rw[wS b,bg]at h;cases h
theorem auD(M:List Lx):jc PP (lP (L0++M)):=λg h=>by
 rw[U1]at h;obtain⟨x,a⟩:∃x,gl[g]?=J x:=⟨_,eZ (by rw[Ia];exact h)⟩;have:lP L0 g=J (QC g x).p:=by unfold lP;rw[Sw a];rfl
 exact⟨_,Mh _ M _ _ this,rfl,rfl⟩
def Kept(W a:aT):Prop:=a.os=W.os/\a.output=W.output/\W.heap.size<=a.heap.size/\∀b:Nat,b<W.heap.size->a.heap[b]?=W.heap[b]?
theorem ayV{L:List Lx}{f:aZ}{H:Heap}{a:aT}(k:Fr (lP L) (fN (lH L)) W f H a):Kept W a:=⟨k.os,k.output,k.size,λb h=>by
 rcases k.nA b h with e|⟨id,p,c,_,d,_⟩;.exact e
 .exact absurd (Qt c) d⟩
theorem anK(S:laidMetH PP Rows.feasiblePlansUptoRow.laid W)(T:W.ShapedOpen PP)(p:jZ)(a:bm)(s:Int)(X:p.mu<=1048576)(U:a.mu<=1048576){c j:Array aB}(k:cm W p.cells c.toList)(l:cm W a.cells j.toList):Calls PP 3 #[.agg c,.agg j,.int .i64 s] W λe x=>e=.returned (.bool V)/\Kept W x:=λR=>by
 obtain⟨M,x0,g1,g2,g3⟩:=k.2 L0 (auP S T);obtain⟨N,x1,k1,k2,k3⟩:=l.2 _ g1;rw[kr]at k1 k2 k3;have g2:bH (lK (L0++(M++N))) N0 p.cells x0:=by rw[<-kr];exact g2.mono (Qu _ _) (aU.refl _)
 have g3:aV (lP (L0++(M++N))) x0 c.toList:=by rw[<-kr];exact g3.mono (Mh _ _)
 generalize f:L0++(M++N)=L at*;have uJ:dD PP (lK L) (λ_=>Z) cf.aq:=by rw[<-f];exact auC _
 have qe:jc PP (lP L):=by rw[<-f];exact auD _
 obtain⟨g,uI⟩:=arn p a s X U;have o:=arZ axY aEs hN;have w:DR (lK L) N0 (.agg p.cells) (.agg x0):=g2.agg k.1;have qd:DR (lK L) N0 (.agg a.cells) (.agg x1):=k2.agg l.1;have P:bH (lK L) N0 [.agg p.cells,.agg a.cells,iD s] [.agg x0,.agg x1,.int .i64 s]:=bH.cons w (bH.cons qd (bH.cons (.int _ _) bH.nil));obtain⟨r,H',K,ψ,ω',e1,e2,_,_,e5⟩:=o 3 _ _ _ _ _ uI (lK L) N0 (λ_=>Z) (fN (lH L)) [.agg x0,.agg x1,.int .i64 s] (HR.start L) uJ ⟨P.1,λi d b hx h=>by have:=P.2 i d b hx h;split<;>exact this⟩;have hr:r=.bool V:=by have e5:DR K ψ (.bool V) r:=e5;cases e5;rfl
 subst hr;have xf:=e2 rfl;rcases e1 with e1|⟨_,fr,e3,n,e4⟩;.rw[xf]at e1;cases e1
 have sO:aV (lP L) [.agg x0,.agg x1,.int .i64 s] (#[.agg c,.agg j,.int .i64 s]:Array aB).toList:=aV.cons (.agg x0 c (by rw[g3.1,Array.length_toList]) (λy h=>by obtain⟨d,d1,d2⟩:=g2.mem h;exact d2.bj (k.1 d d1)) λi y v h m=>g3.2 i y v h (by rw[Array.getElem?_toList];exact m)) (aV.cons (.agg x1 j (by rw[k3.1,Array.length_toList]) (λy h=>by obtain⟨d,d1,d2⟩:=k2.mem h;exact d2.bj (l.1 d d1)) λi y v h m=>k3.2 i y v h (by rw[Array.getElem?_toList];exact m)) (aV.cons (.int _ _) (aV.nil _)));obtain⟨q1,_,q3,_⟩:=KZ e3 sO;have jx:=Ux (aEu amx) Gc MU n fr _ _ e4 (lP L) W _ R (iI _) k1.Be qe q1;obtain⟨χ,w',u,z,A,B,_⟩:=jx;obtain⟨F,D,E,G,H,I,fn,O,Q⟩:=B q3;have Y:u=.bool V:=by cases A;rfl
 subst Y;exact⟨.returned (.bool V),w',F,⟨rfl,ayV z.2.2⟩,D,E,G,H,by rw[I],fn,O,Q⟩
end
end Go.VM
namespace Go.Proofs.YtilblajffdkccaaGreatDoor.fp
open Go.ChangeShapes Go.WideShapes Go.ChangeAt Go.RowKit Go.VM
set_option maxRecDepth 100000
theorem own:ownKnob Tryz.prog.godebug=Z:=aI
theorem params3:Tryz.f3.params=#[40,38,3]:=aI
theorem kids:Kids eS (.<Tryz.prog.types.size):=kids_rows aI aI
theorem full:∀t e,t<Tryz.prog.types.size->Tryz.prog.underlying t=J (.slice e)->0<Tryz.prog.cellsOf e:=slices_full_of eS aI
theorem tsz:Tryz.prog.types.size>40:=A2 aI
theorem UU:Tryz.prog.funcs[3]?=J Tryz.f3:=aI
theorem aEk{H:Type}{n:al×aB->H}{P:aM}{f:Func}{s:ChangeSpec}{a k h i:Bool}{W d:aT}{g:Array aB}{v:aB}{m q:List (DataW H)}{e pa pv:List MemPlace}(u:DataW.Whole n P f.params.toList s.vars a W g.toList m q e)(w:∀(b:Nat)(sp:Nat->Bool)(hd:Bool),DataW.TrodAll n P d b sp hd f.resultTypes.toList (v.resultList f.resultTypes.size) (s.fn H (m++q)).results [])(y:∀sp:Nat->Bool,(∀p∈e,sp p.block=V)->DataW.TrodAll n P d 0 sp V f.params.toList g.toList (s.fn H (m++q)).args pa)(D:∀sp:Nat->Bool,(∀p∈e,sp p.block=V)->DataW.TrodVars n P d sp s.vars (s.fn H (m++q)).vars pv)(S:e=pa++pv)(B:W.keptBut d (.∈e))(z:∀b o,b<W.heap.size->d.frozen? ⟨b,o,Z⟩=W.frozen? ⟨b,o,Z⟩)(Y:∀(j:Nat)(t:al)(r:aB),f.resultTypes[j]?=J t->(v.resultList f.resultTypes.size)[j]?=J r->Value.okWide P d .any 0 t r):s.post n P f a k h i W g v d:=by
 have X:=u.lt;have l:∀p∈e,(λb=>decide (b<W.heap.size)) p.block=V:=λp c=>by simpa using X p c
 refine⟨m,q,e,[],pa,pv,u,w _ _ _,y _ l,D _ l,World.keptBut_mono (λp c=>⟨c,?_⟩) B,λ_=>?_⟩;.rw[S,CF]at c;exact Or.inr c
 . obtain⟨_,_,_,_,_,F,E⟩:=u;refine⟨Y,_,_,([]++pa)++pv,⟨[]++pa,pv,trodAll_append (y _ (λ_ _=>rfl)) (w _ _ _),D _ (λ_ _=>rfl),rfl,?_,?_⟩,?_⟩
   . intro b o c;have x:MemPlace.cell b o∈e:=by rw[S];simpa using c
     rw[z b o (X _ x)];exact F b o x
   .intro A;have:=E A;rw[S]at this;simpa using this
   .intro p c _;rw[S];simpa using c
theorem ako{H:Type}{c:al×aB->H}{P:aM}{w i:aT}{b:Nat}{g:Nat->Bool}:∀{t:List al}{v:List aB}{d:List (DataW H)}{s:List MemPlace},DataW.TrodAll c P w b g V t v d s->(∀p∈s,w.sameAt i p)->DataW.TrodAll c P i b g V t v d s|[],[],[],_,h,_=>h|_::_,_::_,_::_,_,⟨p,q,⟨n,j⟩,k,e⟩,f=>⟨p,q,⟨n,DataW.trod_carry n _ _ _ j λx a=>f x (by rw[e];exact zQ _ a)⟩,ako k (λx a=>f x (by rw[e];exact J7 _ a)),e⟩
theorem ayU{W a:aT}(k:Kept W a)(m:MemPlace->Prop):W.keptBut a m:=by obtain⟨b,c,_,d⟩:=k;refine⟨b,c,λi hi=>?_⟩;have e:=d i hi;cases h:W.heap[i]? with|none=>rw[e,h]|some o=>rw[e,h];cases o<;>simp
theorem aGI{W a:aT}(k:Kept W a){p:MemPlace}(h:p.block<W.heap.size):W.sameAt a p:=by cases p with|cell b o=>show a.cell? _=W.cell? _;unfold World.cell?;rw[k.2.2.2 b h]|map b=>exact k.2.2.2 b h
theorem aoz(H:Type)(n:al×aB->H)(W:aT)(d:Nat)(a:Array aB)(m G:List (DataW H))(f:List MemPlace)(A:∀(j:Nat)c v,Tryz.f3.params[j]?=J c->a[j]?=J v->Value.okWide eS W .any d c v)(o:DataW.Whole n eS Tryz.f3.params.toList Rows.feasiblePlansSpec.vars C W a.toList m G f)(y:Rows.uptoBulkAll (m++G)<=1048576)(I:laidMetH eS Rows.feasiblePlansUptoRow.laid W)(S:W.ShapedOpen eS):Calls eS 3 a W λe l=>∃v,e=.returned v/\Rows.feasiblePlansSpec.post n eS Tryz.f3 C V C C W a v l:=by
 have r:=o;have X:=o.lt;obtain⟨p,q,L,hV,Q,Vo,qg⟩:=o;obtain⟨rfl,rfl⟩:=trodVars_none hV;have hA:DataW.TrodAll n eS W 0 (λ_=>V) V [40,38,3] a.toList m p:=by have:=L;rw[params3]at this;exact this
 rw[params3]at A;rw[fy]at Q;subst Q;obtain⟨v0,v1,P,d0,d1,d2,p0,p1,p2,rfl,rfl,_,Y,h1,h2⟩:=trodAll_three hA;have i:∀{c v},(qt c).isSome=V->Value.okWide eS W .any d c v->∃g:Array aB,v=.agg g:=λ{c v}k h=>by unfold qt at k;unfold Value.okWide at h;cases M:Tryz.prog.underlying c with|none=>rw[M]at k;cases k|some u=>rw[M]at k h;cases u with|struct fs=>obtain⟨g,rfl,_⟩:=h;exact⟨g,rfl⟩|_=>cases k
 obtain⟨T,rfl⟩:=i (by rw[ajT];rfl) (A 0 40 v0 rfl rfl);obtain⟨U,rfl⟩:=i (by rw[ajS];rfl) (A 1 38 v1 rfl rfl);obtain⟨n0,t0⟩:=Y;obtain⟨n1,t1⟩:=h1;obtain⟨n2,t2⟩:=h2;have F:∃g e1 z,W.heap[0]?=J (.cells g e1 z):=by obtain⟨x,E⟩:∃x,AM.gl[0]?=J x:=⟨_,eZ (by rw[Ia];decide)⟩;obtain⟨g,e,z,h,_⟩:=glb I S 0 x E;exact⟨g,e,z,h⟩
 obtain⟨pl,N,l0⟩:=aFm F _ _ _ t0;obtain⟨R,O,l1⟩:=ajd F _ _ _ t1;obtain⟨s,rfl⟩:∃s:Int,P=.int .i64 s:=by have:=A 2 3 P rfl rfl;exact okWide_int u3 this
 simp only[Rows.uptoBulkAll,fy]at y;dsimp only at N O;have w:=anK I S pl R s (gv N ae) (gv O ae) l0 l1;refine w.mono λe l⟨he,B⟩=>?_;subst he;have nH:∀sp:Nat->Bool,(∀x∈f,sp x.block=V)->DataW.TrodAll n eS l 0 sp V Tryz.f3.params.toList (#[.agg T,.agg U,.int .i64 s]:Array aB).toList [d0,d1,d2] f:=λsp D=>ako (DataW.TrodAll.respare kids full (λc K=>by
 rw[params3]at K;have:c=40\/c=38\/c=3:=by simpa using K
 have:=tsz;rcases‹c=40\/c=38\/c=3›with rfl|rfl|rfl<;>(show(_:Nat)<Tryz.prog.types.size;omega)) L D) λx E=>aGI B (X x E);refine⟨_,rfl,aEk (pa:=f) (pv:=[]) r (λ_ _ _=>?_) nH (λ_ _=>rfl) aO (ayU B _) (λb off y=>?_) (ok_one (t:=4) aI rfl (okWide_bool_mk RU _))⟩;.rw[show Tryz.f3.resultTypes=#[4]by kernel_rfl];exact trodAll_cons_mk (shut_bool RU _) trodAll_mk0
 .unfold World.frozen?;rw[B.2.2.2 b y]
end Go.Proofs.YtilblajffdkccaaGreatDoor.fp
