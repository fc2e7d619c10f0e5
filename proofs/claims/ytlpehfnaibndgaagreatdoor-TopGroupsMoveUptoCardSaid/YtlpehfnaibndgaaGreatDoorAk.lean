/- Proved: what functions of the program answer, within the sizes that each theorem names. -/
import Derived.Test.YtlpehfnaibndgaaGreatDoorRows
import Derived.Test.YtlpehfnaibndgaaGreatDoorAj
open Option renaming some->J,none->Z
open Bool renaming true->V,false->C
open Go renaming TypeId->an,Oper->aB,Value->aD,Program->aH,World->aV,Code->bM,FuncId->bW,Frame->di,lone->ff,IntKind->fR
open Go.Builtin renaming zeroCells->nT,firstCells->oH,append_->tj,copy_->ze
open Go.Lib renaming compact->tv
open Go.Proofs.Tryz renaming prog->eP
open Int renaming ofNat->dk,add->kh
open List renaming replicate->lT,range->rq
open Nat renaming beq->aw,ble->bt,blt->ct,mul->ft,add->im
open UInt8 renaming toNat->kj
noncomputable section
set_option linter.all false
namespace Go.VM
open Go Go.AM Proofs.Tryz
variable{a:Addr}{cs:List aD}{t:an}{ds:ao}
attribute[local congr]bB bC
set_option maxRecDepth 100000
set_option maxHeartbeats 4000000
theorem ami{a b c d:Int}{s e:aC}:gb PP .eql 46 (.agg [.int .i64 a,.int .i64 b,.str s]) (.agg [.int .i64 c,.int .i64 d,.str e])=J (.bool (yJ a b s c d e)):=by simp[Eg,wJ]
attribute[go_sem]ami
def Ag(k y:aF):Bool:=bif aj y.q k.q then yJ y.key.k y.key.n y.key.s k.key.k k.key.n k.key.s else C
theorem aLm(k y:aF)(b:Nat)(g:GH)(a:g.get b=J (.box ⟨k.cells,[]⟩)):ev PP cf (.call 15 [y.d,.ptr b 0] .no g)=J (.val (.dv (.bool (Ag k y)) .no) g):=by simp only[aF.cells]at a;refine aO func15 ?_;simp only[go_sem,f15,aF.d,aF.cells,a,Ag];apply sp<;>intro h<;>simp only[h,go_sem,a]
theorem aLl(k:aF)(o:bG)(b:Nat)(g:GH)(h:g.get b=J (.box ⟨k.cells,[]⟩))(a:o.keys.l.length<1000000000):ev PP cf (.call 13 [o.d,.ptr b 0] .no g)=J (.val (.dv (.bool (o.keys.l.any (Ag k))) .no) g):=by have e:=Eu 15 [] _ g o.keys.nl _ a (λy _=>.inl ⟨rfl,rfl,aLm k y b g h⟩) (.inr (.inr (.inr (.inr (.inl rfl))))) (λ_=>⟨rfl,rfl⟩);refine aO func13 ?_;simp only[go_sem,f13,bG.d,bG.cells,cE,kx,e]
def O0(p:dh)(o:bG):Bool:=match ev PP cf (.call 7 [p.d,o.d] .no .empty)with|some (.val (.dv (.bool b) _) _)=>b|_=>C
theorem tg6(p:dh)(o:bG)(b:Nat)(g:GH)(h:g.get b=J (.box ⟨p.cells,[]⟩))(c:p.ok)(a:o.sz):ev PP cf (.call 6 [o.d,.ptr b 0] .no g)=J (.val (.dv (.bool (!O0 p o)) .no) g):=by
 obtain⟨r,e,x,rfl⟩:=nv4 p o c a;have d:O0 p o=x:=by grind[O0]
 rw[d];simp only[dh.d,dh.cells,bG.d,bG.cells,cB,cE,kx]at e h;refine aO func6 ?_;simp only[go_sem,f6,bG.d,bG.cells,cE,kx,h,e]
structure Sa(p:dh)(s:gK):Prop where
 hp:D' p
 hf:p.ok
 hs:Ss s
theorem ayT(k:aF):Ag k k=V:=by simp[Ag,yJ,acZ]
theorem ayS{k y:aF}(h:Ag k y=V):y.key=k.key:=by obtain⟨q,⟨a,b,c⟩,e⟩:=k;obtain⟨j,⟨d,f,g⟩,i⟩:=y;grind[Ag,yJ,iZ]
theorem aE6{p:dh}{s:gK}{n:Int}(h:Sa p s)(l:aj n 0=V->∀q∈p.qs.l,p7 (uW p q))(c:aaK p n s):N4 s.os.l:=by
 have d:∀x∈yz p,p7 x/\mw x.query:=λx b=>by obtain⟨q,d,rfl⟩:=au.1 b;exact⟨l (by rw[c.n];rfl) q d,h.hp.q q d⟩
 have e:∀o∈s.os.l,aaF _ o:=λo a=>by obtain⟨i,f⟩:=List.getElem?_of_mem a;have k:=(c.p i o f).e;rw[c.n]at k;exact(abZ k).1
 refine⟨λo a=>(e o a).a,λo a=>(e o a).k,λo a=>(h.hs.o o a).1.m,λo a x b=>?_,λi o f x b=>(c.p i o f).w x b⟩;obtain⟨g,m,j⟩:=h.hs.o o a;exact⟨(j x b).1,(Vp _ _ _ x d (by unfold yz;rw[fZ];exact h.hp.l) g.m (g.e x b)).1 (by rw[(e o a).f x b];rfl),(j x b).2⟩
theorem found{l:List bG}{a:bG}{w i:Nat}{o:bG}{k:aF}(g:1<=w/\w<=8)(d:N4 l)(c:l[i]?=J o)(h:k∈o.keys.l):∃j:Nat,k.key.te w=.ofNat j/\gk (λx:bG=>x.keys.l.any (Ag k)) (qV (qT a l) w) 0=.ofNat j:=by
 have b:=du c;obtain⟨_,v,s⟩:=d.k o b k h;obtain⟨q,n⟩:=akc _ w (Pc _ v s).1 ab;obtain⟨j,f⟩:∃j:Nat,k.key.te w=dk j:=⟨_,(Se q).symm⟩;have I:j<w:=ai;have p:∀m,m<w->(qV (qT a l) w)[m]?=J _:=λm e=>by unfold qV;rw[ki,J2 e];rfl
 have:=afZ (λx=>x.keys.l.any (Ag k)) _ 0 j _ (p j I) ?_ ?_;.grind
 .rw[Wp,List.any_eq_true];refine⟨k,bl.2 ⟨aaW.2 ⟨o,b,h⟩,?_⟩,ayT k⟩;grind
 grind[Wp,ayS]
def Qw(M:DV)(m:aM)(s:gK)(P:DV)(i:Nat)(g:GH):St:=⟨3,116,[(10,.dv M m),(8,.lp 8 0),(74,iS i),(72,.dv (bw s.os.nl (s.os.l.map bG.d) 35 2) .no),(73,iS s.os.l.length)],[(8,⟨[iD s.num,bw s.rs.nl (s.rs.l.map ey.d) 120 6,P],[]⟩)],g⟩
def Mn(M:DV)(m:aM)(s:gK)(P:DV)(o:bG)(i j:Nat)(g:GH):St:=⟨3,116,[(82,iS j),(12,iS i),(10,.dv M m),(8,.lp 8 0),(80,.dv (bw o.keys.nl (o.keys.l.map aF.d) 52 8) .no),(72,.dv (bw s.os.nl (s.os.l.map bG.d) 35 2) .no),(73,iS s.os.l.length),(74,iS i),(81,iS o.keys.l.length)],[(8,⟨[iD s.num,bw s.rs.nl (s.rs.l.map ey.d) 120 6,P],[]⟩)],g⟩
theorem tg3(p:dh)(s:gK)(n:Nat)(Q:n<256)(h:Sa p s):cW (λr=>∃g,r=.val (.dv (.bool V) .no) g) (ev PP cf (.call 3 [p.d,s.d,.int .u8 (.ofNat n)] .no .empty)):=by
 obtain⟨E,k1,Ul,k5⟩:=nv5 p h.hp;have Pz:∀o∈s.os.l,vR p E o=0->Sf o:=λo S t=>by
  have Q:aj E 0=V:=by cases N:aj E 0 with|true=>rfl|false=>unfold vR at t;rw[N,bX]at t;rw[t]at N;cases N
  have B:∀x∈yz p,p7 x/\mw x.query:=λx c=>by obtain⟨F,B,rfl⟩:=au.1 c;exact⟨k1 Q F B,h.hp.q F B⟩
  obtain⟨u,A,m⟩:=h.hs.o o S;unfold vR at t;rw[Q,aR]at t;exactλx c=>⟨(Vp p.types (yz p) o.marks x B (by unfold yz;rw[fZ];exact h.hp.l) u.m (u.e x c)).1 (by rw[(abZ t).1.f x c];rfl),(m x c).2⟩
 obtain⟨r,e8,n8,g8,rfl,R⟩:=tg8 p s E h.hs Ul k5 Pz;have e5:=Eu (d:=bG.d) (q:=λo=>!O0 p o) 6 [] [.ptr 0 0] ⟨1,[(0,.box ⟨p.cells,[]⟩)]⟩ s.os.nl s.os.l (by have:=h.hs.l;omega) (λo S=>.inl ⟨rfl,rfl,tg6 p o 0 _ rfl h.hf (h.hs.o o S).2.1⟩) (.inr (.inr (.inr (.inl rfl)))) (λ_=>⟨rfl,rfl⟩);have er:gb PP .rem 5 (.int .u8 (.ofNat n)) (.int .u8 8)=J (.int .u8 (.ofNat (n%8))):=by rfl
 have w1:dN .i64 (.ofNat (n%8))=.ofNat (n%8):=AK ab;have w2:dN .i64 (kh (.ofNat (n%8)) 1)=.ofNat (n%8+1):=vi ab;have D:1<=n%8+1/\n%8+1<=8:=ab;generalize n%8+1=w at*;have Y:=λa K hr h8 e8=>tg9 p s w a K D h.hs hr h8 e8;have e8':=e8;simp only[dh.d,dh.cells,cB,gK.d,gK.cells,qn,xb]at e5 e8 Y;refine fY func3 ?_;simp only[go_sem,f3,dh.d,dh.cells,cB,gK.d,gK.cells,qn,xb,er,w1,w2];apply cV<;>intro u;.simp only[u,go_sem,bz];grind
 simp only[u,go_sem,e5];apply cV<;>intro A;.simp only[A,go_sem,bz];grind
 simp only[A,go_sem,e8];apply cV<;>intro m;rotate_left;.simp only[m,go_sem,bz];grind
 obtain rfl:=tF m;have f:=R rfl;have O:=aE6 h k1 f;obtain⟨a,K⟩:∃a,s.os.l[0]?=J a:=⟨_,dA (by have:=f.c.1;omega)⟩;obtain⟨r,e9,g9,rfl⟩:=Y a K f.r f.c.2 ⟨_,e8⟩ O;obtain⟨om,vE,Em⟩:=aLj (.ofNat s.os.l.length) (.ofNat w) ⟨ci.2 f.c.1,ci.2 f.c.2⟩ ⟨ci.2 D.1,ci.2 D.2⟩;have H:(bw V ((qR (.ofNat s.os.l.length) (.ofNat w) qd).map lQ) 59 3).pure=V:=nN Wm;have hR:(bw s.rs.nl (s.rs.l.map ey.d) 120 6).pure=V:=nN aic;have hP:cg ((qV (qT a s.os.l) w).map bG.d)=V:=Wl;cases W:aA 256 (.ofNat (sJ s.os.l s.os.l.length).length)with|true=>rw[W]at e9;simp only[aR,aaA]at e9;simp only[m,go_sem,e9,Em,H,bz];grind|false=>
  rw[W]at e9;simp only[bX,qn]at e9;have cT:(qV (qT a s.os.l) w).length=w:=by simp[qV]
  have LO:((qV (qT a s.os.l) w).length=w)=True:=ir cT;simp only[m,go_sem,e9,Em,H,hR,hP,LO];generalize P:qR (.ofNat s.os.l.length) (.ofNat w) qd=M at*;have Bz:M.length<1100000:=by rw[<-P,qR,fZ];exact J5 (Sh _ _) fD
  have I:(qV (qT a s.os.l) w).length<1000000000:=ab;refine ni s.os.l ⟨1,[(0,.box ⟨[bw p.types.nl (p.types.l.map b9.d) 69 2,sh p.qs],[]⟩)]⟩ (Qw (bw V (M.map lQ) 59 3) om s (.ay ((qV (qT a s.os.l) w).map bG.d) 35 2)) (λ_ _ _=>True) (by have:=h.hs.l;omega) rfl trivial (λg _=>?_) (λi o l g hi c ku _ ih=>?_);.simp only[Qw,go_sem,bz];grind
  . simp only[Qw,go_sem]at ih;simp only[Qw,go_sem,hi,c,bG.d,bG.cells,cE,kx];have jA:=du c;rw[CA];refine ni o.keys.l g (Mn (bw V (M.map lQ) 59 3) om s (.ay ((qV (qT a s.os.l) w).map bG.d) 35 2) o i) (λ_ _ _=>True) (by have:=(h.hs.o o jA).1.k;omega) rfl trivial (λg _=>?_) (λj k l g hj T v _ y=>?_);.simp only[Mn,go_sem,ku];grind
    . have U:=du T;obtain⟨_,v1,v2⟩:=O.k o jA k U;obtain⟨q1,En⟩:=Pc k.key v1 v2;obtain⟨to,t1,t2⟩:=found (a:=a) D O c U;have dW:((g.alloc (.box ⟨[iD 0,iD 0,iD 0,.str [],iD 0,.nl,.nl,.nl],[]⟩)).set g.next (.box ⟨k.cells,[]⟩)).get g.next=J (.box ⟨k.cells,[]⟩):=by simp[kU]
      have CL:=KP (d:=bG.d) (q:=λx:bG=>x.keys.l.any (Ag k)) 13 [] [.ptr g.next 0] _ C (qV (qT a s.os.l) w) I (λo' wU=>.inl ⟨rfl,rfl,aLl k o' _ _ dW (by obtain⟨F,_,rfl⟩:=au.1 wU;show(prt _ _ _ _).length<_;rw[Wp];have:=Sh (λx:aF=>decide (x.key.te (w:Int)=(F:Int))) (qT a s.os.l).keys.l;have A:(qT a s.os.l).keys.l.length<=s.os.l.length*256:=aaV O.n _;have:=f.c.2;omega)⟩) (.inr (.inr (.inr (.inr (.inl rfl))))) (λ_=>⟨rfl,rfl⟩);have hE:bw C ((qV (qT a s.os.l) w).map bG.d) 35 2=.ay ((qV (qT a s.os.l) w).map bG.d) 35 2:=Ty;rw[t2,hE]at CL;have Bg:=aLn V M (k.key.vx,.ofNat i,.ofNat to) Bz;have hA:M.any (JG (k.key.vx,.ofNat i,.ofNat to))=!decide (i=to):=by
        have hg:k.key.vx∈qd:=au.2 ⟨k.key.vx.toNat,List.mem_range.2 ab,Se q1.1⟩;have sO:=aBU hg (O.w i o c k U).symm t1.symm;have P:qR (.ofNat s.os.l.length) (w:Int) qd=M:=P;rw[P]at sO;rw[Bool.eq_iff_iff,List.any_eq_true,NW,CJ];simp only[aLV,jV];constructor;.rintro⟨_,hm,rfl⟩rfl;simp_all
        .exactλX=>⟨_,sO.2 λe=>X (Int.ofNat.inj e),rfl⟩
      have nb:∀b,gb PP .neq 4 (.bool b) (.bool b)=J (.bool C):=λb=>by cases b<;>rfl
      rw[hA]at Bg;have z:aA (.ofNat to) 0=C:=by rfl
      simp only[cM.d,cM.cells]at En;simp only[aF.cells]at CL;simp only[lQ]at Bg;simp only[Mn,go_sem]at y;rcases vE with rfl|⟨rfl,X⟩;.simp only[Mn,go_sem,hj,T,aF.d,aF.cells,En,CL,Bg,z,H,nb,v];simp_all
      . have G:bw V (M.map lQ) 59 3=.ay (M.map lQ) 59 3:=by cases M with|nil=>grind|cons x L=>rfl
        rw[G]at Bg;simp only[G]at y;simp only[Mn,G,go_sem,hj,T,aF.d,aF.cells,En,CL,Bg,z,Wm,nb,v];simp_all
theorem abn:ri Hj:=⟨fD,fD,λs h=>absurd h mO,λs h=>absurd h mO⟩
theorem aGk{p:dh}(h:D' p)(t:p.types.l.length<1100000):p.ok:=by
 refine⟨t,by have:=h.l;omega,λq a=>?_,?_⟩;.have:=h.q q a;exact ev4 p.types q Hj t this.p.a this.p.b this.r this.e abn
 .refine ev4 p.types M1 Hj t fD (λq a=>?_) fD (λe b=>absurd b mO) abn;have:nodes M1.pat=[M1.pat]:=rfl;rw[this]at a;rw[Cq.1 a];decide
structure Lx where
 c:aI
 e:an
 p:Pl
def lK(L:List Lx):aY:=λid=>L[id]?.map λx=>(x.c,x.e)
def lP(L:List Lx):bc:=λid=>L[id]?.map Lx.p
structure GX(W:aV)(Y:bc)(x:Lx):Prop where
 n:x.c.length=x.p.len
 o:∃cs fz e1,W.heap[x.p.aZ]?=J (.cells cs e1 fz)/\cs.size=x.p.oF/\x.p.base+x.p.len<=x.p.oF/\∀(i:Nat)(a:AV),x.c[i]?=J a->∃c,cs[x.p.base+i]?=J c/\VR Y a c
 s:∀a,a∈x.c->a.aU=V
def Good(W:aV)(L:List Lx):Prop:=0<L.length/\∀(i:Nat)x,L[i]?=J x->GX W (lP L) x
def N0:cm:=λ_=>Z
theorem Mc(L M:List Lx):Ext (lP L) (lP (L++M)):=λid p h=>by unfold lP at h|-;cases a:L[id]? with|none=>rw[a]at h;simp at h|some x=>rw[a]at h;rw[nV (am.1 a).1,a];exact h
theorem Qm(L M:List Lx):bo (lK L) (lK (L++M)):=λid p h=>by unfold lK at h|-;cases a:L[id]? with|none=>rw[a]at h;simp at h|some x=>rw[a]at h;rw[nV (am.1 a).1,a];exact h
theorem GX.mono{W:aV}{b d:bc}{x:Lx}(h:Ext b d)(k:GX W b x):GX W d x:=by obtain⟨cs,f,e1,e,g,j,l⟩:=k.o;exact⟨k.n,⟨cs,f,e1,e,g,j,λi a m=>let⟨c,g1,g2⟩:=l i a m;⟨c,g1,g2.mono h⟩⟩,k.s⟩
def bP(W:aV)(s:ao)(c:List aD):Prop:=(∀d,d∈s->d.aU=V)/\∀L,Good W L->∃M v,Good W (L++M)/\bK (lK (L++M)) N0 s v/\ba (lP (L++M)) v c
section
variable{W:aV}
theorem bP.nil:bP W [] []:=⟨aP,λL h=>⟨[],[],by simpa using h,bK.nil,ba.nil _⟩⟩
theorem bP.append{e:ao}{b:List aD}(h:bP W ds cs)(k:bP W e b):bP W (ds++e) (cs++b):=by refine⟨λd hd=>(Co.1 hd).elim (h.1 d) (k.1 d),λL a=>?_⟩;obtain⟨M,v,g1,g2,g3⟩:=h.2 L a;obtain⟨N,b,k1,k2,k3⟩:=k.2 _ g1;refine⟨M++N,v++b,?_⟩;rw[<-wv];exact⟨k1,(g2.mono (Qm _ _) (aX.refl _)).append k2,(g3.mono (Mc _ _)).append k3⟩
theorem bP.one{d:DV}{c:aD}(a:AV)(s:d.aU=V)(h:∀K,DR K N0 d a)(k:∀e,VR e a c):bP W [d] [c]:=⟨by simpa using s,λL b=>⟨[],[a],by simpa using b,bK.cons (h _) bK.nil,ba.cons (k _) (ba.nil _)⟩⟩
def bP.int(k:fR)(n:Int):bP W [.int k n] [.int k n]:=bP.one (.int k n) rfl (λ_=>.int k n) λ_=>.int k n
def bP.str(s:ByteArray):bP W [.str (s.data.toList.map kj)] [.string s]:=bP.one (.str _) rfl (λ_=>.str _) λ_=>.str _ s rfl
def bP.nl:bP W [.nl] [.slice Z 0 0]:=bP.one .bu rfl (λ_=>.nl) λ_=>.bu
theorem bP.len(h:bP W ds cs){L:List Lx}(a:Good W L):ds.length=cs.length:=by obtain⟨M,v,_,g2,g3⟩:=h.2 L a;exact g2.1.trans g3.1
theorem bP.at{e:ao}(o n:Nat)(h:bP W ds ((cs.drop o).take n))(k:bP W e (cs.drop (o+n))):bP W (ds++e) (cs.drop o):=by have:=h.append k;rw[<-D2,G3]at this;exact this
theorem bP.end(o:Nat)(h:cs.length=o):bP W [] (cs.drop o):=by rw[List.drop_of_length_le ab];exact bP.nil
theorem bP.row{f:Nat->ao}{g:Nat->List aD}:∀n,(∀i,i<n->bP W (f i) (g i))->bP W ((rq n).flatMap f) ((rq n).flatMap g)|0,_=>bP.nil|n+1,h=>by rw[List.range_succ,List.flatMap_append,List.flatMap_append];refine(bP.row n λi a=>h i ab).append ?_;simpa using h n (G7 n)
theorem Zu{g:Type}{f:Nat->List g}{k:Nat}:∀(n:Nat),(∀i,i<n->(f i).length=k)->((rq n).flatMap f).length=n*k/\∀i j,i<n->j<k->((rq n).flatMap f)[i*k+j]?=(f i)[j]?
 |0,_=>⟨aP,λi j h=>ab⟩|n+1,h=>by
  obtain⟨a,b⟩:=Zu n λi c=>h i ab;rw[List.range_succ,List.flatMap_append,List.flatMap_singleton];refine⟨by rw[ib,a,h n (G7 n),Nat.succ_mul],λi j c d=>?_⟩;by_cases e:i<n;.rw[nV,b i j e d];rw[a];calc i*k+j<i*k+k:=ab
   _=(i+1)*k:=(Nat.succ_mul i k).symm
   _<=n*k:=lU k e
  .obtain rfl:i=n:=ab;rw[pY ab,a];congr 1;omega
theorem Good.add{L:List Lx}{x:Lx}(h:Good W L)(k:GX W (lP L) x):Good W (L++[x]):=by
 refine⟨aP,λi y a=>?_⟩;by_cases e:i<L.length;.rw[nV e]at a;exact(h.2 i y a).mono (Mc _ _)
 . rw[pY ab]at a;have:i-L.length=0:=by
    rcases Nat.eq_zero_or_pos (i-L.length)with z|z;.exact z
    .rw[ce (by simp;omega)]at a;simp at a
   rw[this]at a;cases a;exact k.mono (Mc _ _)
theorem bP.Rz{e s l m:Nat}{f:Nat->ao}{g:Nat->List aD}{u:ao}(p:Pl){w:Array aD}{H:Nat×Nat}{G:an}(y:0<s)(O:l<=m)(hp:W.heap[p.aZ]?=J (.cells w G H))(ht:w.size=p.oF)(P:p.len=l*s)(hc:p.base+m*s<=p.oF)(Y:m≠0->a=⟨p.aZ,p.base,Z⟩)(D:∀i,i<l->(g i).length=s/\∀j,j<s->w[p.base+(i*s+j)]?=(g i)[j]?)(z:∀i,i<l->bP W (f i) (g i))(A:u.length=l)(t:∀i x,u[i]?=J x->x.flat=f i):bP W [.ay u e s] [.slice (J a) l m]:=by
 refine⟨by simp[DV.aU],λL N=>?_⟩;obtain⟨M,v,g1,g2,g3⟩:=(bP.row l z).2 L N;have hd:∀i,i<l->(f i).length=s:=λi n=>((z i n).len N).trans (D i n).1;obtain⟨r1,r2⟩:=Zu l λi n=>(D i n).1;obtain⟨d1,d2⟩:=Zu l hd;have hle:l*s<=m*s:=lU _ O;have E:v.length=l*s:=by rw[<-g2.1,d1]
 have F:∀k,k<l*s->∃i j,i<l/\j<s/\k=i*s+j:=λk q=>⟨k/s,k%s,(Nat.div_lt_iff_lt_mul y).2 q,Nat.mod_lt _ y,by rw[Nat.mul_comm];exact(Nat.div_add_mod k s).symm⟩;have B:GX W (lP (L++M)) ⟨v,e,p⟩:=by
   refine⟨by rw[P];exact E,⟨w,H,G,hp,ht,(by show p.base+p.len<=p.oF;rw[P];omega),λk b o=>?_⟩,λb o=>?_⟩
   . have q:k<l*s:=by rw[<-E];exact(am.1 o).1
     obtain⟨i,j,n,r,rfl⟩:=F k q;obtain⟨c,R,S⟩:=g3.get o;exact⟨c,by rw[(D i n).2 j r,<-r2 i j n r];exact R,S⟩
   .obtain⟨d,d3,d4⟩:=g2.mem o;exact d4.aU ((bP.row l z).1 d d3)
 have I:=g1.add B;rw[wv]at I;have hid:(L++(M++[(⟨v,e,p⟩:Lx)]))[(L++M).length]?=J ⟨v,e,p⟩:=by rw[<-wv,pY (bS _)];simp
 have U:lK (L++(M++[(⟨v,e,p⟩:Lx)])) (L++M).length=J (v,e):=by unfold lK;rw[hid];rfl
 have X:lP (L++(M++[(⟨v,e,p⟩:Lx)])) (L++M).length=J p:=by unfold lP;rw[hid];rfl
 have T:bo (lK (L++M)) (lK (L++(M++[(⟨v,e,p⟩:Lx)]))):=by rw[<-wv];exact Qm _ _
 refine⟨M++[⟨v,e,p⟩],[.sl (L++M).length 0 u.length Z s],I,bK.cons (.ay u e s _ 0 Z v U y (by rw[A,E];omega) (λk q=>by simp at q) (λi x n=>?_) (λi x j d b n r o=>?_)) bK.nil,ba.cons ?_ (ba.nil _)⟩
 . have K:i<l:=by rw[<-A];exact(am.1 n).1
   rw[t i x n];exact⟨hd i K,(z i K).1⟩
 . have K:i<l:=by rw[<-A];exact(am.1 n).1
   rw[t i x n]at r;have Q:j<s:=by rw[<-hd i K];exact(am.1 r).1
   rw[kE]at o;exact(g2.2 _ d b (by rw[d2 i j K Q];exact r) o).mono T (aX.refl _)
 .rw[A];exact .sl _ 0 l Z s p a m X O ab (λk q=>by simp at q) (λ_=>ab) (λh=>by rw[Y h,vk]) y ab
end
open Go.Proofs.YtlpehfnaibndgaaGreatDoor.Rows (uptoBulk uptoBulkAll)
section
variable{H:Type}{enc:an×aD->H}{W:aV}
def Rd(e:an×aD->H)(W:aV)(n:Nat)(t:an){b:Type}(c:b->ao)(d:b->Nat):Prop:=∀cs x,DataW.trod e PP W 0 (λ_=>V) V n t cs=J x->∃a:b,d a<=uptoBulk x.1/\bP W (c a) cs
theorem aHc{n:Nat}(h:PP.underlying t=J (.int .i64)):Rd enc W n t (λz:Int=>[iD z]) λ_=>1:=λcs x a=>by obtain⟨z,rfl,rfl,_⟩:=DataW.trod_int h a;exact⟨z,by simp[uptoBulk],bP.int _ _⟩
theorem aHd{n:Nat}(h:PP.underlying t=J .string):Rd enc W n t (λs:aC=>[.str s]) λs=>s.length+1:=λcs x a=>by obtain⟨s,rfl,rfl,_⟩:=DataW.trod_string h a;exact⟨s.data.toList.map kj,by simp[uptoBulk],bP.str s⟩
theorem adH{g:Type}{Q:Nat->g->Prop}:∀(n:Nat),(∀i,i<n->∃a,Q i a)->∃l:List g,l.length=n/\∀(i:Nat)a,l[i]?=J a->Q i a
 |0,_=>⟨[],rfl,λi a h=>by simp at h⟩|n+1,h=>by
  obtain⟨l,d,j⟩:=adH n λi f=>h i ab;obtain⟨a,k⟩:=h n (G7 n);refine⟨l++[a],by simp[d],λi b c=>?_⟩;by_cases e:i<l.length;.rw[nV e]at c;exact j i b c
  .have f:=(am.1 c).1;simp at f;obtain rfl:i=n:=ab;rw[pY ab,d,Nat.sub_self]at c;cases c;exact k
theorem abL{c:Type}{μ:c->Nat}:∀(l:List c)(s:List (DataW H)),l.length=s.length->(∀(i:Nat)a y,l[i]?=J a->s[i]?=J y->μ a<=uptoBulk y)->(l.map μ).sum<=uptoBulkAll s|[],_,_,_=>aP|a::l,[],h,_=>by simp at h|a::l,y::s,h,k=>by have f:=k 0 a y rfl rfl;have g:=abL l s (by simpa using h) λi b z d e=>k (i+1) b z (by simpa using d) (by simpa using e);simp only[fO,List.sum_cons,uptoBulkAll];omega
theorem aby{b n:Nat}{d:Type}{q:List aD->ah d}{y:d}(h:(W.cells? b a n).bind q=J y):∃cs,W.cells? b a n=J cs/\q cs=J y:=by cases c:W.cells? b a n with|none=>rw[c]at h;simp at h|some cs=>rw[c]at h;exact⟨cs,rfl,h⟩
theorem wz(h:a.spot=Z)(n i:Nat):(a.add n).add i=⟨a.block,a.off+(n+i),Z⟩:=by obtain⟨b,o,s⟩:=a;simp only at h;subst h;unfold Addr.add;by_cases e:n=0<;>by_cases f:i=0<;>simp[e,f,AY]
theorem abS{v:aD}(h:W.cell? a=J v):∃cs e1 f,W.heap[a.block]?=J (.cells cs e1 f)/\a.spot=Z/\cs[a.off]?=J v:=by
 unfold World.cell? at h;split at h;.rename_i c e1 f d;cases b:a.spot with|none=>rw[b]at h;exact⟨c,e1,f,d,rfl,by simpa using h⟩|some s=>rw[b]at h;simp at h
 .simp at h
theorem anC{c:Nat}(e:Nat)(h:0<c):c*e=(c-1)*e+e:=by cases c with|zero=>omega|succ k=>rw[Nat.succ_mul];rfl
theorem Zp{n:Nat}{e:an}{I:Type}{c:I->ao}{L:I->Nat}{esz:Nat}{d:I->DV}(hu:PP.underlying t=J (.slice e))(hc:PP.cellsOf e=esz)(he:0<esz)(hd:∀a,(d a).flat=c a)(h0:∃cs e1 A,W.heap[0]?=J (.cells cs e1 A))(h:Rd enc W n e c L):Rd enc W (n+1) t (λs:Sl I=>[bw s.nl (s.l.map d) e esz]) λs=>(s.l.map L).sum+1:=λcs x B=>by
 rcases DataW.trod_slice hu B with⟨rfl,rfl⟩|⟨a,len,r,q,rest,m,hm,rfl,rfl,_,Q,_,iM,h1,K,_⟩;.exact⟨⟨V,[]⟩,by simp[uptoBulk],bP.nl⟩
 . obtain rfl:n=m:=ab;obtain⟨hr,K⟩:=K rfl;rw[hc]at h1 K;have H:∀i,i<len->∃b:I,∃v y,W.cells? 0 (a.add (i*esz)) esz=J v/\q[i]?=J y/\L b<=uptoBulk y.1/\bP W (c b) v:=λi E=>by have T:i<q.length:=ab;have:=h1 i E;rw[dA T]at this;obtain⟨v,u,h4⟩:=aby this;obtain⟨b,N,O⟩:=h _ _ h4;exact⟨b,v,_,u,dA T,N,O⟩
   have F:∀k,k<r->∃U,W.cells? 0 (a.add (k*esz)) esz=J U:=λk hk=>by
     by_cases e:k<len;.obtain⟨_,v,_,u,_⟩:=H k e;exact⟨v,u⟩
     .have:=K (k-len) ab;have kL:k-len<rest.length:=ab;rw[dA kL,show len+(k-len)=k by omega]at this;obtain⟨v,u,_⟩:=aby this;exact⟨v,u⟩
   obtain⟨l,S,P⟩:=adH len H;refine⟨⟨C,l⟩,?_,?_⟩
   . have:=abL (μ:=L) l (q.map (·.1)) (by simp[S,iM]) λi b y w hy=>by obtain⟨_,z,_,D,N,_⟩:=P i b w;rw[ki,D]at hy;cases hy;exact N
     simp only[uptoBulk];omega
   . have E7:bw C (l.map d) e esz=.ay (l.map d) e esz:=by cases l<;>rfl
     show bP W [bw C (l.map d) e esz] _;rw[E7];have X:∀i,i<len->∃b,l[i]?=J b:=λi E=>⟨_,dA ab⟩;suffices hs:∃(p:Pl)(cs:Array aD)(A:Nat×Nat)(e1:an),W.heap[p.aZ]?=J (.cells cs e1 A)/\cs.size=p.oF/\p.len=len*esz/\p.base+r*esz<=p.oF/\(r≠0->a=⟨p.aZ,p.base,Z⟩)by
       obtain⟨p,cs,A,e1,p1,p2,p3,p4,p5⟩:=hs;refine bP.Rz (f:=λi=>((l[i]?).map c).getD []) (g:=λi=>(W.cells? 0 (a.add (i*esz)) esz).getD []) p he Q p1 p2 p3 p4 p5 (λi E=>?_) (λi E=>?_) (by simp[S]) λi x B=>?_;.obtain⟨b,w⟩:=X i E;obtain⟨v,y,u,_,_,_⟩:=P i b w;obtain⟨_,G,C1⟩:=World.cells?_some u;rw[u];refine⟨G,λj hj=>?_⟩;have M:=p5 ab;have:=C1 j hj;rw[wz (by rw[M])]at this;unfold World.cell? at this;rw[show a.block=p.aZ by rw[M],show a.off=p.base by rw[M]]at this;simp only[p1]at this;simpa using this
       .obtain⟨b,w⟩:=X i E;obtain⟨v,y,u,_,_,O⟩:=P i b w;simp only[w,u,gJ,D9];exact O
       .rw[ki]at B;cases w:l[i]? with|none=>rw[w]at B;simp at B|some b=>rw[w]at B;cases B;simp[hd]
     rcases Nat.eq_zero_or_pos r with D|D;.obtain⟨cs,e1,A,u⟩:=h0;have R:len=0:=ab;subst R;exact⟨⟨0,0,cs.size,0⟩,cs,A,e1,u,rfl,(Nat.zero_mul esz).symm,by rw[D,Nat.zero_mul];exact mn _,λh=>absurd D h⟩
     . obtain⟨c0,q0⟩:=F 0 D;obtain⟨_,l0,f0⟩:=World.cells?_some q0;have e0:=f0 0 he;rw[dA ab,Nat.zero_mul]at e0;rw[show(a.add 0).add 0=a by simp[Addr.add]]at e0;obtain⟨cs,e1,A,g1,g2,_⟩:=abS e0;obtain⟨U,qk⟩:=F (r-1) ab;obtain⟨_,lk,fk⟩:=World.cells?_some qk;have Y:=fk (esz-1) ab;rw[dA ab,wz g2]at Y;obtain⟨rG,e1',Ud,k1,_,k3⟩:=abS Y;simp only at k1 k3;rw[g1]at k1;obtain⟨rfl,_,_⟩:=Obj.cells.inj (bE k1);have:=(ap.1 k3).1;have hm:=anC esz D;refine⟨⟨a.block,a.off,cs.size,len*esz⟩,cs,A,e1,g1,rfl,rfl,?_,λ_=>?_⟩;.show a.off+r*esz<=cs.size;omega
       .obtain⟨b,o,s⟩:=a;simp only at g2;subst g2;rfl
end
end Go.VM
namespace Go.VM
open Go Go.AM
open Go.Proofs.YtlpehfnaibndgaaGreatDoor.Rows (uptoBulk uptoBulkAll)
def lO(t:an):ah (List (an×Nat×Nat)):=match PP.underlying t with|some (.struct s)=>J (s.toList.map λf=>(f.type,f.offset,PP.cellsOf f.type))|_=>Z
section
variable{H:Type}{enc:an×aD->H}{W:aV}
def Fl(e:an×aD->H)(W:aV)(n:Nat):List (an×Nat×Nat)->List aD->Nat->Prop|[],_,_=>True|(t,o,k)::l,c,b=>∃y a,DataW.trod e PP W 0 (λ_=>V) V n t ((c.drop o).take k)=J y/\b=uptoBulk y.1+a/\Fl e W n l c a
theorem ad8{n:Nat}{c:List aD}:∀(s:List Field)(a:List (DataW H×List MemPlace)),a.length=s.length->(∀(i:Nat)f,s[i]?=J f->DataW.trod enc PP W 0 (λ_=>V) V n f.type ((c.drop f.offset).take (PP.cellsOf f.type))=a[i]?)->Fl enc W n (s.map λf=>(f.type,f.offset,PP.cellsOf f.type)) c (uptoBulkAll (a.map (·.1)))|[],_,_,_=>trivial|f::s,[],h,_=>by simp at h|f::s,x::a,h,k=>⟨x,_,k 0 f rfl,rfl,ad8 s a (by simpa using h) λi g b=>k (i+1) g (by simpa using b)⟩
theorem pf{n:Nat}{t:an}{l:List (an×Nat×Nat)}{c:List aD}{x:DataW H×List MemPlace}(h:lO t=J l)(k:DataW.trod enc PP W 0 (λ_=>V) V n t c=J x):∃m b,n=m+1/\uptoBulk x.1=b+1/\c.length=PP.cellsOf t/\Fl enc W m l c b:=by
 unfold lO at h;split at h;.rename_i s u;cases h;obtain⟨o,m,a,rfl,d,e,g⟩:=DataW.trod_struct u k;exact⟨m,_,a,rfl,d,ad8 s.toList o (by simpa using e) λi f j=>g i f (by simpa using j)⟩
 .simp at h
theorem M3{t:an}{a:Type}{c:a->ao}{b:a->Nat}:Rd enc W 0 t c b:=λs x h=>by simp[DataW.trod]at h
def uY{t e:an}{b:Type}{c:b->ao}{f:b->Nat}{z:Nat}{d:b->DV}(u:PP.underlying t=J (.slice e))(k:PP.cellsOf e=z)(m:0<z)(l:∀a,(d a).flat=c a)(j:∃g e1 i,W.heap[0]?=J (.cells g e1 i))(h:∀n,Rd enc W n e c f):∀n,Rd enc W n t (λs:Sl b=>[bw s.nl (s.l.map d) e z]) λs=>(s.l.map f).sum+1|0=>M3|n+1=>Zp u k m l j (h n)
theorem u3:PP.underlying 3=J (.int .i64):=aL
theorem u9:PP.underlying 9=J .string:=aL
theorem c3:PP.cellsOf 3=1:=aL
theorem aJe:lO 46=J [(3,0,1),(3,1,1),(9,2,1)]:=aL
theorem aJf:lO 64=J [(3,0,1),(62,1,1),(3,2,1),(3,3,1),(3,4,1),(46,5,3)]:=aL
theorem aJg:lO 75=J [(3,0,1),(73,1,1),(3,2,1),(3,3,1),(3,4,1),(3,5,1),(64,6,8)]:=aL
theorem aJj:lO 66=J [(9,0,1),(3,1,1)]:=aL
theorem aJi:lO 69=J [(9,0,1),(67,1,1)]:=aL
theorem aJd:lO 71=J [(9,0,1),(3,1,1)]:=aL
theorem aJh:lO 77=J [(9,0,1),(72,1,1),(32,2,1),(75,3,14),(62,17,1)]:=aL
theorem anY:PP.cellsOf 46=3:=aL
theorem ab9:PP.cellsOf 64=8:=aL
theorem aca:PP.cellsOf 75=14:=aL
theorem ace:PP.cellsOf 66=2:=aL
theorem acd:PP.cellsOf 69=2:=aL
theorem ab6:PP.cellsOf 71=2:=aL
theorem acb:PP.cellsOf 77=18:=aL
theorem Expr.QL:∀l:List Expr,(l.map Expr.nn).sum=Expr.bN l|[]=>rfl|e::l=>by rw[Expr.bN,<-Expr.QL l];rfl
mutual
def ae.mu : ae -> Nat
  | .mk _ _ l _ _ _ _ c => ae.Am l + c.nn + 1
def ae.Am : bq -> Nat
  | [] => 0
  | e :: l => e.mu + ae.Am l
end
theorem ae.ag5:∀l:bq,(l.map ae.mu).sum=ae.Am l|[]=>rfl|e::l=>by rw[ae.Am,<-ae.ag5 l];rfl
variable(h0:∃cs e1 fz,W.heap[0]?=J (.cells cs e1 fz))
def iV(n:Nat):Rd enc W n 3 (λz:Int=>[iD z]) λ_=>1:=aHc u3
def Je(n:Nat):Rd enc W n 9 (λs:aC=>[.str s]) λs=>s.length+1:=aHd u9
theorem aG7(n:Nat):Rd enc W n 46 (λv:Int×Int×aC=>[iD v.1,iD v.2.1,.str v.2.2]) λ_=>1:=λs x a=>by obtain⟨m,b,_,l,h,y,i,q0,_,o,j,q,_,r,k,e,_,_⟩:=pf aJe a;obtain⟨z,_,p⟩:=iV _ _ _ q0;obtain⟨f,_,c⟩:=iV _ _ _ q;obtain⟨g,_,d⟩:=Je _ _ _ e;exact⟨(z,f,g),by dsimp only at*;omega,bP.at 0 1 p (bP.at 1 1 c (bP.at 2 1 d (bP.end 3 (h.trans anY))))⟩
include h0
theorem Zo:∀n,Rd enc W n 64 Expr.cells Expr.nn/\Rd enc W n 62 (λs:Sl Expr=>[uB s]) λs=>Expr.bN s.l+1
 |0=>⟨M3,M3⟩|n+1=>by
  obtain⟨i,g⟩:=Zo n;refine⟨λc x h=>?_,?_⟩;.obtain⟨m,b,M,L,l,O,E,q0,e0,P,F,u,e1,Q,G,v,e2,R,H,q3,e3,S,I,w,e4,T,K,q5,e5,_⟩:=pf aJf h;obtain rfl:n=m:=ab;obtain⟨y,_,p⟩:=iV _ _ _ q0;obtain⟨f,N,j⟩:=g _ _ u;obtain⟨A,_,k⟩:=iV _ _ _ v;obtain⟨B,_,o⟩:=iV _ _ _ q3;obtain⟨D,_,q⟩:=iV _ _ _ w;obtain⟨z,_,r⟩:=aG7 _ _ _ q5;exact⟨.mk y f.nl f.l A B D z.1 z.2.1 z.2.2,by dsimp only at*;simp only[Expr.nn];omega,bP.at 0 1 p (bP.at 1 1 j (bP.at 2 1 k (bP.at 3 1 o (bP.at 4 1 q (bP.at 5 3 r (bP.end 8 (l.trans ab9)))))))⟩
  .have:=Zp (t:=62) (esz:=8) (d:=λe:Expr=>.agg e.cells) aL ab9 fD (λ_=>rfl) h0 i;intro c x h;obtain⟨a,k1,k2⟩:=this c x h;dsimp only at k1 k2;rw[Expr.QL]at k1;rw[<-Expr.rH]at k2;exact⟨a,k1,k2⟩
end
end Go.VM
namespace Go.VM
open Go Go.AM
open Go.Proofs.YtlpehfnaibndgaaGreatDoor.Rows (uptoBulk uptoBulkAll)
def Guard.mu(g:Guard):Nat:=g.cond.nn+1
def Edge.mu(x:Edge):Nat:=x.cond.nn+x.opens.l.length+x.ma.l.length+Expr.bN x.jN.l+x.ka.l.length+x.inside.l.length+1
def Stat.mu(s:Stat):Nat:=(s.guards.l.map Guard.mu).sum+1
def dJ.mu(a:dJ):Nat:=(a.mM.l.map Stat.mu).sum+(a.oN.l.map Edge.mu).sum+1
def lr.mu(f:lr):Nat:=f.name.length+1
def b9.mu(s:b9):Nat:=s.name.length+(s.fields.l.map lr.mu).sum+1
def eA.mu(v:eA):Nat:=v.name.length+1
def cA.mu(q:cA):Nat:=q.name.length+(q.vars.l.map eA.mu).sum+q.key.l.length+q.pat.mu+Expr.bN q.jG.l+1
def eJ.mu(p:eJ):Nat:=(p.types.l.map b9.mu).sum+p.query.mu+p.xK.mu+1
theorem Nv{a:Type}:∀l:List a,(l.map λ_=>1).sum=l.length|[]=>rfl|_::l=>by rw[fO,List.sum_cons,Nv l,dH,Nat.add_comm]
section
variable{H:Type}{enc:an×aD->H}{W:aV}(h0:∃cs e1 fz,W.heap[0]?=J (.cells cs e1 fz))
theorem aHb(n:Nat):Rd enc W n 66 (λv:lr=>[.str v.name,iD v.kind]) lr.mu:=λs x a=>by obtain⟨m,b,_,g,h,y,e,q0,_,i,f,q,_,_⟩:=pf aJj a;obtain⟨z,_,p⟩:=Je _ _ _ q0;obtain⟨d,_,c⟩:=iV _ _ _ q;exact⟨⟨z,d⟩,by grind[lr.mu],bP.at 0 1 p (bP.at 1 1 c (bP.end 2 (h.trans ace)))⟩
theorem aG4(n:Nat):Rd enc W n 71 (λv:eA=>[.str v.name,iD v.ty]) eA.mu:=λs x a=>by obtain⟨m,b,_,g,h,y,e,q0,_,i,f,q,_,_⟩:=pf aJd a;obtain⟨z,_,p⟩:=Je _ _ _ q0;obtain⟨d,_,c⟩:=iV _ _ _ q;exact⟨⟨z,d⟩,by grind[eA.mu],bP.at 0 1 p (bP.at 1 1 c (bP.end 2 (h.trans ab6)))⟩
include h0
theorem Zn(n:Nat):Rd enc W n 32 (λs:Sl Int=>[cE s]) λs=>s.l.length+1:=λc x h=>by obtain⟨a,k1,k2⟩:=uY (t:=32) (d:=iD) aT c3 ab (λ_=>rfl) h0 iV n c x h;dsimp only at k1 k2;rw[Nv]at k1;exact⟨a,k1,k2⟩
theorem aG9(n:Nat):Rd enc W n 67 (λs:Sl lr=>[CQ s]) λs=>(s.l.map lr.mu).sum+1:=uY aT ace ab (λ_=>rfl) h0 aHb n
theorem aG6(n:Nat):Rd enc W n 72 (λs:Sl eA=>[kB s]) λs=>(s.l.map eA.mu).sum+1:=uY aT ab6 ab (λ_=>rfl) h0 aG4 n
theorem aHa(n:Nat):Rd enc W n 69 (λv:b9=>[.str v.name,CQ v.fields]) b9.mu:=λs x a=>by obtain⟨m,b,_,g,h,y,e,q0,_,k,f,q,_,_⟩:=pf aJi a;obtain⟨z,i,p⟩:=Je _ _ _ q0;obtain⟨d,j,c⟩:=aG9 h0 _ _ _ q;exact⟨⟨z,d⟩,by grind[b9.mu],bP.at 0 1 p (bP.at 1 1 c (bP.end 2 (h.trans acd)))⟩
theorem aG5(n:Nat):Rd enc W n 22 (λs:Sl b9=>[cB s]) λs=>(s.l.map b9.mu).sum+1:=uY aT acd ab (λ_=>rfl) h0 (aHa h0) n
theorem rdP:∀n,Rd enc W n 75 ae.cells ae.mu/\Rd enc W n 73 (λs:Sl ae=>[bw s.nl (ae.bn s.l) 75 14]) λs=>ae.Am s.l+1
 |0=>⟨M3,M3⟩|n+1=>by
  obtain⟨i,f⟩:=rdP n;refine⟨λc x h=>?_,?_⟩;.obtain⟨m,b,O,N,l,R,F,q0,e0,S,G,r,e1,T,H,u,e2,U,I,q3,e3,X,K,v,e4,Y,L,q5,e5,y6,M,q6,e6,_⟩:=pf aJg h;obtain rfl:n=m:=ab;obtain⟨w,_,p⟩:=iV _ _ _ q0;obtain⟨z,P,g⟩:=f _ _ r;obtain⟨y,_,j⟩:=iV _ _ _ u;obtain⟨A,_,k⟩:=iV _ _ _ q3;obtain⟨B,_,o⟩:=iV _ _ _ v;obtain⟨D,_,q⟩:=iV _ _ _ q5;obtain⟨E,Q,p6⟩:=(Zo h0 _).1 _ _ q6;refine⟨.mk w z.nl z.l y A B D E,by dsimp only at*;simp only[ae.mu];omega,?_⟩;have:=bP.at 0 1 p (bP.at 1 1 g (bP.at 2 1 j (bP.at 3 1 k (bP.at 4 1 o (bP.at 5 1 q (bP.at 6 8 p6 (bP.end 14 (l.trans aca))))))));simpa[ae.cells]using this
  .have:=Zp (t:=73) (esz:=14) (d:=λe:ae=>.agg e.cells) aL aca fD (λ_=>rfl) h0 i;intro c x h;obtain⟨a,k1,k2⟩:=this c x h;dsimp only at k1 k2;rw[ae.ag5]at k1;rw[<-ae.rH]at k2;exact⟨a,k1,k2⟩
theorem aG8(n:Nat):Rd enc W n 77 cA.cells cA.mu:=λw x a=>by obtain⟨m,b,_,y,h,G,r,q0,_,H,s,q,_,I,t,g,_,K,u,q3,_,L,v,i,_,_⟩:=pf aJh a;obtain⟨z,A,p⟩:=Je _ _ _ q0;obtain⟨j,B,c⟩:=aG6 h0 _ _ _ q;obtain⟨k,D,d⟩:=Zn h0 _ _ _ g;obtain⟨l,E,e⟩:=(rdP h0 _).1 _ _ q3;obtain⟨o,F,f⟩:=(Zo h0 _).2 _ _ i;refine⟨⟨z,j,k,l,o⟩,by grind[cA.mu],?_⟩;have:=bP.at 0 1 p (bP.at 1 1 c (bP.at 2 1 d (bP.at 3 14 e (bP.at 17 1 f (bP.end 18 (h.trans acb))))));grind[cA.cells]
end
end Go.VM
namespace Go.VM
open Go Go.AM
open Go.Proofs.YtlpehfnaibndgaaGreatDoor.Rows (uptoBulk uptoBulkAll)
def cM.mu(v:cM):Nat:=v.s.length+1
def aN.mu(e:aN):Nat:=(e.lR.l.map cM.mu).sum+6
def br.mu(c:br):Nat:=c.bs.l.length+c.ss.l.length+1
def ew.mu(e:ew):Nat:=(e.wait.l.map aN.mu).sum+(e.runs.l.map br.mu).sum+(e.held.l.map aN.mu).sum+1
def aF.mu(k:aF):Nat:=k.key.mu+k.e.mu+1
def bG.mu(o:bG):Nat:=o.marks.l.length+(o.keys.l.map aF.mu).sum+1
def dh.mu(p:dh):Nat:=(p.types.l.map b9.mu).sum+(p.qs.l.map cA.mu).sum+1
def aC0:lO 46=J [(3,0,1),(3,1,1),(9,2,1)]:=aL
def ahe:PP.cellsOf 46=3:=aL
def aCV:lO 182=J [(3,0,1),(3,1,1),(3,2,1)]:=aL
def aB0:PP.cellsOf 182=3:=aL
def aCW:lO 184=J [(3,0,1),(182,1,3)]:=aL
def ahb:PP.cellsOf 184=4:=aL
def aCX:lO 187=J [(3,0,1),(3,1,1)]:=aL
def ahc:PP.cellsOf 187=2:=aL
def aC3:lO 80=J [(3,0,1),(3,1,1),(3,2,1),(3,3,1),(78,4,1)]:=aL
def ahg:PP.cellsOf 80=5:=aL
def aCU:lO 178=J [(3,0,1),(94,1,1),(176,2,1)]:=aL
def aha:PP.cellsOf 178=3:=aL
def aC1:lO 50=J [(3,0,1),(47,1,1),(48,2,1),(47,3,1)]:=aL
def aB2:PP.cellsOf 50=4:=aL
def aC2:lO 52=J [(3,0,1),(46,1,3),(50,4,4)]:=aL
def ahf:PP.cellsOf 52=8:=aL
def aCZ:lO 35=J [(32,0,1),(33,1,1)]:=aL
def ahd:PP.cellsOf 35=2:=aL
def aB3:PP.cellsOf 77=18:=acb
def aCY:lO 25=J [(22,0,1),(23,1,1)]:=aL
def aB1:PP.cellsOf 25=2:=aL
section
variable{H:Type}{enc:an×aD->H}{W:aV}(h0:∃cs e1 fz,W.heap[0]?=J (.cells cs e1 fz))
theorem ahy(n:Nat):Rd enc W n 46 cM.cells cM.mu:=λs x a=>by obtain⟨m,b,_,l,h,y,i,q0,_,u,j,q,_,v,k,e,_,_⟩:=pf aC0 a;obtain⟨z,o,p⟩:=iV _ _ _ q0;obtain⟨f,r,c⟩:=iV _ _ _ q;obtain⟨g,t,d⟩:=Je _ _ _ e;refine⟨⟨z,f,g⟩,by grind[cM.mu],?_⟩;have:=(bP.at 0 1 p (bP.at 1 1 c (bP.at 2 1 d (bP.end 3 (h.trans ahe)))));grind[cM.cells]
theorem aCH(n:Nat):Rd enc W n 182 (λv:Int×Int×Int=>[iD v.1,iD v.2.1,iD v.2.2]) (λ_=>1):=λs x a=>by obtain⟨m,b,_,l,h,y,i,q0,_,u,j,q,_,w,k,e,_,_⟩:=pf aCV a;obtain⟨z,o,p⟩:=iV _ _ _ q0;obtain⟨f,r,c⟩:=iV _ _ _ q;obtain⟨g,t,d⟩:=iV _ _ _ e;refine⟨⟨z,f,g⟩,ai,?_⟩;have:=(bP.at 0 1 p (bP.at 1 1 c (bP.at 2 1 d (bP.end 3 (h.trans aB0)))));grind
theorem aCI(n:Nat):Rd enc W n 184 eD.cells (λ_=>1):=λs x a=>by obtain⟨m,b,_,g,h,y,e,q0,_,k,f,q,_,_⟩:=pf aCW a;obtain⟨d,i,p⟩:=iV _ _ _ q0;obtain⟨z,j,c⟩:=aCH _ _ _ q;refine⟨⟨d,z.1,z.2.1,z.2.2⟩,ai,?_⟩;have:=(bP.at 0 1 p (bP.at 1 3 c (bP.end 4 (h.trans ahb))));grind[eD.cells]
theorem aCJ(n:Nat):Rd enc W n 187 fK.cells (λ_=>1):=λs x a=>by obtain⟨m,b,_,g,h,y,e,q0,_,k,f,q,_,_⟩:=pf aCX a;obtain⟨z,i,p⟩:=iV _ _ _ q0;obtain⟨d,j,c⟩:=iV _ _ _ q;refine⟨⟨z,d⟩,ai,?_⟩;have:=(bP.at 0 1 p (bP.at 1 1 c (bP.end 2 (h.trans ahc))));grind[fK.cells]
include h0
theorem aCS(n:Nat):Rd enc W n 78 (λs=>[yV s]) λs=>(s.l.map cM.mu).sum+1:=uY (d:=cM.d) aL ahe ab (λ_=>rfl) h0 (ahy) n
theorem aCE(n:Nat):Rd enc W n 94 (λs=>[ij s]) λs=>s.l.length+1:=λc x h=>by obtain⟨a,k1,k2⟩:=uY (d:=eD.d) aL ahb ab (λ_=>rfl) h0 (aCI) n c x h;dsimp only at k1 k2;rw[Nv]at k1;exact⟨a,k1,k2⟩
theorem aCF(n:Nat):Rd enc W n 176 (λs=>[jQ s]) λs=>s.l.length+1:=λc x h=>by obtain⟨a,k1,k2⟩:=uY (d:=fK.d) aL ahc ab (λ_=>rfl) h0 (aCJ) n c x h;dsimp only at k1 k2;rw[Nv]at k1;exact⟨a,k1,k2⟩
theorem aCT(n:Nat):Rd enc W n 80 aN.cells aN.mu:=λw x a=>by obtain⟨m,b,_,y,h,G,r,q0,_,H,s,q,_,I,t,g,_,K,u,q3,_,L,v,i,_,_⟩:=pf aC3 a;obtain⟨z,A,p⟩:=iV _ _ _ q0;obtain⟨j,B,c⟩:=iV _ _ _ q;obtain⟨k,D,d⟩:=iV _ _ _ g;obtain⟨l,E,e⟩:=iV _ _ _ q3;obtain⟨o,F,f⟩:=aCS h0 _ _ _ i;refine⟨⟨z,j,k,l,o⟩,by grind[aN.mu],?_⟩;have:=(bP.at 0 1 p (bP.at 1 1 c (bP.at 2 1 d (bP.at 3 1 e (bP.at 4 1 f (bP.end 5 (h.trans ahg)))))));grind[aN.cells]
theorem ahz(n:Nat):Rd enc W n 47 (λs=>[de s]) λs=>(s.l.map aN.mu).sum+1:=uY (d:=aN.d) aL ahg ab (λ_=>rfl) h0 (aCT h0) n
theorem aCG(n:Nat):Rd enc W n 178 br.cells br.mu:=λs x a=>by obtain⟨m,b,_,l,h,y,i,q0,_,u,j,q,_,v,k,e,_,_⟩:=pf aCU a;obtain⟨z,o,p⟩:=iV _ _ _ q0;obtain⟨f,r,c⟩:=aCE h0 _ _ _ q;obtain⟨g,t,d⟩:=aCF h0 _ _ _ e;refine⟨⟨z,f,g⟩,by grind[br.mu],?_⟩;have:=(bP.at 0 1 p (bP.at 1 1 c (bP.at 2 1 d (bP.end 3 (h.trans aha)))));grind[br.cells]
theorem aCO(n:Nat):Rd enc W n 48 (λs=>[mQ s]) λs=>(s.l.map br.mu).sum+1:=uY (d:=br.d) aL aha ab (λ_=>rfl) h0 (aCG h0) n
theorem aCP(n:Nat):Rd enc W n 50 ew.cells ew.mu:=λs x a=>by obtain⟨m,b,_,t,h,A,k,q0,_,B,l,q,_,D,o,f,_,E,r,q3,_,_⟩:=pf aC1 a;obtain⟨z,u,p⟩:=iV _ _ _ q0;obtain⟨g,v,c⟩:=ahz h0 _ _ _ q;obtain⟨i,w,d⟩:=aCO h0 _ _ _ f;obtain⟨j,y,e⟩:=ahz h0 _ _ _ q3;refine⟨⟨z,g,i,j⟩,by grind[ew.mu],?_⟩;have:=(bP.at 0 1 p (bP.at 1 1 c (bP.at 2 1 d (bP.at 3 1 e (bP.end 4 (h.trans aB2))))));grind[ew.cells]
theorem aCQ(n:Nat):Rd enc W n 52 aF.cells aF.mu:=λs x a=>by obtain⟨m,b,_,l,h,y,i,q0,_,u,j,q,_,v,k,e,_,_⟩:=pf aC2 a;obtain⟨z,o,p⟩:=iV _ _ _ q0;obtain⟨f,r,c⟩:=ahy _ _ _ q;obtain⟨g,t,d⟩:=aCP h0 _ _ _ e;refine⟨⟨z,f,g⟩,by grind[aF.mu],?_⟩;have:=(bP.at 0 1 p (bP.at 1 3 c (bP.at 4 4 d (bP.end 8 (h.trans ahf)))));grind[aF.cells,cM.cells,ew.cells]
theorem aCM(n:Nat):Rd enc W n 33 (λs=>[kx s]) λs=>(s.l.map aF.mu).sum+1:=uY (d:=aF.d) aL ahf ab (λ_=>rfl) h0 (aCQ h0) n
theorem aCN(n:Nat):Rd enc W n 35 bG.cells bG.mu:=λs x a=>by obtain⟨m,b,_,g,h,y,e,q0,_,k,f,q,_,_⟩:=pf aCZ a;obtain⟨z,i,p⟩:=Zn h0 _ _ _ q0;obtain⟨d,j,c⟩:=aCM h0 _ _ _ q;refine⟨⟨z,d⟩,by grind[bG.mu],?_⟩;have:=(bP.at 0 1 p (bP.at 1 1 c (bP.end 2 (h.trans ahd))));grind[bG.cells]
def aCR(n:Nat):Rd enc W n 77 cA.cells cA.mu:=aG8 h0 n
theorem aCK(n:Nat):Rd enc W n 23 (λs=>[sh s]) λs=>(s.l.map cA.mu).sum+1:=uY (d:=cA.dv) aL aB3 ab (λ_=>rfl) h0 (aCR h0) n
theorem aCL(n:Nat):Rd enc W n 25 dh.cells dh.mu:=λs x a=>by obtain⟨m,b,_,g,h,y,e,q0,_,k,f,q,_,_⟩:=pf aCY a;obtain⟨z,i,p⟩:=aG5 h0 _ _ _ q0;obtain⟨d,j,c⟩:=aCK h0 _ _ _ q;refine⟨⟨z,d⟩,by grind[dh.mu],?_⟩;have:=(bP.at 0 1 p (bP.at 1 1 c (bP.end 2 (h.trans aB1))));grind[dh.cells]
end
end Go.VM
namespace Go.VM
open Go Go.AM
def lW.mu(t:lW):Nat:=t.bs.l.length+t.ps.l.length+1
def ey.mu(r:ey):Nat:=r.t.mu+1
def gK.mu(s:gK):Nat:=(s.rs.l.map ey.mu).sum+(s.os.l.map bG.mu).sum+1
def aBR:lO 126=J [(3,0,1),(3,1,1)]:=aL
def agU:PP.cellsOf 126=2:=aL
def aBP:lO 118=J [(3,0,1),(32,1,1),(116,2,1),(3,3,1)]:=aL
def aBo:PP.cellsOf 118=4:=aL
def aBQ:lO 120=J [(3,0,1),(3,1,1),(118,2,4)]:=aL
def agT:PP.cellsOf 120=6:=aL
def aBS:lO 29=J [(3,0,1),(26,1,1),(27,2,1)]:=aL
def aBp:PP.cellsOf 29=3:=aL
section
variable{H:Type}{enc:an×aD->H}{W:aV}(h0:∃cs e1 fz,W.heap[0]?=J (.cells cs e1 fz))
theorem aBL(n:Nat):Rd enc W n 126 ic.cells (λ_=>1):=λs x a=>by obtain⟨m,b,_,g,h,y,e,q0,_,k,f,q,_,_⟩:=pf aBR a;obtain⟨z,i,p⟩:=iV _ _ _ q0;obtain⟨d,j,c⟩:=iV _ _ _ q;refine⟨⟨z,d⟩,ai,?_⟩;have:=(bP.at 0 1 p (bP.at 1 1 c (bP.end 2 (h.trans agU))));grind[ic.cells]
include h0
theorem aBI(n:Nat):Rd enc W n 116 (λs=>[qW s]) λs=>s.l.length+1:=λc x h=>by obtain⟨a,k1,k2⟩:=uY (d:=ic.d) aL agU ab (λ_=>rfl) h0 (aBL) n c x h;dsimp only at k1 k2;rw[Nv]at k1;exact⟨a,k1,k2⟩
theorem aBJ(n:Nat):Rd enc W n 118 lW.cells lW.mu:=λs x a=>by obtain⟨m,b,_,t,h,A,k,q0,_,B,l,q,_,D,o,f,_,E,r,q3,_,_⟩:=pf aBP a;obtain⟨z,u,p⟩:=iV _ _ _ q0;obtain⟨g,v,c⟩:=Zn h0 _ _ _ q;obtain⟨i,w,d⟩:=aBI h0 _ _ _ f;obtain⟨j,y,e⟩:=iV _ _ _ q3;refine⟨⟨z,g,i,j⟩,by grind[lW.mu],?_⟩;have:=(bP.at 0 1 p (bP.at 1 1 c (bP.at 2 1 d (bP.at 3 1 e (bP.end 4 (h.trans aBo))))));grind[lW.cells]
theorem aBK(n:Nat):Rd enc W n 120 ey.cells ey.mu:=λs x a=>by obtain⟨m,b,_,l,h,y,i,q0,_,u,j,q,_,v,k,e,_,_⟩:=pf aBQ a;obtain⟨z,o,p⟩:=iV _ _ _ q0;obtain⟨f,r,c⟩:=iV _ _ _ q;obtain⟨g,t,d⟩:=aBJ h0 _ _ _ e;refine⟨⟨z,f,g⟩,by grind[ey.mu],?_⟩;have:=(bP.at 0 1 p (bP.at 1 1 c (bP.at 2 4 d (bP.end 6 (h.trans agT)))));grind[ey.cells,lW.cells]
theorem aBM(n:Nat):Rd enc W n 26 (λs=>[qn s]) λs=>(s.l.map ey.mu).sum+1:=uY (d:=ey.d) aL agT ab (λ_=>rfl) h0 (aBK h0) n
theorem aBN(n:Nat):Rd enc W n 27 (λs=>[xb s]) λs=>(s.l.map bG.mu).sum+1:=uY (d:=bG.d) aL ahd ab (λ_=>rfl) h0 (aCN h0) n
theorem aBO(n:Nat):Rd enc W n 29 gK.cells gK.mu:=λs x a=>by obtain⟨m,b,_,l,h,y,i,q0,_,u,j,q,_,v,k,e,_,_⟩:=pf aBS a;obtain⟨z,o,p⟩:=iV _ _ _ q0;obtain⟨f,r,c⟩:=aBM h0 _ _ _ q;obtain⟨g,t,d⟩:=aBN h0 _ _ _ e;refine⟨⟨z,f,g⟩,by grind[gK.mu],?_⟩;have:=(bP.at 0 1 p (bP.at 1 1 c (bP.at 2 1 d (bP.end 3 (h.trans aBp)))));grind[gK.cells]
end
end Go.VM
namespace Go.VM
open Go Go.AM
variable{t:an}
theorem yQ{a:Type}{μ:a->Nat}{x:a}:∀{l:List a},x∈l->μ x<=(l.map μ).sum
 |[],h=>by simp at h|y::l,h=>by
  rw[fO,List.sum_cons];rcases Cp.1 h with rfl|h;.omega
  .have:=yQ (μ:=μ) h;omega
theorem xk{a:Type}{μ:a->Nat}(h:∀x,1<=μ x):∀l:List a,l.length<=(l.map μ).sum|[]=>bS _|y::l=>by have:=xk h l;have:=h y;rw[fO,List.sum_cons,dH];omega
theorem rV{e:Expr}{l:List Expr}(h:e∈l):e.nn<=Expr.bN l:=by rw[<-Expr.QL];grind[yQ]
theorem mH(l:List Expr):l.length<=Expr.bN l:=by rw[<-Expr.QL];simp[xk,Expr.IZ]
mutual
theorem ae.ahl : ∀ p : ae, p.nn <= p.mu
  | .mk _ _ l _ _ _ _ c => by have := ae.ahm l; simp only [ae.nn, ae.mu]; omega
theorem ae.ahm : ∀ l : bq, ae.bN l <= ae.Am l
  | [] => bS _
  | p :: l => by have := ae.ahl p; have := ae.ahm l; simp only [ae.bN, ae.Am]; omega
end
mutual
theorem ae.acw : ∀ (p q : ae), q ∈ nodes p -> q.cond.nn <= p.mu
  | .mk o n l t v s sp c, q, h => by
    simp only [nodes, Cp] at h
    rcases h with rfl | h
    · simp only [ae.mu, ae.cond]; omega
    · have := ae.acx l q h; simp only [ae.mu]; omega
theorem ae.acx : ∀ (l : bq) (q : ae), q ∈ eS l -> q.cond.nn <= ae.Am l
  | [], q, h => by simp [eS] at h
  | p :: l, q, h => by
    simp only [eS, Co] at h
    rcases h with h | h
    · have := ae.acw p q h; simp only [ae.Am]; omega
    · have := ae.acx l q h; simp only [ae.Am]; omega
end
theorem b9.rS(s:b9):s.mu=s.name.length+(s.fields.l.map lr.mu).sum+1:=rfl
theorem lr.rS(f:lr):f.mu=f.name.length+1:=rfl
theorem eA.rS(f:eA):f.mu=f.name.length+1:=rfl
theorem Stat.rS(s:Stat):s.mu=(s.guards.l.map Guard.mu).sum+1:=rfl
theorem Guard.rS(g:Guard):g.mu=g.cond.nn+1:=rfl
theorem Edge.rS(x:Edge):x.mu=x.cond.nn+x.opens.l.length+x.ma.l.length+Expr.bN x.jN.l+x.ka.l.length+x.inside.l.length+1:=rfl
theorem dJ.rS(a:dJ):a.mu=(a.mM.l.map Stat.mu).sum+(a.oN.l.map Edge.mu).sum+1:=rfl
theorem cA.rS(q:cA):q.mu=q.name.length+(q.vars.l.map eA.mu).sum+q.key.l.length+q.pat.mu+Expr.bN q.jG.l+1:=rfl
theorem eJ.rS(p:eJ):p.mu=(p.types.l.map b9.mu).sum+p.query.mu+p.xK.mu+1:=rfl
theorem aLW{t:Sl b9}(h:(t.l.map b9.mu).sum<=1048576):lX t:=by
 refine⟨λs a=>?_,?_⟩
 . have b:=yQ (μ:=b9.mu) a;have c:s.name.length+(s.fields.l.map lr.mu).sum+1<=1048576:=by grind[b9.rS]
   have d:=xk (μ:=lr.mu) (λx=>by simp[lr.rS]) s.fields.l;refine⟨ab,λf e=>?_,ab⟩;grind[yQ,lr.rS]
 grind[xk,b9.rS]
theorem aGS{q:cA}(h:q.mu<=1048576):mw q:=by
 rw[cA.rS]at h;have c:=xk (μ:=eA.mu) (λx=>by simp[eA.rS]) q.vars.l;have d:=ae.ahl q.pat;have f:=mH q.jG.l;refine⟨ab,⟨λv g=>?_,ab⟩,ab,⟨ab,λp b=>?_⟩,ab,λe a=>?_⟩;.grind[yQ,eA.rS]
 .have:=ae.acw _ p b;omega
 .have:=rV a;omega
theorem aMp{l:List cM}{n:Nat}(h:(l.map cM.mu).sum<=n):l.length<=n:=by grind[xk,cM.mu]
theorem adC{v:Sl aN}{n:Nat}(h:(v.l.map aN.mu).sum<=n):v.l.length*6<=n/\∀e∈v.l,e.lR.l.length<=n:=by
 refine⟨?_,λe a=>?_⟩
 . have k:∀l:List _,l.length*6<=(l.map aN.mu).sum:=λl=>by induction l with|nil=>grind|cons x l i=>rw[fO,List.sum_cons,dH];have:x.mu=(x.lR.l.map _).sum+6:=rfl;omega
   grind
 .have b:=yQ (μ:=aN.mu) a;have c:e.mu=(e.lR.l.map _).sum+6:=rfl;exact aMp ab
theorem ap1{e:ew}(h:e.mu<=1048576):e.cp:=by
 have l:e.mu=(e.wait.l.map _).sum+(e.runs.l.map _).sum+(e.held.l.map _).sum+1:=rfl;obtain⟨d,f⟩:=adC (v:=e.wait) (n:=1048576) ab;obtain⟨g,i⟩:=adC (v:=e.held) (n:=1048576) ab;have j:=xk (μ:=br.mu) (λx=>by simp[br.mu]) e.runs.l;have k:∀c∈e.runs.l,c.bs.l.length+c.ss.l.length<=1048576:=λc b=>by grind[yQ,br.mu]
 refine⟨⟨⟨⟨ab,λx a=>?_⟩,⟨ab,λx a=>?_⟩,ab,λc b=>⟨?_,?_⟩⟩,ab,λc b=>⟨?_,?_⟩⟩,ab,ab,ab,λx a=>?_,λx a=>?_⟩<;>grind
theorem alV{p:dh}{s:gK}(c:p.mu<=1048576)(j:s.mu<=1048576):Sa p s:=by
 have a:p.mu=(p.types.l.map _).sum+(p.qs.l.map _).sum+1:=rfl;have l:s.mu=(s.rs.l.map _).sum+(s.os.l.map _).sum+1:=rfl;rw[a]at c;have d:=xk (μ:=cA.mu) (λx=>by simp[cA.rS]) p.qs.l;have e:=xk (μ:=b9.mu) (λx=>by simp[b9.rS]) p.types.l;have f:=xk (μ:=ey.mu) (λx=>by simp[ey.mu]) s.rs.l;have g:=xk (μ:=bG.mu) (λx=>by simp[bG.mu]) s.os.l;have P:D' p:=⟨aLW ab,λq i=>aGS (by grind[yQ]),ab⟩;refine⟨P,aGk P ab,⟨ab,λr hr=>?_⟩,ab,λo b=>?_⟩;.have e1:=yQ (μ:=ey.mu) hr;have e2:r.mu=r.t.bs.l.length+r.t.ps.l.length+1+1:=rfl;omega
 . have e0:=yQ (μ:=bG.mu) b;have k0:o.mu=o.marks.l.length+(o.keys.l.map _).sum+1:=rfl;have k1:=xk (μ:=aF.mu) (λx=>by simp[aF.mu]) o.keys.l;have k:∀x∈o.keys.l,x.e.cp/\x.key.s.length<1050000:=λx h=>by have e1:=yQ (μ:=aF.mu) h;have e2:x.mu=(x.key.s.length+1)+x.e.mu+1:=rfl;grind[ap1]
   exact⟨⟨ab,ab,λx h=>(k x h).1.1⟩,⟨ab,ab,λx h=>(k x h).1.1.1⟩,k⟩
mutual
def xY {H : Type} : DataW H -> List aD
  | .lit l => [l.value]
  | .agg p => O6 p
  | _ => []
def O6 {H : Type} : List (DataW H) -> List aD
  | [] => []
  | d :: l => xY d ++ O6 l
end
def ui(t:an):Prop:=∀{H:Type}(e:an×aD->H)(W:aV)(h:Bool)n c x,DataW.trod e PP W 0 (λ_=>V) h n t c=J x->c=xY x.1
section
variable{H:Type}{enc:an×aD->H}{W:aV}{held:Bool}
theorem O5{k:fR}(h:PP.underlying t=J (.int k)):ui t:=λenc W held n c x a=>by obtain⟨z,rfl,rfl,_⟩:=DataW.trod_int h a;rfl
theorem ad7(h:PP.underlying t=J .bool):ui t:=λenc W held n c x a=>by obtain⟨z,rfl,rfl⟩:=DataW.trod_bool h a;rfl
def NC:Nat->List (an×Nat×Nat)->Nat->Prop|o,[],n=>o=n|o,(_,p,k)::l,n=>p=o/\NC (o+k) l n
theorem T3{n:Nat}{cs:List aD}:∀(l:List (an×Nat×Nat))(s:List (DataW H×List MemPlace))(o:Nat),NC o l cs.length->s.length=l.length->(∀(i:Nat)y,l[i]?=J y->DataW.trod enc PP W 0 (λ_=>V) held n y.1 ((cs.drop y.2.1).take y.2.2)=s[i]?)->(∀y,y∈l->ui y.1)->cs.drop o=O6 (s.map (·.1))|[],[],o,h,_,_,_=>by have:o=cs.length:=h;rw[this,List.drop_length];rfl|[],x::s,o,_,h,_,_=>by simp at h|y::l,[],o,_,h,_,_=>by simp at h|(t,p,k)::l,x::s,o,h,d,b,c=>by obtain⟨rfl,h⟩:p=o/\NC (o+k) l cs.length:=h;have e1:=c _ gv enc W held n _ _ (b 0 _ rfl);have e2:=T3 l s (p+k) h (by simpa using d) (λi y a=>b (i+1) y (by simpa using a)) λy a=>c y (jR _ a);rw[fO,O6,<-e1,<-e2,<-D2,G3]
theorem ad9{l:List (an×Nat×Nat)}(h:lO t=J l)(k:NC 0 l (PP.cellsOf t))(j:∀y,y∈l->ui y.1):ui t:=λenc W held n c x o=>by
 unfold lO at h;split at h;.rename_i s u;cases h;obtain⟨p,m,q,rfl,d,e,g⟩:=DataW.trod_struct u o;have:=T3 (enc:=enc) (W:=W) (held:=held) (n:=m) (cs:=c) _ p 0 (by rw[d];exact k) (by simpa using e) (λi y a=>by rw[ki]at a;cases b:s.toList[i]? with|none=>rw[b]at a;simp at a|some f=>rw[b]at a;cases a;dsimp only;exact g i f (by simpa using b)) j;rw[xC]at this;rw[xY];exact this
 .simp at h
theorem ajQ{e:an}{c:Nat}:∀(m s:Nat),NC (s*c) ((List.range' s m).map λi=>(e,i*c,c)) ((s+m)*c)|0,s=>rfl|m+1,s=>⟨rfl,by have:=ajQ (e:=e) (c:=c) m (s+1);rw[Nat.succ_mul,show s+1+m=s+(m+1)by omega]at this;exact this⟩
theorem KZ{e:an}{n:Nat}(u:PP.underlying t=J (.array n e))(o:PP.cellsOf t=n*PP.cellsOf e)(p:ui e):ui t:=λenc W held f s x q=>by
 obtain⟨r,m,v,rfl,g,k,l⟩:=DataW.trod_array u q;have d:=ajQ (e:=e) (c:=PP.cellsOf e) n 0;rw[Nat.zero_mul,kE,<-o,<-g]at d;have:=T3 (enc:=enc) (W:=W) (held:=held) (n:=m) (cs:=s) _ r 0 d (by simpa using k) (λi y h=>by rw[ki]at h;cases a:(List.range' 0 n)[i]? with|none=>rw[a]at h;simp at h|some j=>
 rw[a]at h;cases h;have b:i<n:=by have:=(am.1 a).1;simpa using this
 have:j=i:=by have:=a;rw[List.getElem?_range' b]at this;simpa using this.symm
 subst this;dsimp only;exact l j b) λy h=>by obtain⟨j,_,rfl⟩:=au.1 h;exact p
 rw[xC]at this;rw[xY];exact this
end
theorem agq{W:aV}:∀{l:List (String×DataW Unit)}{j:List MemPlace},DataW.LaidVars PP W l j->∀{n d},(n,d)∈l->∀{g t},PP.globalNamed n=J g->(PP.globals[g]?).map (·.type)=J t->ui t->∃s e z,W.heap[g]?=J (.cells s e z)/\s.toList=xY d
 |(m,f)::l,j,h,n,d,b,g,t,a,i,F=>by
  obtain⟨o,r,s,u,p,q,k1,k2,k3,k4,k5,_⟩:=h;rcases Cp.1 b with e|b
  . obtain⟨rfl,rfl⟩:=jd e;obtain rfl:=bE (a.symm.trans k1);obtain rfl:=bE (i.symm.trans k2);unfold World.var? at k3;rw[a]at k3;have k3:(match W.heap[g]? with|some (.cells s _ _)=>J s|_=>Z)=J s:=k3;split at k3;.rename_i c e z k;cases k3;exact⟨_,e,z,k,F _ _ _ _ _ _ k4⟩
    .simp at k3
  .exact agq k5 b a i F
set_option maxRecDepth 100000
def Cz:AV->aD|.bool b=>.bool b|.int k n=>.int k n|_=>.nilIface
def Af:AV->Bool|.bool _|.int _ _=>V|_=>C
theorem al5{c:bc}{l:aI}(h:l.all Af=V):ba c l (l.map Cz)/\∀a,a∈l->a.aU=V:=by
 have k:∀a,a∈l->Af a=V:=λa b=>AW.1 h a b;refine⟨⟨aP,λi a v x y=>?_⟩,λa b=>?_⟩;.rw[ki,x]at y;cases y;have:=k a (du x);cases a<;>first|exact .bool _|exact .int _ _|(simp[Af]at this)
 .have:=k a b;cases a<;>first|rfl|(simp[Af]at this)
theorem Uj:PP.globals.size=6:=aL
theorem gn0:PP.globalNamed "tidegate/scope.table"=J 0:=aL
theorem gn1:PP.globalNamed "tidegate/pattern.shapes"=J 1:=aL
theorem gn3:PP.globalNamed "internal/strconv.uint64pow10"=J 3:=aL
theorem gn4:PP.globalNamed "math/bits.deBruijn32tab"=J 4:=aL
theorem gn5:PP.globalNamed "math/bits.deBruijn64tab"=J 5:=aL
theorem tys:(PP.globals.map (·.type))=#[314,339,3,708,714,715]:=aL
theorem gt{g:Nat}(h:(#[314,339,3,708,714,715]:Array an)[g]?=J t):(PP.globals[g]?).map (·.type)=J t:=by rw[<-tys,Array.getElem?_map]at h;exact h
theorem RR:PP.underlying 4=J .bool:=aL
theorem atX:ui 314:=KZ (e:=313) (n:=8) aL aL (ad9 (t:=313) (l:=[(4,0,1),(4,1,1)]) aL (by rw[show PP.cellsOf 313=2 by kernel_rfl];exact⟨rfl,rfl,rfl⟩) (λy h=>by simp only[Cp,mO,or_false]at h;rcases h with rfl|rfl<;>exact ad7 RR))
theorem atY:ui 339:=KZ (e:=338) (n:=11) aL aL (ad9 (t:=338) (l:=[(3,0,1),(3,1,1),(4,2,1),(4,3,1),(4,4,1),(4,5,1)]) aL (by rw[show PP.cellsOf 338=6 by kernel_rfl];exact⟨rfl,rfl,rfl,rfl,rfl,rfl,rfl⟩) (λy h=>by simp only[Cp,mO,or_false]at h;rcases h with rfl|rfl|rfl|rfl|rfl|rfl<;>first|exact ad7 RR|exact O5 u3))
theorem atZ:ui 708:=KZ (e:=234) (n:=20) aL aL (O5 (k:=.u64) aL)
theorem at0:ui 714:=KZ (e:=5) (n:=32) aL aL (O5 (k:=.u8) aL)
theorem at1:ui 715:=KZ (e:=5) (n:=64) aL aL (O5 (k:=.u8) aL)
open Go.Proofs.YtlpehfnaibndgaaGreatDoor in theorem fv0:xY (Rows.laid_tidegate_scope_table (H:=Unit))=((gl[0]?).getD ([],0)).1.map Cz/\((gl[0]?).getD ([],0)).1.all Af=V:=⟨aL,aL⟩
open Go.Proofs.YtlpehfnaibndgaaGreatDoor in theorem fv1:xY (Rows.laid_tidegate_pattern_shapes (H:=Unit))=((gl[1]?).getD ([],0)).1.map Cz/\((gl[1]?).getD ([],0)).1.all Af=V:=⟨aL,aL⟩
open Go.Proofs.YtlpehfnaibndgaaGreatDoor in theorem fv3:xY (Rows.laid_internal_strconv_uint64pow10 (H:=Unit))=((gl[3]?).getD ([],0)).1.map Cz/\((gl[3]?).getD ([],0)).1.all Af=V:=⟨aL,aL⟩
open Go.Proofs.YtlpehfnaibndgaaGreatDoor in theorem fv4:xY (Rows.laid_math_bits_deBruijn32tab (H:=Unit))=((gl[4]?).getD ([],0)).1.map Cz/\((gl[4]?).getD ([],0)).1.all Af=V:=⟨aL,aL⟩
open Go.Proofs.YtlpehfnaibndgaaGreatDoor in theorem fv5:xY (Rows.laid_math_bits_deBruijn64tab (H:=Unit))=((gl[5]?).getD ([],0)).1.map Cz/\((gl[5]?).getD ([],0)).1.all Af=V:=⟨aL,aL⟩
theorem HQ:gl.length=6:=aL
theorem aHS:(((begin PP (λ_ _=>0) default).world.heap[2]?).bind Obj.row?)=J (#[.int .i64 0],3):=aL
theorem amW:PP.buildable 3=V:=aL
theorem ct3:PP.cellTypes PP.depth 3=J [3]:=aL
theorem gl2:gl[2]?=J ([.top],3):=aL
theorem ahp:(Go.Proofs.YtlpehfnaibndgaaGreatDoor.Rows.topGroupsMoveUptoRow.laid.filter λx=>x.2.handleName?.isSome)=[]:=aL
open Go.Proofs.YtlpehfnaibndgaaGreatDoor in theorem glb{W:aV}(L:laidMetH PP Rows.topGroupsMoveUptoRow.laid W)(S:W.ShapedOpen PP):∀(g:Nat)x,gl[g]?=J x->∃c e z,W.heap[g]?=J (.cells c e z)/\∀f,ba f x.1 c.toList/\∀a,a∈x.1->a.aU=V:=by
 unfold laidMetH at L;rw[ahp]at L;obtain⟨B,b,_⟩:=L;have y:∀{n d g t},(n,d)∈Rows.topGroupsMoveUptoRow.laid->PP.globalNamed n=J g->(PP.globals[g]?).map (·.type)=J t->ui t->xY d=((gl[g]?).getD ([],0)).1.map Cz/\((gl[g]?).getD ([],0)).1.all Af=V->∀x,gl[g]?=J x->∃c e z,W.heap[g]?=J (.cells c e z)/\∀f,ba f x.1 c.toList/\∀a,a∈x.1->a.aU=V:=by intro n d g t r m o p i x h;obtain⟨c,e,z,k1,k2⟩:=agq b r m o p;rw[h]at i;obtain⟨i,j⟩:=i;simp only[D9]at i j;exact⟨c,e,z,k1,λf=>by rw[k2,i];exact al5 j⟩
 intro g x h;have q:g<6:=by rw[<-HQ];exact(am.1 h).1
 match g,q,h with
 |0,_,h=>exact y (jR _ (jR _ (jR _ (jR _ gv)))) gn0 (gt rfl) atX fv0 x h|1,_,h=>exact y (jR _ (jR _ (jR _ gv))) gn1 (gt rfl) atY fv1 x h|2,_,h=>
 obtain⟨c,k1,k2,k3⟩:=S.1 2 _ _ (by rw[Uj];decide) aHS;obtain⟨D,k4,_,k5⟩:=k3 amW;rw[ct3]at k4;cases k4;have s:c.size=1:=k2;obtain⟨v,b⟩:∃v,c[0]?=J v:=⟨c[0],nr ab⟩;obtain⟨u,k6,k7⟩:=k5 0 v b;obtain rfl:3=u:=bE k6;rw[gl2]at h;cases h;refine⟨c,3,(0,0),k1,λf=>?_⟩;have A:c.toList=[v]:=by obtain⟨l⟩:=c;match l,s,b with|[w],_,b=>simpa using b
 rw[A];unfold Cell.ok at k7;rw[u3]at k7;cases v with|int k n=>exact⟨ba.cons (by obtain rfl:=k7.1;exact .top n) (ba.nil f),by simp[AV.aU]⟩|_=>exact absurd k7 aP
 |3,_,h=>exact y (jR _ (jR _ gv)) gn3 (gt rfl) atZ fv3 x h|4,_,h=>exact y gv gn4 (gt rfl) at0 fv4 x h|5,_,h=>exact y (jR _ gv) gn5 (gt rfl) at1 fv5 x h
theorem agY:∀(l:List (aI×an))(H:Heap),(∀id,H.next<=id->H.get id=Z)->(fS (λH x=>H.cQ x.1 .ro x.2) l H).next=H.next+l.length/\(fS (λH x=>H.cQ x.1 .ro x.2) l H).dp=H.dp/\∀id,(fS (λH x=>H.cQ x.1 .ro x.2) l H).get id=if id<H.next then H.get id else(l[id-H.next]?).map λx=>.cells x.1 id .ro x.2:=by intro l;induction l with
 |nil=>
 intro H n;refine⟨rfl,rfl,λid=>?_⟩;show H.get id=_;split;.rfl
 .rename_i h;rw[n id ab];rfl|cons x l i=>
 intro H n;have u:∀id,(H.cQ x.1 .ro x.2).next<=id->(H.cQ x.1 .ro x.2).get id=Z:=λid hid=>by have hid:H.next+1<=id:=hid;unfold Heap.cQ;rw[nG _ _ ab];exact n id ab
 obtain⟨c,d,e⟩:=i _ u;have e1:(H.cQ x.1 .ro x.2).next=H.next+1:=rfl;refine⟨?_,d,λid=>?_⟩;.show(fS _ l (H.cQ x.1 .ro x.2)).next=_;rw[c,e1,dH];omega
 . show(fS _ l (H.cQ x.1 .ro x.2)).get id=_;rw[e,e1];by_cases a:id<H.next;.rw[if_pos ab,if_pos a];unfold Heap.cQ;exact nG _ _ ab
   . rw[if_neg a];by_cases b:id=H.next;.subst b;rw[if_pos ab,Nat.sub_self];unfold Heap.cQ;rw[mA];rfl
     .rw[if_neg ab,show id-H.next=(id-(H.next+1))+1 by omega,J1]
def lH(L:List Lx):List (aI×an):=L.map λx=>(x.c,x.e)
section
variable{W:aV}{L:List Lx}
theorem Mb(L:List Lx)(i:Nat):(jo (lH L)).get i=(L[i]?).map λx=>.cells x.c i .ro x.e:=by
 have h:∀i,oO.next<=i->oO.get i=Z:=λi _=>by unfold Heap.get oO;rfl
 obtain⟨_,_,a⟩:=agY (lH L) oO h;have:=a i;rw[if_neg (by unfold oO;exact N3 _),show oO.next=0 from rfl,Nat.sub_zero]at this;unfold jo;rw[this,lH,ki,Option.map_map];rfl
theorem azT(L:List Lx)(r:Nat):(jo (lH L)).bp r=(0,r):=by
 have h:∀id,oO.next<=id->oO.get id=Z:=λid _=>by unfold Heap.get oO;rfl
 obtain⟨_,a,_⟩:=agY (lH L) oO h;unfold Heap.bp jo;rw[a];rfl
theorem ago{i:Nat}{l r f e}(h:(jo (lH L)).get i=J (.cells l r f e)):∃x,L[i]?=J x/\l=x.c/\r=i/\f=.ro/\e=x.e:=by rw[Mb]at h;cases a:L[i]? with|none=>rw[a]at h;simp at h|some x=>rw[a]at h;obtain⟨rfl,rfl,rfl,rfl⟩:=ch.cells.inj (bE h);exact⟨x,rfl,rfl,rfl,rfl,rfl⟩
theorem Qn{i:Nat}{p:Pl}(h:lP L i=J p):∃x,L[i]?=J x/\x.p=p:=by unfold lP at h;cases a:L[i]? with|none=>rw[a]at h;simp at h|some x=>rw[a]at h;exact⟨x,rfl,bE h⟩
theorem Ql{i:Nat}{p:Pl}(h:lP L i=J p):fM (jo (lH L)) i:=by obtain⟨x,a,_⟩:=Qn h;exact⟨x.c,i,x.e,by rw[Mb,a];rfl⟩
theorem Good.AB(h:Good W L):bQ gI (lP L) (jo (lH L)) W:=by
 refine⟨⟨λid p a=>?_,λid p l r n e a k=>?_,λi j p q a g _ hr=>absurd (Ql a) hr,λi j p q a g _ hr=>?_⟩,λid p o a _ _ d=>?_⟩;.obtain⟨x,b,rfl⟩:=Qn a;obtain⟨c,z,e1,k1,_⟩:=(h.2 id x b).o;exact⟨(ap.1 k1).1,by rw[Mb,b];rfl⟩
 .obtain⟨x,b,rfl⟩:=Qn a;obtain⟨y,m,rfl,_⟩:=ago k;obtain rfl:=bE (b.symm.trans m);exact(h.2 id x b).n
 . rcases hr with hr|hr;.exact absurd (Ql a) hr
   .exact absurd (Ql g) hr
 .obtain⟨x,b,rfl⟩:=Qn a;rw[Mb,b]at d;cases d;obtain⟨c,z,e1,k1,k2,k3,k4⟩:=(h.2 id x b).o;exact⟨c,z,e1,k1,k2,k3,k4,(h.2 id x b).s,λf=>absurd rfl f,λf=>by cases f⟩
theorem HR.start(L:List Lx):HR (lK L) N0 (λ_=>Z) (jo (lH L)) [] .empty:=by
 refine⟨mE _,λid cells e h=>?_,λp q r b c h=>(by cases h),λp r id x h=>(by cases h),λp r b h=>(by cases h),λs b h=>(by cases h),λid o h=>(by cases h),λid _=>rfl,λid l r f e h=>?_⟩;.unfold lK at h;cases a:L[id]? with|none=>rw[a]at h;simp at h|some x=>rw[a]at h;obtain⟨rfl,rfl⟩:=jd (bE h);exact⟨id,.ro,by rw[Mb,a];rfl,by rw[azT];exact mn _⟩
 .obtain⟨x,a,rfl,rfl,rfl,rfl⟩:=ago h;exact⟨_,_,h⟩
end
section
variable{K K':aY}{Y:cm}{B:aJ}{H H':Heap}{lb:dV}{g:GH}
theorem HR.gone(a:HR K Y B H lb g){p:Pk}{r:Nat}(u:B p=J (r,V))(M:p.slot)(k:bT (λx=>x=r) H H')(z:bg H')(F:pC H'):HR K Y (B.set p Z) H' lb g:=by
 have back:∀q f b,B.set p Z q=J _->q≠p/\B q=J _/\f≠r:=λq f b h=>by
  by_cases x:q=p;.grind[aJ.nQ]
  .rw[aJ.lf _ _ x]at h;exact⟨x,h,λy=>x (a.inj _ _ _ _ _ (y▸h) u)⟩
 have D:∀q,¬q.slot->B.set p Z q=B q:=λq E=>aJ.lf _ _ λe=>E (e▸M);refine⟨z,λid cells e h=>?_,λq I f b c l d=>a.inj _ _ _ _ _ (back _ _ _ l).2.1 (back _ _ _ d).2.1,λq f id x l d=>?_,λq f b h=>gx (a.cC _ _ _ (back _ _ _ h).2.1) k.next,λs b w=>?_,λj o A=>?_,a.mW,F⟩;.obtain⟨root,v,g1,g2⟩:=a.dm id _ e h;have t:=a.clean _ _ _ _ u h;have hid:=a.inv.get _ _ g1;rw[lN g1]at t;exact⟨_,v,by rw[k.get id hid (by grind[lN])];omega,by rw[k.dp _ (by have:=(a.inv.root _ _ _ _ _ g1).1;omega) t];omega⟩
 .obtain⟨_,_,g1,_⟩:=a.dm id _ _ d;rw[k.root id (a.inv.get _ _ g1)];exact a.clean _ _ _ _ (back _ _ _ l).2.1 d
 .obtain⟨i,l,d⟩:=a.box s b w;have n:=D (.lb s) (by simp[Pk.slot]);refine⟨i,ai,d.keep a.inv k (bo.refl _) (aX.refl _) (back (.lb s) i V ai).2.2 λm f c x=>?_⟩;grind[Pk.slot]
 .obtain⟨i,l,d,n⟩:=a.jf j o A;have G:=D (.g j) (by simp[Pk.slot]);refine⟨i,l,ai,n.keep a.inv k (bo.refl _) (aX.refl _) (back (.g j) i V ai).2.2 λm f c x=>?_⟩;grind[Pk.slot]
theorem consume(o:HR K Y B H [] g){r:Nat}(w:B (.sl 0)=J (r,V))(k:bT (λf=>f=r) H H')(D:bg H')(P:pC H')(O:H'.bA=H.bA)(R:∀f,f∈H'.bV->f∈H.bV\/(f=r/\r<H.bA))(T:∀f,f∈H'.cI->f∈H.cI\/(f=r/\r<H.bA)){n u s:Nat}{m:aI}{G:fQ}{e:an}{l:ao}{c:ah Nat}(z:H'.get n=J (.cells m r G e))(Q:(H'.bp r).1<=n)(M:gN K Y l s u m)(N:∀k,c=J k->l.length<=k):∃K' t,Nx K Y B H K' Y t H'/\HR K' Y t H' [] g/\jS K' Y t H' (.dv (.ay l e s) .no) (.sl n u l.length c s):=by
 have U:dK B r:=⟨_,_,w⟩;have iQ:=lN z;have F:K n=Z:=by
   rcases E:K n with _|f;.rfl
   obtain⟨_,_,g1,_⟩:=o.dm n _ _ E;have:=o.clean _ _ _ _ w E;rw[<-k.root n (o.inv.get _ _ g1)]at this;omega
 have I:=o.gone w trivial k D P;have S:∀q,B.set (.sl 0) Z q≠J (r,V):=λq h=>by
   by_cases f:q=.sl 0;.grind[aJ.nQ]
   .rw[aJ.lf _ _ f]at h;exact f (o.inj _ _ _ _ _ h w)
 have L:=I.Vh z Q F S;have W:=aY.A3 (x:=(m,e)) F;refine⟨_,_,⟨W,λj f v=>?_,aX.refl _,k.xu o.inv λX _ e=>e▸U,λp X b h=>?_,O,λf A=>(R f A).imp_right λ⟨a,b⟩=>⟨a▸b,a▸U⟩,λf A=>(T f A).imp_right λ⟨a,b⟩=>⟨a▸b,a▸U⟩⟩,L,?_⟩
 . unfold aY.add at v;by_cases y:j=n;.subst y;exact⟨D.get _ _ z,aT⟩
   .rw[if_neg y]at v;obtain⟨_,_,g1,_⟩:=o.dm j _ _ v;exact⟨gx (o.inv.get _ _ g1) k.next,.inl v⟩
 . by_cases f:p=.sl 0;.grind[aJ.nQ]
   .rw[aJ.lf _ _ f]at h;exact .inl ⟨p,b,h⟩
 .exact .ay l e _ n _ c m (by simp[aY.add]) M.1 M.2.1 N M.2.2.1 λi f j d a x1 x2 x3=>(M.2.2.2 i f j d a x1 x2 x3).mono W (aX.refl _)
end
open Proofs.Tryz
set_option maxHeartbeats 4000000
section
variable{P:aH}{ak:cj}{rec:AM.Rec}{ops:Array aB}{fr:cG}{H:Heap}{o:aB}{l:List aB}{α:Type}
theorem ajN(t:Tr α)(n:Nat)(x:α)(m:Nat):(t.ins n x).get m=bif aw n m then J x else t.get m:=by grind[bR,Tr.lF,Tr.jy]
theorem ai7:Aw P ak rec ops [] fr H=J (.next fr H):=(rfl)
theorem ai5:Aw P ak rec ops (o::l) fr H=(Bf P ak rec ops fr H o).bind λ|.next fr H=>Aw P ak rec ops l fr H:=(rfl)
theorem aiD(n:Nat):aA (.ofNat n) 0=C:=(rfl)
theorem ajD(n:Nat):Int.sub (.ofNat n) 0=.ofNat n:=(rfl)
theorem w00:dN .i64 (Int.sub 0 0)=0:=(rfl)
theorem ahk(a b:Nat):ft a b=a*b:=(rfl)
theorem ag8(a b:Nat):im a b=a+b:=(rfl)
theorem ahA(a b:Nat):Nat.sub a b=a-b:=(rfl)
theorem ar1(a:Nat):(#[a]:Array Nat)[0]?=J a:=(rfl)
theorem ar2(a b:Nat):(#[a,b]:Array Nat)[0]?=J a:=(rfl)
theorem ar3(a b:Nat):(#[a,b]:Array Nat)[1]?=J b:=(rfl)
theorem wI{m:Nat}(h:m<=bm):dN .i64 (.ofNat m)=.ofNat m:=by unfold dN;simp only[eQ,show m<9223372036854775808 from J5 h fD,eB,aR]
theorem IE{t a b:Nat}(h:dL PP t=J (a,b)):∃i,PP.info? t=J i/\i.size=a/\i.bytes=b:=by simp_all[dL]
def I8(a:AV):ah AV:=match a with|.top=>Z|v=>J v
theorem ah6{m:Tr AV}{t:Nat}:AM.bJ P m (.tmp t)=I8 ((m.get t).getD fC):=(rfl)
theorem ah5{t:Tr AV}{v:aD}:AM.bJ P t (.const v)=w9 v:=(rfl)
theorem ah2{k:fR}{n:Int}:I8 (.int k n)=J (.int k n):=(rfl)
theorem ah1{b:Bool}:I8 (.bool b)=J (.bool b):=(rfl)
theorem ah3:I8 .bu=J .bu:=(rfl)
theorem ah4{a b d e:Nat}{c:ah Nat}:I8 (.sl a b d c e)=J (.sl a b d c e):=(rfl)
def GV(P:aH)(k:cj)(f:bW)(z:aI)(H:Heap)(a:AV)(b:Heap):Prop:=k f z H=Z/\∃fr,wG P f z=J fr/\∃n,∀m,n<=m->AM.run P k m fr H=J (.ret a b)
def GV.ev{f:bW}{z:aI}{a:AV}{b:Heap}(h:GV P ak f z H a b):Ev P ak f z H a b:=let⟨c,fr,d,n,e⟩:=h;.inr ⟨c,fr,d,n,e n (bS n)⟩
theorem dQ.ev{f:bW}{z:aI}{a:AV}{b:Heap}{fr:cG}(h:wG P f z=J fr)(p:ak f z H=Z)(r:dQ P ak fr H (λo=>o=.ret a b)):GV P ak f z H a b:=by obtain⟨n,o,c,rfl⟩:=r;exact⟨p,fr,h,n,λm d=>Jr d fr H _ c⟩
def dQ.fin{G:Out->Prop}{x:Out}(h:body P ak (λ_ _=>Z) fr H=J x)(g:G x):dQ P ak fr H G:=⟨1,x,h,g⟩
end
attribute[local go_sem]body vm wC xL xM xN Ef cG.vd cG.Rq cG.Rp DW Cj GB GD Cf GF GJ DY DX GC GN GG GK GL GM NR DS GI Ch DT Ci DU Cg ai5 ai7 KA wi fB dS ah6 ah5 ah2 ah1 ah3 ah4 DH w9 Dr eY ajN yE uN iz xO IG nJ gZ gJ cR aiD cw ajD pR sliceB eZ mP w00 ahk ag8 ahA Nat.zero_mul Nat.sub_zero vk kE ar1 ar2 ar3 dT nA Ji
attribute[local congr]bB bC
def JY(f e s b:Nat):Prop:=∀(a:cj)(H:Heap)(n:Nat)(z:aI),ml PP e=J z->z.length=s->n*b<=bm->n<=bm->a f [.bu,gZ n] H=Z->GV PP a f [.bu,gZ n] H (bif aw n 0 then .bu else .sl H.next 0 0 Z s) (bif aw n 0 then H else H.cQ (jP n z) .op e)
theorem auB:JY 334 3 1 8:=by
 intro a H n z e l b h p;refine dQ.ev (fr:={fn:=334,n:=27,tmps:=(Tr.nil.ins 0 .bu).ins 1 (gZ n),todo:=[.code ((f334.body).getD .skip)],defers:=[],mode:=.run,roundOf:=Z}) (by rfl) p ?_;obtain⟨i,d,s,c⟩:=IE ia3;have d1:decide (n*8<=bm)=V:=mz b;have d2:decide (n<=bm)=V:=mz h;have w:=wI h;show dQ PP a {fn:=334,n:=27,tmps:=_,todo:=[.code (Code.seq _ _)],defers:=[],mode:=.run,roundOf:=Z} H _;cases n<;>iterate 17(refine dQ.step 0 (λ_ _=>by simp only[go_sem,w,d,s,c,e,l,d1,d2];rfl) ?_)
 all_goals exact dQ.fin (by rfl) rfl
theorem auC:JY 350 64 8 88:=by
 intro a H n z e l b h p;refine dQ.ev (fr:={fn:=350,n:=27,tmps:=(Tr.nil.ins 0 .bu).ins 1 (gZ n),todo:=[.code ((f350.body).getD .skip)],defers:=[],mode:=.run,roundOf:=Z}) (by rfl) p ?_;obtain⟨i,d,s,c⟩:=IE afT;have d1:decide (n*88<=bm)=V:=mz b;have d2:decide (n<=bm)=V:=mz h;have w:=wI h;show dQ PP a {fn:=350,n:=27,tmps:=_,todo:=[.code (Code.seq _ _)],defers:=[],mode:=.run,roundOf:=Z} H _;cases n<;>iterate 17(refine dQ.step 0 (λ_ _=>by simp only[go_sem,w,d,s,c,e,l,d1,d2];rfl) ?_)
 all_goals exact dQ.fin (by rfl) rfl
theorem auD:JY 400 373 2 16:=by
 intro a H n z e l b h p;refine dQ.ev (fr:={fn:=400,n:=27,tmps:=(Tr.nil.ins 0 .bu).ins 1 (gZ n),todo:=[.code ((f400.body).getD .skip)],defers:=[],mode:=.run,roundOf:=Z}) (by rfl) p ?_;obtain⟨i,d,s,c⟩:=IE afR;have d1:decide (n*16<=bm)=V:=mz b;have d2:decide (n<=bm)=V:=mz h;have w:=wI h;show dQ PP a {fn:=400,n:=27,tmps:=_,todo:=[.code (Code.seq _ _)],defers:=[],mode:=.run,roundOf:=Z} H _;cases n<;>iterate 17(refine dQ.step 0 (λ_ _=>by simp only[go_sem,w,d,s,c,e,l,d1,d2];rfl) ?_)
 all_goals exact dQ.fin (by rfl) rfl
theorem axy:dL PP 80=J (5,56):=aL
theorem aK9:aW PP 80=J 5:=aL
theorem auA:JY 263 80 5 56:=by
 intro a H n z e l b h p;refine dQ.ev (fr:={fn:=263,n:=27,tmps:=(Tr.nil.ins 0 .bu).ins 1 (gZ n),todo:=[.code ((f263.body).getD .skip)],defers:=[],mode:=.run,roundOf:=Z}) (by rfl) p ?_;obtain⟨i,d,s,c⟩:=IE axy;have d1:decide (n*56<=bm)=V:=mz b;have d2:decide (n<=bm)=V:=mz h;have w:=wI h;show dQ PP a {fn:=263,n:=27,tmps:=_,todo:=[.code (Code.seq _ _)],defers:=[],mode:=.run,roundOf:=Z} H _;cases n<;>iterate 17(refine dQ.step 0 (λ_ _=>by simp only[go_sem,Proofs.Tryz.underlying47,aK9,w,d,s,c,e,l,d1,d2];rfl) ?_)
 all_goals exact dQ.fin (by rfl) rfl
end Go.VM
namespace Go.Proofs
open Go.Shelf
def Tryz.az2:Go.Shelf.Ren:=⟨λ|219=>282|217=>330|225=>331|224=>332|267=>333|266=>391|314=>392|n=>n,λ|9=>9|3=>3|4=>4|5=>5|46=>190|146=>232|51=>154|n=>n,λ|1=>2|n=>n⟩
def Tryz.az1:Go.Proofs.Lays.n219 eP Tryz.az2:={
 mixed:=by rfl
 f217:=Tryz.func330.trans (gY J (by rfl))
 f219:=Tryz.func282.trans (gY J (by rfl))
 f224:=Tryz.func332.trans (gY J (by rfl))
 f225:=Tryz.func331.trans (gY J (by rfl))
 f266:=Tryz.func391.trans (gY J (by rfl))
 f267:=Tryz.func333.trans (gY J (by rfl))
 f314:=Tryz.func392.trans (gY J (by rfl))
 t3:=Tryz.underlying3
 a3:=Tryz.isAgg3
 z3:=Tryz.sizeOf3
 v3:=Tryz.zeroValue3
 t4:=Tryz.underlying4
 a4:=Tryz.isAgg4
 z4:=Tryz.sizeOf4
 v4:=Tryz.zeroValue4
 t5:=Tryz.underlying5
 a5:=Tryz.isAgg5
 z5:=Tryz.sizeOf5
 v5:=Tryz.zeroValue5
 t9:=Tryz.underlying9
 a9:=Tryz.isAgg9
 z9:=Tryz.sizeOf9
 v9:=Tryz.zeroValue9
 t46:=Tryz.underlying190
 a46:=Tryz.isAgg190
 z46:=Tryz.sizeOf190
 v46:=Tryz.zeroValue190
 t51:=Tryz.underlying154
 a51:=Tryz.isAgg154
 z51:=Tryz.sizeOf154
 v51:=Tryz.zeroValue154
 t146:=Tryz.underlying232
 a146:=Tryz.isAgg232
 z146:=Tryz.sizeOf232
 v146:=Tryz.zeroValue232
 g1:=by kernel_rfl}
def Tryz.azZ:Go.Shelf.Ren:=⟨λ|106=>111|213=>167|265=>224|n=>n,λ|9=>9|3=>3|n=>n,λ|n=>n⟩
def Tryz.azY:Go.Proofs.Lays.n106 eP Tryz.azZ:={
 mixed:=by rfl
 f106:=Tryz.func111.trans (gY J (by rfl))
 f213:=Tryz.func167.trans (gY J (by rfl))
 f265:=Tryz.func224.trans (gY J (by rfl))
 t3:=Tryz.underlying3
 a3:=Tryz.isAgg3
 z3:=Tryz.sizeOf3
 v3:=Tryz.zeroValue3
 t9:=Tryz.underlying9
 a9:=Tryz.isAgg9
 z9:=Tryz.sizeOf9
 v9:=Tryz.zeroValue9}
end Go.Proofs
namespace Go.AM
open Go
variable{t:Tr (List dO)}
noncomputable abbrev PP:aH:=Proofs.Tryz.prog
theorem MN:PP.follows .mixedOrders=V:=by rfl
theorem ail:PP.globals.size=6:=by rfl
theorem aGj:(PP.funcs.toList.all λfn=>fn.body.isNone||!(fn.name== "runtime.NumGoroutine"))=V:=aL
theorem FX:ru PP:=by intro f fn a h e;have:=AW.1 aGj fn ai;simp_all
def kO:cj:=Q0 111 (MO 282 2 (λ_ _ _=>Z))
theorem uT:jL PP (λ_ _ _=>Z):=λ_ _ _ _ _ h=>ai
theorem axN:jL PP (MO 282 2 (λ_ _ _=>Z)):=aGn uT (by rw[ail];decide) (λargs w=>Proofs.Tryz.call282 args w) (λs sub m w a h=>Proofs.Any.stringslite_Index Proofs.Tryz.az1 s sub m w a h)
def aim:jL PP kO:=aGm axN (λargs w=>Proofs.Tryz.call111 args w) (λa b w=>Proofs.Any.strings_Compare Proofs.Tryz.azY a b w)
def kR(t:Tr (List dO)):Prop:=∀f l E,t.get f=J l->E∈l->GU PP f E
def lY(t:Tr (List dO))(f:Nat)(E:dO):Tr (List dO):=t.ins f (E::(t.get f).getD [])
def RN:Tr (List dO):=.nil
theorem ok0:kR RN:=λf l E h _=>by
 have:RN.get f=Z:=by rfl
 grind
theorem aLe(h:kR t):jL PP (lj 6 3000 t kO):=by have:=aMM (fuel:=3000) FX aim h;simp_all
theorem aLf(h:kR t)(n:Nat):nz PP (AM.run PP (lj 6 3000 t kO) n):=by grind[TO,aLe,FX,MN]
theorem nS(h:kR t){f:Nat}{E:dO}{n:Nat}{T:aC}(k:entry PP (AM.run PP (lj 6 3000 t kO) n) f E T=V)(i:bg E.H):kR (lY t f E):=by
 have e:=aqc (aLf h n) i k;intro g l D a m;unfold lY at a;by_cases b:g=f
 . subst b;rw[Tr.lF]at a;cases a;rcases Cp.1 m with rfl|m;.omega
   . rcases q:t.get g with _|l2;.grind
     rw[q]at m;exact h g l2 D q m
 .rw[Tr.jy _ _ ab]at a;exact h g l D a m
end Go.AM
namespace Go.AM
open Go
def aoA{I B:bc}{H:Heap}{w W:aV}{c:aI}{f:fQ}{e:an}(P:bg H)(Q:bQ gI I H w)(h:fW I H w B (H.cQ c f e) W)(n9:f≠.ex){p:Pl}(hp:B H.next=J p):fW I H w (fo B H.next {p with len:=0}) (H.cQ [] f e) W:=by
 obtain⟨M,A,m⟩:=h;have F:(H.cQ c f e).get H.next=J (.cells c H.next f e):=mA ..;have E:(H.cQ [] f e).get H.next=J (.cells [] H.next f e):=mA ..;have R:∀i,i≠H.next->(H.cQ [] f e).get i=(H.cQ c f e).get i:=λi v=>(nG H _ v).trans (nG H _ v).symm;have hr:∀i,rootOf (H.cQ [] f e) i=rootOf (H.cQ c f e) i:=λi=>by grind[rootOf]
 have eH:∀i,fM (H.cQ [] f e) i->fM (H.cQ c f e) i:=λi=>by
   rintro⟨l,r,t,h⟩;by_cases x:i=H.next;.subst x;rw[E]at h;obtain⟨_,rfl,rfl,rfl⟩:=ch.cells.inj (bE h);exact⟨_,_,_,F⟩
   .exact⟨l,r,t,aT⟩
 have X:∀i,je (H.cQ [] f e) i↔je (H.cQ c f e) i:=λi=>by
   by_cases x:i=H.next
   . subst x;refine⟨λk l r f e h=>?_,λk l r f e h=>?_⟩;.rw[F]at h;obtain⟨_,rfl,_,_⟩:=ch.cells.inj (bE h);exact k _ _ _ _ E
     .rw[E]at h;obtain⟨_,rfl,_,_⟩:=ch.cells.inj (bE h);exact k _ _ _ _ F
   .unfold je;rw[R i x];rfl
 have bY:∀i q,B i=J q->i<H.next+1:=λi q h=>A.stat.lt M h;have EY:∀i q,B i=J q->i≠H.next->rootOf (H.cQ c f e) i<H.next:=λi q h x=>by have v:i<H.next:=ai;have:rootOf (H.cQ c f e) i=rootOf H i:=m.root i v;simp_all[qZ]
 have up:∀i q,fo B H.next {p with len:=0} i=J q->∃u,B i=J u/\u.aZ=q.aZ/\u.base=q.base/\(i≠H.next->u=q):=λi q h=>by grind[jH,lh]
 have hinv:bg (H.cQ [] f e):=wA P _ (λl r f e g=>aT);refine⟨hinv,⟨⟨λi q h=>?_,λi q l r D t h G=>?_,λi j q s a b d n=>?_,λi j q s a b d n k=>?_⟩,λi q o h _ N G=>?_⟩,?_⟩;.obtain⟨u,a,b,_⟩:=up i q h;obtain⟨k1,k2⟩:=A.stat.cC i u a;grind
 . by_cases x:i=H.next;.grind[jH]
   .rw[lh _ _ x]at h;exact A.stat.len i q l r D t h aT
 . obtain⟨u,K,b1,_⟩:=up i q a;obtain⟨U,L,b2,_⟩:=up j s b;rw[hr,hr];refine A.stat.inj i j u U K L ab λy=>n ?_;obtain⟨l,r,t,h⟩:=y;by_cases x:i=H.next;.subst x;rw[F]at h;obtain⟨_,rfl,rfl,rfl⟩:=ch.cells.inj (bE h);exact⟨_,_,_,E⟩
   .exact⟨l,r,t,aT⟩
 . obtain⟨u,K,b1,c1,d1⟩:=up i q a;obtain⟨U,L,b2,c2,d2⟩:=up j s b;have x:i≠H.next:=ai;obtain rfl:=d1 x;by_cases y:j=H.next
   . subst y;exfalso;have:rootOf (H.cQ c f e) i=rootOf (H.cQ c f e) H.next:=by
      rcases n with n|n;.exact A.stat.inj _ _ _ _ K L ab λy=>n (by obtain⟨l,r,t,h⟩:=y;exact⟨l,r,t,aT⟩)
      .exact(A.stat.inj _ _ _ _ L K ab λy=>n (by obtain⟨l,r,t,h⟩:=y;rw[F]at h;obtain⟨_,rfl,rfl,rfl⟩:=ch.cells.inj (bE h);exact⟨_,_,_,E⟩)).symm
     grind[qo]
   . obtain rfl:=d2 y;refine A.stat.mono i j _ _ K L d (n.imp (λn z=>n ?_) (λn z=>n ?_)) k;.obtain⟨l,r,t,h⟩:=z;exact⟨l,r,t,aT⟩
     .obtain⟨l,r,t,h⟩:=z;exact⟨l,r,t,aT⟩
 . by_cases x:i=H.next;.subst x;rw[jH]at h;cases h;rw[E]at G;cases G;obtain⟨cs,fz,e1,k1,k2,k3,k4,k5,k6,k7⟩:=A.obj H.next p _ hp trivial ((X _).1 N) F;exact⟨cs,fz,e1,k1,k2,ai,λi a h=>aT,λa h=>aT,k6,λh=>absurd h n9⟩
   . rw[lh _ _ x]at h;rw[R i x]at G;have jz:i<H.next:=ai;have Y:H.get i=J o:=by rw[<-nG H (.cells c H.next f e) x];exact G
     cases T:I i with|none=>have:=(m.new i q h T).1;omega|some q0=>have k1:=Q.obj i q0 o T trivial (λl r D t hh=>N l r D t aT) Y;have k2:=A.obj i q o h trivial ((X i).1 N) G;refine(mq.cut (n:=H.next) (λj q h=>Q.stat.lt P h) k1 k2).mono (λj r hj=>?_) rfl;grind[oM,lh]
 . have O:∀i q,I i=J q->i≠H.next:=λi q h=>by have:=Q.stat.lt P h;omega
   have back:∀i q,fo B H.next {p with len:=0} i=J q->I i=Z->H.next<=i:=λi q h v=>by obtain⟨u,a,_⟩:=up i q h;exact(m.new i u a v).1
   exact{
     ext:=λi q h=>by rw[lh _ _ (O i q h)];exact m.ext i q h
     size:=m.size
     os:=m.os
     tape:=m.tape
     output:=m.output
     next:=m.next
     bA:=m.bA
     bV:=m.bV
     cI:=m.cI
     root:=λi h=>(hr i).trans (m.root i h)
     view:=λi o M h4 h5 h6=>by obtain⟨a,b,d⟩:=m.view i o M h4 h5 h6;grind
     nB:=m.nB
     new:=λi q h v=>by obtain⟨u,a,b,_⟩:=up i q h;obtain⟨k1,k2⟩:=m.new i u a v;refine⟨k1,?_⟩;rw[<-b,hr];exact k2
     ro:=λi h k=>by obtain⟨l,r,t,g⟩:=m.ro i h k;exact⟨l,r,t,ai⟩
     keep:=λi o h k=>by obtain⟨o',a,b⟩:=m.keep i o h k;grind
     cover:=λi h k=>by
      by_cases x:i=H.next;.grind[jH]
      .have:i<H.next+1:=k;omega
     mG:=λi q h v S=>by obtain⟨u,a,_⟩:=up i q h;rw[hr]at S;rw[hr];exact m.mG i u a v S
     vg:=m.vg
     vw:=m.vw}
open Go.VM Proofs.Tryz
theorem anq{f:bW}{z:aI}{r:cG}(h:wG PP f z=J r)(a:Array aD)(w:aV):(callFunc f a).run PP w=.ok (.enter f a) w:=by obtain⟨fn,d,h⟩:=aE h;obtain⟨b,c,h⟩:=aE h;grind[Kn,FX]
def arK{k:cj}(p:jL PP k){f:bW}{z:aI}{a:AV}{H g:Heap}(h:GV PP k f z H a g){b:bc}{w:aV}{v:Array aD}(c:di)(s:List di)(m:bg H)(o:bQ gI b H w)(l:iX PP b)(q:ba b z v.toList):∃e d u,fW b H w e g d/\VR e a u/\(callFunc f v).run PP w=.ok (.enter f v) w/\Steps PP (ff (Frame.enter PP f v .normal) (c::s) w) (ff (c.finish u) s d):=by obtain⟨_,fr,i,n,j⟩:=h;obtain⟨e1,_⟩:=KG i q;obtain⟨e,d,u,r,t,q3⟩:=kF.back (TO p FX MN n fr H _ (j n (bS _)) b w _ (c::s) m o l e1);grind[anq]
def FY(f e s b:Nat)(k:cj):cj:=λa args H=>bif aw a f then(match args with|[.bu,.int .i64 (.ofNat n)]=>bif bt (n*b) bm&&bt n bm then(bif aw n 0 then J (J (.bu,H))else J (J (.sl H.next 0 0 Z s,H.cQ [] .op e)))else J Z|_=>J Z)else k a args H
def Q1{f e s b:Nat}{z:aI}{k:cj}(L:jL PP k)(G:JY f e s b)(M:ml PP e=J z)(I:z.length=s):jL PP (FY f e s b k):=by
 intro g args H v t h O w x c d i a l m;unfold FY at h;rw[bR]at h;by_cases j:g=f
 . subst j;simp only[eB,aR]at h;split at h
   . rename_i n;rcases q:(bt (n*b) bm&&bt n bm)with _|_;.grind
     rw[q]at h;simp only[gu,dj,jV]at q;obtain⟨T,N,u,o,r,q3,S⟩:=arK uT (G (λ_ _ _=>Z) H n z M I q.1 q.2 rfl) c d i a l m;cases K:aw n 0 with|true=>grind|false=>rw[K]at h o r;obtain⟨rfl,rfl⟩:=jd (bE (bE h));cases r with|sl _ _ _ _ _ p U y A B D P Q E F R=>refine⟨_,N,_,aoA i a o aP A,.sl _ 0 0 _ s _ _ _ (jH ..) B D aT aT E F aP,aT⟩
   grind
 .simp only[j,lA,bX]at h;exact L g args H v t h O w x c d i a l m
end Go.AM
namespace Go.Proofs
open Go.Shelf
def Tryz.az0:Go.Shelf.Ren:=⟨λ|189=>248|125=>290|257=>289|128=>344|129=>345|294=>335|295=>336|296=>337|297=>338|298=>339|299=>340|216=>341|300=>342|301=>343|328=>393|329=>394|330=>395|331=>396|332=>397|215=>108|343=>437|n=>n,λ|28=>32|3=>3|46=>190|0=>0|51=>154|53=>234|4=>4|183=>460|182=>459|131=>287|5=>5|9=>9|218=>519|222=>523|228=>565|229=>340|n=>n,λ|n=>n⟩
def Tryz.agr:Go.Proofs.Lays.n189 eP Tryz.az0:={
 mixed:=by rfl
 f125:=Tryz.func290.trans (gY J (by rfl))
 f128:=Tryz.func344.trans (gY J (by rfl))
 f129:=Tryz.func345.trans (gY J (by rfl))
 f189:=Tryz.func248.trans (gY J (by rfl))
 f215:=Tryz.func108.trans (gY J (by rfl))
 f216:=Tryz.func341.trans (gY J (by rfl))
 f257:=Tryz.func289.trans (gY J (by rfl))
 f294:=Tryz.func335.trans (gY J (by rfl))
 f295:=Tryz.func336.trans (gY J (by rfl))
 f296:=Tryz.func337.trans (gY J (by rfl))
 f297:=Tryz.func338.trans (gY J (by rfl))
 f298:=Tryz.func339.trans (gY J (by rfl))
 f299:=Tryz.func340.trans (gY J (by rfl))
 f300:=Tryz.func342.trans (gY J (by rfl))
 f301:=Tryz.func343.trans (gY J (by rfl))
 f328:=Tryz.func393.trans (gY J (by rfl))
 f329:=Tryz.func394.trans (gY J (by rfl))
 f330:=Tryz.func395.trans (gY J (by rfl))
 f331:=Tryz.func396.trans (gY J (by rfl))
 f332:=Tryz.func397.trans (gY J (by rfl))
 f343:=Tryz.func437.trans (gY J (by rfl))
 t0:=Tryz.underlying0
 a0:=Tryz.isAgg0
 z0:=Tryz.sizeOf0
 v0:=Tryz.zeroValue0
 t3:=Tryz.underlying3
 a3:=Tryz.isAgg3
 z3:=Tryz.sizeOf3
 v3:=Tryz.zeroValue3
 t4:=Tryz.underlying4
 a4:=Tryz.isAgg4
 z4:=Tryz.sizeOf4
 v4:=Tryz.zeroValue4
 t5:=Tryz.underlying5
 a5:=Tryz.isAgg5
 z5:=Tryz.sizeOf5
 v5:=Tryz.zeroValue5
 t9:=Tryz.underlying9
 a9:=Tryz.isAgg9
 z9:=Tryz.sizeOf9
 v9:=Tryz.zeroValue9
 t28:=Tryz.underlying32
 a28:=Tryz.isAgg32
 z28:=Tryz.sizeOf32
 v28:=Tryz.zeroValue32
 t46:=Tryz.underlying190
 a46:=Tryz.isAgg190
 z46:=Tryz.sizeOf190
 v46:=Tryz.zeroValue190
 t51:=Tryz.underlying154
 a51:=Tryz.isAgg154
 z51:=Tryz.sizeOf154
 v51:=Tryz.zeroValue154
 t53:=Tryz.underlying234
 a53:=Tryz.isAgg234
 z53:=Tryz.sizeOf234
 v53:=Tryz.zeroValue234
 t131:=Tryz.underlying287
 a131:=Tryz.isAgg287
 z131:=Tryz.sizeOf287
 v131:=Tryz.zeroValue287
 t182:=Tryz.underlying459
 a182:=Tryz.isAgg459
 z182:=Tryz.sizeOf459
 v182:=Tryz.zeroValue459
 t183:=Tryz.underlying460
 a183:=Tryz.isAgg460
 z183:=Tryz.sizeOf460
 v183:=Tryz.zeroValue460
 t218:=Tryz.underlying519
 a218:=Tryz.isAgg519
 z218:=Tryz.sizeOf519
 v218:=Tryz.zeroValue519
 t222:=Tryz.underlying523
 a222:=Tryz.isAgg523
 z222:=Tryz.sizeOf523
 v222:=Tryz.zeroValue523
 t228:=Tryz.underlying565
 a228:=Tryz.isAgg565
 z228:=Tryz.sizeOf565
 v228:=Tryz.zeroValue565
 t229:=Tryz.underlying340
 a229:=Tryz.isAgg340
 z229:=Tryz.sizeOf340
 v229:=Tryz.zeroValue340}
def Tryz.az3:Go.Shelf.Ren:=⟨λ|20=>249|n=>n,λ|22=>32|3=>3|4=>4|0=>0|n=>n,λ|n=>n⟩
def Tryz.ags:Go.Proofs.Lays2.n20 eP Tryz.az3:={
 mixed:=by rfl
 f20:=Tryz.func249.trans (gY J (by rfl))
 t0:=Tryz.underlying0
 a0:=Tryz.isAgg0
 z0:=Tryz.sizeOf0
 v0:=Tryz.zeroValue0
 t3:=Tryz.underlying3
 a3:=Tryz.isAgg3
 z3:=Tryz.sizeOf3
 v3:=Tryz.zeroValue3
 t4:=Tryz.underlying4
 a4:=Tryz.isAgg4
 z4:=Tryz.sizeOf4
 v4:=Tryz.zeroValue4
 t22:=Tryz.underlying32
 a22:=Tryz.isAgg32
 z22:=Tryz.sizeOf32
 v22:=Tryz.zeroValue32
 i3:=by kernel_rfl}
end Go.Proofs
namespace Go.AM
open Go Go.VM Proofs.Tryz Go.Sort
def fW.grown{n q:bc}{H l:Heap}{w f j:aV}(h:fW n H w q l f)(L:f.heap.size<=j.heap.size)(m:∀b,b<f.heap.size->j.heap[b]?=f.heap[b]?)(s:j.os=f.os)(u:j.tape=f.tape)(t:j.output=f.output):fW n H w q l j:=by
 obtain⟨r,g,c⟩:=h;refine⟨r,⟨⟨λi p k=>?_,g.stat.len,g.stat.inj,g.stat.mono⟩,λi p o a b d e=>(g.obj i p o a b d e).mono (Ext.refl _) (m _ (g.stat.cC i p a).1)⟩,{c with size:=gw c.size L,os:=s.trans c.os,tape:=u.trans c.tape,output:=t.trans c.output,nB:=λb k=>?_}⟩;.obtain⟨a,b⟩:=g.stat.cC i p k;grind
 .rw[m b (gx k c.size)];exact c.nB b k
theorem aGD(y:cF)(o:Nat)(c:Array aD)(h:o+y.length<=c.size):putCells (Value.int .i64) o y.toArray c=over c o (y.map (Value.int .i64)):=by apply Sb;grind[uV,putCells]
def ai0{f:bc}{H A:Heap}{w:aV}(Q:bg H)(s:bQ gI f H w){d o n:Nat}{p:Pl}(m:f d=J p){z ys:cF}(hl:H.load d o n=J (z.map (AV.int .i64)))(hy:ys.length=z.length)(g:H.store d o (ys.map (AV.int .i64))=J A):p.aZ<w.heap.size/\z.length=n/\Holds (Value.int .i64) w p.aZ (p.base+o) z.toArray/\∀q u,fW f H w f A (grow (putRow (Value.int .i64) (Sort.ahead w q) p.aZ (p.base+o) ys.toArray) u):=by
 have W:=(s.stat.cC d p m).1;have Y:=g;unfold Heap.store at g;split at g
 . rename_i l r G e O;rcases D:(bt (H.bp r).1 d&&(aw (H.bp r).2 d&&(bt (im o (fc (ys.map (AV.int .i64)))) (fc l)&&G.wr)))with _|_;.grind
   simp only[gu,dj,bR,jV,dT,fZ]at D;obtain⟨K,h2,h3,h4⟩:=D;obtain⟨S,E⟩:=CB s m trivial O K;obtain⟨B,fz,e1,g1,g2,g3,g4,g5,g6,g7⟩:=S;obtain⟨rfl,rfl⟩:=g6 (by grind[fQ.wr]);have F:(l.drop o).take n=z.map (AV.int .i64)/\o+n<=l.length:=by grind[Heap.load,Heap.cellsOf,dj,dT,pV,qD]
   have t:z.length=n:=by have:=gY List.length F.1;grind
   have C1:∀j,j<z.length->B[p.base+o+j]?=J (.int .i64 z.toArray[j]!):=by
     intro j R;have L:l[o+j]?=J (.int .i64 z[j]):=by have h6:((l.drop o).take n)[j]?=(z.map (AV.int .i64))[j]?:=ai;grind
     obtain⟨c,h7,M⟩:=g4 _ _ L;cases M;grind
   refine⟨W,t,λj R=>?_,λq u=>?_⟩;.grind[World.cell?,World.frozen?]
   . have U:ba f (ys.map (AV.int .i64)) (ys.map (Value.int .i64)):=by
      refine⟨aP,λi a v k h=>?_⟩;rw[ki]at k h;rcases I:ys[i]? with _|y;.grind
      rw[I]at k h;cases k;cases h;exact .int .i64 y
     obtain⟨X,k1,k2⟩:=Nt (P:=PP) Q s m trivial Y U (λx T=>by obtain⟨y,_,rfl⟩:=au.1 T;rfl);have zU:p.base+o+(ys.map (Value.int .i64)).length<=B.size:=ai;rw[Na g1 zU (λv h=>by obtain⟨y,_,rfl⟩:=au.1 h;rfl)]at k1;obtain⟨_,rfl⟩:()=()/\World.eU w p.aZ _=X:=by simpa using k1
     refine fW.grown ⟨k2.1,k2.2.1,k2.2.2⟩ (by simp[Ca]) (λb N=>?_) rfl rfl rfl;rw[Ca]at N;show((w.heap.modify p.aZ (onCells (putCells (Value.int .i64) (p.base+o) ys.toArray)))++u)[b]?=_;grind[AA,onCells,aGD,B']
 grind
end Go.AM
namespace Go.Proofs
open Go Go.AM Go.RowKit Go.Lib Go.Shelf
variable{cs ds:Array aD}{vb vc vo:Nat}{fz:Nat×Nat}{w:aV}{e:an}
theorem Rm{t:an}{b o l f c a s d m:Nat}{g:an}(h:w.heap[b]?=J (.cells cs e (0,0)))(i:w.heap[c]?=J (.cells ds g fz))(q:min s l=m)(n:o+m*14<=cs.size)(j:a+m*14<=ds.size)(k:∀v,v∈(ds.extract a (a+m*14)).toList->v7 v=V):(ze #[73,73] t #[.slice (J ⟨b,o,Z⟩) l f,.slice (J ⟨c,a,Z⟩) s d]).run eP w=.ok (goInt m) (World.eU w b (.cells (over cs o (ds.extract a (a+m*14)).toList) e (0,0))):=by have f1:(oH 14 m (.slice (J _) s d)).run eP w=.ok _ w:=Jq i j;have g1:=Na (P:=eP) h (I:=o) ai k;have p:(Builtin.lenOf (.slice (J ⟨c,a,Z⟩) s d)).run eP w=.ok s w:=rfl;simp_all[ze]
theorem aIg{P:aH}{t R l b o i m g j:Nat}{p:an}(h:P.underlying t=J (.slice l)){s:Nat}(z:aW P l=J s)(d:w.heap[b]?=J (.cells cs e (0,0)))(q:w.heap[vb]?=J (.cells ds p fz))(D:vb≠b)(u:ds.size≠0):(Extern.SlicesOverlaps.overlaps #[t,t] #[R] #[.slice (J ⟨vb,vo,Z⟩) g j,.slice (J ⟨b,o,Z⟩) i m]).run P w=.ok (.bool C) w:=by
 have f:∀w,(Go.sizeOf l).run P w=.ok s w:=λw=>mg z w;have h:∀w,(underlying t).run P w=.ok (.slice l) w:=λw=>dD h w;have Y:(vb !=b)=V:=ai;have a:(vb==b)=C:=ai;have k1:=ZF d;have k2:=ZF q;have k3:∀k,w.frozen? ⟨b,k,Z⟩=C:=λk=>aek d k;change Sem.run P (underlying t>>=_) w=_;by_cases c:g=0\/i=0\/s=0;.simp[h,f,c]
 . rcases H:ds.size with _|n;.omega
   rw[H]at k2;cases r:w.frozen? ⟨vb,vo,Z⟩<;>cases L:w.frozen? ⟨vb,n+1,Z⟩<;>simp[h,f,c,Y,a,frozen,noView,viewAt,mayBeOne,stringish,shape,Sem.run,k1,k2,k3,r,L]
theorem aIf{b o i d l a:Nat}{f:an}(h:w.heap[b]?=J (.cells cs e (0,0)))(g:w.heap[vb]?=J (.cells ds f fz))(c:vb≠b)(n:ds.size≠0):(callFunc 398 #[.slice (J ⟨vb,vo,Z⟩) l a,.slice (J ⟨b,o,Z⟩) i d]).run eP w=.ok (.value (.bool C)) w:=by rw[run_callFunc_extern Tryz.func398 (by rfl) (by rfl) aL (e:=Extern.SlicesOverlaps.overlaps _ #[4]) aL,aIg Tryz.underlying73 VM.xl h g c n];rfl
set_option maxHeartbeats 4000000 in set_option maxRecDepth 100000 in theorem ax7{b o n c:Nat}{q:an}(i:w.heap[b]?=J (.cells cs e (0,0)))(j:w.heap[vb]?=J (.cells ds q fz))(D:vb≠b)(O:0<n)(M:n<1000000000)(N:n+1<=c)(P:o+(n+1)*14<=cs.size)(A:vo+14<=ds.size)(s:∀v,v∈(cs.extract o (o+n*14)).toList->v7 v=V)(r:∀v,v∈(ds.extract vo (vo+1*14)).toList->v7 v=V):Calls eP 347 #[.slice (J ⟨b,o,Z⟩) n c,.int .i64 0,.slice (J ⟨vb,vo,Z⟩) 1 vc] w λx F=>x=.returned (.slice (J ⟨b,o,Z⟩) (n+1) c)/\F=World.eU w.drew b (.cells (over (over cs (o+14) (cs.extract o (o+n*14)).toList) o (ds.extract vo (vo+1*14)).toList) e (0,0)):=by
 have H:ds.size≠0:=ab;have E:¬((0:Int)=(n:Int)):=ab;have k:∀lb p,(callFunc 398 #[.slice (J ⟨vb,vo,Z⟩) 1 vc,.slice (J ⟨b,o+14,Z⟩) lb p]).run eP w=.ok (.value (.bool C)) w:=λlb p=>aIf i j D H;have U:w.drew.heap[b]?=J (.cells cs e (0,0)):=i;have a:∀ty d t,(ze #[73,73] ty #[.slice (J ⟨b,o+14,Z⟩) n d,.slice (J ⟨b,o,Z⟩) (n+1) t]).run eP w.drew=.ok (goInt n) (World.eU w.drew b (.cells (over cs (o+14) (cs.extract o (o+n*14)).toList) e (0,0))):=λty d t=>Rm U U ab ab ab s;have K:¬(c=1):=ab;have l:Tryz.prog.follows .mixedOrders=V:=MN;have Q:IntKind.i64.wrap 1=1:=by rfl
 have G:(1:Int)<=(n:Int)+1:=ab;have u:¬(c=0):=ab;have z:(0:Int)<=(n:Int)+1:=ab;have B:IntKind.i64.wrap 0=0:=by rfl
 obtain⟨W,g⟩:∃W,W=World.eU w.drew b (.cells (over cs (o+14) (cs.extract o (o+n*14)).toList) e (0,0)):=⟨_,rfl⟩;have h:W.heap[b]?=J (.cells (over cs (o+14) (cs.extract o (o+n*14)).toList) e (0,0)):=by grind[AA]
 have f:W.heap[vb]?=J (.cells ds q fz):=by rw[g,B' _ _ D];exact j
 have L:(over cs (o+14) (cs.extract o (o+n*14)).toList).size=cs.size:=Ar _ _ _ ai;have y:∀ty d,(ze #[73,73] ty #[.slice (J ⟨b,o,Z⟩) (n+1) d,.slice (J ⟨vb,vo,Z⟩) 1 vc]).run eP W=.ok (goInt 1) (World.eU W b (.cells (over (over cs (o+14) (cs.extract o (o+n*14)).toList) o (ds.extract vo (vo+1*14)).toList) e (0,0))):=λty d=>Rm (m:=1) h f (by rfl) ab ab r;have I:World.eU W b (.cells (over (over cs (o+14) (cs.extract o (o+n*14)).toList) o (ds.extract vo (vo+1*14)).toList) e (0,0))=World.eU w.drew b (.cells (over (over cs (o+14) (cs.extract o (o+n*14)).toList) o (ds.extract vo (vo+1*14)).toList) e (0,0)):=by grind[ZC]
 rw[<-g]at a;rw[<-I];clear I h f L i j U s r g;go_enter Tryz.func347,Tryz.ntmps347;go_wp2_with(simp only[k]);go_region_law_o(refine step_copy_runI rfl _ _ 73 73 rfl _ _ (by simp[Act.eval,Act.put]) (by simp[Act.eval,Act.put]) (a _ _ _) ?_);go_wp2_with(at_builtin;refine wpList_copy_runI _ rfl _ _ 73 73 rfl _ _ rfl rfl (y _ _) ?_);go_ret;simp_all
set_option maxHeartbeats 4000000 in set_option maxRecDepth 100000 in theorem af3{b:aV}{a:Addr}{c:Nat}{r:aD}(j:∀ty,(tj #[73,73] ty #[.slice (J a) 0 c,.slice (J ⟨vb,vo,Z⟩) 1 vc]).run eP w=.ok r b):Calls eP 347 #[.slice (J a) 0 c,.int .i64 0,.slice (J ⟨vb,vo,Z⟩) 1 vc] w λx d=>x=.returned r/\d=b:=by go_enter Tryz.func347,Tryz.ntmps347;go_wp2_with(at_builtin;refine Lib.wpList_append_run _ rfl _ _ _ _ rfl _ _ rfl rfl _ _ (j _) ?_);all_goals(go_ret;simp_all)
set_option maxHeartbeats 4000000 in set_option maxRecDepth 100000 in theorem ax6{b o n c G:Nat}{row:Array aD}{F:an}{O:Nat×Nat}(p:w.heap[b]?=J (.cells cs e O))(q:w.heap[vb]?=J (.cells ds F fz))(hn:0<n)(hb:n<1000000000)(hc:c<n+1)(U:n<=c)(X:o+n*14<=cs.size)(s:vo+14<=ds.size)(A:∀v,v∈(cs.extract o (o+n*14)).toList->v7 v=V)(B:∀v,v∈(ds.extract vo (vo+1*14)).toList->v7 v=V)(Y:(n+1)*14<=row.size)(hG:n+1<=G)(r:∀ty,(tj #[73,3] ty #[.slice (J ⟨b,o,Z⟩) 0 c,.int .i64 ((n:Int)+1)]).run eP w=.ok (.slice (J ⟨w.heap.size,0,Z⟩) (n+1) G) (World.push w.drew (.cells row 75))):Calls eP 347 #[.slice (J ⟨b,o,Z⟩) n c,.int .i64 0,.slice (J ⟨vb,vo,Z⟩) 1 vc] w λx w'=>x=.returned (.slice (J ⟨w.heap.size,0,Z⟩) (n+1) G)/\w'=World.eU (World.push w.drew (.cells row 75)).drew w.heap.size (.cells (over (over row 0 (ds.extract vo (vo+1*14)).toList) 14 (cs.extract o (o+n*14)).toList) 75 (0,0)):=by
 have hz2:¬((0:Int)=(n:Int)):=ab;have hz3:(c:Int)<(n:Int)+1:=ab;have S:¬(c=0):=ab;have u:Tryz.prog.follows .mixedOrders=V:=MN;have hw0:IntKind.i64.wrap 0=0:=by rfl
 have vJ:IntKind.i64.wrap 1=1:=by rfl
 have Ux:(1:Int)<=(n:Int)+1:=ab;have Q:(0:Int)<=(n:Int)+1:=ab;have R:(0:Int)<=(n:Int):=ab;have K:¬(G=0):=ab;have M:¬(G=1):=ab;have hsw:IntKind.i64.wrap ((n:Int)+1-0)=(n:Int)+1:=by grind[IntKind.wrap_i64]
 have E:IntKind.i64.wrap ((n:Int)+1)=(n:Int)+1:=ai;have i:=(ap.1 p).1;have j:=(ap.1 q).1;obtain⟨N,hN⟩:∃N,N=w.heap.size:=⟨_,rfl⟩;obtain⟨W,l⟩:∃W,W=World.push w.drew (.cells row 75):=⟨_,rfl⟩;have t:W.heap[N]?=J (.cells row 75 (0,0)):=by rw[l,hN];exact xd w.drew _
 have h:∀k,k<N->W.heap[k]?=w.heap[k]?:=λk T=>by rw[l];exact FZ w.drew _ (hN▸T)
 have g:N<W.heap.size:=(ap.1 t).1;have jB:(ds.extract vo (vo+1*14)).toList.length=14:=ai;have P:∀ty d,(ze #[73,73] ty #[.slice (J ⟨N,0,Z⟩) (n+1) d,.slice (J ⟨vb,vo,Z⟩) 1 vc]).run eP W=.ok (goInt 1) (World.eU W N (.cells (over row 0 (ds.extract vo (vo+1*14)).toList) 75 (0,0))):=λty d=>Rm (m:=1) t ((h vb (hN▸j)).trans q) (by rfl) ab ab B;obtain⟨a,L⟩:∃a,a=World.eU W N (.cells (over row 0 (ds.extract vo (vo+1*14)).toList) 75 (0,0)):=⟨_,rfl⟩;have f:a.drew.heap[N]?=J (.cells (over row 0 (ds.extract vo (vo+1*14)).toList) 75 (0,0)):=by rw[L];exact AA _ _ g
 have I:a.drew.heap[b]?=J (.cells cs e O):=by rw[L];exact(B' _ _ ab).trans ((h b (hN▸i)).trans p)
 have H:(over row 0 (ds.extract vo (vo+1*14)).toList).size=row.size:=Ar _ _ _ ab;have z:∀ty d D,(ze #[73,73] ty #[.slice (J ⟨N,14,Z⟩) n d,.slice (J ⟨b,o,Z⟩) n D]).run eP a.drew=.ok (goInt n) (World.eU a.drew N (.cells (over (over row 0 (ds.extract vo (vo+1*14)).toList) 14 (cs.extract o (o+n*14)).toList) 75 (0,0))):=λty d D=>Rm (m:=n) f I ab ab ab A;have y:World.eU a.drew N (.cells (over (over row 0 (ds.extract vo (vo+1*14)).toList) 14 (cs.extract o (o+n*14)).toList) 75 (0,0))=World.eU W.drew N (.cells (over (over row 0 (ds.extract vo (vo+1*14)).toList) 14 (cs.extract o (o+n*14)).toList) 75 (0,0)):=by rw[L];exact ZC W.drew N _ _
 rw[<-l,<-hN]at r|-;rw[<-L]at P;rw[<-y];clear y f I H L l hN t h g jB p q A B Y i j X s;go_enter Tryz.func347,Tryz.ntmps347;go_wp2_with(first|(at_builtin;refine Lib.wpList_append_run _ rfl _ _ _ _ rfl _ _ rfl rfl _ _ (r _) ?_)|(at_builtin;refine wpList_copy_runI _ rfl _ _ 73 73 rfl _ _ rfl rfl (P _ _) ?_));go_region_law_o(refine step_copy_runI rfl _ _ 73 73 rfl _ _ (by simp[Act.eval,Act.put]) (by simp[Act.eval,Act.put]) (z _ _ _) ?_);go_wp2;go_ret;simp_all
end Go.Proofs
namespace Go.AM
open Go Go.VM Proofs Proofs.Tryz
def CE{f:bW}{v:Array aD}{w:aV}{R:Ending->aV->Prop}(h:Calls PP f v w R)(c:di)(s:List di):∃e a,R e a/\∀u,e=.returned u->Steps PP (ff (Frame.enter PP f v .normal) (c::s) w) (ff (c.finish u) s a):=by obtain⟨e,a,fr,b,L,y,m⟩:=h _;refine⟨e,a,b,λu d=>?_⟩;subst d;exact Steps.trans L (Steps.head (step_leave_returned m) (Steps.refl _ _))
def Ko{f:bW}{n:Func}{b:bM}(c:PP.funcs[f]?=J n)(h:n.body=J b)(a:Array aD)(w:aV):(callFunc f a).run PP w=.ok (.enter f a) w:=by grind[Kn,FX]
def CF(n m k:Nat):ah Nat->Bool|some c=>aw c n|none=>bt m k
def LW(i o n:Nat)(c:ah Nat)(w j:Nat)(H:Heap):ah (AV×Heap):=match H.get i with|some (.cells l r f e)=>(H.load w j 14).bind λx=>(H.load i o (n*14)).bind λa=>bif(f.wr&&(bt (H.bp r).1 i&&(aw (H.bp r).2 i&&aw e 75)))&&(!(aw (rootOf H w) r)&&(ct n 1000000000&&CF n (fc l) (o+n*14) c))then J (.sl H.next 0 (n+1) Z 14,H.gP r (H.bp r).1 V (x++a) 75)else Z|_=>Z
def Q2(a:cj):cj:=λf args H=>bif aw f 347 then(match args with|[.sl id o n c 14,.int .i64 (.ofNat 0),.sl w j 1 _ 14]=>J (LW id o n c w j H)|_=>J Z)else a f args H
def agF{S:Nat->Prop}{g:bc}{H:Heap}{w:aV}(F:bQ S g H w){d o n:Nat}{p:Pl}{l:aI}(E:g d=J p)(z:S (rootOf H d))(h:H.load d o n=J l):∃c f e1,w.heap[p.aZ]?=J (.cells c e1 f)/\c.size=p.oF/\p.base+o+n<=c.size/\ba g l (c.extract (p.base+o) (p.base+o+n)).toList/\(∀x,x∈l->x.aU=V)/\∀v,v∈(c.extract (p.base+o) (p.base+o+n)).toList->v7 v=V:=by
 unfold Heap.load at h;rcases q:H.cellsOf d with _|m;.grind
 simp only[q,cR,dj,dT,pV,qD]at h;by_cases a:o+n<=m.length;.have t:J ((m.drop o).take n)=J l:=ai;cases t;obtain⟨r,G,e,A,b⟩:=Kr q;obtain⟨s,D⟩:=CB F E z A b;obtain⟨c,f,e1,j,u,k,y⟩:=s.slice D a;obtain⟨I,_,_,k1,k2,_⟩:=s;rw[j]at k1;obtain⟨rfl,_⟩:=Obj.cells.inj (bE k1);refine⟨c,f,e1,j,k2,u,k,y,λv b=>?_⟩;obtain⟨i,B⟩:=a8.1 b;have K:i<((m.drop o).take n).length:=ai;exact(k.2 i _ _ (dA K) B).aU aT
 grind
def aMq{e:bc}{a b:aI}{u d:List aD}(h:ba e a u)(f:ba e b d){r:Array aD}{s:Nat}(j:∀k,k<u.length->r[s+k]?=u[k]?)(l:∀k,k<d.length->r[s+u.length+k]?=d[k]?):∀(i:Nat)(x:AV),(a++b)[i]?=J x->∃c,r[s+i]?=J c/\VR e x c:=by intro i x g;obtain⟨v,m,hr⟩:=(h.append f).get g;grind
set_option maxRecDepth 10000
def akn:ml PP 75=J [.int .i64 0,.bu,.int .i64 0,.int .i64 0,.int .i64 0,.int .i64 0,.int .i64 0,.bu,.int .i64 0,.int .i64 0,.int .i64 0,.int .i64 0,.int .i64 0,.str []]:=by rfl
def aGo{ak:cj}(hp:jL PP ak):jL PP (Q2 ak):=by
 intro f args H v H' h φ g av c I hi M hg hv;unfold Q2 at h;rw[bR]at h;by_cases hf:f=347
 . subst hf;simp only[eB,aR]at h;split at h
   . rename_i id d n c0 wY j cv;have h:=bE h;unfold LW at h;split at h
     . rename_i l r fl e kX;obtain⟨cx,Li,h⟩:=aE h;obtain⟨cl,kr,h⟩:=aE h;rcases UB:((fl.wr&&(bt (H.bp r).1 id&&(aw (H.bp r).2 id&&aw e 75)))&&(!(aw (rootOf H wY) r)&&(ct n 1000000000&&CF n (fc l) (d+n*14) c0)))with _|_;.grind
       rw[UB]at h;obtain⟨rfl,rfl⟩:=jd (bE h);simp only[gu,dj,bR,eQ,jV,NW,CJ]at UB;obtain⟨⟨hwr,BF,EP,rfl⟩,EY,mY,qH⟩:=UB;obtain⟨x1,t1,e1,kZ,oW⟩:=hv.cons_inv;obtain⟨x2,t2,e2,oX,sS⟩:=oW.cons_inv;obtain⟨x3,t3,e3,P3,ht3⟩:=sS.cons_inv;obtain rfl:=ht3.rU;subst e2;subst e3;cases oX;cases kZ with|sl _ _ _ _ _ p U i k1 k2 k3 k4 k5 k6 k7 k8=>cases P3 with|sl _ _ _ _ _ q aHR E j1 j2 j3 j4 j5 j6 j7 j8=>
       have vy:av=#[.slice (J U) n i,.int .i64 0,.slice (J aHR) 1 E]:=ai;subst vy;obtain rfl:=j6 ab;have n9:fl≠.ro:=by grind[fQ.wr]
       have vG:=(M.stat.cC id p k1).1;have eH:¬fM H id:=by rintro⟨l',r',e',hh⟩;grind
       have iQ:rootOf H id=r:=qo kX;have cD:q.aZ≠p.aZ:=λx=>EY (by rw[<-iQ];exact(M.stat.inj id wY p q k1 j1 x.symm eH).symm);obtain⟨hQ,uH⟩:=CB M k1 trivial kX BF;obtain⟨A,fz,ee,X,a2,a3,a4,a5,a6,a7⟩:=hQ;obtain⟨rfl,rfl⟩:=a6 n9;obtain⟨A',Ud,ee',b1,b2,b3,b4,b5,b6⟩:=agF M k1 trivial kr;rw[X]at b1;obtain⟨rfl,_,_⟩:=Obj.cells.inj (bE b1);obtain⟨D,fd,ed,d1,d2,d3,d4,d5,d6⟩:=agF M j1 trivial Li;have eV:∀g,(callFunc 347 #[.slice (J U) n i,.int .i64 0,.slice (J ⟨q.aZ,q.base+j,Z⟩) 1 E]).run PP g=.ok (.enter 347 _) g:=λg=>Ko Tryz.func347 rfl _ g;have hul:(D.extract (q.base+j) (q.base+j+14)).toList.length=14:=ai;have qL:(A.extract (p.base+d) (p.base+d+n*14)).toList.length=n*14:=ai;generalize LM:(D.extract (q.base+j) (q.base+j+14)).toList=s at*;generalize uM:(A.extract (p.base+d) (p.base+d+n*14)).toList=B at*;have avv:(cx++cl).length=(n+1)*14:=by rw[ib,d4.1,b4.1,hul,qL];omega
       have fin:∀(m:aV)(z:Pl)(O:Nat)(y:Array aD),g.heap.size<=m.heap.size->(m.os=g.os/\m.tape=g.tape/\m.output=g.output)->(∀b,b<g.heap.size->b≠p.aZ->m.heap[b]?=g.heap[b]?)->((z.aZ=p.aZ/\p.base+p.len<=z.base+z.len)\/(g.heap.size<=z.aZ/\z.aZ<m.heap.size))->z.len=(n+1)*14->m.heap[z.aZ]?=J (.cells y 75 (0,0))->y.size=z.oF->(∀k,k<14->y[z.base+k]?=s[k]?)->(∀k,k<n*14->y[z.base+14+k]?=B[k]?)->n+1<=O->z.base+O*14<=z.oF->Steps PP (ff (Frame.enter PP 347 #[.slice (J U) n i,.int .i64 0,.slice (J ⟨q.aZ,q.base+j,Z⟩) 1 E] .normal) (c::I) g) (ff (c.finish (.slice (J ⟨z.aZ,z.base,Z⟩) (n+1) O)) I m)->∃ψ m u,fW φ H g ψ (H.gP r (H.bp r).1 V (cx++cl) 75) m/\VR ψ (.sl H.next 0 (n+1) Z 14) u/\((callFunc 347 #[.slice (J U) n i,.int .i64 0,.slice (J ⟨q.aZ,q.base+j,Z⟩) 1 E]).run PP g=.ok (.value u) m\/((callFunc 347 #[.slice (J U) n i,.int .i64 0,.slice (J ⟨q.aZ,q.base+j,Z⟩) 1 E]).run PP g=.ok (.enter 347 #[.slice (J U) n i,.int .i64 0,.slice (J ⟨q.aZ,q.base+j,Z⟩) 1 E]) g/\Steps PP (ff (Frame.enter PP 347 #[.slice (J U) n i,.int .i64 0,.slice (J ⟨q.aZ,q.base+j,Z⟩) 1 E] .normal) (c::I) g) (ff (c.finish u) I m))):=by
         intro m z O y f1 f2 f3 f4 f5 f6 f7 f8 f9 f10 f11 f12;have hm:(n+1)*14<=O*14:=lU _ f10;have PJ:mq φ m (.cells (cx++cl) r .op 75) z:=by
           refine⟨y,(0,0),_,f6,f7,ab,?_,λa ha=>?_,λ_=>⟨rfl,rfl⟩,λh=>ai⟩;.exact aMq d4 b4 (λk F=>f8 k ab) (λk F=>ai)
           grind
         have qe:=Ui hi M k1 kX n9 EP (H.bp r).1 rfl (cx++cl) V z ab f1 f2 f3 f4 (λh=>ai) PJ;refine⟨_,m,_,⟨qe.1,qe.2.1.SD λ_=>trivial,qe.2.2⟩,.sl H.next 0 (n+1) Z 14 z ⟨z.aZ,z.base,Z⟩ O (jH ..) f10 ab (λk F=>ai) (λ_=>ab) (λ_=>rfl) ab ab,.inr ⟨eV g,f12⟩⟩
       obtain⟨ti,t1,t2,t3⟩:=IE Vg;obtain⟨K,z1,z2,_⟩:=aaC (Y:=φ) akn t1;have z3:K.cells.size=14:=by have:=z2.1;rw[Array.length_toList]at this;exact this.symm
       have hX:(D.extract (q.base+j) (q.base+j+14)).size=14:=ai;have mZ:∀m,m.heap=g.heap->(oH 14 1 (.slice (J ⟨q.aZ,q.base+j,Z⟩) 1 E)).run PP m=.ok (D.extract (q.base+j) (q.base+j+14)) m:=λm e=>Jq (n:=1*14) (by rw[e];omega) d3;have R:PP.underlying 73=J (.slice 75):=underlying73;have hu3:PP.underlying 3=J (.int .i64):=underlying3;by_cases jZ:n=0
       . subst jZ;by_cases S:1<=i
         . obtain rfl:=k6 ab;have zU:p.base+d+s.length<=A.size:=ab;have cq:=Na (P:=PP) X zU (λv hv=>d6 v hv);have jl:∀ty,(tj #[73,73] ty #[.slice (J ⟨p.aZ,p.base+d,Z⟩) 0 i,.slice (J ⟨q.aZ,q.base+j,Z⟩) 1 E]).run PP g=.ok (.slice (J ⟨p.aZ,p.base+d,Z⟩) (0+1) i) (World.eU g p.aZ (.cells (over A (p.base+d) s) 75 (0,0))):=λty=>ai8 rfl R xl rfl R (λk h=>ai) rfl (mZ g rfl) ab (by grind[wz]);obtain⟨e,m,⟨rfl,N⟩,L⟩:=CE (af3 jl) c I;subst N;refine fin (World.eU g p.aZ (.cells (over A (p.base+d) s) 75 (0,0))) ⟨p.aZ,p.base+d,p.oF,14⟩ i (over A (p.base+d) s) (by simp[Ca]) ⟨rfl,rfl,rfl⟩ (λb _ h=>B' g _ h) (.inl ⟨rfl,?_⟩) rfl (AA g _ vG) ((Ar _ _ _ zU).trans a2) (λk F=>?_) (λk F=>ab) S k3 (L _ rfl)
           . show p.base+p.len<=p.base+d+14;rcases c0 with _|k;.grind[CF,dj,dT]
             grind[CF,bR]
           .show(over A (p.base+d) s)[p.base+d+k]?=_;rw[uV _ _ _ zU,if_pos ab];congr 1;omega
         . obtain⟨t,g1,g2⟩:=run_append_grow (P:=PP) (w:=g) (ats:=#[73,73]) (ty:=73) (eT:=0) (jc:=i) (n:=1) (base:=J U) (xv:=.slice (J ⟨q.aZ,q.base+j,Z⟩) 1 E) (old:=#[]) rfl R t1 z1 rfl R (λk h=>ai) rfl (by rw[t2];exact mZ g.drew rfl) ab (by simp[oH,loadCells,loadCellsFrom]) (by rw[t3];decide) fD;obtain⟨e,m,⟨rfl,N⟩,L⟩:=CE (af3 (λty=>(show _=_ from by rw[<-g2];rfl))) c I;subst N;have hR:(#[]++D.extract (q.base+j) (q.base+j+14)++nT K.cells (t-(0+1))).size=t*14:=by grind[aaB]
           refine fin (World.push g.drew (.cells (#[]++D.extract (q.base+j) (q.base+j+14)++nT K.cells (t-(0+1))) 75)) ⟨g.heap.size,0,t*14,14⟩ t (#[]++D.extract (q.base+j) (q.base+j+14)++nT K.cells (t-(0+1))) (by simp[Dz]) ⟨rfl,rfl,rfl⟩ (λb hb _=>FZ g.drew _ hb) (.inr ⟨bS _,by simp[Dz]⟩) rfl (xd g.drew _) hR (λk F=>?_) (λk F=>ab) g1 aP (L _ rfl);grind
       . by_cases S:n+1<=i
         . obtain rfl:=k6 ab;have hm:(n+1)*14<=i*14:=lU _ S;have W:=ax7 (vc:=E) (c:=i) (o:=p.base+d) (vo:=q.base+j) (n:=n) X d1 cD ab mY S ab d3 ai ai;rw[Nat.one_mul,uM,LM]at W;obtain⟨e,m,⟨rfl,N⟩,L⟩:=CE W c I;subst N;have T:p.base+d+14+B.length<=A.size:=ab;have jB:=Ar A (p.base+d+14) B T;have Q:p.base+d+s.length<=(over A (p.base+d+14) B).size:=ab;refine fin (World.eU g.drew p.aZ (.cells (over (over A (p.base+d+14) B) (p.base+d) s) 75 (0,0))) ⟨p.aZ,p.base+d,p.oF,(n+1)*14⟩ i (over (over A (p.base+d+14) B) (p.base+d) s) (by simp[Ca]) ⟨rfl,rfl,rfl⟩ (λb _ h=>B' g.drew _ h) (.inl ⟨rfl,?_⟩) rfl (AA g.drew _ vG) ((Ar _ _ _ Q).trans (jB.trans a2)) (λk F=>?_) (λk F=>?_) S k3 (L _ rfl)
           . show p.base+p.len<=p.base+d+(n+1)*14;rcases c0 with _|k;.grind[CF,dj,dT]
             grind[CF,bR]
           .show(over (over A (p.base+d+14) B) (p.base+d) s)[p.base+d+k]?=_;rw[uV _ _ _ Q,if_pos ab];congr 1;omega
           .show(over (over A (p.base+d+14) B) (p.base+d) s)[p.base+d+14+k]?=_;rw[uV _ _ _ Q,if_neg ab,uV _ _ _ T,if_pos ab];congr 1;omega
         . have tN:U=⟨p.aZ,p.base+d,Z⟩:=k6 ab;obtain⟨t,g1,g2⟩:=ai9 (P:=PP) (w:=g) (ats:=#[73,3]) (ty:=73) (eT:=0) (jc:=i) (n:=n+1) (base:=J U) (old:=#[]) rfl R t1 z1 rfl hu3 ab ab (by simp[oH,loadCells,loadCellsFrom]) (by rw[t3];show _<=1099511627776;omega) (by show _<=1099511627776;omega);have hR:(#[]++nT K.cells (n+1)++nT K.cells (t-(0+(n+1)))).size=t*14:=by grind[aaB]
           generalize#[]++nT K.cells (n+1)++nT K.cells (t-(0+(n+1)))=row at*;subst tN;have W:=ax6 (vc:=E) (c:=i) (o:=p.base+d) (vo:=q.base+j) (n:=n) (G:=t) (row:=row) X d1 ab mY ab k2 ab d3 ai ai ab ab (λty=>by have:=g2;rw[kE]at this;exact this);rw[Nat.one_mul,uM,LM]at W;obtain⟨e,m,⟨rfl,N⟩,L⟩:=CE W c I;subst N;have T:0+s.length<=row.size:=ab;have jB:=Ar row 0 s T;have Q:14+B.length<=(over row 0 s).size:=ab;have hN:g.heap.size<(World.push g.drew (.cells row 75)).heap.size:=by simp[Dz]
           refine fin (World.eU (World.push g.drew (.cells row 75)).drew g.heap.size (.cells (over (over row 0 s) 14 B) 75 (0,0))) ⟨g.heap.size,0,t*14,(n+1)*14⟩ t (over (over row 0 s) 14 B) (by rw[Ca];exact Nat.le_of_lt hN) ⟨rfl,rfl,rfl⟩ (λb hb _=>(B' _ _ ab).trans (FZ g.drew _ hb)) (.inr ⟨bS _,by rw[Ca];exact hN⟩) rfl (AA _ _ hN) ((Ar _ _ _ Q).trans (jB.trans hR)) (λk F=>?_) (λk F=>?_) ab aP (L _ rfl);.show(over (over row 0 s) 14 B)[0+k]?=_;rw[uV _ _ _ Q,if_neg ab,uV _ _ _ T,if_pos ab];grind
           grind[uV]
     grind
   grind
 .simp only[hf,lA,bX]at h;exact hp f args H v H' h φ g av c I hi M hg hv
open Go.Sort
def II:aI->ah cF|[]=>J []|.int .i64 z::l=>(II l).map λt=>z::t|_=>Z
theorem af5:∀{l:aI}{zs:cF},II l=J zs->l=zs.map (AV.int .i64)
 |[],zs,h=>by cases h;rfl|a::l,zs,h=>by
  unfold II at h;split at h;.simp at*
  .rename_i z t e;obtain⟨rfl,rfl⟩:=List.cons.inj e;obtain⟨c,b,rfl⟩:=iI.1 h;rw[af5 b];rfl
  .simp at h
def rowP(f:cF->cF)(H:Heap)(i o n:Nat):ah (cF×Heap):=bif ct 0 n&&ct n 1000000000 then(H.load i o n).bind λl=>(II l).bind λzs=>(H.store i o ((f zs).map (AV.int .i64))).map λa=>(zs,a)else Z
def Gq(l:cF):cF:=l.mergeSort λx y=>decide (x<=y)
def CH(l:cF):cF:=tv l++lT (l.length-(tv l).length) 0
def Q3(a:cj):cj:=λf args H=>bif aw f 248 then(match args with|[.bu]=>J (J (.cL [],H))|[.sl id o n _ 1]=>J ((rowP Gq H id o n).map λr=>(.cL [],r.2))|_=>J Z)else bif aw f 249 then(match args with|[.bu]=>J (J (.bu,H))|[.sl id o n c 1]=>J ((rowP CH H id o n).map λr=>(.sl id o (tv r.1).length c 1,r.2))|_=>J Z)else a f args H
def acm(l:cF):(tv l).length<=l.length:=by grind[tv,Lib.compactUpTo]
def aiZ{f:cF->cF}{H a:Heap}{i o n:Nat}{s:cF}(h:rowP f H i o n=J (s,a)):0<n/\n<1000000000/\H.load i o n=J (s.map (AV.int .i64))/\H.store i o ((f s).map (AV.int .i64))=J a:=by
 unfold rowP at h;rcases c:(ct 0 n&&ct n 1000000000)with _|_;.grind
 rw[c]at h;simp only[gu,eQ,jV]at c;obtain⟨l,b,h⟩:=aE h;obtain⟨z,d,h⟩:=aE h;grind[iI,af5]
def aGp{E:cj}(M:jL PP E):jL PP (Q3 E):=by
 intro f args H v G h x w g c s l m K t;unfold Q3 at h;rw[bR,bR]at h;by_cases j:f=248
 . subst j;simp only[eB,aR]at h;split at h;.obtain⟨rfl,rfl⟩:=jd (bE (bE h));obtain⟨x1,t1,e1,d,W⟩:=t.cons_inv;obtain rfl:=W.rU;cases d;have y:g=#[.slice Z 0 0]:=ai;subst y;obtain⟨e,u,⟨rfl,rfl⟩,k⟩:=CE (Any.slices_Sort_int_none Tryz.agr Z 0 w) c s;exact⟨x,u,.tuple #[],fW.refl l m,.cL [] #[] rfl (λi a v h=>ai),.inr ⟨Ko Tryz.func248 rfl _ _,k _ rfl⟩⟩
   .rename_i id o n F;obtain⟨r,hr,e⟩:=iI.1 (bE h);obtain⟨rfl,rfl⟩:=jd e;obtain⟨zs,I⟩:=r;obtain⟨N,O,A,z⟩:=aiZ hr;obtain⟨x1,t1,e1,d,W⟩:=t.cons_inv;obtain rfl:=W.rU;cases d with|sl _ _ _ _ _ p U b k1 k2 k3 k4 k5 k6 k7 k8=>have y:g=#[.slice (J U) n b]:=ai;subst y;obtain rfl:=k6 ab;obtain⟨r1,r2,B,D⟩:=ai0 l m k1 A (List.length_mergeSort zs) z;subst r2;obtain⟨e,u,⟨rfl,q,P,rfl⟩,k⟩:=CE (Any.slices_Sort_int Tryz.agr p.aZ (p.base+o) b zs w B r1 ab) c s;exact⟨x,_,.tuple #[],D q P,.cL [] #[] rfl (λi a v h=>ai),.inr ⟨Ko Tryz.func248 rfl _ _,k _ rfl⟩⟩
   grind
 . simp only[j,lA,bX]at h;by_cases j:f=249
   . subst j;simp only[eB,aR]at h;split at h;.obtain⟨rfl,rfl⟩:=jd (bE (bE h));obtain⟨x1,t1,e1,d,W⟩:=t.cons_inv;obtain rfl:=W.rU;cases d;have y:g=#[.slice Z 0 0]:=ai;subst y;obtain⟨e,u,⟨rfl,rfl⟩,k⟩:=CE (Any.slices_Compact_int_empty Tryz.ags Z 0 w) c s;exact⟨x,u,_,fW.refl l m,.bu,.inr ⟨Ko Tryz.func249 rfl _ _,k _ rfl⟩⟩
     .rename_i id o n F;obtain⟨r,hr,e⟩:=iI.1 (bE h);obtain⟨rfl,rfl⟩:=jd e;obtain⟨zs,I⟩:=r;obtain⟨N,O,A,z⟩:=aiZ hr;obtain⟨x1,t1,e1,d,W⟩:=t.cons_inv;obtain rfl:=W.rU;cases d with|sl _ _ _ _ _ p U b k1 k2 k3 k4 k5 k6 k7 k8=>have y:g=#[.slice (J U) n b]:=ai;subst y;obtain rfl:=k6 ab;have L:=acm zs;obtain⟨r1,r2,B,D⟩:=ai0 l m k1 A (ys:=CH zs) (by grind[CH]) z;subst r2;obtain⟨e,u,⟨rfl,q,rfl⟩,k⟩:=CE (Any.slices_Compact_int Tryz.ags p.aZ (p.base+o) b zs w B ab k2) c s;refine⟨x,_,_,?_,.sl id o (tv zs).length F 1 p ⟨p.aZ,p.base+o,Z⟩ b k1 ab k3 k4 k5 (λ_=>rfl) k7 ab,.inr ⟨Ko Tryz.func249 rfl _ _,k _ rfl⟩⟩;have:=D q #[];rw[grow_empty]at this;exact this
     grind
   .simp only[j,lA,bX]at h;exact M f args H v G h x w g c s l m K t
end Go.AM
namespace Go.VM
open Go Go.AM Proofs.Tryz
set_option maxRecDepth 100000
set_option maxHeartbeats 4000000
variable{e I:Nat}{l:ao}
theorem aAp{a b n:Nat}{c:ah Nat}:nJ (.sl a b n c e)=J n:=(rfl)
theorem Vr:aA 1 (.ofNat 2)=V:=(rfl)
theorem Vs:aA 2 (.ofNat 2)=C:=(rfl)
section
variable{P:aH}{ak:cj}{rec:AM.Rec}{ops:Array aB}{fr:cG}{H:Heap}{o:aB}{l:List aB}{j:Nat}{log:List (Nat×jt)}
theorem aHL:H.resume H.fresh=H:=(rfl)
theorem auE{j:Nat}{d:jt}{H:Heap}(h:H.cI=[]):rJ ops o j d H=V:=by grind[rJ]
theorem f_w:H.fresh.bV=[]:=(rfl)
theorem f_g:H.fresh.cI=[]:=(rfl)
theorem ak5{a:Type}{f:a->Bool}:AM.lu f []=V:=(rfl)
theorem ak4{b:Type}{f:b->Bool}{a:b}{l:List b}:AM.lu f (a::l)=bif f a then AM.lu f l else C:=(rfl)
theorem aMH{r:ah (List (AM.Touch×Nat))}:AM.within ⟨r,[]⟩=V:=by cases r<;>rfl
theorem aMI{w:aC}:AM.within ⟨Z,w⟩=V:=(rfl)
theorem alD{r a:ah (List (AM.Touch×Nat))}:apart ⟨r,[]⟩ ⟨a,[]⟩=V:=by rfl
end
theorem azV{a b n:Nat}{c:ah Nat}:qP (.sl a b n c e)=J n:=(rfl)
attribute[local go_sem]body vm wC xL xM xN Ef cG.vd cG.Rq cG.Rp DW Cj GB GD Cf GF GJ DY DX GC GN GG GK GL GM NR DS GI Ch DT Ci DU Cg azV aHL f_w f_g ak5 ak4 aMH aMI alD ai5 ai7 KA wi fB dS ah6 ah5 ah2 ah1 ah3 ah4 DH w9 Dr eY ajN yE uN iz xO IG aAp gZ gJ cR aiD cw ajD ly kD jJ Vr Vs w00 ahk ag8 ahA Nat.zero_mul Nat.sub_zero vk kE ar1 ar2 ar3 dT Ji
attribute[local congr]bB bC
theorem aoJ(k:cj)(H q e:Heap)(d o a i j:Nat)(c b g r:ah Nat)(x:AV)(y z:aI)(p:ml PP 75=J z)(l:z.length=14)(v:k 349 [.sl d o a c 14,gZ i,gZ j] H=Z)(I:i<j)(K:I8 x=J x)(D:AM.pR PP H 73 (.sl d o a c 14) (J (.int .i64 (.ofNat i))) (J (.int .i64 (.ofNat j))) (J (.int .i64 (.ofNat a)))=J x)(E:∀H,AM.pR PP H 73 (.sl d o a c 14) Z (J (.int .i64 (.ofNat i))) Z=J (.sl d o i b 14))(F:∀H,AM.pR PP H 73 (.sl d o a c 14) (J (.int .i64 (.ofNat j))) Z Z=J (.sl d (o+j*14) (a-j) g 14))(G:AM.pR PP (H.resume q) 73 (.sl d o (i+(a-j)) b 14) (J (.int .i64 (.ofNat (i+(a-j))))) (J (.int .i64 (.ofNat a))) Z=J (.sl d (o+(i+(a-j))*14) (a-(i+(a-j))) r 14))(w:qG H.fresh 14 (a-j) (.sl d (o+j*14) (a-j) g 14)=J y)(u:nA H.fresh 75 14 152 (.sl d o i b 14) y (a-j)=J (.sl d o (i+(a-j)) b 14,q))(s:q.cI=[])(h:a-(i+(a-j))≠0)(t:(H.resume q).store d (o+(i+(a-j))*14) (jP (a-(i+(a-j))) z)=J e):GV PP k 349 [.sl d o a c 14,gZ i,gZ j] H (.sl d o (i+(a-j)) b 14) e:=by
 refine dQ.ev (fr:={fn:=349,n:=33,tmps:=((Tr.nil.ins 0 (.sl d o a c 14)).ins 1 (gZ i)).ins 2 (gZ j),todo:=[.code ((f349.body).getD .skip)],defers:=[],mode:=.run,roundOf:=Z}) (by unfold wG;rw[func349];kernel_rfl) v ?_;obtain⟨f,A,B,q3⟩:=IE Vg;have t1:rh (bH f349 5) 2 6=V:=by rfl
 have t2:rh (bH f349 5) 5 6=V:=by rfl
 have t3:vW (bH f349 5)=V:=by rfl
 simp(config:={maxSteps:=1000000})only[bH,opsOf,f349,go_sem]at t1 t2 t3;have d6:aj (.ofNat i) (.ofNat j)=C:=by show aw i j=C;grind[kS]
 have d7:decide (a-(i+(a-j))=0)=C:=Bd h;show dQ PP k {fn:=349,n:=33,tmps:=_,todo:=[.code (Code.seq _ _)],defers:=[],mode:=.run,roundOf:=Z} H _;iterate 12(refine dQ.step 0 (λm h=>by simp only[go_sem,D,d6];rfl) ?_)
 refine dQ.step 0 (λm h=>by
 simp only[go_sem,t3];iterate 8 rw[Gf];simp only[go_sem,p,l,A,B,q3,t1,t2,E,F,w,u,s,auE,oA,Bool.or_true,eC,sZ,xf]
 rfl) ?_;iterate 5(refine dQ.step 0 (λm h=>by simp only[go_sem,p,l,G,d7,t];rfl) ?_)
 exact dQ.fin (by rfl) rfl
set_option maxRecDepth 10000
section
variable{K K':aY}{Y:cm}{B:aJ}{H H':Heap}{lb:dV}{g:GH}
theorem abi{d:DV}{o:aM}{z:aI}(h:pj K Y B H [d] o z):∃a,z=[a]/\cO K Y B H (.sl 0) d a o:=by obtain⟨b,c⟩:=h;match z,b with|[a],_=>exact⟨a,rfl,c 0 d a rfl rfl⟩
theorem SF{d e:DV}{o:aM}{z:aI}(h:pj K Y B H [d,e] o z):∃a b,z=[a,b]/\cO K Y B H (.sl 0) d a o/\DR K Y e b:=by obtain⟨f,c⟩:=h;match z,f with|[a,b],_=>exact⟨a,b,rfl,c 0 d a rfl rfl,c 1 e b rfl rfl⟩
theorem abj{d e f:DV}{o:aM}{z:aI}(h:pj K Y B H [d,e,f] o z):∃a b c,z=[a,b,c]/\cO K Y B H (.sl 0) d a o/\DR K Y e b/\DR K Y f c:=by obtain⟨i,g⟩:=h;match z,i with|[a,b,c],_=>exact⟨a,b,c,rfl,g 0 d a rfl rfl,g 1 e b rfl rfl,g 2 f c rfl rfl⟩
theorem Wg{s:Nat}{a:AV}{o:aM}(h:cO K Y B H (.sl 0) (.ay l e s) a o)(x:vU o=V):∃r id I c cells f,B (.sl 0)=J (r,V)/\a=.sl id I l.length c s/\H.get id=J (.cells cells r f e)/\f.wr=V/\(H.bp r).1<=id/\(H.bp r).2=id/\gN K Y l s I cells/\GS H id I l.length s r c cells:=by cases o with
 |ex g=>
 rcases h with⟨h,_⟩|⟨r,b,d⟩;.simp at h
 .obtain⟨i,q,id,I,c,cells,f,k1,k2,k3,k4,k5,k6,k7,k8⟩:=d.ex;obtain⟨rfl,rfl,rfl⟩:=DV.ay.inj k1;exact⟨r,id,I,c,cells,f,b,k2,k3,k4,k5,k6,k7,k8⟩|any=>obtain⟨h,_⟩:=h;simp at h|_=>simp[vU]at x
theorem QK{a:AV}{o:aM}{p:Pk}(h:cO K Y B H p .nl a o):a=.bu:=by
 have k:DR K Y .nl a->a=.bu:=λh=>by cases h;rfl
 cases o with|no=>exact k h|any=>exact h.2|ty e=>exact k h.1|full e=>exact k h.1|ex e=>
 rcases h with h|⟨r,_,h⟩;.exact h.2
 .obtain⟨l,q,id,I,c,cells,f,k1,_⟩:=h.ex;simp at k1
theorem gN.load{s:Nat}{c:aI}(h:gN K Y l s I c){i r:Nat}{f:fQ}{e:an}(g:H.get i=J (.cells c r f e))(v:(H.bp r).1<=i):H.load i I (l.length*s)=J ((c.drop I).take (l.length*s)):=by unfold Heap.load Heap.cellsOf;simp only[g,dj,v,eB,aR,cR,dT,pV,qD];rw[mz (show I.add (l.length*s)<=c.length from h.2.1)];rfl
theorem gN.ints{c:aI}(h:gN K Y l 1 I c)(o:l.all uO=V):(c.drop I).take (l.length*1)=(l.map oG).map (AV.int .i64):=by
 have p:=h.2.1;apply GY;intro i;by_cases b:i<l.length
 . rw[Cm ab,xD,ki,ki,dA b];have x:uO l[i]=V:=AW.1 o _ (G0 b);have m:I+i<c.length:=ab;have f:(l[i]).flat[0]?=J l[i]:=by cases hd:l[i]<;>rw[hd]at x<;>first|rfl|simp[uO]at x
   obtain⟨a,e⟩:∃a,c[I+i]?=J a:=⟨_,dA m⟩;have hr:=h.2.2.2 i l[i] 0 l[i] a (dA b) f (by rw[Nat.mul_one,vk];exact e);rw[e];generalize l[i]=d at*;cases d with
   |int k n=>
   cases k<;>first|simp[uO]at x|skip
   cases hr;rfl|_=>simp[uO]at x
 . have g:((c.drop I).take (l.length*1))[i]?=Z:=by simp;omega
   have j:((l.map oG).map (AV.int .i64))[i]?=Z:=by simp;omega
   rw[g,j]
theorem aKM{z:cF}{i r:Nat}{c:aI}{f:fQ}{e:an}(g:H.get i=J (.cells c r f e))(w:f.wr=V)(h:(H.bp r).1<=i)(a:(H.bp r).2=i)(b:I+z.length<=c.length):H.store i I (z.map (AV.int .i64))=J (H.dI i r (.cells (fV c I (z.map (AV.int .i64))) r f e)):=by unfold Heap.store;simp only[g,dj,bR,h,a,w,dT,fZ,eB,wm,zd];rw[mz (show I.add z.length<=c.length from b)];rfl
theorem acT{zs ys:cF}{D:aI}(c:I+(zs++ys).length<=D.length):gN K Y (zs.map (DV.int .i64)) 1 I (fV D I ((zs++ys).map (AV.int .i64))):=by
 have l:=yO D I ((zs++ys).map (AV.int .i64)) (by rw[fZ];exact c);refine⟨fD,by rw[l,fZ,Nat.mul_one];rw[ib]at c;omega,λi x h=>?_,λi x j d a h e b=>?_⟩;.obtain⟨y,_,rfl⟩:=au.1 (du h);exact⟨rfl,λy k=>by obtain rfl:=Cq.1 k;rfl⟩
 . rw[ki]at h;obtain⟨z,f,rfl⟩:=iI.1 h;have B:j=0:=by have:=(am.1 e).1;have:j<1:=this;omega
   subst B;cases e;have g:=(am.1 f).1;rw[yN _ _ _ (by rw[fZ];exact c),if_pos (by rw[fZ,ib];omega)]at b;rw[show I+i*1+0-I=i by omega,ki,nV g,f]at b;cases b;exact .int _ _
end
end Go.VM
namespace Go.AM
open Go Go.VM Proofs.Tryz
def E0:dO:=⟨[],jo (dy gl []),.bool V,[]⟩
def vX:Tr Nat:=(((((Tr.nil.ins 0 0).ins 1 1).ins 2 2).ins 3 3).ins 4 4).ins 5 5
def QZ(a:cj):cj:=λf args H=>bif aw f 4 then(match args with|[]=>J (Cd 6 E0 [] H vX)|_=>J Z)else a f args H
def aGl{k:cj}(q:GU PP 4 E0)(r:jL PP k):jL PP (QZ k):=by
 intro f args H v p h o w e c s j l i n;unfold QZ at h;rw[bR]at h;by_cases g:f=4
 . subst g;simp only[eB,aR]at h;split at h;.obtain⟨t,fr,z,E,T,k1,k2,k3,k4,k5⟩:=q;have m:=bE h;rw[<-ail]at m;obtain⟨y,x,u,a,b,d⟩:=aj2 FX k1 k2 k3 k4 k5 m o w e c s j l i n;exact⟨y,x,u,a,b,.inr d⟩
   .simp at h
 .simp only[g,lA,bX]at h;exact r f args H v p h o w e c s j l i n
def Ht{E H:Heap}{a:Nat->ah Nat}{i r:Nat}{f:fQ}{l:aI}{e:an}(b:E.get i=J (.cells l i .ro e))(h:a i=J i)(g:H.get i=J (.cells l r f e))(v:(H.bp r).1<=i)(m:cw (nO a 50) l=J l)(q:wH (wJ 50) l l=V):ux E H a i=V:=by unfold ux;simp only[b,h,g,m,q,bR,dj,v,eB,xx]
def al6{H:Heap}(h:∀(i:Nat)(x:aI×an),gl[i]?=J x->∃r f,H.get i=J (.cells x.1 r f x.2)/\(H.bp r).1<=i):Cd 6 E0 [] H vX=J (.bool V,H):=by
 have k:∀i,i<6->ux E0.H H (sg E0.H.next vX) i=V:=by intro i c;have n:E0.H.next=6:=aL;rw[n];match i,c with|0,_=>obtain⟨r,f,a,b⟩:=h 0 _ rfl;exact Ht aL aL a b aL aL|1,_=>obtain⟨r,f,a,b⟩:=h 1 _ rfl;exact Ht aL aL a b aL aL|2,_=>obtain⟨r,f,a,b⟩:=h 2 _ rfl;exact Ht aL aL a b aL aL|3,_=>obtain⟨r,f,a,b⟩:=h 3 _ rfl;exact Ht aL aL a b aL aL|4,_=>obtain⟨r,f,a,b⟩:=h 4 _ rfl;exact Ht aL aL a b aL aL|5,_=>obtain⟨r,f,a,b⟩:=h 5 _ rfl;exact Ht aL aL a b aL aL
 have o:Cw (ux E0.H H (sg E0.H.next vX)) E0.H.next=V:=by have n:E0.H.next=6:=aL;rw[n]at k|-;show(bif ux E0.H H (sg 6 vX) 5 then(bif ux E0.H H (sg 6 vX) 4 then(bif ux E0.H H (sg 6 vX) 3 then(bif ux E0.H H (sg 6 vX) 2 then(bif ux E0.H H (sg 6 vX) 1 then(bif ux E0.H H (sg 6 vX) 0 then V else C)else C)else C)else C)else C)else C)=V;rw[k 0 fD,k 1 fD,k 2 fD,k 3 fD,k 4 fD,k 5 fD];rfl
 unfold Cd;rw[o,show Oe (sg E0.H.next vX) E0.args []=V from rfl,show Ug (sg E0.H.next vX) 6=V from aL];rfl
def mL:cj:=QZ (Q3 (Q2 (FY 334 3 1 8 (FY 350 64 8 88 (FY 400 373 2 16 (FY 263 80 5 56 kO))))))
def zc3:ml PP 3=J [.int .i64 0]:=aL
def aMW:ml PP 64=J [.int .i64 0,.bu,.int .i64 0,.int .i64 0,.int .i64 0,.int .i64 0,.int .i64 0,.str []]:=aL
def aMV:ml PP 373=J [.int .i64 0,.int .i64 0]:=aL
def aMX:ml PP 80=J [.int .i64 0,.int .i64 0,.int .i64 0,.int .i64 0,.bu]:=aL
def aGt(h:GU PP 4 E0):jL PP mL:=aGl h (aGp (aGo (Q1 (Q1 (Q1 (Q1 aim auA aMX rfl) auD aMV rfl) auC aMW rfl) auB zc3 rfl)))
theorem Vl:∀b a:aC,VM.qO b a=AM.qO b a|[],a=>by cases a<;>rfl|x::b,[]=>rfl|x::b,y::a=>by show(aw x y&&VM.qO b a)=bif aw x y then AM.qO b a else C;rw[Vl b a];cases aw x y<;>rfl
theorem idx_eq(b:aC):∀(a:aC)(i:Nat),Dg b i a=BH b a i|[],i=>by show(bif VM.qO b []then J i else Z)=bif AM.qO b []then J i else Z;rw[Vl]|x::a,i=>by show(bif VM.qO b (x::a)then J i else Dg b (i+1) a)=bif AM.qO b (x::a)then J i else BH b a (i+1);rw[Vl,idx_eq b a]
end Go.AM
namespace Go.VM
open Go Go.AM Proofs.Tryz
set_option maxRecDepth 10000
variable{r:Nat}{az:aI}{ow:aM}{e:an}{L:ao}{fl:fQ}
section
variable{K:aY}{Y:cm}{B:aJ}{H:Heap}{g:GH}
def aet(a:HR K Y B H [] g)(h:dw PP K (λ_=>Z) cf.aq)(i:Nat)(x:aI×an)(b:gl[i]?=J x):∃r fl,H.get i=J (.cells x.1 r fl x.2)/\(H.bp r).1<=i:=a.dm i x.1 x.2 (h.2 i x b)
def MP{f:bW}{a:AV}{v:SV}(i:HR K Y B H [] g)(h:mL f az H=J (J (a,H)))(r:jS K Y B H v a):∃a c d e b,Ev PP mL f az H a c/\Nx K Y B H d e b c/\HR d e b c [] g/\jS d e b c v a:=⟨a,H,K,Y,B,.inl h,Nx.refl i,i,r⟩
theorem aGM{d b:aC}(n:HR K Y B H [] g)(s:dw PP K (λ_=>Z) cf.aq)(o:pj K Y B H [.str d,.str b] ow az)(q:d.length<4294967281):∃x k l m j,Ev PP mL 282 az H x k/\Nx K Y B H l m j k/\HR l m j k [] g/\jS l m j k (.dv (match Dg b 0 d with|some i=>goN i|none=>.int .i64 (-1)) .no) x:=by
 obtain⟨x,y,rfl,f,p⟩:=SF o;have f:x=.str d:=by cases ow with|no=>cases f;rfl|any=>obtain⟨h,_⟩:=f;simp at h|ty e=>cases f.1;rfl|full e=>cases f.1;rfl|ex e=>
   rcases f with⟨h,_⟩|⟨r,_,h⟩;.simp at h
   .obtain⟨u,v,id,t,c,cells,fl,k1,_⟩:=h.ex;simp at k1
 cases p;subst f;obtain⟨r,fl,k1,k2⟩:=aet n s 2 _ rfl;refine MP n (a:=P9 (BH b d 0)) ?_ ?_
 . show(bif EG H 2&&ct (fc d) 4294967281 then J (J (P9 (BH b d 0),H))else J Z)=_;have:EG H 2=V:=by unfold EG;simp only[k1];rw[dj];exact mz k2
   rw[this,eQ,dT,mz q];rfl
 .rw[idx_eq];cases BH b d 0 with|none=>exact .int _ _|some i=>exact .int _ _
theorem aKV{d:aC}{x:AV}{p:Pk}(a:cO K Y B H p (.str d) x ow):x=.str d:=by cases ow with|no=>cases a;rfl|any=>obtain⟨h,_⟩:=a;simp at h|ty e=>cases a.1;rfl|full e=>cases a.1;rfl|ex e=>
 rcases a with⟨h,_⟩|⟨r,_,h⟩;.simp at h
 .obtain⟨l,q,id,o,c,cells,fl,k1,_⟩:=h.ex;simp at k1
theorem aGK{f b:aC}(l:HR K Y B H [] g)(j:pj K Y B H [.str f,.str b] ow az):∃x d e h c,Ev PP mL 111 az H x d/\Nx K Y B H e h c d/\HR e h c d [] g/\jS e h c d (.dv (.int .i64 (cmpL f b)) .no) x:=by obtain⟨x,y,rfl,i,k⟩:=SF j;obtain rfl:=aKV i;cases k;exact MP l (a:=.int .i64 (cmpL f b)) rfl (.int _ _)
theorem pv6(h:HR K Y B H [] g)(i:dw PP K (λ_=>Z) cf.aq)(j:pj K Y B H [] ow az):∃x c d e b,Ev PP mL 4 az H x c/\Nx K Y B H d e b c/\HR d e b c [] g/\jS d e b c (.dv (.bool V) .no) x:=by have f:az=[]:=bf.1 j.1.symm;subst f;refine MP h (a:=.bool V) ?_ (.bool _);show J (Cd 6 E0 [] H vX)=_;rw[al6 (aet h i)]
theorem aFX{f e s b n:Nat}(M:0<s)(k:∀H,mL f [.bu,.int .i64 (.ofNat n)] H=bif bt (n*b) bm&&bt n bm then(bif aw n 0 then J (J (.bu,H))else J (J (.sl H.next 0 0 Z s,H.cQ [] .op e)))else J Z)(q:HR K Y B H [] g)(G:pj K Y B H [.nl,.int .i64 (.ofNat n)] ow az){w:SV}(m:CU e s b [.nl,.int .i64 (.ofNat n)]=J w):∃x o u z l,Ev PP mL f az H x o/\Nx K Y B H u z l o/\HR u z l o [] g/\jS u z l o w x:=by obtain⟨x,y,rfl,I,L⟩:=SF G;obtain rfl:=QK I;cases L;have m:(bif bt (n*b) bm&&bt n bm then J (bif aw n 0 then SV.dv .nl .any else .dv (.ay [] e s) (.ex e))else Z)=J w:=m;have k:=k H;cases A:(bt (n*b) bm&&bt n bm)with|false=>rw[A]at m;simp at m|true=>rw[A]at m k;cases m;cases E:aw n 0 with|true=>rw[E]at k;exact MP q k ⟨rfl,rfl⟩|false=>
 rw[E]at k;have D:bT (dK B) H (H.cQ [] .op e):=j9 H _ _;have t:(H.cQ [] .op e).bp H.next=(0,H.next):=Bk (H:=H) q.inv (bS _);refine⟨_,_,K,Y,_,.inl k,⟨bo.refl _,q.fX D,aX.refl _,D,λF r c h=>?_,rfl,λ_ h=>.inl h,λ_ h=>.inl h⟩,QF (p:=.sl 0) (v:=J V) q trivial,.inr ⟨H.next,aJ.nQ ..,[],s,H.next,0,Z,[],.op,rfl,rfl,mA H _,rfl,by rw[t];exact mn _,by rw[t],?_,.inl ⟨rfl,by rw[t],aP⟩⟩⟩
 . by_cases e:F=.sl 0;.subst e;rw[aJ.nQ]at h;obtain⟨rfl,_⟩:=jd (bE h);exact .inr (bS _)
   .rw[aJ.lf _ _ e]at h;exact .inl ⟨F,c,h⟩
 .exact⟨M,aP,λi x h=>by simp at h,λi x j d a h=>by simp at h⟩
theorem af6:∀zs:cF,II (zs.map (AV.int .i64))=J zs|[]=>rfl|z::zs=>by show(II (zs.map (AV.int .i64))).map (λt=>z::t)=_;rw[af6 zs];rfl
theorem ai1{f:cF->cF}{i o:Nat}{c:aI}(g:H.get i=J (.cells c r fl e))(w:fl.wr=V)(h:(H.bp r).1<=i)(b:(H.bp r).2=i)(M:gN K Y L 1 o c)(j:L.all uO=V)(a:0<L.length)(n:L.length<1000000000)(d:(f (L.map oG)).length=L.length):rowP f H i o L.length=J (L.map oG,H.dI i r (.cells (fV c o ((f (L.map oG)).map (AV.int .i64))) r fl e)):=by unfold rowP;have l:=M.load g h;rw[M.ints j,Nat.mul_one]at l;rw[eQ,eQ,mz a,mz n,l];simp only[xx,aR,cR,af6];rw[aKM g w h b (by rw[d];have:=M.2.1;omega)];rfl
def I3{t x:Nat}{l:aC}(h:x∈Heap.note t r l):x∈l\/(x=r/\r<t):=(vN h).imp_right λ⟨a,b⟩=>⟨a,a▸b⟩
theorem ayP{i:Nat}{m m':aI}(a:HR K Y B H [] g)(h:H.get i=J (.cells m r fl e))(b:(H.bp r).2=i):bT (λx=>x=r) H (H.dI i r (.cells m' r fl e))/\bg (H.dI i r (.cells m' r fl e))/\pC (H.dI i r (.cells m' r fl e))/\(H.dI i r (.cells m' r fl e)).bA=H.bA/\(∀x,x∈(H.dI i r (.cells m' r fl e)).bV->x∈H.bV\/(x=r/\r<H.bA))/\∀x,x∈(H.dI i r (.cells m' r fl e)).cI->x∈H.cI\/(x=r/\r<H.bA):=by refine⟨yA h,Q' a.inv h b,Gw a.gW h,Cc ..,λx c=>?_,λx c=>by grind[yb]⟩;simp_all[xw,I3]
theorem an8{l:cF}(h:0<l.length):0<(tv l).length:=by
 rcases l with _|⟨x,l⟩;.grind
 have:x∈tv (x::l):=(acv (x::l) x).2 (gv ..);grind
theorem aGL(n:HR K Y B H [] g)(t:pj K Y B H [.ay L 3 1] ow az)(z:vU ow=V)(w:L.all uO=V)(u:0<L.length)(y:L.length<1000000000):∃x f d m b,Ev PP mL 249 az H x f/\Nx K Y B H d m b f/\HR d m b f [] g/\jS d m b f (.dv (rR (xR L) 3 1) .no) x:=by
 obtain⟨a,rfl,v⟩:=abi t;obtain⟨r,id,o,c,cells,fl,N,rfl,p,O,q,j,s,P⟩:=Wg v z;have i:=acm (L.map oG);rw[fZ]at i;have A:(CH (L.map oG)).length=L.length:=by grind[CH]
 have hr:=ai1 p O q j s w u y A;obtain⟨k1,k2,k3,k4,k5,k6⟩:=ayP (m':=fV cells o ((CH (L.map oG)).map (AV.int .i64))) n p j;have Q:mL 249 [.sl id o L.length c 1] H=J (J (.sl id o (tv (L.map oG)).length c 1,H.dI id r (.cells (fV cells o ((CH (L.map oG)).map (AV.int .i64))) r fl 3))):=by show J ((rowP CH H id o L.length).map λr=>(AV.sl id o (tv r.1).length c 1,r.2))=_;grind
 have M:=acT (K:=K) (Y:=Y) (zs:=tv (L.map oG)) (ys:=lT ((L.map oG).length-(tv (L.map oG)).length) 0) (I:=o) (D:=cells) (by have:=s.2.1;grind);obtain⟨d,b,E,F,G⟩:=consume (l:=xR L) (c:=c) n N k1 k2 k3 k4 k5 k6 (n7 ..) (KS q j).1 M (λk S=>by unfold xR;rw[fZ];rcases P with⟨h,_⟩|h<;>grind);refine⟨_,_,d,Y,b,.inl Q,E,F,?_⟩;have e:(xR L).length=(tv (L.map oG)).length:=by simp[xR]
 rw[e]at G;have T:rR (xR L) 3 1=.ay (xR L) 3 1:=by
  have:=an8 (l:=L.map oG) ai;rcases R:xR L with _|_;.grind
  rfl
 grind
theorem gN.cut{l:ao}{e o:Nat}{c:aI}(h:gN K Y l e o c):gN K Y l e 0 ((c.drop o).take (l.length*e))/\((c.drop o).take (l.length*e)).length=l.length*e:=by obtain⟨b,k,f,m⟩:=h;have g:((c.drop o).take (l.length*e)).length=l.length*e:=ai;refine⟨⟨b,ab,f,λi x j d a p hd n=>?_⟩,g⟩;grind
def ayO{i:Nat}{m m':aI}(h:HR K Y B H [] g)(b:H.get i=J (.cells m r fl e)):bT (λx=>x=r) H (H.gP r (H.bp r).1 V m' e)/\bg (H.gP r (H.bp r).1 V m' e)/\pC (H.gP r (H.bp r).1 V m' e)/\(H.gP r (H.bp r).1 V m' e).bA=H.bA/\(∀x,x∈(H.gP r (H.bp r).1 V m' e).bV->x∈H.bV\/(x=r/\r<H.bA))/\∀x,x∈(H.gP r (H.bp r).1 V m' e).cI->x∈H.cI\/(x=r/\r<H.bA):=⟨Uh ..,aev h.inv b _ _,ajX h.inv h.gW b _ _,rfl,λx a=>I3 a,λx a=>I3 a⟩
theorem aGN{y:DV}(i:HR K Y B H [] g)(t:pj K Y B H [.ay L 75 14,.int .i64 (.ofNat 0),.ay [y] 75 14] ow az)(D:vU ow=V)(hn:L.length<1000000000):∃x f e m d,Ev PP mL 347 az H x f/\Nx K Y B H e m d f/\HR e m d f [] g/\jS e m d f (.dv (.ay (y::L) 75 14) .no) x:=by obtain⟨a,b,U,rfl,u,z,A⟩:=abj t;obtain⟨r,id,o,c,cells,fl,n,rfl,p,o4,P,o6,q,Q⟩:=Wg u D;cases z;cases A with|ay _ _ _ w j X O k1 k2 k3 k4 k5 k6=>
 obtain⟨rv,s,E,F⟩:=i.dm w O 75 k1;have v:gN K Y [y] 14 j O:=⟨k2,k3,k5,k6⟩;have l1:=v.load E F;have l2:=q.load p P;obtain⟨e1,e2⟩:=q.cut;obtain⟨e3,e4⟩:=v.append e1 ab;have W:rootOf H w≠r:=i.clean _ _ _ _ n k1;have N:LW id o L.length c w j H=J (.sl H.next 0 (L.length+1) Z 14,H.gP r (H.bp r).1 V ((O.drop j).take ([y].length*14)++(cells.drop o).take (L.length*14)) 75):=by
  unfold LW;have jX:CF L.length (fc cells) (o+L.length*14) c=V:=by rcases Q with⟨rfl,_,h⟩|rfl<;>simp_all[CF,dT]
  grind[dj,bR,eQ]
 obtain⟨R,S,q3,T,q5,q6⟩:=ayO (m':=(O.drop j).take ([y].length*14)++(cells.drop o).take (L.length*14)) i p;obtain⟨e,d,G,I,M⟩:=consume (l:=y::L) (c:=Z) i n R S q3 T q5 q6 (ya ..) (by simp[zO]) e3 (λk hk=>ai);refine⟨_,_,e,Y,d,.inl ?_,G,I,M⟩;show J (LW id o L.length c w j H)=_;grind
end
end Go.VM
