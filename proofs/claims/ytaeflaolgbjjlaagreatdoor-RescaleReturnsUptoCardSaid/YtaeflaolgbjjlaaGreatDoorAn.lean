/- Proved: rescale.Split and rescale.Join, and the law on the value machine: what they answer (a part of the proof of RescaleReturnsUptoCardSaid, whose theorem stands in the last text), within the sizes that each theorem names. -/
import Derived.Test.YtaeflaolgbjjlaaGreatDoorRows
import Derived.Test.YtaeflaolgbjjlaaGreatDoorAm
open Option renaming some->J,none->Z
open Bool renaming true->V,false->C
open Go renaming TypeId->an,Oper->aB,Value->aC,Program->aG,World->aW,FuncId->bV,IntKind->fN
open Int renaming ofNat->di,add->jP
open List renaming replicate->lW,range->tO
open Nat renaming beq->aw,ble->br,blt->cm,add->gW,mul->iR
open UInt8 renaming toNat->ka
noncomputable section
set_option linter.all false
namespace Go.VM
open Go Go.AM Proofs.Tryz
variable{α:Type}{a:Addr}{ps:List (DV×DV)}{ow:List (Nat×aM)}{cs:List aC}{j w:Nat}{t:an}{ds:aq}
attribute[local congr]bz bA
set_option maxRecDepth 100000
set_option maxHeartbeats 4000000
def ig(s:List (DV×DV)):aq:=s.flatMap λp=>[p.1,p.2]
theorem MB{p:DV×DV}:ig (p::ps)=p.1::p.2::ig ps:=rfl
theorem MC(p:List (DV×DV)):(ig p).length=2*p.length:=by induction p with|nil=>rfl|cons a l i=>rw[MB,dE,dE,i,dE];omega
theorem YM{i:Nat}{p:DV×DV}(h:ps[i]?=J p):(ig ps)[i*2]?=J p.1/\(ig ps)[i*2+1]?=J p.2:=by induction ps generalizing i with|nil=>cases h|cons a l b=>cases i with|zero=>cases h;exact⟨rfl,rfl⟩|succ i=>have:=b (i:=i) h;rw[show(i+1)*2=i*2+1+1 by omega,MB,AJ,AJ,AJ,AJ];exact this
theorem QP{i:Nat}{p:DV×DV}{v:DV}(h:ps[i]?=J p):iC (ig ps) (i*2) v=ig (ps.set i (v,p.2))/\iC (ig ps) (i*2+1) v=ig (ps.set i (p.1,v)):=by induction ps generalizing i with|nil=>cases h|cons a l b=>cases i with|zero=>cases h;exact⟨rfl,rfl⟩|succ i=>have:=b (i:=i) h;rw[show(i+1)*2=i*2+1+1 by omega,MB,List.set_cons_succ,List.set_cons_succ,MB,MB,<-this.1,<-this.2];exact⟨rfl,rfl⟩
theorem aG4(s:List (DV×DV))(o:List (Nat×aM)):w7 ⟨ig s,o⟩ 0 s.length 2 V=s.map λp=>.agg [p.1,p.2]:=by
 unfold w7;apply Gz;intro i;by_cases a:i<s.length;.obtain⟨p,h⟩:∃p,s[i]?=J p:=⟨_,dD a⟩;rw[jo,DN a,jo,h];show J (DV.agg (((ig s).drop (0+i*2)).take 2))=J (.agg [p.1,p.2]);congr 2;apply Gz;intro j;match j with|0=>rw[v7 eY,sS,iZ];exact(YM h).1|1=>rw[v7 eY,sS,iZ];exact(YM h).2|j+2=>rw[xq (by rw[qa];omega),xq (by show 2<=j+2;omega)]
 .rw[xq (by simp;omega),xq (by simp;omega)]
theorem aG5(n:Nat):(lW n (DV.agg [.nl,.nl])).flatMap DV.flat=ig (lW n (.nl,.nl)):=by induction n with|zero=>rfl|succ n i=>rw[List.replicate_succ,List.replicate_succ,B5,i];rfl
theorem ayY{P:aG}{f n:Nat}{b:cT}{l:dV}{g:GH}{d:ah Tmp}{i o:Nat}{c:aq}{s:List (Nat×aM)}(h:AM.isAgg P t=J C)(a:c[o]?=J .nl):rB P t .take ⟨f,n,b,l,g⟩ d i o (.box ⟨c,s⟩)=aH ⟨f,n,b,l,g.set i (.box ⟨c,s⟩)⟩ d (.dv .nl .any):=by
 have e:ew ⟨c,s⟩ o=.any:=by unfold ew;rw[a]
 rw[afD];unfold fD;rw[h];show((c[o]?).map _).bind _=_;rw[a,e];rfl
theorem azE{l:List (Nat×aM)}{o n:Nat}(h:j<o\/o+n<=j):look (cW l o n) j=look l j:=by induction l with|nil=>rfl|cons x l i=>
 show look (cW ((x.1,x.2)::l) o n) j=look ((x.1,x.2)::l) j;rw[G3,yl];by_cases a:x.1=j
 . have:(decide (x.1<o)||decide (o+n<=x.1))=V:=by rw[a];simpa using h
   rw[this,if_pos a];show look ((x.1,x.2)::_) j=_;rw[yl,if_pos a]
 . rw[if_neg a];cases(decide (x.1<o)||decide (o+n<=x.1));.exact i
   .show look ((x.1,x.2)::_) j=_;rw[yl,if_neg a];exact i
theorem U0{l:List (Nat×aM)}{o n:Nat}{x:aM}(h:(j,x)∈l)(a:o+n<=j):(j,x)∈cW l o n:=by refine List.mem_filter.2 ⟨h,?_⟩;show(cm j o||br (o+n) j)=V;rw[nH a,Bool.or_true]
def oz(l:List aE):DV:=bP V (l.map aE.d) 49 8
def Mz(M:DV)(n i:Nat)(s:List (DV×DV)×List (Nat×aM)):Prop:=s.1.length=n/\(2*n,aM.full 29)∈s.2/\∀j,j<n->s.1[j]?=J (if j<i then M else .nl,.nl)
def FK(M:DV)(n:Nat)(p:Nat->List aE)(s:List (DV×DV)×List (Nat×aM)):Prop:=s.1.length=n/\(2*n,aM.full 29)∈s.2/\∀j,j<n->s.1[j]?=J (M,oz (p j))/\(p j≠[]->look s.2 (j*2+1)=J (.ex 49))
def prt(o:bK)(w i j:Nat):List aE:=(o.keys.l.take i).filter λx=>decide (x.key.oo w=j)
def MO(o:bK)(w:Nat)(i:Nat)(s:List (DV×DV)×List (Nat×aM)):St:=⟨21,51,[(14,iS i),(2,.lp 2 0),(5,.dv (.cV 0 0 w 29 2) .no),(1,iS w),(13,iS w)],[(2,⟨[cL o.marks,ki o.keys],[]⟩)],⟨1,[(0,.box ⟨ig s.1,s.2⟩)]⟩⟩
def MN(o:bK)(w:Nat)(i:Nat)(s:List (DV×DV)×List (Nat×aM)):St:=⟨21,51,[(28,iS i),(5,.dv (.cV 0 0 w 29 2) .no),(1,iS w),(26,.dv (ki o.keys) .no),(27,iS o.keys.l.length)],[],⟨1,[(0,.box ⟨ig s.1,s.2⟩)]⟩⟩
theorem Mz.st{M:DV}{n i:Nat}(h:Mz M n i (ps,ow))(f:i<n)(l:List (Nat×aM)):Mz M n (i+1) (ps.set i (M,.nl),l++cW ow (i*2) 1):=by
 obtain⟨b,c,d⟩:=h;have b:ps.length=n:=b;refine⟨by show(ps.set _ _).length=_;rw[List.length_set,b],RC _ (U0 c ab),λj a=>?_⟩;show(ps.set i (M,.nl))[j]?=_;rw[List.getElem?_set];by_cases e:i=j;.rw[if_pos e,if_pos ab,if_pos ab]
 . rw[if_neg e];have:=d j a;rw[show ps[j]?=_ from this];by_cases a:j<i;.rw[if_pos a,if_pos ab]
   .rw[if_neg a,if_neg ab]
theorem afS{k:Nat}(h:k≠j):look (cW ow (j*2+1) 1) (k*2+1)=look ow (k*2+1):=azE ab
theorem FK.st{M:DV}{n:Nat}{p:Nat->List aE}{F:List (Nat×aM)}(h:FK M n p (ps,ow))(q:j<n)(x:aE)(a:Nat->List aE)(i:∀k,a k=if k=j then p j++[x]else p k)(o:F=ow\/F=cW ow (j*2+1) 1):FK M n a (ps.set j (M,.ay ((p j++[x]).map aE.d) 49 8),(j*2+1,.ex 49)::cW F (j*2+1) 1):=by
 obtain⟨c,d,f⟩:=h;have c:ps.length=n:=c;have m:(2*n,aM.full 29)∈F:=by rcases o with rfl|rfl;exact d;exact U0 d ab
 have l:∀k,k≠j->look F (k*2+1)=look ow (k*2+1):=λk b=>by rcases o with rfl|rfl;rfl;exact afS b
 refine⟨by show(ps.set _ _).length=_;rw[List.length_set,c],kG _ (U0 m ab),λk b=>?_⟩;show(ps.set j _)[k]?=_/\_;rw[i k,List.getElem?_set];by_cases e:j=k;.subst e;rw[if_pos rfl,if_pos ab,if_pos rfl];exact⟨by congr 2;unfold oz;rw[qb];cases(p j).map aE.d<;>rfl,λ_=>by show look ((_,_)::_) _=_;rw[yl,if_pos rfl]⟩
 .rw[if_neg e,if_neg (Ne.symm e)];refine⟨(f k b).1,λg=>?_⟩;show look ((_,_)::_) _=_;rw[yl,if_neg ab,afS (Ne.symm e),l k (Ne.symm e)];exact(f k b).2 g
theorem aht{o:bK}{i k:Nat}{x:aE}(b:o.keys.l[i]?=J x)(a:x.key.oo w=di j):prt o w (i+1) k=if k=j then prt o w i j++[x]else prt o w i k:=by
 unfold prt;rw[List.take_add_one,b,List.filter_append];have:Option.toList (J x)=[x]:=rfl;rw[this,tN,a];by_cases e:k=j;.subst e;rw[if_pos rfl,if_pos aO];rfl
 .rw[if_neg e,if_neg (by rw[gZ];exactλh=>e (Int.ofNat.inj h).symm)];simp
theorem aBV(o:bK)(w:Nat)(T:1<=w/\w<=8)(R:o.marks.l.length<1100000)(hk:o.keys.l.length<1100000)(hx:∀x∈o.keys.l,x.e.cp/\rQ x.key.k x.key.n x.key.s=0/\x.key.s.length<1050000):de (λr=>∃g,r=.val (.dv (.ay ((tO w).map λj=>bK.d ⟨o.marks,⟨V,prt o w o.keys.l.length j⟩⟩) 29 2) .no) g) (ev PP cf (.call 21 [o.d,.int .i64 (.ofNat w)] .no .empty)):=by
 obtain⟨om,yd,e1⟩:=cpI o.marks R;have d11:=an1;simp only[bw,opsOf,f21,go_sem]at d11;simp only[cL]at e1;refine QH (q:=λr=>∃ps ow,FK (cL o.marks) w (prt o w o.keys.l.length) (ps,ow)/\r=.val (.dv (.cV 0 0 w 29 2) .no) ⟨1,[(0,.box ⟨ig ps,ow⟩)]⟩) func21 rfl rfl rfl rfl rfl ?_ ?_
 . rintro r⟨ps,ow,⟨b,A,m⟩,rfl⟩;have b:ps.length=w:=b;have R:(ps.map λp=>DV.agg [p.1,p.2])=(tO w).map λj=>bK.d ⟨o.marks,⟨V,prt o w o.keys.l.length j⟩⟩:=by
     apply Gz;intro j;rw[jo,jo];by_cases n:j<w;.have:=(m j n).1;rw[show ps[j]?=_ from this,DN n];rfl
     .rw[xq ab,xq (by simp;omega)];rfl
   have a1:br (0+w*2) (ig ps).length=V:=nH (by rw[MC];omega);have a2:ow.any (λx=>isFull 29 x.2)=V:=List.any_eq_true.2 ⟨_,A,rfl⟩;have U:=aG4 ps ow;rw[b,R]at U;refine⟨.val (.dv (.ay ((tO w).map λj=>bK.d ⟨o.marks,⟨V,prt o w o.keys.l.length j⟩⟩) 29 2) .no) ⟨1,[]⟩,?_,_,rfl⟩;show(bif br (0+w*2) (ig ps).length&&br 1 2&&(V||aw 2 1)&&ow.any (λx=>isFull 29 x.2)then J (DV.ay (w7 ⟨ig ps,ow⟩ 0 w 2 V) 29 2)else Z).map _=_;rw[a1,a2,U];rfl
 . have D:(w*48<=bl)=True:=iT (by simp only[bl];omega);have H:(w<=bl)=True:=iT (by simp only[bl];omega);simp only[go_sem,f21,bK.d,bK.cells,cL,ki,aG5,MC,v8,D,H];refine pA (lW w ()) (lW w (.nl,.nl),[(2*w,.full 29)]) (MO o w) (λi _ s=>Mz (cL o.marks) w i s) (by rw[v8];omega) rfl ⟨aO,aO,λj n=>by rw[if_neg (Nat.not_lt_zero _),List.getElem?_replicate,if_pos n]⟩ (λs I=>?_) (λi x l s K hx T I c=>?_)
   . obtain⟨ps,ow⟩:=s;simp only[MO,go_sem,v8,ki];obtain⟨b,A,m⟩:=I;rw[v8]at m;refine pA o.keys.l (ps,ow) (MN o w) (λi _ s=>FK (cL o.marks) w (prt o w i) s) ab rfl ⟨b,A,λj n=>⟨by rw[m j n,if_pos n];rfl,λh=>absurd rfl h⟩⟩ (λs I=>?_) (λi x l s K G lM I c=>?_);.simp only[MN,go_sem,bW];exact⟨_,_,I,rfl⟩
     .obtain⟨ps,ow⟩:=s;obtain⟨b,A,m⟩:=I;have b:ps.length=w:=b;obtain⟨P,Y,X⟩:=hx x (dw G);have e2:=aCA x.key w Y X ab;obtain⟨g3,e3⟩:=agM x P;obtain⟨q1,q2⟩:=ajg x.key w (OB x.key Y X).1 ab;obtain⟨j,n⟩:∃j:Nat,x.key.oo w=di j:=⟨(x.key.oo w).toNat,(Int.toNat_of_nonneg q1).symm⟩;rw[n]at e2 q2;have Q:j<w:=Int.ofNat_lt.1 q2;have F:(j<w)=True:=iT Q;obtain⟨u,S⟩:=m j Q;have u:ps[j]?=J (cL o.marks,oz (prt o w i j)):=u;have z:=(YM u).2;have kN:=MC ps;have D:(j*2+1+1<=(ig ps).length)=True:=iT ab;simp only[ct.d,ct.cells]at e2;simp only[aE.d,aE.cells]at e3;simp only[MN,go_sem,ki]at c;have e2:CC 39 [.agg [.int .i64 x.key.k,.int .i64 x.key.n,.str x.key.s],.int .i64 (.ofNat w)] (vI (.ofNat j)):=e2;cases O:prt o w i j with|nil=>rw[O]at z u;have z:(ig ps)[j*2+1]?=J .nl:=z;simp only[MN,go_sem,K,G,aE.d,aE.cells,ki,e2,d11,e3,F,ayY,z,D];have B:∀d,(ig ps).take (j*2+1)++d::(ig ps).drop (j*2+1+1)=ig (ps.set j (cL o.marks,d)):=λd=>(QP u).2;have hr:=FK.st ⟨b,A,m⟩ Q x (prt o w (i+1)) (λk=>aht G n) (.inl rfl);rw[O]at hr;have c:=c (_,_) hr;simp only[jF,fS,eG,aE.d,aE.cells]at c;simp only[B,lM];exact c|cons y t=>
     have S:=S (by rw[O];simp);have hr:=FK.st ⟨b,A,m⟩ Q x (prt o w (i+1)) (λk=>aht G n) (.inr rfl);have cU:(prt o w i j).length<=o.keys.l.length:=fX (Np _ _) (by rw[qa];omega);rw[O]at z u hr cU;have z:(ig ps)[j*2+1]?=J (.ay ((y::t).map aE.d) 49 8):=z;have W:fB 49 8 120 (.ay ((y::t).map aE.d) 49 8) (.ex 49) [x.d]=J (.ay ((y::t).map aE.d++[x.d]) 49 8,.ex 49):=qg eY (by rw[fZ];simp[bl]at*;omega) (by rw[fZ];simp[bl]at*;omega);have s0:∀d,(ig ps).take (j*2+1)++d::(ig ps).drop (j*2+1+1)=ig (ps.set j (cL o.marks,d)):=λd=>(QP u).2;have O4:(ps.set j (cL o.marks,DV.jk))[j]?=J (cL o.marks,.jk):=by rw[List.getElem?_set,if_pos rfl,if_pos ab]
     have B:∀d,(ig (ps.set j (cL o.marks,DV.jk))).take (j*2+1)++d::(ig (ps.set j (cL o.marks,DV.jk))).drop (j*2+1+1)=ig (ps.set j (cL o.marks,d)):=λd=>by have:=(QP (v:=d) O4).2;rw[List.set_set]at this;exact this
     have H:(j*2+1+1<=(ig (ps.set j (cL o.marks,DV.jk))).length)=True:=iT (by rw[MC,List.length_set];omega);have lb:fD PP .take 27 ⟨ig ps,ow⟩ (j*2+1)=J (.dv (.ay ((y::t).map aE.d) 49 8) (.ex 49),⟨ig (ps.set j (cL o.marks,DV.jk)),cW ow (j*2+1) 1⟩):=by
      have e:ew ⟨ig ps,ow⟩ (j*2+1)=.ex 49:=by unfold ew;rw[z];show(look ow _).getD .no=_;rw[show look ow (j*2+1)=_ from S];rfl
      unfold fD;rw[show AM.isAgg PP 27=J C by rfl];show((ig ps)[j*2+1]?).map _=_;rw[z,e,<-s0 .jk];rfl
     have c:=c (_,_) hr;rw[qb,fS (f:=aE.d) (a:=x),eG]at c;generalize(y::t).map aE.d=L at*;simp only[aE.d,aE.cells,cL]at c W B H lb;simp only[MN,go_sem,K,G,aE.d,aE.cells,ki,e2,d11,e3,F,lb,B,H,W,lM];exact c
   . obtain⟨ps,ow⟩:=s;obtain⟨b,A,m⟩:=I;have N:i<w:=by have:=mT K;rwa[v8]at this
     have u:=m i N;rw[if_neg (Nat.lt_irrefl _)]at u;have E:(i<w)=True:=iT N;simp only[MO,go_sem,cL,ki]at c;have kN:=MC ps;have b:ps.length=w:=b;have D:(i*2+1<=(ig ps).length)=True:=iT ab;have B:(ig ps).take (i*2)++bP o.marks.nl (o.marks.l.map iD) 3 1::(ig ps).drop (i*2+1)=ig (ps.set i (bP o.marks.nl (o.marks.l.map iD) 3 1,.nl)):=(QP u).1;have hr:=Mz.st (M:=cL o.marks) ⟨b,A,m⟩ N;simp only[cL]at hr;rcases yd with rfl|⟨_,rfl⟩;.simp only[MO,go_sem,cL,ki,E,e1,tQ,D,B,T];exact c (_,_) (hr [(i*2,.ex 3)])
     .simp only[MO,go_sem,cL,ki,E,e1,tQ,D,B,T];exact c (_,_) (hr [])
structure B3{α:Type}(c:α->α->Int):Prop where
 neg:∀a b,c a b=-c b a
 tr:∀a b d,c a b<0->c b d<0->c a d<0
 D3:∀a b d,c a b=0->c a d=c b d
theorem Sx(a b:Int):ir a b=if a<b then-1 else if b<a then 1 else 0:=by
 simp only[ir,fQ];by_cases h:a<b;.simp[h]
 .by_cases k:b<a<;>simp[h,k]
theorem Sy(f:α->Int):B3 λa b=>ir (f a) (f b)where
 neg a b:=by simp only[Sx];grind
 tr a b d:=by simp only[Sx];grind
 D3 a b d:=by simp only[Sx];grind
theorem Ck{x y:Nat}{a b:aD}:cmpL (x::a) (y::b)=if x<y then-1 else if y<x then 1 else cmpL a b:=by
 show(bif cm x y then(-1:Int)else bif cm y x then 1 else cmpL a b)=_;rw[eK,eK];by_cases h:x<y;.simp[h]
 .by_cases k:y<x<;>simp[h,k]
theorem amY:cmpL [] []=0:=rfl
theorem SA{y:Nat}{b:aD}:cmpL [] (y::b)=-1:=rfl
theorem JZ{x:Nat}{a:aD}:cmpL (x::a) []=1:=rfl
theorem SB:B3 cmpL where
 neg a:=by induction a with|nil=>intro b;cases b<;>rfl|cons x a i=>intro b;cases b with|nil=>rfl|cons y b=>rw[Ck,Ck,i b];grind
 tr a:=by induction a with
 |nil=>intro b d;cases d with|nil=>cases b<;>simp[amY,SA,JZ]|cons z d=>simp[SA]
 |cons x a i=>intro b d;cases b with|nil=>simp[JZ]|cons y b=>cases d with|nil=>simp[JZ]|cons z d=>rw[Ck,Ck,Ck];have:=i b d;grind
 D3 a:=by induction a with|nil=>intro b d;cases b<;>simp[SA]|cons x a i=>intro b d;cases b with|nil=>simp[JZ]|cons y b=>cases d with|nil=>simp[JZ]|cons z d=>rw[Ck,Ck,Ck];have:=i b d;grind
theorem amZ(f:α->aD):B3 λa b=>cmpL (f a) (f b):=⟨λa b=>SB.neg _ _,λa b d=>SB.tr _ _ _,λa b d=>SB.D3 _ _ _⟩
theorem UK{f g:α->α->Int}(c:B3 f)(i:B3 g):B3 λa b=>bif aj (f a b) 0 then g a b else f a b:=by
 have e:(λa b=>bif aj (f a b) 0 then g a b else f a b)=λa b=>if f a b=0 then g a b else f a b:=by funext a b;rw[jU];by_cases h:f a b=0<;>simp[h]
 rw[e];refine⟨λa b=>?_,λa b d=>?_,λa b d=>?_⟩;.have x:=c.neg a b;have y:=i.neg a b;grind
 .have x:=c.neg a b;have y:=c.neg a d;have z:=c.tr a b d;have u:=c.D3 a b d;have v:=c.D3 b d a;have w:=i.tr a b d;have t:=c.neg b d;have s:=c.neg d a;grind
 .have u:=c.D3 a b d;have w:=i.D3 a b d;grind
theorem aj4(f:α->ct):B3 λa b=>(f a).cmp (f b):=UK (Sy λa=>(f a).k) (UK (Sy λa=>(f a).n) (amZ λa=>(f a).s))
theorem ZQ:B3 aE.cmp:=UK (Sy λa:aE=>a.q) (aj4 λa:aE=>a.key)
def wi:List aE->Prop:=List.Pairwise λa b=>a.cmp b<0
def tA:Nat->List aE->List aE->List aE|0,a,b=>a++b|_+1,[],b=>b|_+1,a,[]=>a|n+1,x::a,y::b=>bif aA 0 (x.cmp y)then y::tA n (x::a) b else x::tA n a (y::b)
theorem LN{b:List aE}:∀{n:Nat},tA n [] b=b|0=>rfl|_+1=>rfl
theorem U2{a:List aE}:∀{n:Nat},tA n a []=a|0=>jQ a|_+1=>by cases a<;>rfl
theorem P2(p q:aE->Bool)(d:∀x,p x=V->q x=C):∀(l:List aE)(n:Nat),wi l->(l.filter p).length+(l.filter q).length<=n->tA n (l.filter p) (l.filter q)=l.filter λx=>p x||q x
 |[],n,_,_=>LN|x::l,n,h,a=>by
  have j:wi l:=(List.pairwise_cons.1 h).2;have m:=(List.pairwise_cons.1 h).1;have k:∀(r:aE->Bool)(y:aE)(t:List aE),l.filter r=y::t->x.cmp y<0:=λr y t e=>by
   have:y∈l.filter r:=by rw[e];exact gK
   exact m y (List.mem_filter.1 this).1
  cases b:p x with|true=>have c:=d x b;simp only[tN,b,c,if_true,Nl,Gr,if_false]at a|-;cases n with|zero=>simp at a|succ n=>have i:=P2 p q d l n j (by simp only[dE]at a;omega);cases g:l.filter q with|nil=>rw[g,U2]at i;rw[U2,i]|cons y t=>
   rw[g]at i;have o:=k q y t g;have:aA 0 (x.cmp y)=C:=by rw[fQ,qj];omega
   show(bif aA 0 (x.cmp y)then _ else _)=_;rw[this,bS,i]|false=>cases c:q x with|false=>simp only[tN,b,c,Bool.or_self,Gr,if_false]at a|-;exact P2 p q d l n j a|true=>simp only[tN,b,c,if_true,Bool.or_true,Gr,if_false]at a|-;cases n with|zero=>simp at a|succ n=>have i:=P2 p q d l n j (by simp only[dE]at a;omega);cases f:l.filter p with|nil=>rw[f,LN]at i;rw[LN,i]|cons y t=>
   rw[f]at i;have o:=k p y t f;have:aA 0 (y.cmp x)=V:=by rw[fQ,gZ,ZQ.neg];omega
   show(bif aA 0 (y.cmp x)then _ else _)=_;rw[this,aR,i]
theorem agN(a b:aE):CC 44 [a.d,b.d] (vI (a.cmp b)):=by
 have c:=agR a.key b.key;have h:=Fh [ir a.q b.q,a.key.cmp b.key] C (by show 2<_;omega);simp only[zy,fS,eG]at h;have hd:=aou;simp only[bw,opsOf,f44,go_sem]at hd;simp only[ct.d,ct.cells]at c;have e:wW [ir a.q b.q,a.key.cmp b.key]=a.cmp b:=by unfold wW wW wW aE.cmp;cases aj (ir a.q b.q) 0 with|false=>rfl|true=>show(bif aj (a.key.cmp b.key) 0 then 0 else a.key.cmp b.key)=a.key.cmp b.key;cases h:aj (a.key.cmp b.key) 0 with|false=>rfl|true=>exact(uR h).symm
 rw[e]at h;refine aP func44 ?_;simp only[go_sem,f44,aE.d,aE.cells,hd,Af,c,h]
structure RG where
 out:List aE
 na:Bool
 a:List aE
 nb:Bool
 b:List aE
theorem aCE(S T:Bool)(a j:List aE)(g:GH)(h:a.length+j.length<1100000):ev PP cf (.call 43 [bP S (a.map aE.d) 49 8,bP T (j.map aE.d) 49 8,.func 44 [] []] .no g)=J (.val (fU ((tA (a.length+j.length) a j).map aE.d) 49 8) g):=by
 have d3:=aor;have d4:=aos;have d5:=aot;simp only[bw,opsOf,f43,go_sem]at d3 d4 d5;refine aP func43 ?_;simp only[go_sem,f43];have v:∀n:Nat,(0<n+1)=True:=λn=>iT (Nat.succ_pos n);have q:∀n:Nat,aA 0 (.ofNat (n+1))=V:=λn=>by rw[fQ,gZ];exact Int.ofNat_lt.2 (Nat.succ_pos n)
 have cV:∀(x:DV)(l:aq),n8 PP 27 (.ay (x::l) 49 8) (J (.int .i64 1)) Z Z=J (.ay l 49 8,.no):=λx l=>by unfold n8;simp only[Proofs.Tryz.underlying27,show aZ PP 49=J 8 from by rfl,cQ];have:br 1 (x::l).length=V:=nH aO;show(Option.map (λF=>(DV.ay (List.drop F (List.take (x::l).length (x::l))) 49 8,aM.no)) (bif br 1 (x::l).length then J 1 else Z))=_;rw[this,AL];rfl
 have G:∀(l w:List aE),l.length+w.length<1100000->fB 49 8 120 (.ay (l.map aE.d) 49 8) (.ex 49) (w.map aE.d)=J (.ay (l.map aE.d++w.map aE.d) 49 8,.ex 49):=λl w N=>qg eY (by simp[bl];omega) (by simp[bl];omega);have B:∀l:List aE,(l.map aE.d).all (λy=>decide (y.flat.length=8))=V:=λl=>by simp[aE.rj,aE.re]
 have H:fB 49 8 120 .nl .any []=J (.nl,.any):=rfl;have Q:∀(y:aE)(l:List aE),l.length<1100000->fB 49 8 120 .nl .any ((y::l).map aE.d)=J (.ay ((y::l).map aE.d) 49 8,.ex 49):=λy l N=>by have q1:br (((y::l).map aE.d).length*120) bl=V:=nH (by simp[bl];omega);have q2:br ((y::l).map aE.d).length bl=V:=nH (by simp[bl];omega);show(bif br (((y::l).map aE.d).length*120) bl&&br ((y::l).map aE.d).length bl then _ else Z)=_;rw[q1,q2];rfl
 have x0:∀L:aq,L.length<1100000->fB 49 8 120 (.ay L 49 8) (.ex 49) []=J (.ay L 49 8,.ex 49):=λL N=>by have:=qg (e:=49) (n:=8) (b:=120) (l:=L) (new:=[]) eY (by simp[bl];omega) (by simp[bl];omega);rwa[jQ]at this
 refine PU (lW (a.length+j.length) ()) (⟨[],S,a,T,j⟩:RG) (λi s=>⟨43,46,[(0,.dv (bP s.na (s.a.map aE.d) 49 8) .no),(7,fU (s.out.map aE.d) 49 8),(1,.dv (bP s.nb (s.b.map aE.d) 49 8) .no),(2,.dv (.func 44 [] []) .no)],[],g⟩) (λi _ s=>.val (fU ((s.out++tA (a.length+j.length-i) s.a s.b).map aE.d) 49 8) g) (λi _ s=>i+s.a.length+s.b.length=a.length+j.length/\s.out.length=i) (by rw[v8];omega) rfl ⟨aO,rfl⟩ rfl (λs I=>?_) (λi x l s M hx hw I O=>?_);.obtain⟨out,U,d,P,c⟩:=s;obtain⟨f,p⟩:=I;simp only[v8]at f p;obtain rfl:d=[]:=List.length_eq_zero_iff.1 ab;obtain rfl:c=[]:=List.length_eq_zero_iff.1 ab;rw[v8];have e2:∀n,tA n ([]:List aE) []=[]:=λn=>LN;cases out with|nil=>simp only[go_sem,eG,zl,e2,jQ,gE,H]|cons z out=>have A:fU ((z::out).map aE.d) 49 8=.dv (.ay ((z::out).map aE.d) 49 8) (.ex 49):=rfl;have sa:=x0 ((z::out).map aE.d) (by rw[fZ];omega);rw[e2,jQ,A];generalize(z::out).map aE.d=L at*;simp only[go_sem,eG,gE,nG,sa]
 .obtain⟨out,U,d,P,c⟩:=s;obtain⟨f,p⟩:=I;simp only at f p;rw[v8]at M;have gO:=mT M;obtain⟨n,u⟩:∃n,a.length+j.length-i=n+1:=⟨a.length+j.length-i-1,ab⟩;have sj:a.length+j.length-(i+1)=n:=ab;cases d with
 |nil=>rw[u,LN];cases c with
  |nil=>cases out with|nil=>simp only[go_sem,eG,zl,jQ,gE,H]|cons z out=>have A:fU ((z::out).map aE.d) 49 8=.dv (.ay ((z::out).map aE.d) 49 8) (.ex 49):=rfl;have sa:=x0 ((z::out).map aE.d) (by rw[fZ];omega);rw[jQ,A];generalize(z::out).map aE.d=L at*;simp only[go_sem,eG,gE,nG,sa]
  |cons y c=>cases out with|nil=>have A:fU (([]++y::c).map aE.d) 49 8=.dv (.ay ((y::c).map aE.d) 49 8) (.ex 49):=rfl;have o:=Q y c (by simp at f;omega);have r:=B (y::c);rw[A];have E:bP P ((y::c).map aE.d) 49 8=.ay ((y::c).map aE.d) 49 8:=rfl;rw[E];generalize(y::c).map aE.d=L at*;simp only[go_sem,eG,zl,gE,nG,H,o,r]|cons z out=>
  have A:fU ((z::out).map aE.d) 49 8=.dv (.ay ((z::out).map aE.d) 49 8) (.ex 49):=rfl;have D:fU (((z::out)++y::c).map aE.d) 49 8=.dv (.ay ((z::out).map aE.d++(y::c).map aE.d) 49 8) (.ex 49):=by rw[qb];rfl
  have sa:=x0 ((z::out).map aE.d) (by rw[fZ];omega);have o:=G (z::out) (y::c) (by simp at f p|-;omega);have r:=B (y::c);have E:bP P ((y::c).map aE.d) 49 8=.ay ((y::c).map aE.d) 49 8:=rfl;rw[A,D,E];generalize(y::c).map aE.d=R at*;generalize(z::out).map aE.d=L at*;simp only[go_sem,eG,gE,nG,sa,o,r]
 |cons x d=>cases c with
  |nil=>rw[u,U2];have r:=B (x::d);have E:bP U ((x::d).map aE.d) 49 8=.ay ((x::d).map aE.d) 49 8:=rfl;have K:((x::d).map aE.d).length=d.length+1:=aO;cases out with|nil=>have A:fU (([]++x::d).map aE.d) 49 8=.dv (.ay ((x::d).map aE.d) 49 8) (.ex 49):=rfl;have o:=Q x d (by simp at f;omega);have sa:=x0 ((x::d).map aE.d) (by simp at f|-;omega);rw[A,E];generalize(x::d).map aE.d=R at*;simp only[go_sem,eG,zl,K];refine FW (q _) ?_;simp only[go_sem,q,gE,nG,sa,o,r]|cons z out=>
  have A:fU ((z::out).map aE.d) 49 8=.dv (.ay ((z::out).map aE.d) 49 8) (.ex 49):=rfl;have D:fU (((z::out)++x::d).map aE.d) 49 8=.dv (.ay ((z::out).map aE.d++(x::d).map aE.d) 49 8) (.ex 49):=by rw[qb];rfl
  have o:=G (z::out) (x::d) (by simp at f p|-;omega);have sa:=x0 ((z::out).map aE.d++(x::d).map aE.d) (by simp at f p|-;omega);rw[A,D,E];generalize(x::d).map aE.d=R at*;generalize(z::out).map aE.d=L at*;simp only[go_sem,eG,K];refine FW (q _) ?_;simp only[go_sem,q,gE,nG,sa,o,r]
  |cons y c=>have e1:=agN x y;have e2:tA (n+1) (x::d) (y::c)=bif aA 0 (x.cmp y)then y::tA n (x::d) c else x::tA n d (y::c):=rfl;have sa:=G out [x] (by simp at f|-;omega);have o:=G out [y] (by simp at f|-;omega);simp only[aE.d,aE.cells]at e1;have X:i+1+d.length+(y::c).length=a.length+j.length/\(out++[x]).length=i+1:=⟨by simp only[dE]at f|-;omega,by rw[gJ,p];rfl⟩;have Y:i+1+(x::d).length+c.length=a.length+j.length/\(out++[y]).length=i+1:=⟨by simp only[dE]at f|-;omega,by rw[gJ,p];rfl⟩;have k:=O (RG.mk (out++[x]) C d P (y::c)) X;have m:=O (RG.mk (out++[y]) U (x::d) C c) Y;simp only[sj,tM,lC,jF,fS,zy,SP,aE.d,aE.cells]at k m;rw[qb,fS,eG,NA]at k m;simp only[aE.d,aE.cells]at k m;cases out with
  |nil=>
  simp only[go_sem,eG,zl,fS,zy,dE,aE.d,aE.cells,u,e2,jF];refine FW (q _) ?_;simp only[go_sem,q,d3,e1];apply sp<;>intro h;.simp only[h,go_sem,d5,cV,v];exact m
  .simp only[h,go_sem,d4,cV,v];exact k|cons z out=>
  have A:fU ((z::out).map aE.d) 49 8=.dv (.ay ((z::out).map aE.d) 49 8) (.ex 49):=rfl;have sa:fB 49 8 120 (.ay ((z::out).map aE.d) 49 8) (.ex 49) [x.d]=J (.ay ((z::out).map aE.d++[x.d]) 49 8,.ex 49):=G (z::out) [x] (by simp only[dE,gE]at f p|-;omega);have o:fB 49 8 120 (.ay ((z::out).map aE.d) 49 8) (.ex 49) [y.d]=J (.ay ((z::out).map aE.d++[y.d]) 49 8,.ex 49):=G (z::out) [y] (by simp only[dE,gE]at f p|-;omega);have W:∀t,fU (((z::out)++t).map aE.d) 49 8=.dv (.ay ((z::out).map aE.d++t.map aE.d) 49 8) (.ex 49):=λt=>by rw[qb];rfl
  simp only[A,W]at k m|-;generalize(z::out).map aE.d=L at*;simp only[aE.d,aE.cells]at sa o;simp only[go_sem,fS,zy,dE,aE.d,aE.cells,u,e2];refine FW (q _) ?_;simp only[go_sem,q,d3,e1];apply sp<;>intro h;.simp only[h,go_sem,d5,cV,v,o];exact m
  .simp only[h,go_sem,d4,cV,v,sa];exact k
theorem bK.dd(o:bK):o.d=.agg [cL o.marks,ki o.keys]:=rfl
def L8(l:List aE):List (Nat×aM):=match l with|[]=>[]|_=>[(1,.ex 49)]
def PF(l:List bK)(M:DV)(i:Nat)(o:List aE):St:=⟨24,69,[(19,iS i),(4,.lp 4 0),(17,.dv (.ay (l.map bK.d) 29 2) .no),(2,.lp 2 0),(18,iS l.length)],[(4,⟨[M,oz o],L8 o⟩),(2,⟨[.nl,.nl],[]⟩)],.empty⟩
theorem RM(b:List aE):fU (b.map aE.d) 49 8=.dv .nl .any/\oz b=.nl/\L8 b=[]\/∃L,fU (b.map aE.d) 49 8=.dv (.ay L 49 8) (.ex 49)/\oz b=.ay L 49 8/\L8 b=[(1,.ex 49)]/\cA L=V:=by cases b with|nil=>exact .inl ⟨rfl,rfl,rfl⟩|cons a b=>exact .inr ⟨_,rfl,rfl,rfl,Qk (l:=a::b)⟩
def PG(M:DV)(F:List aE)(i:Nat)(w:List (Nat×aM)):St:=⟨24,69,[(2,.lp 2 0),(10,iS (i+1)),(4,.lp 4 0)],[(2,⟨[.nl,.nl],[]⟩),(4,⟨[M,oz F],w⟩)],.empty⟩
theorem aB2(a:bK)(l:List bK)(E:l[0]?=J a)(f:Nat->List aE)(hn:l.length<1000)(hm:a.marks.l.length<1100000)(W:f 0=[])(Q:∀i op,l[i]?=J op->tA ((f i).length+op.keys.l.length) (f i) op.keys.l=f (i+1)/\(f i).length+op.keys.l.length<1100000)(hx:∀op∈l,∀x∈op.keys.l,x.e.cp)(ha:wi (f l.length))(hl:(f l.length).length<=256):de (λr=>∃g,r=.val (.tp [(.agg [cL a.marks,oz (f l.length)],.no),iO 0]) g) (ev PP cf (.call 24 [.ay (l.map bK.d) 29 2] .no .empty)):=by obtain⟨om,yd,e1⟩:=cpI a.marks hm;have d16:=an6;simp only[bw,opsOf,f24,go_sem]at d16;simp only[cL]at e1;have hz:(0<l.length)=True:=iT (List.getElem?_eq_some_iff.1 E).1;refine ic func24 ?_;rcases yd with rfl|⟨_,rfl⟩;all_goals
 simp only[go_sem,f24,bK.d,bK.cells,cL,ki,E,e1];refine pA l () (λi _=>PF l (cL a.marks) i (f i)) (λ_ _ _=>True) ab (by rw[W];rfl) trivial (λ_ _=>?_) (λi x l _ d k P _ b=>?_);.simp only[PF,go_sem,cL];generalize f l.length=F at*;cases F with|nil=>simp only[show oz []=.nl from rfl,show L8 []=[]from rfl];refine Mu ?_;simp only[go_sem];refine Ds rfl ?_;simp only[go_sem];refine Ds rfl ?_;simp only[go_sem,bW];exact⟨_,rfl⟩|cons c cs=>
   have n:oz (c::cs)=.ay ((c::cs).map aE.d) 49 8:=rfl;have o:(c::cs).length=cs.length+1:=rfl;have hO:L8 (c::cs)=[(1,.ex 49)]:=rfl;generalize c::cs=D at*;refine pA (lW cs.length ()) [(1,.ex 49)] (PG (cL a.marks) D) (λ_ _ w=>w=[(1,.ex 49)]\/w=[(1,.ty 49)]) (by rw[v8];omega) (by rw[hO];rfl) (.inl rfl) (λw I=>?_) (λi x l w d k P I b=>?_)
   . have u:aA 256 (.ofNat D.length)=C:=by rw[fQ,qj];exact Int.not_lt.2 (Int.ofNat_le.2 hl)
     rw[v8];rcases I with rfl|rfl;all_goals simp only[PG,go_sem,cL,n,<-o];refine Ds u ?_;simp only[go_sem,bW];exact⟨_,rfl⟩
   . rw[v8]at d;have gO:=mT d;obtain⟨p,N⟩:∃p,D[i]?=J p:=⟨_,dD ab⟩;obtain⟨q,O⟩:∃q,D[i+1]?=J q:=⟨_,dD ab⟩;have e4:=agN p q;have bU:p.cmp q<0:=by obtain⟨_,e1⟩:=List.getElem?_eq_some_iff.1 N;obtain⟨_,e2⟩:=List.getElem?_eq_some_iff.1 O;rw[<-e1,<-e2];exact List.pairwise_iff_getElem.1 ha i (i+1) _ _ (GI i)
     have S:aj (p.cmp q) 0=C:=by rw[jU,qj];omega
     have ry:(i+1<D.length)=True:=iT ab;have sb:=sub_succ i ab;have w2:dI .i64 (jP (di (i+1)) 1)=di (i+1+1):=uL ab;simp only[aE.d,aE.cells]at e4;have b:=b [(1,.ty 49)] (.inr rfl);simp only[PG,go_sem,cL,n]at b;rcases I with rfl|rfl;all_goals simp only[PG,go_sem,cL,n,ry,N,O,aE.d,aE.cells,d16,sb,e4,S,G3,w2];exact b
 . have b:=b () trivial;simp only[PF,go_sem,cL]at b;simp only[PF,go_sem,d,k,cL,ki,bK.d,bK.cells];rw[Cf];obtain⟨v,U⟩:=Q i x k;have e9:=aCE V V (f i) x.keys.l .empty U;rw[v]at e9;have A:=hx x (dw k);refine UT x.keys.l (λj=>[(26,iS j),(7,fU ((x.keys.l.take j).map aE.d) 49 8)]) (λ_=>True) ab rfl trivial (λ_=>?_) (λj y t e T _ h=>?_);.rw[AL];have hK:bP V (x.keys.l.map aE.d) 49 8=oz x.keys.l:=rfl;have Y:bP V ((f i).map aE.d) 49 8=oz (f i):=rfl;rw[hK,Y]at e9;rcases RM (f i)with⟨_,m,B⟩|⟨L1,_,m,B,a3⟩<;>rcases RM x.keys.l with⟨G,H,_⟩|⟨L2,G,H,_,b3⟩<;>rcases RM (f (i+1))with⟨K,M,c3⟩|⟨L3,K,M,c3,_⟩;all_goals rw[m,H,K]at e9;rw[M,c3]at b;rw[m,B,G];simp only[go_sem,e9,P,G3];exact b
   .have h:=h trivial;have pS:=mT t;obtain⟨g4,e4⟩:=agM y (A y (dw e));rw[List.take_add_one,e,Option.toList_some,qb,fS,eG,NA]at h;simp only[go_sem]at h;simp only[aE.d,aE.cells]at e4;cases s:x.keys.l.take j with|nil=>rw[s]at h;simp only[go_sem,eG,zl,t,e,aE.d,aE.cells,e4,T];exact h|cons z zs=>
     have R:(z::zs).length<=x.keys.l.length:=by rw[<-s,qa];omega
     have sa:fB 49 8 120 (.ay ((z::zs).map aE.d) 49 8) (.ex 49) [y.d]=J (.ay ((z::zs).map aE.d++[y.d]) 49 8,.ex 49):=qg eY (by rw[fZ];simp[bl]at*;omega) (by rw[fZ];simp[bl]at*;omega);have X:fU ((z::zs).map aE.d) 49 8=.dv (.ay ((z::zs).map aE.d) 49 8) (.ex 49):=rfl;rw[s]at h;rw[X];generalize(z::zs).map aE.d=L at*;simp only[aE.d,aE.cells]at sa;simp only[go_sem,t,e,aE.d,aE.cells,e4,sa,T];exact h
set_option maxHeartbeats 1000000
theorem aBU(w:Int)(h:1<=w/\w<=8):CC 20 [iD w] (vI 0):=by
 have a:aA w 1=C:=by rw[fQ,qj];omega
 have b:aA 8 w=C:=by rw[fQ,qj];omega
 refine aP func20 ?_;simp only[go_sem,f20];rw[a,bS];all_goals try show jO PP cf (ev PP cf) _=_
 all_goals simp only[go_sem]
 refine I' b ?_;simp only[go_sem]
def Vu(n:Bool)(l:List bK):DV:=bP n (l.map bK.d) 29 2
theorem aBX(n:Bool)(l:List bK)(h:1<=l.length/\l.length<=8):CC 23 [Vu n l] (vB V):=by
 have a:aA (.ofNat l.length) 1=C:=by rw[fQ,qj];exact Int.not_lt.2 (Int.ofNat_le.2 h.1)
 have b:aA 8 (.ofNat l.length)=C:=by rw[fQ,qj];exact Int.not_lt.2 (Int.ofNat_le.2 h.2)
 refine aP func23 ?_;simp only[go_sem,f23,Vu];rw[a,bS];all_goals try show jO PP cf (ev PP cf) _=_
 all_goals simp only[go_sem,b,vU]
set_option maxHeartbeats 4000000
theorem aDS(l:List bK):Vu C l=.ay (l.map bK.d) 29 2:=SP
def pX(o:bK)(w:Nat):List bK:=(tO w).map λj=>⟨o.marks,⟨V,prt o w o.keys.l.length j⟩⟩
theorem nv7(p:dA)(o:bK)(w:Nat)(h:1<=w/\w<=8)(n:Int)(a:∃g,CC 5 [p.d,o.d] (.val (.dv (iD 0) .no) g))(m:o.marks.l.length<1100000)(k:o.keys.l.length<1100000)(c:∀x∈o.keys.l,x.e.cp/\rQ x.key.k x.key.n x.key.s=0/\x.key.s.length<1050000):de (λr=>∃g,r=.val (.tp [(.ay ((pX o w).map bK.d) 29 2,.no),iO 0]) g) (ev PP cf (.call 7 [p.d,o.d,.int .i64 (.ofNat w)] .no .empty)):=by
 obtain⟨g5,e5⟩:=a;have e6:=aBU (.ofNat w) ⟨Int.ofNat_le.2 h.1,Int.ofNat_le.2 h.2⟩;obtain⟨r,e7,g7,rfl⟩:=aBV o w h m k c;have e7:CC 21 [o.d,.int .i64 (.ofNat w)] (.val (.dv (.ay ((pX o w).map bK.d) 29 2) .no) g7):=by show ev PP cf _=_;rw[e7];unfold pX;rw[List.map_map];rfl
 have b:cA ((pX o w).map bK.d)=V:=Ql;generalize(pX o w).map bK.d=L at*;simp only[dA.d,dA.cells,bK.d,bK.cells,cC,cL]at e5 e7;refine ic func7 ?_;simp only[go_sem,f7,dA.d,dA.cells,bK.d,bK.cells,cC,cL,e5,e6,e7,b,bW];exact⟨_,rfl⟩
theorem Z4:∀l:cE,kr aj l l=V:=by intro l;induction l with|nil=>rfl|cons a l i=>simp[kr,ud,i]
theorem nv8(p:dA)(a:bK)(l:List bK)(E:l[0]?=J a)(f:Nat->List aE)(w:l.length<=8)(v:a.marks.l.length<1100000)(m:f 0=[])(d:∀i op,l[i]?=J op->tA ((f i).length+op.keys.l.length) (f i) op.keys.l=f (i+1)/\(f i).length+op.keys.l.length<1100000)(A:∀op∈l,∀x∈op.keys.l,x.e.cp)(q:wi (f l.length))(u:(f l.length).length<=256)(K:∃t o g,t.pure=V/\CC 22 [p.d] (.val (.tp [(t,o),iO 0]) g))(h:∀op∈l,op.marks.l=a.marks.l/\∃g,CC 5 [p.d,op.d] (.val (.dv (iD 0) .no) g)):de (λr=>∃g,r=.val (.tp [(.agg [cL a.marks,oz (f l.length)],.no),iO 0]) g) (ev PP cf (.call 8 [p.d,.ay (l.map bK.d) 29 2] .no .empty)):=by
 obtain⟨t,o,g,y,N⟩:=K;obtain⟨r,b,j,rfl⟩:=aB2 a l E f ab v m d A q u;have e:=aBX C l ⟨(List.getElem?_eq_some_iff.1 E).1,w⟩;rw[aDS]at e;have L:cA (l.map bK.d)=V:=Ql;have d12:=aoF;simp only[bw,opsOf,f8,go_sem]at d12;have D:(0<l.length)=True:=iT (List.getElem?_eq_some_iff.1 E).1;simp only[dA.d,dA.cells,cC]at N h;refine ic func8 ?_;simp only[go_sem,f8,dA.d,dA.cells,cC,N,e,y,L];refine tx l (λi=>[(26,iS i)]) ab rfl ?_ (λi x s k z c=>?_);.have n:(oz (f l.length)).pure=V:=pC Qk;have B:(oz (f l.length)).flat=[oz (f l.length)]:=D8;simp only[cL]at b;generalize oz (f l.length)=F at*;simp only[go_sem,b,L,n,bW];exact⟨_,rfl⟩
 .obtain⟨H,g5,e5⟩:=h x (dw k);have wv:=Cr x.marks a.marks (by rw[H];omega);rw[H,Z4]at wv;simp only[cL,bK.d,bK.cells]at e5 wv;simp only[go_sem]at c;simp only[go_sem,s,k,bK.d,bK.cells,cL,e5,d12,E,wv,z,c]
theorem afu{f:aE->Int}:∀(l:List aE)(p:aE),Bs f (J p) l=0↔(∀x∈l,f x=0)/\wi (p::l)
 |[],p=>⟨λ_=>⟨λx h=>absurd h mA,List.pairwise_singleton _ _⟩,λ_=>rfl⟩|x::l,p=>by
  have i:=afu (f:=f) l x;show(bif aj (f x) 0 then(bif !aA (p.cmp x) 0 then 14 else Bs f (J x) l)else f x)=0↔_;rw[jU,fQ];by_cases d:f x=0
  . by_cases e:p.cmp x<0
    . simp only[d,e,dM,aR,xk,bS];rw[i];refine⟨λ⟨a,b⟩=>⟨λy c=>?_,?_⟩,λ⟨a,b⟩=>⟨λy c=>a y (kG _ c),(List.pairwise_cons.1 b).2⟩⟩
      . rcases List.mem_cons.1 c with rfl|c;.exact d
        .exact a y c
      . refine List.pairwise_cons.2 ⟨λy c=>?_,b⟩;rcases List.mem_cons.1 c with rfl|c;.exact e
        .exact ZQ.tr _ _ _ e ((List.pairwise_cons.1 b).1 y c)
    .simp only[d,e,dM,kM,aR,vU];refine⟨(λh=>by cases h),λ⟨_,b⟩=>absurd ((List.pairwise_cons.1 b).1 x gK) e⟩
  .simp only[d,kM,bS];exact⟨λh=>h.elim,λ⟨a,_⟩=>d (a x gK)⟩
theorem afv{c:aE->Int}(l:List aE):Bs c Z l=0↔(∀x∈l,c x=0)/\wi l:=by cases l with|nil=>exact⟨λ_=>⟨λx h=>absurd h mA,List.Pairwise.nil⟩,λ_=>rfl⟩|cons x l=>
 have i:=afu (f:=c) l x;show(bif aj (c x) 0 then(bif C then 14 else Bs c (J x) l)else c x)=0↔_;rw[jU];by_cases e:c x=0
 . simp only[e,dM,aR,bS];rw[i];refine⟨λ⟨a,b⟩=>⟨λy d=>?_,b⟩,λ⟨a,b⟩=>⟨λy d=>a y (kG _ d),b⟩⟩;rcases List.mem_cons.1 d with rfl|d;.exact e
   .exact a y d
 .simp only[e,kM,bS];exact⟨λh=>h.elim,λ⟨a,_⟩=>e (a x gK)⟩
structure ajr(f:aE->Int)(o:bK):Prop where
 m:1<=o.marks.l.length/\o.marks.l.length<=8
 k:o.keys.l.length<=256
 f:∀x∈o.keys.l,f x=0
 a:wi o.keys.l
theorem aba{f:aE->Int}{o:bK}(h:jc f o.marks o.keys=0):ajr f o/\∀k:Sl aE,k.l.length<=256->(∀x∈k.l,f x=0)->wi k.l->jc f o.marks k=0:=by unfold jc at h;cases c:(bif aA (.ofNat o.marks.l.length) 1 then V else aA 8 (.ofNat o.marks.l.length))with|true=>rw[c]at h;cases h|false=>cases e:o.marks.l.any IA with|true=>rw[c,e]at h;cases h|false=>cases g:aA 256 (.ofNat o.keys.l.length)with|true=>rw[c,e,g]at h;cases h|false=>
 rw[c,e,g]at h;obtain⟨a,b⟩:=(afv _).1 h;refine⟨⟨?_,?_,a,b⟩,λk k1 k2 k3=>?_⟩;.cases d:aA (.ofNat o.marks.l.length) 1 with|true=>rw[d]at c;cases c|false=>rw[d,bS]at c;rw[fQ,qj]at c d;simp only[vY]at c d;omega
 .rw[fQ,qj]at g;simp only[vY]at g;omega
 . unfold jc;have d:aA 256 (.ofNat k.l.length)=C:=by rw[fQ,qj];simp only[vY];omega
   rw[c,e,d];exact(afv _).2 ⟨k2,k3⟩
theorem ak0{q:aE->Bool}{l:List aE}(h:wi l):wi (l.filter q):=List.Pairwise.filter q h
def oG(o:bK)(w i:Nat):List aE:=o.keys.l.filter λx:aE=>decide (x.key.oo (w:Int)<.ofNat i)
theorem De(o:bK)(w j:Nat):prt o w o.keys.l.length j=o.keys.l.filter λx:aE=>decide (x.key.oo (w:Int)=(j:Int)):=by unfold prt;rw[AL]
theorem ads{o:bK}(h:∀x∈o.keys.l,0<=x.key.oo w):oG o w 0=[]:=by unfold oG;rw[List.filter_eq_nil_iff];intro x a;have:=h x a;simp only[gZ,vY];omega
theorem asO{o:bK}(h:∀x∈o.keys.l,x.key.oo w<w):oG o w w=o.keys.l:=by unfold oG;rw[List.filter_eq_self];intro x a;rw[gZ];exact h x a
theorem ahd{o:bK}{i:Nat}:(λx:aE=>decide (x.key.oo (w:Int)<.ofNat i)||decide (x.key.oo (w:Int)=(i:Int)))=λx:aE=>decide (x.key.oo (w:Int)<.ofNat (i+1)):=by funext x;rw[Bool.eq_iff_iff];simp only[yU,gZ,vY];omega
theorem aAv{a:bK}{i:Nat}(h:wi a.keys.l):tA ((oG a w i).length+(prt a w a.keys.l.length i).length) (oG a w i) (prt a w a.keys.l.length i)=oG a w (i+1):=by rw[De];unfold oG;rw[P2 (λx:aE=>decide (x.key.oo (w:Int)<.ofNat i)) (λx:aE=>decide (x.key.oo (w:Int)=(i:Int))) (λx b=>by rw[gZ]at b;rw[qj];simp only[vY]at b;omega) a.keys.l _ h (bJ _)];rw[ahd (o:=a)]
theorem aaU(p q:aE->Bool)(d:∀x,p x=V->q x=C):∀l:List aE,oY (l.filter p)+oY (l.filter q)=oY (l.filter λx=>p x||q x)|[]=>rfl|x::l=>by have i:=aaU p q d l;cases h:p x with|true=>have a:=d x h;simp only[tN,h,a,if_true,Nl,Gr,if_false,oY];omega|false=>cases a:q x with|true=>simp only[tN,h,a,if_true,Bool.or_true,Gr,if_false,oY];omega|false=>simp only[tN,h,a,Bool.or_self,Gr,if_false];exact i
theorem alU{a:bK}{i:Nat}:oY (oG a w i)+oY (prt a w a.keys.l.length i)=oY (oG a w (i+1)):=by rw[De];unfold oG;rw[aaU (λx:aE=>decide (x.key.oo (w:Int)<.ofNat i)) (λx:aE=>decide (x.key.oo (w:Int)=(i:Int))) (λx h=>by rw[gZ]at h;rw[qj];simp only[vY]at h;omega),ahd (o:=a)]
set_option maxHeartbeats 1000000
theorem k6:cf.fk 6=0:=by rfl
theorem p6:cf.eQ 6=V:=by rfl
attribute[go_sem]k6 p6
theorem ev6(g:GH):ev PP cf (.call 6 [] .no g)=J (.val (.dv (.bool V) .no) g):=Cs rfl rfl
theorem cv6{g:GH}{k:SV->GH->ah α}:kb cf (ev PP cf) 6 [] .no g k=k (.dv (.bool V) .no) g:=by rw[aa0 p6 rfl,ev6];rfl
attribute[go_sem]cv6
set_option maxHeartbeats 4000000
structure Rw(p:dA)(o:bK):Prop where
 hp:DT p
 hf:p.ok
 ho:Nt o
 hz:o.sz
 hx:∀x∈o.keys.l,x.e.cp/\x.key.s.length<1050000
theorem aaT:∀{l:List aE},(∀x∈l,x.e.held.l.length+x.e.wait.l.length<1100000)->oY l<=l.length*1100000|[],_=>bJ _|x::l,h=>by have b:=h x gK;have c:=aaT λy a=>h y (kG _ a);show x.e.held.l.length+x.e.wait.l.length+oY l<=(l.length+1)*1100000;omega
structure aj2(p:dA)(o:bK)(w:Nat):Prop where
 x:∀x∈o.keys.l,x.e.cp/\rQ x.key.k x.key.n x.key.s=0/\x.key.s.length<1050000
 b:∀x∈o.keys.l,0<=x.key.oo w/\x.key.oo w<w
 m:∀i,tA ((oG o w i).length+(prt o w o.keys.l.length i).length) (oG o w i) (prt o w o.keys.l.length i)=oG o w (i+1)k:o.keys.l.length<=256
 a:wi o.keys.l
 c:∀op∈pX o w,∃g,CC 5 [p.d,op.d] (.val (.dv (iD 0) .no) g)
theorem aIz{p:dA}{o:bK}(D:1<=w/\w<=8)(h:Rw p o){n:Int}(v:aj n 0=V->∀q∈p.qs.l,qe (uA p q))(y:∀o,Nt o->∃g,CC 5 [p.d,o.d] (.val (.dv (iD (yq p n o)) .no) g))(z:aj (yq p n o) 0=V):aj n 0=V/\aj2 p o w:=by
 have b:aj n 0=V:=by cases f:aj n 0 with|true=>rfl|false=>unfold yq at z;rw[f,bS,f]at z;cases z
 have E:jc (C1 p.types (yu p) o.marks) o.marks o.keys=0:=by unfold yq at z;rw[b,aR]at z;exact uR z
 obtain⟨⟨F,G⟩,t,k,d⟩:=(aba E).1;have N:=(aba E).2;have c:∀x∈yu p,qe x/\mB x.query:=λx a=>by obtain⟨q,c,rfl⟩:=List.mem_map.1 a;exact⟨v b q c,h.hp.q q c⟩
 have a:∀x∈o.keys.l,x.e.cp/\rQ x.key.k x.key.n x.key.s=0/\x.key.s.length<1050000:=λx a=>⟨(h.hx x a).1,(aft p.types (yu p) o.marks x c (by unfold yu;rw[fZ];exact h.hp.l) h.ho.m (h.ho.e x a)).1 (by rw[k x a];rfl),(h.hx x a).2⟩;refine⟨b,a,λx u=>?_,λi=>aAv d,t,d,λop m=>?_⟩;.obtain⟨_,r,s⟩:=a x u;exact ajg x.key w (OB x.key r s).1 ab
 . obtain⟨j,A,rfl⟩:=List.mem_map.1 m;have B:∀x∈prt o w o.keys.l.length j,x∈o.keys.l:=λx a=>by rw[De]at a;exact(List.mem_filter.1 a).1
   have l:(prt o w o.keys.l.length j).length<=o.keys.l.length:=by rw[De];exact Np _ _
   have K:Nt ⟨o.marks,⟨V,prt o w o.keys.l.length j⟩⟩:=⟨h.ho.m,by show(prt _ _ _ _).length<_;omega,λx a=>h.ho.e x (B x a)⟩;obtain⟨g,e⟩:=y _ K;have:yq p n ⟨o.marks,⟨V,prt o w o.keys.l.length j⟩⟩=0:=by unfold yq;rw[b,aR];exact N ⟨V,_⟩ (by show(prt _ _ _ _).length<=_;omega) (λx a=>k x (B x a)) (by rw[De];exact ak0 d)
   rw[this]at e;exact⟨g,e⟩
theorem nv3(p:dA)(o:bK)(n:Nat)(hn:n<256)(h:Rw p o):de (λr=>∃g,r=.val (.dv (.bool V) .no) g) (ev PP cf (.call 3 [p.d,o.d,.int .u8 (.ofNat n)] .no .empty)):=by
 obtain⟨r,e4,b,rfl⟩:=nv4 p o h.hf h.hz;obtain⟨n0,k1,⟨t,k2,ow,g2,R⟩,k5⟩:=nv5 p h.hp;obtain⟨g5,e5⟩:=k5 o h.ho;have Y:gG PP .rem 5 (.int .u8 (.ofNat n)) (.int .u8 8)=J (.int .u8 (.ofNat (n%8))):=by rw[aaE rfl];rfl
 have w1:dI .i64 (.ofNat (n%8))=.ofNat (n%8):=vQ ab;have w2:dI .i64 (jP (.ofNat (n%8)) 1)=.ofNat (n%8+1):=uL ab;have q:1<=n%8+1/\n%8+1<=8:=ab;generalize n%8+1=w at*;simp only[dA.d,dA.cells,bK.d,bK.cells,cC,cL]at e4 e5;refine ic func3 ?_;simp only[go_sem,f3,dA.d,dA.cells,bK.d,bK.cells,cC,cL,Y,w1,w2,e4];cases b with|false=>simp only[go_sem,bW];exact⟨_,rfl⟩|true=>
 simp only[go_sem,e5];apply dO<;>intro z;rotate_left;.simp only[z,go_sem,bW];exact⟨_,rfl⟩
 obtain⟨L,S⟩:=aIz q h k1 k5 z;obtain rfl:=k2 L;have d:yq p n0 o=0:=uR z;obtain⟨A,H⟩:=k5 o h.ho;rw[d]at H;obtain⟨r,e7,g7,rfl⟩:=nv7 p o w q 0 ⟨A,H⟩ h.ho.m h.ho.k S.x;have v:(pX o w).length=w:=by simp[pX]
 have B:(pX o w)[0]?=J ⟨o.marks,⟨V,prt o w o.keys.l.length 0⟩⟩:=by unfold pX;rw[jo,DN ab];rfl
 have N:∀i op,(pX o w)[i]?=J op->op=bK.mk o.marks ⟨V,prt o w o.keys.l.length i⟩:=λi op c=>by
   have X:i<w:=by rw[<-v];exact(List.getElem?_eq_some_iff.1 c).1
   unfold pX at c;rw[jo,DN X]at c;exact(bt c).symm
 have G:∀j,∀x∈prt o w o.keys.l.length j,x∈o.keys.l:=λj x a=>by rw[De]at a;exact(List.mem_filter.1 a).1
 have e:∀j,(prt o w o.keys.l.length j).length<=256:=λj=>fX (by rw[De];exact Np _ _) S.k;have f:∀j,(oG o w j).length<=256:=λj=>fX (Np _ _) S.k;have O:oG o w (pX o w).length=o.keys.l:=by rw[v];exact asO λx a=>(S.b x a).2
 obtain⟨r,e8,g8,rfl⟩:=nv8 p ⟨o.marks,⟨V,prt o w o.keys.l.length 0⟩⟩ (pX o w) B (oG o w) ab h.ho.m (ads λx a=>(S.b x a).1) (λi op c=>by obtain rfl:=N i op c;exact⟨S.m i,by have:=e i;have:=f i;show _+(prt _ _ _ _).length<_;omega⟩) (λop d x a=>by obtain⟨j,_,rfl⟩:=List.mem_map.1 d;exact(S.x x (G j x a)).1) (by rw[O];exact S.a) (by rw[O];exact S.k) ⟨_,ow,g2,ahn,by show ev PP cf _=_;rw[R,uR L]⟩ (λop d=>And.intro (by obtain⟨j,_,rfl⟩:=List.mem_map.1 d;rfl) (S.c op d));rw[O]at e8;have e9:=nv9 o o.marks.nl V h.hz;have e9:CC 9 [.agg [cL o.marks,oz o.keys.l],o.d] (vB V):=e9;have wv:=Cr o.marks o.marks (by have:=h.ho.m;omega);rw[Z4]at wv;have G4:=agE o h.hz;have hL:cA ((pX o w).map bK.d)=V:=Ql;have hF:(oz o.keys.l).pure=V:=pC Qk;have hFf:(oz o.keys.l).flat=[oz o.keys.l]:=D8;simp only[dA.d,dA.cells,bK.d,bK.cells,cC,cL]at e7 e8 e9 wv G4;have W:((pX o w).length=w)=True:=iT v;simp only[z,go_sem,e7,e8,hL,hF,W,e9];have P:∀l:List aE,(∀x∈l,x∈o.keys.l)->l.length<=256->oY l<=281600000:=λl h1 h2=>by have:=aaT (l:=l) λx a=>(S.x x (h1 x a)).1.1.2.1;omega
 have Q:∀i,∀x∈oG o w i,x∈o.keys.l:=λi x a=>(List.mem_filter.1 a).1;refine pA (pX o w) (0:Nat) (λi s=>⟨3,123,[(7,iS w),(69,iS i),(12,iS s),(4,.lp 4 0),(67,.dv (.ay ((pX o w).map bK.d) 29 2) .no),(68,iS (pX o w).length)],[(4,⟨[cL o.marks,ki o.keys],[]⟩)],.empty⟩) (λi _ s=>s=oY (oG o w i)) ab rfl (by rw[ads λx a=>(S.b x a).1];rfl) (λs I=>?_) (λi x l s c M lM I u=>?_);.rw[O]at I;subst I;simp only[go_sem,G4,cL,bW];exact⟨_,rfl⟩
 . obtain rfl:=N i x M;have gO:=mT c;have D:bK.sz ⟨o.marks,⟨V,prt o w o.keys.l.length i⟩⟩:=⟨h.hz.1,by show(prt _ _ _ _).length<_;have:=e i;omega,λk hk=>h.hz.2.2 k (G i k hk)⟩;have G5:=agE _ D;have u:=u (oY (oG o w (i+1))) rfl;have lr:=P _ (Q (i+1)) (f (i+1));have T:dI .i64 (jP (.ofNat s) (.ofNat (oY (prt o w o.keys.l.length i))))=.ofNat (oY (oG o w (i+1))):=by rw[I,GN,alU];exact vQ ab
   simp only[bK.d,bK.cells,cL,ki]at G5;simp only[go_sem,cL,ki]at u;simp only[go_sem,c,M,bK.d,bK.cells,cL,ki,wv,G5,T];rw[Cf];refine tx (prt o w o.keys.l.length i) (λj=>[(87,iS j)]) (by have:=e i;omega) rfl ?_ (λj y hj K E m=>?_);.simp only[go_sem,lM];exact u
   . have U:=dw K;obtain⟨_,v1,v2⟩:=S.x y (G i y U);obtain⟨q1,G6⟩:=OB y.key v1 v2;have G7:=agF y.key.xW (.ofNat w) q1 ⟨Int.ofNat_le.2 q.1,Int.ofNat_le.2 q.2⟩;have F:y.key.xW*(.ofNat w)/16=di i:=by rw[De]at U;have:=(List.mem_filter.1 U).2;rw[gZ]at this;exact this
     rw[F]at G7;simp only[ct.d,ct.cells]at G6;simp only[go_sem]at m;simp only[go_sem,hj,K,aE.d,aE.cells,G6,G7,E,m]
theorem aav:qM GU:=⟨eY,eY,λs h=>absurd h mA,λs h=>absurd h mA⟩
theorem aE5{p:dA}(h:DT p)(t:p.types.l.length<1100000):p.ok:=by
 refine⟨t,by have:=h.l;omega,λq a=>?_,?_⟩;.have:=h.q q a;exact ev4 p.types q GU t this.p.a this.p.b this.r this.e aav
 .refine ev4 p.types Mr GU t eY (λq a=>?_) eY (λe b=>absurd b mA) aav;have:nodes Mr.pat=[Mr.pat]:=rfl;rw[this]at a;rw[List.mem_singleton.1 a];decide
structure Lx where
 c:aJ
 e:an
 p:Pl
def lK(L:List Lx):aX:=λid=>L[id]?.map λx=>(x.c,x.e)
def lP(L:List Lx):bc:=λid=>L[id]?.map Lx.p
structure Gy(W:aW)(φ:bc)(x:Lx):Prop where
 n:x.c.length=x.p.len
 o:∃cs fz e1,W.heap[x.p.aY]?=J (.cells cs e1 fz)/\cs.size=x.p.oc/\x.p.base+x.p.len<=x.p.oc/\∀(i:Nat)(a:AV),x.c[i]?=J a->∃c,cs[x.p.base+i]?=J c/\VR φ a c
 s:∀a,a∈x.c->a.aV=V
def Good(W:aW)(L:List Lx):Prop:=0<L.length/\∀(i:Nat)x,L[i]?=J x->Gy W (lP L) x
def N0:ch:=λ_=>Z
theorem LC(L M:List Lx):Ext (lP L) (lP (L++M)):=λid p h=>by unfold lP at h|-;cases a:L[id]? with|none=>rw[a]at h;simp at h|some x=>rw[a]at h;rw[mz (List.getElem?_eq_some_iff.1 a).1,a];exact h
theorem PL(L M:List Lx):bo (lK L) (lK (L++M)):=λid p h=>by unfold lK at h|-;cases a:L[id]? with|none=>rw[a]at h;simp at h|some x=>rw[a]at h;rw[mz (List.getElem?_eq_some_iff.1 a).1,a];exact h
theorem Gy.mono{W:aW}{b d:bc}{x:Lx}(h:Ext b d)(k:Gy W b x):Gy W d x:=by obtain⟨cs,f,e1,e,g,j,l⟩:=k.o;exact⟨k.n,⟨cs,f,e1,e,g,j,λi a m=>let⟨c,g1,g2⟩:=l i a m;⟨c,g1,g2.mono h⟩⟩,k.s⟩
def bZ(W:aW)(s:aq)(c:List aC):Prop:=(∀d,d∈s->d.aV=V)/\∀L,Good W L->∃M v,Good W (L++M)/\bG (lK (L++M)) N0 s v/\ba (lP (L++M)) v c
section
variable{W:aW}
theorem bZ.nil:bZ W [] []:=⟨aO,λL h=>⟨[],[],by simpa using h,bG.nil,ba.nil _⟩⟩
theorem bZ.append{e:aq}{b:List aC}(h:bZ W ds cs)(k:bZ W e b):bZ W (ds++e) (cs++b):=by refine⟨λd hd=>(List.mem_append.1 hd).elim (h.1 d) (k.1 d),λL a=>?_⟩;obtain⟨M,v,g1,g2,g3⟩:=h.2 L a;obtain⟨N,b,k1,k2,k3⟩:=k.2 _ g1;refine⟨M++N,v++b,?_⟩;rw[<-tM];exact⟨k1,(g2.mono (PL _ _) (aU.refl _)).append k2,(g3.mono (LC _ _)).append k3⟩
theorem bZ.one{d:DV}{c:aC}(a:AV)(s:d.aV=V)(h:∀K,DR K N0 d a)(k:∀e,VR e a c):bZ W [d] [c]:=⟨by simpa using s,λL b=>⟨[],[a],by simpa using b,bG.cons (h _) bG.nil,ba.cons (k _) (ba.nil _)⟩⟩
theorem bZ.int(k:fN)(n:Int):bZ W [.int k n] [.int k n]:=bZ.one (.int k n) rfl (λ_=>.int k n) λ_=>.int k n
theorem bZ.str(s:ByteArray):bZ W [.str (s.data.toList.map ka)] [.string s]:=bZ.one (.str _) rfl (λ_=>.str _) λ_=>.str _ s rfl
theorem bZ.nl:bZ W [.nl] [.slice Z 0 0]:=bZ.one .bC rfl (λ_=>.nl) λ_=>.bC
theorem bZ.len(h:bZ W ds cs){L:List Lx}(a:Good W L):ds.length=cs.length:=by obtain⟨M,v,_,g2,g3⟩:=h.2 L a;exact g2.1.trans g3.1
theorem bZ.at{e:aq}(o n:Nat)(h:bZ W ds ((cs.drop o).take n))(k:bZ W e (cs.drop (o+n))):bZ W (ds++e) (cs.drop o):=by have:=h.append k;rw[<-DL,GC]at this;exact this
theorem bZ.end(o:Nat)(h:cs.length=o):bZ W [] (cs.drop o):=by rw[List.drop_of_length_le ab];exact bZ.nil
theorem bZ.row{f:Nat->aq}{g:Nat->List aC}:∀n,(∀i,i<n->bZ W (f i) (g i))->bZ W ((tO n).flatMap f) ((tO n).flatMap g)|0,_=>bZ.nil|n+1,h=>by rw[List.range_succ,List.flatMap_append,List.flatMap_append];refine(bZ.row n λi a=>h i ab).append ?_;simpa using h n (GI n)
theorem YJ{g:Type}{f:Nat->List g}{k:Nat}:∀(n:Nat),(∀i,i<n->(f i).length=k)->((tO n).flatMap f).length=n*k/\∀i j,i<n->j<k->((tO n).flatMap f)[i*k+j]?=(f i)[j]?
 |0,_=>⟨aO,λi j h=>ab⟩|n+1,h=>by
  obtain⟨a,b⟩:=YJ n λi c=>h i ab;rw[List.range_succ,List.flatMap_append,List.flatMap_singleton];refine⟨by rw[gJ,a,h n (Nat.lt_succ_self n),Nat.succ_mul],λi j c d=>?_⟩;by_cases e:i<n;.rw[mz,b i j e d];rw[a];calc i*k+j<i*k+k:=ab
   _=(i+1)*k:=(Nat.succ_mul i k).symm
   _<=n*k:=lD k e
  .obtain rfl:i=n:=ab;rw[ov ab,a];congr 1;omega
theorem Good.add{L:List Lx}{x:Lx}(h:Good W L)(k:Gy W (lP L) x):Good W (L++[x]):=by
 refine⟨aO,λi y a=>?_⟩;by_cases e:i<L.length;.rw[mz e]at a;exact(h.2 i y a).mono (LC _ _)
 . rw[ov ab]at a;have:i-L.length=0:=by
    rcases Nat.eq_zero_or_pos (i-L.length)with z|z;.exact z
    .rw[xq (by simp;omega)]at a;simp at a
   rw[this]at a;cases a;exact k.mono (LC _ _)
theorem bZ.Q1{e s l m:Nat}{f:Nat->aq}{g:Nat->List aC}{u:aq}(p:Pl){w:Array aC}{G:Nat×Nat}{F:an}(y:0<s)(O:l<=m)(hp:W.heap[p.aY]?=J (.cells w F G))(ht:w.size=p.oc)(P:p.len=l*s)(hc:p.base+m*s<=p.oc)(Y:m≠0->a=⟨p.aY,p.base,Z⟩)(B:∀i,i<l->(g i).length=s/\∀j,j<s->w[p.base+(i*s+j)]?=(g i)[j]?)(z:∀i,i<l->bZ W (f i) (g i))(A:u.length=l)(t:∀i x,u[i]?=J x->x.flat=f i):bZ W [.ay u e s] [.slice (J a) l m]:=by
 refine⟨by simp[DV.aV],λL N=>?_⟩;obtain⟨M,v,g1,g2,g3⟩:=(bZ.row l z).2 L N;have hd:∀i,i<l->(f i).length=s:=λi n=>((z i n).len N).trans (B i n).1;obtain⟨r1,r2⟩:=YJ l λi n=>(B i n).1;obtain⟨d1,d2⟩:=YJ l hd;have hle:l*s<=m*s:=lD _ O;have D:v.length=l*s:=by rw[<-g2.1,d1]
 have E:∀k,k<l*s->∃i j,i<l/\j<s/\k=i*s+j:=λk q=>⟨k/s,k%s,(Nat.div_lt_iff_lt_mul y).2 q,Nat.mod_lt _ y,by rw[Nat.mul_comm];exact(Nat.div_add_mod k s).symm⟩;have K:Gy W (lP (L++M)) ⟨v,e,p⟩:=by
   refine⟨by rw[P];exact D,⟨w,G,F,hp,ht,(by show p.base+p.len<=p.oc;rw[P];omega),λk b o=>?_⟩,λb o=>?_⟩
   . have q:k<l*s:=by rw[<-D];exact(List.getElem?_eq_some_iff.1 o).1
     obtain⟨i,j,n,r,rfl⟩:=E k q;obtain⟨c,R,S⟩:=g3.get o;exact⟨c,by rw[(B i n).2 j r,<-r2 i j n r];exact R,S⟩
   .obtain⟨d,d3,d4⟩:=g2.mem o;exact d4.aV ((bZ.row l z).1 d d3)
 have I:=g1.add K;rw[tM]at I;have hid:(L++(M++[(⟨v,e,p⟩:Lx)]))[(L++M).length]?=J ⟨v,e,p⟩:=by rw[<-tM,ov (bJ _)];simp
 have U:lK (L++(M++[(⟨v,e,p⟩:Lx)])) (L++M).length=J (v,e):=by unfold lK;rw[hid];rfl
 have X:lP (L++(M++[(⟨v,e,p⟩:Lx)])) (L++M).length=J p:=by unfold lP;rw[hid];rfl
 have T:bo (lK (L++M)) (lK (L++(M++[(⟨v,e,p⟩:Lx)]))):=by rw[<-tM];exact PL _ _
 refine⟨M++[⟨v,e,p⟩],[.sl (L++M).length 0 u.length Z s],I,bG.cons (.ay u e s _ 0 Z v U y (by rw[A,D];omega) (λk q=>by simp at q) (λi x n=>?_) (λi x j d b n r o=>?_)) bG.nil,ba.cons ?_ (ba.nil _)⟩
 . have H:i<l:=by rw[<-A];exact(List.getElem?_eq_some_iff.1 n).1
   rw[t i x n];exact⟨hd i H,(z i H).1⟩
 . have H:i<l:=by rw[<-A];exact(List.getElem?_eq_some_iff.1 n).1
   rw[t i x n]at r;have Q:j<s:=by rw[<-hd i H];exact(List.getElem?_eq_some_iff.1 r).1
   rw[iZ]at o;exact(g2.2 _ d b (by rw[d2 i j H Q];exact r) o).mono T (aU.refl _)
 .rw[A];exact .sl _ 0 l Z s p a m X O ab (λk q=>by simp at q) (λ_=>ab) (λh=>by rw[Y h,tQ]) y ab
end
open Go.Proofs.YtaeflaolgbjjlaaGreatDoor.Rows (uptoBulk uptoBulkAll)
section
variable{H:Type}{enc:an×aC->H}{W:aW}
def Rd(e:an×aC->H)(W:aW)(n:Nat)(t:an){b:Type}(c:b->aq)(d:b->Nat):Prop:=∀cs x,DataW.trod e PP W 0 (λ_=>V) V n t cs=J x->∃a:b,d a<=uptoBulk x.1/\bZ W (c a) cs
theorem aFX{n:Nat}(h:PP.underlying t=J (.int .i64)):Rd enc W n t (λz:Int=>[iD z]) λ_=>1:=λcs x a=>by obtain⟨z,rfl,rfl,_⟩:=DataW.trod_int h a;exact⟨z,by simp[uptoBulk],bZ.int _ _⟩
theorem aFY{n:Nat}(h:PP.underlying t=J .string):Rd enc W n t (λs:aD=>[.str s]) λs=>s.length+1:=λcs x a=>by obtain⟨s,rfl,rfl,_⟩:=DataW.trod_string h a;exact⟨s.data.toList.map ka,by simp[uptoBulk],bZ.str s⟩
theorem acN{g:Type}{Q:Nat->g->Prop}:∀(n:Nat),(∀i,i<n->∃a,Q i a)->∃l:List g,l.length=n/\∀(i:Nat)a,l[i]?=J a->Q i a
 |0,_=>⟨[],rfl,λi a h=>by simp at h⟩|n+1,h=>by
  obtain⟨l,d,j⟩:=acN n λi f=>h i ab;obtain⟨a,k⟩:=h n (GI n);refine⟨l++[a],by simp[d],λi b c=>?_⟩;by_cases e:i<l.length;.rw[mz e]at c;exact j i b c
  .have f:=(List.getElem?_eq_some_iff.1 c).1;simp at f;obtain rfl:i=n:=ab;rw[ov ab,d,Nat.sub_self]at c;cases c;exact k
theorem aaW{c:Type}{μ:c->Nat}:∀(l:List c)(s:List (DataW H)),l.length=s.length->(∀(i:Nat)a y,l[i]?=J a->s[i]?=J y->μ a<=uptoBulk y)->(l.map μ).sum<=uptoBulkAll s|[],_,_,_=>aO|a::l,[],h,_=>by simp at h|a::l,y::s,h,k=>by have f:=k 0 a y rfl rfl;have g:=aaW l s (by simpa using h) λi b z d e=>k (i+1) b z (by simpa using d) (by simpa using e);simp only[fS,List.sum_cons,uptoBulkAll];omega
theorem aaH{b n:Nat}{d:Type}{q:List aC->ah d}{y:d}(h:(W.cells? b a n).bind q=J y):∃cs,W.cells? b a n=J cs/\q cs=J y:=by cases c:W.cells? b a n with|none=>rw[c]at h;simp at h|some cs=>rw[c]at h;exact⟨cs,rfl,h⟩
theorem wc(h:a.spot=Z)(n i:Nat):(a.add n).add i=⟨a.block,a.off+(n+i),Z⟩:=by obtain⟨b,o,s⟩:=a;simp only at h;subst h;unfold Addr.add;by_cases e:n=0<;>by_cases f:i=0<;>simp[e,f,xr]
theorem aa3{v:aC}(h:W.cell? a=J v):∃cs e1 f,W.heap[a.block]?=J (.cells cs e1 f)/\a.spot=Z/\cs[a.off]?=J v:=by
 unfold World.cell? at h;split at h;.rename_i c e1 f d;cases b:a.spot with|none=>rw[b]at h;exact⟨c,e1,f,d,rfl,by simpa using h⟩|some s=>rw[b]at h;simp at h
 .simp at h
theorem amw{c:Nat}(e:Nat)(h:0<c):c*e=(c-1)*e+e:=by cases c with|zero=>omega|succ k=>rw[Nat.succ_mul];rfl
theorem YE{n:Nat}{e:an}{c:α->aq}{K:α->Nat}{esz:Nat}{d:α->DV}(hu:PP.underlying t=J (.slice e))(hc:PP.cellsOf e=esz)(he:0<esz)(hd:∀a,(d a).flat=c a)(h0:∃cs e1 A,W.heap[0]?=J (.cells cs e1 A))(h:Rd enc W n e c K):Rd enc W (n+1) t (λs:Sl α=>[bP s.nl (s.l.map d) e esz]) λs=>(s.l.map K).sum+1:=λcs x B=>by
 rcases DataW.trod_slice hu B with⟨rfl,rfl⟩|⟨a,len,r,q,rest,m,hm,rfl,rfl,_,P,_,iG,Y,I,_⟩;.exact⟨⟨V,[]⟩,by simp[uptoBulk],bZ.nl⟩
 . obtain rfl:n=m:=ab;obtain⟨hr,I⟩:=I rfl;rw[hc]at Y I;have H:∀i,i<len->∃b:α,∃v y,W.cells? 0 (a.add (i*esz)) esz=J v/\q[i]?=J y/\K b<=uptoBulk y.1/\bZ W (c b) v:=λi E=>by have S:i<q.length:=ab;have:=Y i E;rw[dD S]at this;obtain⟨v,u,h4⟩:=aaH this;obtain⟨b,M,N⟩:=h _ _ h4;exact⟨b,v,_,u,dD S,M,N⟩
   have F:∀k,k<r->∃T,W.cells? 0 (a.add (k*esz)) esz=J T:=λk hk=>by
     by_cases e:k<len;.obtain⟨_,v,_,u,_⟩:=H k e;exact⟨v,u⟩
     .have:=I (k-len) ab;have kA:k-len<rest.length:=ab;rw[dD kA,show len+(k-len)=k by omega]at this;obtain⟨v,u,_⟩:=aaH this;exact⟨v,u⟩
   obtain⟨l,R,O⟩:=acN len H;refine⟨⟨C,l⟩,?_,?_⟩
   . have:=aaW (μ:=K) l (q.map (·.1)) (by simp[R,iG]) λi b y w hy=>by obtain⟨_,z,_,D,M,_⟩:=O i b w;rw[jo,D]at hy;cases hy;exact M
     simp only[uptoBulk];omega
   . have EJ:bP C (l.map d) e esz=.ay (l.map d) e esz:=by cases l<;>rfl
     show bZ W [bP C (l.map d) e esz] _;rw[EJ];have U:∀i,i<len->∃b,l[i]?=J b:=λi E=>⟨_,dD ab⟩;suffices hs:∃(p:Pl)(cs:Array aC)(A:Nat×Nat)(e1:an),W.heap[p.aY]?=J (.cells cs e1 A)/\cs.size=p.oc/\p.len=len*esz/\p.base+r*esz<=p.oc/\(r≠0->a=⟨p.aY,p.base,Z⟩)by
       obtain⟨p,cs,A,e1,p1,p2,p3,p4,p5⟩:=hs;refine bZ.Q1 (f:=λi=>((l[i]?).map c).getD []) (g:=λi=>(W.cells? 0 (a.add (i*esz)) esz).getD []) p he P p1 p2 p3 p4 p5 (λi E=>?_) (λi E=>?_) (by simp[R]) λi x B=>?_;.obtain⟨b,w⟩:=U i E;obtain⟨v,y,u,_,_,_⟩:=O i b w;obtain⟨_,G,CH⟩:=World.cells?_some u;rw[u];refine⟨G,λj hj=>?_⟩;have L:=p5 ab;have:=CH j hj;rw[wc (by rw[L])]at this;unfold World.cell? at this;rw[show a.block=p.aY by rw[L],show a.off=p.base by rw[L]]at this;simp only[p1]at this;simpa using this
       .obtain⟨b,w⟩:=U i E;obtain⟨v,y,u,_,_,N⟩:=O i b w;simp only[w,u,gF,DS];exact N
       .rw[jo]at B;cases w:l[i]? with|none=>rw[w]at B;simp at B|some b=>rw[w]at B;cases B;simp[hd]
     rcases Nat.eq_zero_or_pos r with D|D;.obtain⟨cs,e1,A,u⟩:=h0;have Q:len=0:=ab;subst Q;exact⟨⟨0,0,cs.size,0⟩,cs,A,e1,u,rfl,(DP esz).symm,by rw[D,DP];exact lX _,λh=>absurd D h⟩
     . obtain⟨c0,q0⟩:=F 0 D;obtain⟨_,l0,f0⟩:=World.cells?_some q0;have e0:=f0 0 he;rw[dD ab,DP]at e0;rw[show(a.add 0).add 0=a by simp[Addr.add]]at e0;obtain⟨cs,e1,A,g1,g2,_⟩:=aa3 e0;obtain⟨T,qk⟩:=F (r-1) ab;obtain⟨_,lk,fk⟩:=World.cells?_some qk;have X:=fk (esz-1) ab;rw[dD ab,wc g2]at X;obtain⟨rf,e1',Tz,k1,_,k3⟩:=aa3 X;simp only at k1 k3;rw[g1]at k1;obtain⟨rfl,_,_⟩:=Obj.cells.inj (bt k1);have:=(Array.getElem?_eq_some_iff.1 k3).1;have hm:=amw esz D;refine⟨⟨a.block,a.off,cs.size,len*esz⟩,cs,A,e1,g1,rfl,rfl,?_,λ_=>?_⟩;.show a.off+r*esz<=cs.size;omega
       .obtain⟨b,o,s⟩:=a;simp only at g2;subst g2;rfl
end
end Go.VM
namespace Go.VM
open Go Go.AM
open Go.Proofs.YtaeflaolgbjjlaaGreatDoor.Rows (uptoBulk uptoBulkAll)
def nD(t:an):ah (List (an×Nat×Nat)):=match PP.underlying t with|some (.struct s)=>J (s.toList.map λf=>(f.type,f.offset,PP.cellsOf f.type))|_=>Z
section
variable{H:Type}{enc:an×aC->H}{W:aW}
def Fl(e:an×aC->H)(W:aW)(n:Nat):List (an×Nat×Nat)->List aC->Nat->Prop|[],_,_=>True|(t,o,k)::l,c,b=>∃y a,DataW.trod e PP W 0 (λ_=>V) V n t ((c.drop o).take k)=J y/\b=uptoBulk y.1+a/\Fl e W n l c a
theorem adf{n:Nat}{c:List aC}:∀(s:List Field)(a:List (DataW H×List MemPlace)),a.length=s.length->(∀(i:Nat)f,s[i]?=J f->DataW.trod enc PP W 0 (λ_=>V) V n f.type ((c.drop f.offset).take (PP.cellsOf f.type))=a[i]?)->Fl enc W n (s.map λf=>(f.type,f.offset,PP.cellsOf f.type)) c (uptoBulkAll (a.map (·.1)))|[],_,_,_=>trivial|f::s,[],h,_=>by simp at h|f::s,x::a,h,k=>⟨x,_,k 0 f rfl,rfl,adf s a (by simpa using h) λi g b=>k (i+1) g (by simpa using b)⟩
theorem rL{n:Nat}{t:an}{l:List (an×Nat×Nat)}{c:List aC}{x:DataW H×List MemPlace}(h:nD t=J l)(k:DataW.trod enc PP W 0 (λ_=>V) V n t c=J x):∃m b,n=m+1/\uptoBulk x.1=b+1/\c.length=PP.cellsOf t/\Fl enc W m l c b:=by
 unfold nD at h;split at h;.rename_i s u;cases h;obtain⟨o,m,a,rfl,d,e,g⟩:=DataW.trod_struct u k;exact⟨m,_,a,rfl,d,adf s.toList o (by simpa using e) λi f j=>g i f (by simpa using j)⟩
 .simp at h
theorem Ms{t:an}{a:Type}{c:a->aq}{b:a->Nat}:Rd enc W 0 t c b:=λs x h=>by simp[DataW.trod]at h
theorem yz{t e:an}{b:Type}{c:b->aq}{f:b->Nat}{z:Nat}{d:b->DV}(u:PP.underlying t=J (.slice e))(k:PP.cellsOf e=z)(m:0<z)(l:∀a,(d a).flat=c a)(j:∃g e1 i,W.heap[0]?=J (.cells g e1 i))(h:∀n,Rd enc W n e c f):∀n,Rd enc W n t (λs:Sl b=>[bP s.nl (s.l.map d) e z]) λs=>(s.l.map f).sum+1|0=>Ms|n+1=>YE u k m l j (h n)
theorem u3:PP.underlying 3=J (.int .i64):=aN
theorem u9:PP.underlying 9=J .string:=aN
theorem c3:PP.cellsOf 3=1:=aN
theorem aHY:nD 43=J [(3,0,1),(3,1,1),(9,2,1)]:=aN
theorem aHZ:nD 59=J [(3,0,1),(57,1,1),(3,2,1),(3,3,1),(3,4,1),(43,5,3)]:=aN
theorem aH0:nD 61=J [(3,0,1),(56,1,1),(3,2,1),(3,3,1),(3,4,1),(3,5,1),(59,6,8)]:=aN
theorem aH3:nD 76=J [(9,0,1),(3,1,1)]:=aN
theorem aH2:nD 79=J [(9,0,1),(77,1,1)]:=aN
theorem aHX:nD 81=J [(9,0,1),(3,1,1)]:=aN
theorem aH1:nD 63=J [(9,0,1),(55,1,1),(26,2,1),(61,3,14),(57,17,1)]:=aN
theorem amS:PP.cellsOf 43=3:=aN
theorem abk:PP.cellsOf 59=8:=aN
theorem abl:PP.cellsOf 61=14:=aN
theorem abo:PP.cellsOf 76=2:=aN
theorem abn:PP.cellsOf 79=2:=aN
theorem abh:PP.cellsOf 81=2:=aN
theorem abm:PP.cellsOf 63=18:=aN
theorem Expr.P':∀l:List Expr,(l.map Expr.nn).sum=Expr.bH l|[]=>rfl|e::l=>by rw[Expr.bH,<-Expr.P' l];rfl
mutual
def ae.mu : ae -> Nat
  | .mk _ _ l _ _ _ _ c => ae.Ae l + c.nn + 1
def ae.Ae : bq -> Nat
  | [] => 0
  | e :: l => e.mu + ae.Ae l
end
theorem ae.af7:∀l:bq,(l.map ae.mu).sum=ae.Ae l|[]=>rfl|e::l=>by rw[ae.Ae,<-ae.af7 l];rfl
variable(h0:∃cs e1 fz,W.heap[0]?=J (.cells cs e1 fz))
theorem kD(n:Nat):Rd enc W n 3 (λz:Int=>[iD z]) λ_=>1:=aFX u3
theorem IP(n:Nat):Rd enc W n 9 (λs:aD=>[.str s]) λs=>s.length+1:=aFY u9
theorem aFS(n:Nat):Rd enc W n 43 (λv:Int×Int×aD=>[iD v.1,iD v.2.1,.str v.2.2]) λ_=>1:=λs x a=>by obtain⟨m,b,_,l,h,y,i,q0,_,o,j,q,_,r,k,e,_,_⟩:=rL aHY a;obtain⟨z,_,p⟩:=kD _ _ _ q0;obtain⟨f,_,c⟩:=kD _ _ _ q;obtain⟨g,_,d⟩:=IP _ _ _ e;exact⟨(z,f,g),by dsimp only at*;omega,bZ.at 0 1 p (bZ.at 1 1 c (bZ.at 2 1 d (bZ.end 3 (h.trans amS))))⟩
include h0
theorem YD:∀n,Rd enc W n 59 Expr.cells Expr.nn/\Rd enc W n 57 (λs:Sl Expr=>[ue s]) λs=>Expr.bH s.l+1
 |0=>⟨Ms,Ms⟩|n+1=>by
  obtain⟨i,g⟩:=YD n;refine⟨λc x h=>?_,?_⟩;.obtain⟨m,b,L,K,l,N,D,q0,e0,O,E,u,e1,P,F,v,e2,Q,G,q3,e3,R,H,q4,e4,S,I,q5,e5,_⟩:=rL aHZ h;obtain rfl:n=m:=ab;obtain⟨w,_,p⟩:=kD _ _ _ q0;obtain⟨f,M,j⟩:=g _ _ u;obtain⟨y,_,k⟩:=kD _ _ _ v;obtain⟨A,_,o⟩:=kD _ _ _ q3;obtain⟨B,_,q⟩:=kD _ _ _ q4;obtain⟨z,_,r⟩:=aFS _ _ _ q5;exact⟨.mk w f.nl f.l y A B z.1 z.2.1 z.2.2,by dsimp only at*;simp only[Expr.nn];omega,bZ.at 0 1 p (bZ.at 1 1 j (bZ.at 2 1 k (bZ.at 3 1 o (bZ.at 4 1 q (bZ.at 5 3 r (bZ.end 8 (l.trans abk)))))))⟩
  .have:=YE (t:=57) (esz:=8) (d:=λe:Expr=>.agg e.cells) aN abk eY (λ_=>rfl) h0 i;intro c x h;obtain⟨a,k1,k2⟩:=this c x h;dsimp only at k1 k2;rw[Expr.P']at k1;rw[<-Expr.rh]at k2;exact⟨a,k1,k2⟩
end
end Go.VM
namespace Go.VM
open Go Go.AM
open Go.Proofs.YtaeflaolgbjjlaaGreatDoor.Rows (uptoBulk uptoBulkAll)
def Guard.mu(g:Guard):Nat:=g.cond.nn+1
def Edge.mu(x:Edge):Nat:=x.cond.nn+x.opens.l.length+x.lI.l.length+Expr.bH x.jJ.l+x.jZ.l.length+x.inside.l.length+1
def Stat.mu(s:Stat):Nat:=(s.guards.l.map Guard.mu).sum+1
def dK.mu(a:dK):Nat:=(a.mr.l.map Stat.mu).sum+(a.oC.l.map Edge.mu).sum+1
def kF.mu(f:kF):Nat:=f.name.length+1
def bY.mu(s:bY):Nat:=s.name.length+(s.fields.l.map kF.mu).sum+1
def dW.mu(v:dW):Nat:=v.name.length+1
def cq.mu(q:cq):Nat:=q.name.length+(q.vars.l.map dW.mu).sum+q.key.l.length+q.pat.mu+Expr.bH q.jB.l+1
def eH.mu(p:eH):Nat:=(p.types.l.map bY.mu).sum+p.query.mu+p.xC.mu+1
theorem Rb{a:Type}:∀l:List a,(l.map λ_=>1).sum=l.length|[]=>rfl|_::l=>by rw[fS,List.sum_cons,Rb l,dE,Nat.add_comm]
section
variable{H:Type}{enc:an×aC->H}{W:aW}(h0:∃cs e1 fz,W.heap[0]?=J (.cells cs e1 fz))
theorem aFW(n:Nat):Rd enc W n 76 (λv:kF=>[.str v.name,iD v.kind]) kF.mu:=λs x a=>by obtain⟨m,b,_,g,h,y,e,q0,_,i,f,q,_,_⟩:=rL aH3 a;obtain⟨z,_,p⟩:=IP _ _ _ q0;obtain⟨d,_,c⟩:=kD _ _ _ q;exact⟨⟨z,d⟩,by grind[kF.mu],bZ.at 0 1 p (bZ.at 1 1 c (bZ.end 2 (h.trans abo)))⟩
theorem aFP(n:Nat):Rd enc W n 81 (λv:dW=>[.str v.name,iD v.ty]) dW.mu:=λs x a=>by obtain⟨m,b,_,g,h,y,e,q0,_,i,f,q,_,_⟩:=rL aHX a;obtain⟨z,_,p⟩:=IP _ _ _ q0;obtain⟨d,_,c⟩:=kD _ _ _ q;exact⟨⟨z,d⟩,by grind[dW.mu],bZ.at 0 1 p (bZ.at 1 1 c (bZ.end 2 (h.trans abh)))⟩
include h0
theorem ahJ(n:Nat):Rd enc W n 26 (λs:Sl Int=>[cL s]) λs=>s.l.length+1:=λc x h=>by obtain⟨a,k1,k2⟩:=yz (t:=26) (d:=iD) aT c3 ab (λ_=>rfl) h0 kD n c x h;dsimp only at k1 k2;rw[Rb]at k1;exact⟨a,k1,k2⟩
theorem aFU(n:Nat):Rd enc W n 77 (λs:Sl kF=>[Cv s]) λs=>(s.l.map kF.mu).sum+1:=yz aT abo ab (λ_=>rfl) h0 aFW n
theorem aFR(n:Nat):Rd enc W n 55 (λs:Sl dW=>[kn s]) λs=>(s.l.map dW.mu).sum+1:=yz aT abh ab (λ_=>rfl) h0 aFP n
theorem aFV(n:Nat):Rd enc W n 79 (λv:bY=>[.str v.name,Cv v.fields]) bY.mu:=λs x a=>by obtain⟨m,b,_,g,h,y,e,q0,_,k,f,q,_,_⟩:=rL aH2 a;obtain⟨z,i,p⟩:=IP _ _ _ q0;obtain⟨d,j,c⟩:=aFU h0 _ _ _ q;exact⟨⟨z,d⟩,by grind[bY.mu],bZ.at 0 1 p (bZ.at 1 1 c (bZ.end 2 (h.trans abn)))⟩
theorem aFQ(n:Nat):Rd enc W n 22 (λs:Sl bY=>[cC s]) λs=>(s.l.map bY.mu).sum+1:=yz aT abn ab (λ_=>rfl) h0 (aFV h0) n
theorem rdP:∀n,Rd enc W n 61 ae.cells ae.mu/\Rd enc W n 56 (λs:Sl ae=>[bP s.nl (ae.bm s.l) 61 14]) λs=>ae.Ae s.l+1
 |0=>⟨Ms,Ms⟩|n+1=>by
  obtain⟨i,f⟩:=rdP n;refine⟨λc x h=>?_,?_⟩;.obtain⟨m,b,N,M,l,Q,E,q0,e0,R,F,r,e1,S,G,u,e2,T,H,q3,e3,U,I,q4,e4,X,K,q5,e5,Y,L,q6,e6,_⟩:=rL aH0 h;obtain rfl:n=m:=ab;obtain⟨v,_,p⟩:=kD _ _ _ q0;obtain⟨z,O,g⟩:=f _ _ r;obtain⟨w,_,j⟩:=kD _ _ _ u;obtain⟨y,_,k⟩:=kD _ _ _ q3;obtain⟨A,_,o⟩:=kD _ _ _ q4;obtain⟨B,_,q⟩:=kD _ _ _ q5;obtain⟨D,P,p6⟩:=(YD h0 _).1 _ _ q6;refine⟨.mk v z.nl z.l w y A B D,by dsimp only at*;simp only[ae.mu];omega,?_⟩;have:=bZ.at 0 1 p (bZ.at 1 1 g (bZ.at 2 1 j (bZ.at 3 1 k (bZ.at 4 1 o (bZ.at 5 1 q (bZ.at 6 8 p6 (bZ.end 14 (l.trans abl))))))));simpa[ae.cells]using this
  .have:=YE (t:=56) (esz:=14) (d:=λe:ae=>.agg e.cells) aN abl eY (λ_=>rfl) h0 i;intro c x h;obtain⟨a,k1,k2⟩:=this c x h;dsimp only at k1 k2;rw[ae.af7]at k1;rw[<-ae.rh]at k2;exact⟨a,k1,k2⟩
theorem aFT(n:Nat):Rd enc W n 63 cq.cells cq.mu:=λv x a=>by obtain⟨m,b,_,w,h,F,o,q0,_,G,r,q,_,H,s,g,_,I,t,q3,_,K,u,q4,_,_⟩:=rL aH1 a;obtain⟨z,y,p⟩:=IP _ _ _ q0;obtain⟨i,A,c⟩:=aFR h0 _ _ _ q;obtain⟨j,B,d⟩:=ahJ h0 _ _ _ g;obtain⟨k,D,e⟩:=(rdP h0 _).1 _ _ q3;obtain⟨l,E,f⟩:=(YD h0 _).2 _ _ q4;refine⟨⟨z,i,j,k,l⟩,by grind[cq.mu],?_⟩;have:=bZ.at 0 1 p (bZ.at 1 1 c (bZ.at 2 1 d (bZ.at 3 14 e (bZ.at 17 1 f (bZ.end 18 (h.trans abm))))));grind[cq.cells]
end
end Go.VM
namespace Go.VM
open Go Go.AM
open Go.Proofs.YtaeflaolgbjjlaaGreatDoor.Rows (uptoBulk uptoBulkAll)
def ct.mu(v:ct):Nat:=v.s.length+1
def aL.mu(e:aL):Nat:=(e.j9.l.map ct.mu).sum+6
def bp.mu(c:bp):Nat:=c.bs.l.length+c.ss.l.length+1
def dy.mu(e:dy):Nat:=(e.wait.l.map aL.mu).sum+(e.runs.l.map bp.mu).sum+(e.held.l.map aL.mu).sum+1
def aE.mu(k:aE):Nat:=k.key.mu+k.e.mu+1
def bK.mu(o:bK):Nat:=o.marks.l.length+(o.keys.l.map aE.mu).sum+1
def dA.mu(p:dA):Nat:=(p.types.l.map bY.mu).sum+(p.qs.l.map cq.mu).sum+1
theorem aBA:nD 43=J [(3,0,1),(3,1,1),(9,2,1)]:=aN
theorem age:PP.cellsOf 43=3:=aN
theorem aBx:nD 162=J [(3,0,1),(3,1,1),(3,2,1)]:=aN
theorem aAC:PP.cellsOf 162=3:=aN
theorem aBy:nD 164=J [(3,0,1),(162,1,3)]:=aN
theorem agc:PP.cellsOf 164=4:=aN
theorem aBz:nD 167=J [(3,0,1),(3,1,1)]:=aN
theorem agd:PP.cellsOf 167=2:=aN
theorem aBD:nD 90=J [(3,0,1),(3,1,1),(3,2,1),(3,3,1),(88,4,1)]:=aN
theorem agh:PP.cellsOf 90=5:=aN
theorem aBw:nD 127=J [(3,0,1),(124,1,1),(125,2,1)]:=aN
theorem agb:PP.cellsOf 127=3:=aN
theorem aBB:nD 47=J [(3,0,1),(44,1,1),(45,2,1),(44,3,1)]:=aN
theorem aAF:PP.cellsOf 47=4:=aN
theorem aBC:nD 49=J [(3,0,1),(43,1,3),(47,4,4)]:=aN
theorem agf:PP.cellsOf 49=8:=aN
theorem agC:nD 29=J [(26,0,1),(27,1,1)]:=aN
theorem aAE:PP.cellsOf 29=2:=aN
theorem aAG:PP.cellsOf 63=18:=abm
theorem agB:nD 25=J [(22,0,1),(23,1,1)]:=aN
theorem aAD:PP.cellsOf 25=2:=aN
section
variable{H:Type}{enc:an×aC->H}{W:aW}(h0:∃cs e1 fz,W.heap[0]?=J (.cells cs e1 fz))
theorem agz(n:Nat):Rd enc W n 43 ct.cells ct.mu:=λs x a=>by obtain⟨m,b,_,l,h,y,i,q0,_,u,j,q,_,v,k,e,_,_⟩:=rL aBA a;obtain⟨z,o,p⟩:=kD _ _ _ q0;obtain⟨f,r,c⟩:=kD _ _ _ q;obtain⟨g,t,d⟩:=IP _ _ _ e;refine⟨⟨z,f,g⟩,by simp only[ct.cells,ct.mu]at*;omega,?_⟩;have:=(bZ.at 0 1 p (bZ.at 1 1 c (bZ.at 2 1 d (bZ.end 3 (h.trans age)))));simpa[ct.cells,ct.mu]using this
theorem aBj(n:Nat):Rd enc W n 162 (λv:Int×Int×Int=>[iD v.1,iD v.2.1,iD v.2.2]) (λ_=>1):=λs x a=>by obtain⟨m,b,_,l,h,y,i,q0,_,u,j,q,_,w,k,e,_,_⟩:=rL aBx a;obtain⟨z,o,p⟩:=kD _ _ _ q0;obtain⟨f,r,c⟩:=kD _ _ _ q;obtain⟨g,t,d⟩:=kD _ _ _ e;refine⟨⟨z,f,g⟩,by simp only[]at*;omega,?_⟩;have:=(bZ.at 0 1 p (bZ.at 1 1 c (bZ.at 2 1 d (bZ.end 3 (h.trans aAC)))));simpa[]using this
theorem aBk(n:Nat):Rd enc W n 164 dU.cells (λ_=>1):=λs x a=>by obtain⟨m,b,_,g,h,y,e,q0,_,k,f,q,_,_⟩:=rL aBy a;obtain⟨d,i,p⟩:=kD _ _ _ q0;obtain⟨z,j,c⟩:=aBj _ _ _ q;refine⟨⟨d,z.1,z.2.1,z.2.2⟩,by simp only[dU.cells]at*;omega,?_⟩;have:=(bZ.at 0 1 p (bZ.at 1 3 c (bZ.end 4 (h.trans agc))));simpa[dU.cells]using this
theorem aBl(n:Nat):Rd enc W n 167 fA.cells (λ_=>1):=λs x a=>by obtain⟨m,b,_,g,h,y,e,q0,_,k,f,q,_,_⟩:=rL aBz a;obtain⟨z,i,p⟩:=kD _ _ _ q0;obtain⟨d,j,c⟩:=kD _ _ _ q;refine⟨⟨z,d⟩,by simp only[fA.cells]at*;omega,?_⟩;have:=(bZ.at 0 1 p (bZ.at 1 1 c (bZ.end 2 (h.trans agd))));simpa[fA.cells]using this
include h0
theorem aBu(n:Nat):Rd enc W n 88 (λs=>[uJ s]) λs=>(s.l.map ct.mu).sum+1:=yz (d:=ct.d) aN age ab (λ_=>rfl) h0 (agz) n
theorem aBg(n:Nat):Rd enc W n 124 (λs=>[gX s]) λs=>s.l.length+1:=λc x h=>by obtain⟨a,k1,k2⟩:=yz (t:=124) (d:=dU.d) aN agc ab (λ_=>rfl) h0 (aBk) n c x h;dsimp only at k1 k2;rw[Rb]at k1;exact⟨a,k1,k2⟩
theorem aBh(n:Nat):Rd enc W n 125 (λs=>[jC s]) λs=>s.l.length+1:=λc x h=>by obtain⟨a,k1,k2⟩:=yz (t:=125) (d:=fA.d) aN agd ab (λ_=>rfl) h0 (aBl) n c x h;dsimp only at k1 k2;rw[Rb]at k1;exact⟨a,k1,k2⟩
theorem aBv(n:Nat):Rd enc W n 90 aL.cells aL.mu:=λv x a=>by obtain⟨m,b,_,w,h,F,o,q0,_,G,r,q,_,H,s,g,_,I,t,q3,_,K,u,q4,_,_⟩:=rL aBD a;obtain⟨z,y,p⟩:=kD _ _ _ q0;obtain⟨i,A,c⟩:=kD _ _ _ q;obtain⟨j,B,d⟩:=kD _ _ _ g;obtain⟨k,D,e⟩:=kD _ _ _ q3;obtain⟨l,E,f⟩:=aBu h0 _ _ _ q4;refine⟨⟨z,i,j,k,l⟩,by simp only[aL.cells,aL.mu]at*;omega,?_⟩;have:=(bZ.at 0 1 p (bZ.at 1 1 c (bZ.at 2 1 d (bZ.at 3 1 e (bZ.at 4 1 f (bZ.end 5 (h.trans agh)))))));simpa[aL.cells,aL.mu]using this
theorem agA(n:Nat):Rd enc W n 44 (λs=>[cX s]) λs=>(s.l.map aL.mu).sum+1:=yz (d:=aL.d) aN agh ab (λ_=>rfl) h0 (aBv h0) n
theorem aBi(n:Nat):Rd enc W n 127 bp.cells bp.mu:=λs x a=>by obtain⟨m,b,_,l,h,y,i,q0,_,u,j,q,_,v,k,e,_,_⟩:=rL aBw a;obtain⟨z,o,p⟩:=kD _ _ _ q0;obtain⟨f,r,c⟩:=aBg h0 _ _ _ q;obtain⟨g,t,d⟩:=aBh h0 _ _ _ e;refine⟨⟨z,f,g⟩,by simp only[bp.cells,bp.mu]at*;omega,?_⟩;have:=(bZ.at 0 1 p (bZ.at 1 1 c (bZ.at 2 1 d (bZ.end 3 (h.trans agb)))));simpa[bp.cells,bp.mu]using this
theorem aBq(n:Nat):Rd enc W n 45 (λs=>[mc s]) λs=>(s.l.map bp.mu).sum+1:=yz (d:=bp.d) aN agb ab (λ_=>rfl) h0 (aBi h0) n
theorem aBr(n:Nat):Rd enc W n 47 dy.cells dy.mu:=λs x a=>by obtain⟨m,b,_,t,h,A,k,q0,_,B,l,q,_,D,o,f,_,E,r,q3,_,_⟩:=rL aBB a;obtain⟨z,u,p⟩:=kD _ _ _ q0;obtain⟨g,v,c⟩:=agA h0 _ _ _ q;obtain⟨i,w,d⟩:=aBq h0 _ _ _ f;obtain⟨j,y,e⟩:=agA h0 _ _ _ q3;refine⟨⟨z,g,i,j⟩,by simp only[dy.cells,dy.mu]at*;omega,?_⟩;have:=(bZ.at 0 1 p (bZ.at 1 1 c (bZ.at 2 1 d (bZ.at 3 1 e (bZ.end 4 (h.trans aAF))))));simpa[dy.cells,dy.mu]using this
theorem aBs(n:Nat):Rd enc W n 49 aE.cells aE.mu:=λs x a=>by obtain⟨m,b,_,l,h,y,i,q0,_,u,j,q,_,v,k,e,_,_⟩:=rL aBC a;obtain⟨z,o,p⟩:=kD _ _ _ q0;obtain⟨f,r,c⟩:=agz _ _ _ q;obtain⟨g,t,d⟩:=aBr h0 _ _ _ e;refine⟨⟨z,f,g⟩,by simp only[aE.cells,ct.cells,dy.cells,aE.mu]at*;omega,?_⟩;have:=(bZ.at 0 1 p (bZ.at 1 3 c (bZ.at 4 4 d (bZ.end 8 (h.trans agf)))));simpa[aE.cells,ct.cells,dy.cells,aE.mu]using this
theorem aBo(n:Nat):Rd enc W n 27 (λs=>[ki s]) λs=>(s.l.map aE.mu).sum+1:=yz (d:=aE.d) aN agf ab (λ_=>rfl) h0 (aBs h0) n
theorem aBp(n:Nat):Rd enc W n 29 bK.cells bK.mu:=λs x a=>by obtain⟨m,b,_,g,h,y,e,q0,_,k,f,q,_,_⟩:=rL agC a;obtain⟨z,i,p⟩:=ahJ h0 _ _ _ q0;obtain⟨d,j,c⟩:=aBo h0 _ _ _ q;refine⟨⟨z,d⟩,by simp only[bK.cells,bK.mu]at*;omega,?_⟩;have:=(bZ.at 0 1 p (bZ.at 1 1 c (bZ.end 2 (h.trans aAE))));simpa[bK.cells,bK.mu]using this
theorem aBt(n:Nat):Rd enc W n 63 cq.cells cq.mu:=aFT h0 n
theorem aBm(n:Nat):Rd enc W n 23 (λs=>[sH s]) λs=>(s.l.map cq.mu).sum+1:=yz (d:=cq.dv) aN aAG ab (λ_=>rfl) h0 (aBt h0) n
theorem aBn(n:Nat):Rd enc W n 25 dA.cells dA.mu:=λs x a=>by obtain⟨m,b,_,g,h,y,e,q0,_,k,f,q,_,_⟩:=rL agB a;obtain⟨z,i,p⟩:=aFQ h0 _ _ _ q0;obtain⟨d,j,c⟩:=aBm h0 _ _ _ q;refine⟨⟨z,d⟩,by simp only[dA.cells,dA.mu]at*;omega,?_⟩;have:=(bZ.at 0 1 p (bZ.at 1 1 c (bZ.end 2 (h.trans aAD))));simpa[dA.cells,dA.mu]using this
end
end Go.VM
namespace Go.VM
open Go Go.AM
variable{t:an}
theorem BV{a:Type}{μ:a->Nat}{x:a}:∀{l:List a},x∈l->μ x<=(l.map μ).sum
 |[],h=>by simp at h|y::l,h=>by
  rw[fS,List.sum_cons];rcases List.mem_cons.1 h with rfl|h;.omega
  .have:=BV (μ:=μ) h;omega
theorem Ax{a:Type}{μ:a->Nat}(h:∀x,1<=μ x):∀l:List a,l.length<=(l.map μ).sum|[]=>bJ _|y::l=>by have:=Ax h l;have:=h y;rw[fS,List.sum_cons,dE];omega
theorem rH{e:Expr}{l:List Expr}(h:e∈l):e.nn<=Expr.bH l:=by rw[<-Expr.P'];exact BV h
theorem mj(l:List Expr):l.length<=Expr.bH l:=by rw[<-Expr.P'];exact Ax Expr.IB l
mutual
theorem ae.agm : ∀ p : ae, p.nn <= p.mu
  | .mk _ _ l _ _ _ _ c => by have := ae.agn l; simp only [ae.nn, ae.mu]; omega
theorem ae.agn : ∀ l : bq, ae.bH l <= ae.Ae l
  | [] => bJ _
  | p :: l => by have := ae.agm p; have := ae.agn l; simp only [ae.bH, ae.Ae]; omega
end
mutual
theorem ae.abD : ∀ (p q : ae), q ∈ nodes p -> q.cond.nn <= p.mu
  | .mk o n l t v s sp c, q, h => by
    simp only [nodes, Nq] at h
    rcases h with rfl | h
    · simp only [ae.mu, ae.cond]; omega
    · have := ae.abE l q h; simp only [ae.mu]; omega
theorem ae.abE : ∀ (l : bq) (q : ae), q ∈ eS l -> q.cond.nn <= ae.Ae l
  | [], q, h => by simp [eS] at h
  | p :: l, q, h => by
    simp only [eS, AK] at h
    rcases h with h | h
    · have := ae.abD p q h; simp only [ae.Ae]; omega
    · have := ae.abE l q h; simp only [ae.Ae]; omega
end
theorem bY.rE(s:bY):s.mu=s.name.length+(s.fields.l.map kF.mu).sum+1:=rfl
theorem kF.rE(f:kF):f.mu=f.name.length+1:=rfl
theorem dW.rE(f:dW):f.mu=f.name.length+1:=rfl
theorem Stat.rE(s:Stat):s.mu=(s.guards.l.map Guard.mu).sum+1:=rfl
theorem Guard.rE(g:Guard):g.mu=g.cond.nn+1:=rfl
theorem Edge.rE(x:Edge):x.mu=x.cond.nn+x.opens.l.length+x.lI.l.length+Expr.bH x.jJ.l+x.jZ.l.length+x.inside.l.length+1:=rfl
theorem dK.rE(a:dK):a.mu=(a.mr.l.map Stat.mu).sum+(a.oC.l.map Edge.mu).sum+1:=rfl
theorem cq.rE(q:cq):q.mu=q.name.length+(q.vars.l.map dW.mu).sum+q.key.l.length+q.pat.mu+Expr.bH q.jB.l+1:=rfl
theorem eH.rE(p:eH):p.mu=(p.types.l.map bY.mu).sum+p.query.mu+p.xC.mu+1:=rfl
theorem aKh{t:Sl bY}(h:(t.l.map bY.mu).sum<=1048576):lF t:=by
 refine⟨λs d=>?_,?_⟩
 . have a:=BV (μ:=bY.mu) d;have e:s.name.length+(s.fields.l.map kF.mu).sum+1<=1048576:=by rw[bY.rE]at a;omega
   have g:=Ax (μ:=kF.mu) (λx=>by rw[kF.rE];omega) s.fields.l;refine⟨ab,λf c=>?_,ab⟩;have b:=BV (μ:=kF.mu) c;rw[kF.rE]at b;omega
 .have:=Ax (μ:=bY.mu) (λx=>by rw[bY.rE];omega) t.l;omega
theorem aFD{q:cq}(h:q.mu<=1048576):mB q:=by
 rw[cq.rE]at h;have f:=Ax (μ:=dW.mu) (λx=>by rw[dW.rE];omega) q.vars.l;have g:=ae.agm q.pat;have i:=mj q.jB.l;refine⟨ab,⟨λv d=>?_,ab⟩,ab,⟨ab,λp c=>?_⟩,ab,λe b=>?_⟩;.have a:=BV (μ:=dW.mu) d;rw[dW.rE]at a;omega
 .have:=ae.abD q.pat p c;omega
 .have:=rH b;omega
theorem aKM{l:List ct}{n:Nat}(h:(l.map ct.mu).sum<=n):l.length<=n:=by have:=Ax (μ:=ct.mu) (λx=>by unfold ct.mu;omega) l;omega
theorem acI{v:Sl aL}{n:Nat}(h:(v.l.map aL.mu).sum<=n):v.l.length*6<=n/\∀e∈v.l,e.j9.l.length<=n:=by
 refine⟨?_,λe a=>?_⟩
 . have k:∀l:List aL,l.length*6<=(l.map aL.mu).sum:=λl=>by induction l with|nil=>exact bJ _|cons x l i=>rw[fS,List.sum_cons,dE];have:x.mu=(x.j9.l.map ct.mu).sum+6:=rfl;omega
   have:=k v.l;omega
 .have b:=BV (μ:=aL.mu) a;have c:e.mu=(e.j9.l.map ct.mu).sum+6:=rfl;exact aKM ab
theorem aoV{e:dy}(h:e.mu<=1048576):e.cp:=by
 have k:e.mu=(e.wait.l.map aL.mu).sum+(e.runs.l.map bp.mu).sum+(e.held.l.map aL.mu).sum+1:=rfl;rw[k]at h;obtain⟨l,i⟩:=acI (v:=e.wait) (n:=1048576) ab;obtain⟨m,j⟩:=acI (v:=e.held) (n:=1048576) ab;have o:=Ax (μ:=bp.mu) (λx=>by unfold bp.mu;omega) e.runs.l;have d:∀c∈e.runs.l,c.bs.l.length+c.ss.l.length<=1048576:=λc b=>by have p:=BV (μ:=bp.mu) b;have q:c.mu=c.bs.l.length+c.ss.l.length+1:=rfl;omega
 have f:=λx a=>(i x a:x.j9.l.length<=1048576);have g:=λx a=>(j x a:x.j9.l.length<=1048576);refine⟨⟨⟨⟨ab,λx a=>?_⟩,⟨ab,λx a=>?_⟩,ab,λc b=>⟨?_,?_⟩⟩,ab,λc b=>⟨?_,?_⟩⟩,ab,ab,ab,λx a=>?_,λx a=>?_⟩;.have:=f x a;omega
 .have:=g x a;omega
 .have:=d c b;omega
 .have:=d c b;omega
 .have:=d c b;omega
 .have:=d c b;omega
 .have:=f x a;omega
 .have:=g x a;omega
theorem akT{p:dA}{o:bK}(c:p.mu<=1048576)(b:o.mu<=1048576):Rw p o:=by
 have a:p.mu=(p.types.l.map bY.mu).sum+(p.qs.l.map cq.mu).sum+1:=rfl;have k0:o.mu=o.marks.l.length+(o.keys.l.map aE.mu).sum+1:=rfl;rw[a]at c;rw[k0]at b;have e:=Ax (μ:=cq.mu) (λx=>by rw[cq.rE];omega) p.qs.l;have f:=Ax (μ:=bY.mu) (λx=>by rw[bY.rE];omega) p.types.l;have k1:=Ax (μ:=aE.mu) (λx=>by unfold aE.mu;omega) o.keys.l;have P:DT p:=⟨aKh ab,λq d=>aFD (by have:=BV (μ:=cq.mu) d;omega),ab⟩;have k:∀x∈o.keys.l,x.e.cp/\x.key.s.length<1050000:=λx h=>by have e1:=BV (μ:=aE.mu) h;have e2:x.mu=(x.key.s.length+1)+x.e.mu+1:=rfl;exact⟨aoV ab,ab⟩
 exact⟨P,aE5 P ab,⟨ab,ab,λx h=>(k x h).1.1⟩,⟨ab,ab,λx h=>(k x h).1.1.1⟩,k⟩
mutual
def xS {H : Type} : DataW H -> List aC
  | .lit l => [l.value]
  | .agg p => Ox p
  | _ => []
def Ox {H : Type} : List (DataW H) -> List aC
  | [] => []
  | d :: l => xS d ++ Ox l
end
def tL(t:an):Prop:=∀{H:Type}(e:an×aC->H)(W:aW)(h:Bool)n c x,DataW.trod e PP W 0 (λ_=>V) h n t c=J x->c=xS x.1
section
variable{H:Type}{enc:an×aC->H}{W:aW}{held:Bool}
theorem Ow{k:fN}(h:PP.underlying t=J (.int k)):tL t:=λenc W held n c x a=>by obtain⟨z,rfl,rfl,_⟩:=DataW.trod_int h a;rfl
theorem ade(h:PP.underlying t=J .bool):tL t:=λenc W held n c x a=>by obtain⟨z,rfl,rfl⟩:=DataW.trod_bool h a;rfl
def MY:Nat->List (an×Nat×Nat)->Nat->Prop|o,[],n=>o=n|o,(_,p,k)::l,n=>p=o/\MY (o+k) l n
theorem Tn{n:Nat}{cs:List aC}:∀(l:List (an×Nat×Nat))(s:List (DataW H×List MemPlace))(o:Nat),MY o l cs.length->s.length=l.length->(∀(i:Nat)y,l[i]?=J y->DataW.trod enc PP W 0 (λ_=>V) held n y.1 ((cs.drop y.2.1).take y.2.2)=s[i]?)->(∀y,y∈l->tL y.1)->cs.drop o=Ox (s.map (·.1))|[],[],o,h,_,_,_=>by have:o=cs.length:=h;rw[this,List.drop_length];rfl|[],x::s,o,_,h,_,_=>by simp at h|y::l,[],o,_,h,_,_=>by simp at h|(t,p,k)::l,x::s,o,h,d,b,c=>by obtain⟨rfl,h⟩:p=o/\MY (o+k) l cs.length:=h;have e1:=c _ gK enc W held n _ _ (b 0 _ rfl);have e2:=Tn l s (p+k) h (by simpa using d) (λi y a=>b (i+1) y (by simpa using a)) λy a=>c y (kG _ a);rw[fS,Ox,<-e1,<-e2,<-DL,GC]
theorem adg{l:List (an×Nat×Nat)}(h:nD t=J l)(k:MY 0 l (PP.cellsOf t))(j:∀y,y∈l->tL y.1):tL t:=λenc W held n c x o=>by
 unfold nD at h;split at h;.rename_i s u;cases h;obtain⟨p,m,q,rfl,d,e,g⟩:=DataW.trod_struct u o;have:=Tn (enc:=enc) (W:=W) (held:=held) (n:=m) (cs:=c) _ p 0 (by rw[d];exact k) (by simpa using e) (λi y a=>by rw[jo]at a;cases b:s.toList[i]? with|none=>rw[b]at a;simp at a|some f=>rw[b]at a;cases a;dsimp only;exact g i f (by simpa using b)) j;rw[xp]at this;rw[xS];exact this
 .simp at h
theorem aiW{e:an}{c:Nat}:∀(m s:Nat),MY (s*c) ((List.range' s m).map λi=>(e,i*c,c)) ((s+m)*c)|0,s=>rfl|m+1,s=>⟨rfl,by have:=aiW (e:=e) (c:=c) m (s+1);rw[Nat.succ_mul,show s+1+m=s+(m+1)by omega]at this;exact this⟩
theorem Kq{e:an}{n:Nat}(u:PP.underlying t=J (.array n e))(o:PP.cellsOf t=n*PP.cellsOf e)(p:tL e):tL t:=λenc W held f s x q=>by
 obtain⟨r,m,v,rfl,g,k,l⟩:=DataW.trod_array u q;have d:=aiW (e:=e) (c:=PP.cellsOf e) n 0;rw[DP,iZ,<-o,<-g]at d;have:=Tn (enc:=enc) (W:=W) (held:=held) (n:=m) (cs:=s) _ r 0 d (by simpa using k) (λi y h=>by rw[jo]at h;cases a:(List.range' 0 n)[i]? with|none=>rw[a]at h;simp at h|some j=>
 rw[a]at h;cases h;have b:i<n:=by have:=(List.getElem?_eq_some_iff.1 a).1;simpa using this
 have:j=i:=by have:=a;rw[List.getElem?_range' b]at this;simpa using this.symm
 subst this;dsimp only;exact l j b) λy h=>by obtain⟨j,_,rfl⟩:=List.mem_map.1 h;exact p
 rw[xp]at this;rw[xS];exact this
end
theorem afz{W:aW}:∀{l:List (String×DataW Unit)}{j:List MemPlace},DataW.LaidVars PP W l j->∀{n d},(n,d)∈l->∀{g t},PP.globalNamed n=J g->(PP.globals[g]?).map (·.type)=J t->tL t->∃s e z,W.heap[g]?=J (.cells s e z)/\s.toList=xS d
 |(m,f)::l,j,h,n,d,b,g,t,a,i,F=>by
  obtain⟨o,r,s,u,p,q,k1,k2,k3,k4,k5,_⟩:=h;rcases List.mem_cons.1 b with e|b
  . obtain⟨rfl,rfl⟩:=il e;obtain rfl:=bt (a.symm.trans k1);obtain rfl:=bt (i.symm.trans k2);unfold World.var? at k3;rw[a]at k3;have k3:(match W.heap[g]? with|some (.cells s _ _)=>J s|_=>Z)=J s:=k3;split at k3;.rename_i c e z k;cases k3;exact⟨_,e,z,k,F _ _ _ _ _ _ k4⟩
    .simp at k3
  .exact afz k5 b a i F
set_option maxRecDepth 100000
def Ce:AV->aC|.bool b=>.bool b|.int k n=>.int k n|_=>.nilIface
def zZ:AV->Bool|.bool _|.int _ _=>V|_=>C
theorem ak4{c:bc}{l:aJ}(h:l.all zZ=V):ba c l (l.map Ce)/\∀a,a∈l->a.aV=V:=by
 have k:∀a,a∈l->zZ a=V:=λa b=>List.all_eq_true.1 h a b;refine⟨⟨aO,λi a v x y=>?_⟩,λa b=>?_⟩;.rw[jo,x]at y;cases y;have:=k a (dw x);cases a<;>first|exact .bool _|exact .int _ _|(simp[zZ]at this)
 .have:=k a b;cases a<;>first|rfl|(simp[zZ]at this)
theorem TE:PP.globals.size=6:=aN
theorem gn0:PP.globalNamed "tidegate/scope.table"=J 0:=aN
theorem gn1:PP.globalNamed "tidegate/pattern.shapes"=J 1:=aN
theorem gn3:PP.globalNamed "internal/strconv.uint64pow10"=J 3:=aN
theorem gn4:PP.globalNamed "math/bits.deBruijn32tab"=J 4:=aN
theorem gn5:PP.globalNamed "math/bits.deBruijn64tab"=J 5:=aN
theorem tys:(PP.globals.map (·.type))=#[309,334,3,665,671,672]:=aN
theorem gt{g:Nat}(h:(#[309,334,3,665,671,672]:Array an)[g]?=J t):(PP.globals[g]?).map (·.type)=J t:=by rw[<-tys,Array.getElem?_map]at h;exact h
theorem Rh:PP.underlying 4=J .bool:=aN
theorem asQ:tL 309:=Kq (e:=308) (n:=8) aN aN (adg (t:=308) (l:=[(4,0,1),(4,1,1)]) aN (by rw[show PP.cellsOf 308=2 by kernel_rfl];exact⟨rfl,rfl,rfl⟩) (λy h=>by simp only[Nq,mA,or_false]at h;rcases h with rfl|rfl<;>exact ade Rh))
theorem asR:tL 334:=Kq (e:=333) (n:=11) aN aN (adg (t:=333) (l:=[(3,0,1),(3,1,1),(4,2,1),(4,3,1),(4,4,1),(4,5,1)]) aN (by rw[show PP.cellsOf 333=6 by kernel_rfl];exact⟨rfl,rfl,rfl,rfl,rfl,rfl,rfl⟩) (λy h=>by simp only[Nq,mA,or_false]at h;rcases h with rfl|rfl|rfl|rfl|rfl|rfl<;>first|exact ade Rh|exact Ow u3))
theorem asS:tL 665:=Kq (e:=186) (n:=20) aN aN (Ow (k:=.u64) aN)
theorem asT:tL 671:=Kq (e:=5) (n:=32) aN aN (Ow (k:=.u8) aN)
theorem asU:tL 672:=Kq (e:=5) (n:=64) aN aN (Ow (k:=.u8) aN)
open Go.Proofs.YtaeflaolgbjjlaaGreatDoor in theorem fv0:xS (Rows.laid_tidegate_scope_table (H:=Unit))=((gl[0]?).getD ([],0)).1.map Ce/\((gl[0]?).getD ([],0)).1.all zZ=V:=⟨aN,aN⟩
open Go.Proofs.YtaeflaolgbjjlaaGreatDoor in theorem fv1:xS (Rows.laid_tidegate_pattern_shapes (H:=Unit))=((gl[1]?).getD ([],0)).1.map Ce/\((gl[1]?).getD ([],0)).1.all zZ=V:=⟨aN,aN⟩
open Go.Proofs.YtaeflaolgbjjlaaGreatDoor in theorem fv3:xS (Rows.laid_internal_strconv_uint64pow10 (H:=Unit))=((gl[3]?).getD ([],0)).1.map Ce/\((gl[3]?).getD ([],0)).1.all zZ=V:=⟨aN,aN⟩
open Go.Proofs.YtaeflaolgbjjlaaGreatDoor in theorem fv4:xS (Rows.laid_math_bits_deBruijn32tab (H:=Unit))=((gl[4]?).getD ([],0)).1.map Ce/\((gl[4]?).getD ([],0)).1.all zZ=V:=⟨aN,aN⟩
open Go.Proofs.YtaeflaolgbjjlaaGreatDoor in theorem fv5:xS (Rows.laid_math_bits_deBruijn64tab (H:=Unit))=((gl[5]?).getD ([],0)).1.map Ce/\((gl[5]?).getD ([],0)).1.all zZ=V:=⟨aN,aN⟩
theorem Hy:gl.length=6:=aN
theorem aGD:(((begin PP (λ_ _=>0) default).world.heap[2]?).bind Obj.row?)=J (#[.int .i64 0],3):=aN
theorem alV:PP.buildable 3=V:=aN
theorem ct3:PP.cellTypes PP.depth 3=J [3]:=aN
theorem gl2:gl[2]?=J ([.top],3):=aN
theorem agq:(Go.Proofs.YtaeflaolgbjjlaaGreatDoor.Rows.rescaleReturnsUptoRow.laid.filter λx=>x.2.handleName?.isSome)=[]:=aN
open Go.Proofs.YtaeflaolgbjjlaaGreatDoor in theorem glb{W:aW}(L:laidMetH PP Rows.rescaleReturnsUptoRow.laid W)(S:W.ShapedOpen PP):∀(g:Nat)x,gl[g]?=J x->∃c e z,W.heap[g]?=J (.cells c e z)/\∀f,ba f x.1 c.toList/\∀a,a∈x.1->a.aV=V:=by
 unfold laidMetH at L;rw[agq]at L;obtain⟨A,b,_⟩:=L;have y:∀{n d g t},(n,d)∈Rows.rescaleReturnsUptoRow.laid->PP.globalNamed n=J g->(PP.globals[g]?).map (·.type)=J t->tL t->xS d=((gl[g]?).getD ([],0)).1.map Ce/\((gl[g]?).getD ([],0)).1.all zZ=V->∀x,gl[g]?=J x->∃c e z,W.heap[g]?=J (.cells c e z)/\∀f,ba f x.1 c.toList/\∀a,a∈x.1->a.aV=V:=by intro n d g t r m o p i x h;obtain⟨c,e,z,k1,k2⟩:=afz b r m o p;rw[h]at i;obtain⟨i,j⟩:=i;simp only[DS]at i j;exact⟨c,e,z,k1,λf=>by rw[k2,i];exact ak4 j⟩
 intro g x h;have q:g<6:=by rw[<-Hy];exact(List.getElem?_eq_some_iff.1 h).1
 match g,q,h with
 |0,_,h=>exact y (kG _ (kG _ (kG _ (kG _ gK)))) gn0 (gt rfl) asQ fv0 x h|1,_,h=>exact y (kG _ (kG _ (kG _ gK))) gn1 (gt rfl) asR fv1 x h|2,_,h=>
 obtain⟨c,k1,k2,k3⟩:=S.1 2 _ _ (by rw[TE];decide) aGD;obtain⟨B,k4,_,k5⟩:=k3 alV;rw[ct3]at k4;cases k4;have s:c.size=1:=k2;obtain⟨v,b⟩:∃v,c[0]?=J v:=⟨c[0],mX ab⟩;obtain⟨u,k6,k7⟩:=k5 0 v b;obtain rfl:3=u:=bt k6;rw[gl2]at h;cases h;refine⟨c,3,(0,0),k1,λf=>?_⟩;have Y:c.toList=[v]:=by obtain⟨l⟩:=c;match l,s,b with|[w],_,b=>simpa using b
 rw[Y];unfold Cell.ok at k7;rw[u3]at k7;cases v with|int k n=>exact⟨ba.cons (by obtain rfl:=k7.1;exact .top n) (ba.nil f),by simp[AV.aV]⟩|_=>exact absurd k7 aO
 |3,_,h=>exact y (kG _ (kG _ gK)) gn3 (gt rfl) asS fv3 x h|4,_,h=>exact y gK gn4 (gt rfl) asT fv4 x h|5,_,h=>exact y (kG _ gK) gn5 (gt rfl) asU fv5 x h
theorem af4:∀(l:List (aJ×an))(H:Heap),(∀id,H.next<=id->H.get id=Z)->(fO (λH x=>H.cP x.1 .ro x.2) l H).next=H.next+l.length/\(fO (λH x=>H.cP x.1 .ro x.2) l H).dp=H.dp/\∀id,(fO (λH x=>H.cP x.1 .ro x.2) l H).get id=if id<H.next then H.get id else(l[id-H.next]?).map λx=>.cells x.1 id .ro x.2:=by intro l;induction l with
 |nil=>
 intro H n;refine⟨rfl,rfl,λid=>?_⟩;show H.get id=_;split;.rfl
 .rename_i h;rw[n id ab];rfl|cons x l i=>
 intro H n;have s:∀id,(H.cP x.1 .ro x.2).next<=id->(H.cP x.1 .ro x.2).get id=Z:=λid hid=>by have hid:H.next+1<=id:=hid;unfold Heap.cP;rw[nq _ _ ab];exact n id ab
 obtain⟨c,d,e⟩:=i _ s;have e1:(H.cP x.1 .ro x.2).next=H.next+1:=rfl;refine⟨?_,d,λid=>?_⟩;.show(fO _ l (H.cP x.1 .ro x.2)).next=_;rw[c,e1,dE];omega
 . show(fO _ l (H.cP x.1 .ro x.2)).get id=_;rw[e,e1];by_cases a:id<H.next;.rw[if_pos ab,if_pos a];unfold Heap.cP;exact nq _ _ ab
   . rw[if_neg a];by_cases b:id=H.next;.subst b;rw[if_pos ab,Nat.sub_self];unfold Heap.cP;rw[me];rfl
     .rw[if_neg ab,show id-H.next=(id-(H.next+1))+1 by omega,AJ]
def lH(L:List Lx):List (aJ×an):=L.map λx=>(x.c,x.e)
section
variable{W:aW}{L:List Lx}
theorem LA(L:List Lx)(i:Nat):(jM (lH L)).get i=(L[i]?).map λx=>.cells x.c i .ro x.e:=by
 have h:∀i,oD.next<=i->oD.get i=Z:=λi _=>by unfold Heap.get oD;rfl
 obtain⟨_,_,a⟩:=af4 (lH L) oD h;have:=a i;rw[if_neg (by unfold oD;exact Nat.not_lt_zero _),show oD.next=0 from rfl,Nat.sub_zero]at this;unfold jM;rw[this,lH,jo,Option.map_map];rfl
theorem ayG(L:List Lx)(r:Nat):(jM (lH L)).bn r=(0,r):=by
 have h:∀id,oD.next<=id->oD.get id=Z:=λid _=>by unfold Heap.get oD;rfl
 obtain⟨_,a,_⟩:=af4 (lH L) oD h;unfold Heap.bn jM;rw[a];rfl
theorem afx{i:Nat}{l r f e}(h:(jM (lH L)).get i=J (.cells l r f e)):∃x,L[i]?=J x/\l=x.c/\r=i/\f=.ro/\e=x.e:=by rw[LA]at h;cases a:L[i]? with|none=>rw[a]at h;simp at h|some x=>rw[a]at h;obtain⟨rfl,rfl,rfl,rfl⟩:=b9.cells.inj (bt h);exact⟨x,rfl,rfl,rfl,rfl,rfl⟩
theorem PM{i:Nat}{p:Pl}(h:lP L i=J p):∃x,L[i]?=J x/\x.p=p:=by unfold lP at h;cases a:L[i]? with|none=>rw[a]at h;simp at h|some x=>rw[a]at h;exact⟨x,rfl,bt h⟩
theorem PK{i:Nat}{p:Pl}(h:lP L i=J p):fI (jM (lH L)) i:=by obtain⟨x,a,_⟩:=PM h;exact⟨x.c,i,x.e,by rw[LA,a];rfl⟩
theorem Good.Ar(h:Good W L):bM gC (lP L) (jM (lH L)) W:=by
 refine⟨⟨λid p a=>?_,λid p l r n e a k=>?_,λi j p q a g _ hr=>absurd (PK a) hr,λi j p q a g _ hr=>?_⟩,λid p o a _ _ d=>?_⟩;.obtain⟨x,b,rfl⟩:=PM a;obtain⟨c,z,e1,k1,_⟩:=(h.2 id x b).o;exact⟨(Array.getElem?_eq_some_iff.1 k1).1,by rw[LA,b];rfl⟩
 .obtain⟨x,b,rfl⟩:=PM a;obtain⟨y,m,rfl,_⟩:=afx k;obtain rfl:=bt (b.symm.trans m);exact(h.2 id x b).n
 . rcases hr with hr|hr;.exact absurd (PK a) hr
   .exact absurd (PK g) hr
 .obtain⟨x,b,rfl⟩:=PM a;rw[LA,b]at d;cases d;obtain⟨c,z,e1,k1,k2,k3,k4⟩:=(h.2 id x b).o;exact⟨c,z,e1,k1,k2,k3,k4,(h.2 id x b).s,λf=>absurd rfl f,λf=>by cases f⟩
theorem HR.start(L:List Lx):HR (lK L) N0 (λ_=>Z) (jM (lH L)) [] .empty:=by
 refine⟨nW _,λid cells e h=>?_,λp q r b c h=>(by cases h),λp r id x h=>(by cases h),λp r b h=>(by cases h),λs b h=>(by cases h),λid o h=>(by cases h),λid _=>rfl,λid l r f e h=>?_⟩;.unfold lK at h;cases a:L[id]? with|none=>rw[a]at h;simp at h|some x=>rw[a]at h;obtain⟨rfl,rfl⟩:=il (bt h);exact⟨id,.ro,by rw[LA,a];rfl,by rw[ayG];exact lX _⟩
 .obtain⟨x,a,rfl,rfl,rfl,rfl⟩:=afx h;exact⟨_,_,h⟩
end
section
variable{K K':aX}{φ:ch}{ω:aI}{H H':Heap}{lb:dV}{g:GH}
theorem HR.gone(a:HR K φ ω H lb g){p:Pk}{r:Nat}(u:ω p=J (r,V))(F:p.slot)(k:bQ (λx=>x=r) H H')(z:bg H')(E:oX H'):HR K φ (ω.set p Z) H' lb g:=by
 have back:∀q f b,ω.set p Z q=J _->q≠p/\ω q=J _/\f≠r:=λq f b h=>by
  by_cases x:q=p;.grind[aI.nC]
  .rw[aI.kV _ _ x]at h;exact⟨x,h,λy=>x (a.inj _ _ _ _ _ (y▸h) u)⟩
 have B:∀q,¬q.slot->ω.set p Z q=ω q:=λq D=>aI.kV _ _ λe=>D (e▸F);refine⟨z,λid cells e h=>?_,λq I f b c l d=>a.inj _ _ _ _ _ (back _ _ _ l).2.1 (back _ _ _ d).2.1,λq f id x l d=>?_,λq f b h=>gi (a.cw _ _ _ (back _ _ _ h).2.1) k.next,λs b w=>?_,λj o A=>?_,a.nu,E⟩;.obtain⟨root,v,g1,g2⟩:=a.dk id _ e h;have t:=a.clean _ _ _ _ u h;have hid:=a.inv.get _ _ g1;rw[lA g1]at t;exact⟨_,v,by rw[k.get id hid (by grind[lA])];omega,by rw[k.dp _ (by have:=(a.inv.root _ _ _ _ _ g1).1;omega) t];omega⟩
 .obtain⟨_,_,g1,_⟩:=a.dk id _ _ d;rw[k.root id (a.inv.get _ _ g1)];exact a.clean _ _ _ _ (back _ _ _ l).2.1 d
 .obtain⟨i,l,d⟩:=a.box s b w;have n:=B (.lb s) (by simp[Pk.slot]);refine⟨i,ai,d.keep a.inv k (bo.refl _) (aU.refl _) (back (.lb s) i V ai).2.2 λm f c x=>?_⟩;grind[Pk.slot]
 .obtain⟨i,l,d,n⟩:=a.js j o A;have G:=B (.g j) (by simp[Pk.slot]);refine⟨i,l,ai,n.keep a.inv k (bo.refl _) (aU.refl _) (back (.g j) i V ai).2.2 λm f c x=>?_⟩;grind[Pk.slot]
theorem consume(o:HR K φ ω H [] g){r:Nat}(w:ω (.sl 0)=J (r,V))(k:bQ (λf=>f=r) H H')(B:bg H')(P:oX H')(O:H'.bu=H.bu)(R:∀f,f∈H'.bT->f∈H.bT\/(f=r/\r<H.bu))(U:∀f,f∈H'.cG->f∈H.cG\/(f=r/\r<H.bu)){n u s:Nat}{m:aJ}{I:fM}{e:an}{l:aq}{c:ah Nat}(z:H'.get n=J (.cells m r I e))(Q:(H'.bn r).1<=n)(G:gI K φ l s u m)(N:∀k,c=J k->l.length<=k):∃K' t,Nx K φ ω H K' φ t H'/\HR K' φ t H' [] g/\jR K' φ t H' (.dv (.ay l e s) .no) (.sl n u l.length c s):=by
 have T:dL ω r:=⟨_,_,w⟩;have X:=lA z;have E:K n=Z:=by
   rcases D:K n with _|f;.rfl
   obtain⟨_,_,g1,_⟩:=o.dk n _ _ D;have:=o.clean _ _ _ _ w D;rw[<-k.root n (o.inv.get _ _ g1)]at this;omega
 have L:=o.gone w trivial k B P;have S:∀q,ω.set (.sl 0) Z q≠J (r,V):=λq h=>by
   by_cases f:q=.sl 0;.grind[aI.nC]
   .rw[aI.kV _ _ f]at h;exact f (o.inj _ _ _ _ _ h w)
 have M:=L.Uy z Q E S;have F:=aX.AR (x:=(m,e)) E;refine⟨_,_,⟨F,λj f v=>?_,aU.refl _,k.xg o.inv λW _ e=>e▸T,λp W b h=>?_,O,λf A=>(R f A).imp_right λ⟨a,b⟩=>⟨a▸b,a▸T⟩,λf A=>(U f A).imp_right λ⟨a,b⟩=>⟨a▸b,a▸T⟩⟩,M,?_⟩
 . unfold aX.add at v;by_cases y:j=n;.subst y;exact⟨B.get _ _ z,aT⟩
   .rw[if_neg y]at v;obtain⟨_,_,g1,_⟩:=o.dk j _ _ v;exact⟨gi (o.inv.get _ _ g1) k.next,.inl v⟩
 . by_cases f:p=.sl 0;.grind[aI.nC]
   .rw[aI.kV _ _ f]at h;exact .inl ⟨p,b,h⟩
 .exact .ay l e _ n _ c m (by simp[aX.add]) G.1 G.2.1 N G.2.2.1 λi f j d a x1 x2 x3=>(G.2.2.2 i f j d a x1 x2 x3).mono F (aU.refl _)
end
open Proofs.Tryz
set_option maxHeartbeats 4000000
section
variable{P:aG}{ak:cg}{rec:AM.Rec}{ops:Array aB}{fr:cD}{H:Heap}{o:aB}{l:List aB}{α:Type}
theorem aiT(t:Tr α)(n:Nat)(x:α)(m:Nat):(t.ins n x).get m=bif aw n m then J x else t.get m:=by grind[bE,Tr.lh,Tr.jr]
theorem aic:Am P ak rec ops [] fr H=J (.next fr H):=(rfl)
theorem aia:Am P ak rec ops (o::l) fr H=(A2 P ak rec ops fr H o).bind λ|.next fr H=>Am P ak rec ops l fr H:=(rfl)
theorem ahG(n:Nat):aA (.ofNat n) 0=C:=(rfl)
theorem aiJ(n:Nat):Int.sub (.ofNat n) 0=.ofNat n:=(rfl)
theorem w00:dI .i64 (Int.sub 0 0)=0:=(rfl)
theorem agl(a b:Nat):iR a b=a*b:=(rfl)
theorem aga(a b:Nat):gW a b=a+b:=(rfl)
theorem agD(a b:Nat):Nat.sub a b=a-b:=(rfl)
theorem ar1(a:Nat):(#[a]:Array Nat)[0]?=J a:=(rfl)
theorem ar2(a b:Nat):(#[a,b]:Array Nat)[0]?=J a:=(rfl)
theorem ar3(a b:Nat):(#[a,b]:Array Nat)[1]?=J b:=(rfl)
theorem wI{m:Nat}(h:m<=bl):dI .i64 (.ofNat m)=.ofNat m:=by unfold dI;simp only[eK,show m<9223372036854775808 from Nr h eY,dM,aR]
theorem Ij{t a b:Nat}(h:ey PP t=J (a,b)):∃i,PP.info? t=J i/\i.size=a/\i.bytes=b:=by simp_all[ey]
def II(a:AV):ah AV:=match a with|.top=>Z|v=>J v
theorem ahb{m:Tr AV}{t:Nat}:AM.bB P m (.tmp t)=II ((m.get t).getD fo):=(rfl)
theorem aha{t:Tr AV}{v:aC}:AM.bB P t (.const v)=wU v:=(rfl)
theorem ag7{k:fN}{n:Int}:II (.int k n)=J (.int k n):=(rfl)
theorem ag6{b:Bool}:II (.bool b)=J (.bool b):=(rfl)
theorem ag8:II .bC=J .bC:=(rfl)
theorem ag9{a b d e:Nat}{c:ah Nat}:II (.sl a b d c e)=J (.sl a b d c e):=(rfl)
def Gw(P:aG)(k:cg)(f:bV)(z:aJ)(H:Heap)(a:AV)(b:Heap):Prop:=k f z H=Z/\∃fr,wx P f z=J fr/\∃n,∀m,n<=m->AM.run P k m fr H=J (.ret a b)
theorem Gw.ev{f:bV}{z:aJ}{a:AV}{b:Heap}(h:Gw P ak f z H a b):Ev P ak f z H a b:=let⟨c,fr,d,n,e⟩:=h;.inr ⟨c,fr,d,n,e n (bJ n)⟩
theorem dQ.ev{f:bV}{z:aJ}{a:AV}{b:Heap}{fr:cD}(h:wx P f z=J fr)(p:ak f z H=Z)(r:dQ P ak fr H (λo=>o=.ret a b)):Gw P ak f z H a b:=by obtain⟨n,o,c,rfl⟩:=r;exact⟨p,fr,h,n,λm d=>I4 d fr H _ c⟩
theorem dQ.fin{G:Out->Prop}{x:Out}(h:body P ak (λ_ _=>Z) fr H=J x)(g:G x):dQ P ak fr H G:=⟨1,x,h,g⟩
end
attribute[local go_sem]body uN wj xD xE xF D0 cD.uG cD.QR cD.QQ DF B2 Ge Gg DB Gh Gk DH DG Gf Gp Gi Gl Gm Gn Nd DC Gj B0 DD B1 DE BZ aia aic J3 vP ff dX ahb aha ag7 ag6 ag8 ag9 Dq wU C8 eZ aiT yA ur im xG Il nv hJ gF cQ ahG cu aiJ pD sliceB eX mC w00 agl aga agD DP Nat.sub_zero tQ iZ ar1 ar2 ar3 dS nd IT
attribute[local congr]bz bA
def Jw(f e s b:Nat):Prop:=∀(a:cg)(H:Heap)(n:Nat)(z:aJ),lV PP e=J z->z.length=s->n*b<=bl->n<=bl->a f [.bC,hJ n] H=Z->Gw PP a f [.bC,hJ n] H (bif aw n 0 then .bC else .sl H.next 0 0 Z s) (bif aw n 0 then H else H.cP (jA n z) .op e)
theorem att:Jw 388 3 1 8:=by
 intro a H n z e l b h p;refine dQ.ev (fr:={fn:=388,n:=27,tmps:=(Tr.nil.ins 0 .bC).ins 1 (hJ n),todo:=[.code ((f388.body).getD .skip)],defers:=[],mode:=.run,roundOf:=Z}) (by rfl) p ?_;obtain⟨i,d,s,c⟩:=Ij ia3;have d1:decide (n*8<=bl)=V:=lf b;have d2:decide (n<=bl)=V:=lf h;have w:=wI h;show dQ PP a {fn:=388,n:=27,tmps:=_,todo:=[.code (Code.seq _ _)],defers:=[],mode:=.run,roundOf:=Z} H _;cases n<;>iterate 17(refine dQ.step 0 (λ_ _=>by simp only[go_sem,w,d,s,c,e,l,d1,d2];rfl) ?_)
 all_goals exact dQ.fin (by rfl) rfl
theorem atu:Jw 402 59 8 88:=by
 intro a H n z e l b h p;refine dQ.ev (fr:={fn:=402,n:=27,tmps:=(Tr.nil.ins 0 .bC).ins 1 (hJ n),todo:=[.code ((f402.body).getD .skip)],defers:=[],mode:=.run,roundOf:=Z}) (by rfl) p ?_;obtain⟨i,d,s,c⟩:=Ij ae3;have d1:decide (n*88<=bl)=V:=lf b;have d2:decide (n<=bl)=V:=lf h;have w:=wI h;show dQ PP a {fn:=402,n:=27,tmps:=_,todo:=[.code (Code.seq _ _)],defers:=[],mode:=.run,roundOf:=Z} H _;cases n<;>iterate 17(refine dQ.step 0 (λ_ _=>by simp only[go_sem,w,d,s,c,e,l,d1,d2];rfl) ?_)
 all_goals exact dQ.fin (by rfl) rfl
theorem atv:Jw 464 394 2 16:=by
 intro a H n z e l b h p;refine dQ.ev (fr:={fn:=464,n:=27,tmps:=(Tr.nil.ins 0 .bC).ins 1 (hJ n),todo:=[.code ((f464.body).getD .skip)],defers:=[],mode:=.run,roundOf:=Z}) (by rfl) p ?_;obtain⟨i,d,s,c⟩:=Ij ae1;have d1:decide (n*16<=bl)=V:=lf b;have d2:decide (n<=bl)=V:=lf h;have w:=wI h;show dQ PP a {fn:=464,n:=27,tmps:=_,todo:=[.code (Code.seq _ _)],defers:=[],mode:=.run,roundOf:=Z} H _;cases n<;>iterate 17(refine dQ.step 0 (λ_ _=>by simp only[go_sem,w,d,s,c,e,l,d1,d2];rfl) ?_)
 all_goals exact dQ.fin (by rfl) rfl
theorem awr:ey PP 90=J (5,56):=aN
theorem aJS:aZ PP 90=J 5:=aN
theorem atr:Jw 140 90 5 56:=by
 intro a H n z e l b h p;refine dQ.ev (fr:={fn:=140,n:=27,tmps:=(Tr.nil.ins 0 .bC).ins 1 (hJ n),todo:=[.code ((f140.body).getD .skip)],defers:=[],mode:=.run,roundOf:=Z}) (by rfl) p ?_;obtain⟨i,d,s,c⟩:=Ij awr;have d1:decide (n*56<=bl)=V:=lf b;have d2:decide (n<=bl)=V:=lf h;have w:=wI h;show dQ PP a {fn:=140,n:=27,tmps:=_,todo:=[.code (Code.seq _ _)],defers:=[],mode:=.run,roundOf:=Z} H _;cases n<;>iterate 17(refine dQ.step 0 (λ_ _=>by simp only[go_sem,Proofs.Tryz.underlying44,aJS,w,d,s,c,e,l,d1,d2];rfl) ?_)
 all_goals exact dQ.fin (by rfl) rfl
end Go.VM
