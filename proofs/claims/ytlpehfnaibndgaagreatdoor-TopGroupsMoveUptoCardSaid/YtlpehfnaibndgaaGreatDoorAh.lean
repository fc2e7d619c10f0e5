/- Proved: what functions of the program answer, within the sizes that each theorem names. -/
import Derived.Test.YtlpehfnaibndgaaGreatDoorAg
open Option renaming some->J,none->Z
open Bool renaming true->V,false->C
open Go renaming TypeId->an,Oper->aB,Program->aH,Operand->aK,Code->bM,IntKind->fR
open Int renaming ofNat->dk,add->kh
open List renaming replicate->lT
open Nat renaming beq->aw,ble->bt,blt->ct
open Option renaming bind->sD
open SizeOf renaming sizeOf->pB
noncomputable section
set_option linter.all false
namespace Go.VM
open Go Go.AM Proofs.Tryz
variable{α:Type}{w w':Bool}{a g g':GH}{a' b' c':Int}{L T e fn k m I s:Nat}{x:Pr}{Q:SV->GH->Prop}{P:aH}{p:ae}{t:an}{l:ao}{F:bh->ah bh}{lb:dV}{es:gh}{f:α->DV}
attribute[local congr]bB bC
set_option maxRecDepth 100000
set_option maxHeartbeats 1000000
def pQ(e:Edge)(n o d:Bool)(s p:Int):Edge:=⟨e.src,e.dst,e.var,e.ty,e.cond,bif o then⟨V,s::e.opens.l⟩else e.opens,bif d then⟨V,e.ma.l++[s]⟩else e.ma,e.jN,bif n then e.ka else⟨V,⟨s,p⟩::e.ka.l⟩,bif n then⟨V,s::e.inside.l⟩else e.inside⟩
def Nh(r:Pr)(o s a:Int)(p:ae):Pr:=let e:=pQ r.cJ (oY o) (bif aj o 5 then V else aj o 6) r.done s a
 bif r.done then⟨e,V,.mk 0 V [] 0 0 0 0 zE⟩else⟨e,C,nK (bif oY o then 9 else 10) p r.rest⟩
theorem aAE{c:ao}{s:List (Nat×aM)}{o:Nat×aM}(h:AM.isAgg P t=J C)(n:look (o::s) I=Z):fF P .copy t ⟨c,o::s⟩ I=(c[I]?).bind λd=>J (.dv d .no,⟨c,o::s⟩):=by
 unfold fF;rw[h];rcases b:c[I]? with _|d;.rfl
 have a:eu ⟨c,o::s⟩ I=.any\/eu ⟨c,o::s⟩ I=.no:=by grind[eu]
 rcases a with h|h<;>rw[h]<;>rfl
theorem onw{x:DV}:mK I (.ay (x::l) m 1) (.ex e)=[(I,.ex e)]:=rfl
theorem aEM{s:Int}{l:cF}:mK I (bw V ((l++[s]).map iD) 3 1) (.ex 3)=[(I,.ex 3)]:=by cases l<;>rfl
attribute[go_sem]aAE onw aEM
def oP{b:Bool}{n:Nat}{x:DV}:bw b (x::l) e n=.ay (x::l) e n:=rfl
theorem aml{a b:Bool}:gb PP .eql 4 (.bool a) (.bool b)=J (.bool (a==b)):=by rfl
attribute[go_sem]aml
structure aks(r:Pr):Prop where
 e:xA r.cJ
 p:r.rest.cn<100000000
def zP:ae:=.mk 0 V [] 0 0 0 0 zE
def OV(t v:Int)(c:Expr):Pr:=⟨⟨0,0,v,t,c,⟨V,[]⟩,⟨V,[]⟩,⟨V,[]⟩,⟨V,[]⟩,⟨V,[]⟩⟩,V,zP⟩
def Ec(e:Edge)(c:Expr):Edge:=⟨e.src,e.dst,e.var,e.ty,e.cond,e.opens,e.ma,⟨V,e.jN.l++[c]⟩,e.ka,e.inside⟩
def NP(r:Pr)(p:ae)(c:Expr):Pr:=bif r.done then⟨Ec r.cJ c,V,zP⟩else⟨r.cJ,C,nK 7 p r.rest⟩
def UD(l:bq):ae:=l.headD zP
def rW:ae->Pr->List Pr|.mk o n args t v s p c,x=>bif aj o 1 then[nX x C (args.drop 1)]else bif aj o 4 then DD (UD args) x else bif aj o 8 then DD (UD (args.drop 1)) x else bif aj o 7 then[NP x (.mk o n args t v s p c) c]else[Nh x o s p (.mk o n args t v s p c)]
def u6(p a:ae)(x:Pr):List Pr:=bif x.done then[x,⟨x.cJ,C,p⟩]else[⟨x.cJ,C,.mk 8 V [x.rest,a] 0 0 0 0 zE⟩]
def BU:ae->Pr->List Pr|.mk o n args t v s p c,x=>bif aj o 4 then u6 (.mk o n args t v s p c) (UD args) x else rW (.mk o n args t v s p c) x
def uQ(a:Bool)(f:bq)(k:Nat)(x:Pr):Pr:=bif a then Qi x f k else x
mutual
def eK : ae -> List Pr
  | .mk o n args t v s p c => bif aj o 0 then [OV t v c] else bif aj o 2 || aj o 3 then nk (aj o 3) args args 0 else (BZ args).flatMap (BU (.mk o n args t v s p c))
def BZ : bq -> List Pr
  | [] => []
  | a :: _ => eK a
def nk (b : Bool) (f : bq) : bq -> Nat -> List Pr
  | [], _ => []
  | a :: l, k => (eK a).map (uQ b f k) ++ nk b f l (k + 1)
end
structure iJ(n w:Nat)(x:Pr):Prop where
 o:x.cJ.opens.l.length<=n
 p:x.cJ.ma.l.length<=n
 i:x.cJ.inside.l.length<=n
 l:x.cJ.ka.l.length<=n
 k:x.cJ.jN.l.length<=n
 c:x.cJ.cond.nn<=w
 e:∀e∈x.cJ.jN.l,e.nn<=w
 r:x.rest.cn<=n*w
 m:x.rest.nn<=n*n
 b:∀q∈nodes x.rest,q.cond.nn<=w
 z:x.done=V->x.rest=zP
 s:x.cJ.src=0
 d:x.cJ.dst=0
theorem Expr.IZ(e:Expr):1<=e.nn:=by cases e<;>simp[Expr.nn]
theorem iJ.mono{n c d:Nat}(h:iJ n c x)(a:n<=m)(b:c<=d):iJ m d x:=⟨gw h.o a,gw h.p a,gw h.i a,gw h.l a,gw h.k a,gw h.c b,λe f=>gw (h.e e f) b,gw h.r (qz a b),gw h.m (qz a a),λq g=>gw (h.b q g) b,h.z,h.s,h.d⟩
def R7:zE.nn=1:=rfl
def aay:zP.cn=2:=rfl
theorem Td:∀a b:bq,ae.gi (a++b)=ae.gi a+ae.gi b|[],b=>by simp[ae.gi]|x::a,b=>by simp only[lS,ae.gi,Td a b];omega
theorem aoa{f:bq}{a:ae}(h:f[k]?=J a):ae.gi f=ae.gi (f.take k)+(a.cn+ae.gi (f.drop (k+1))):=by grind[D3,G3,ae.gi,Td]
mutual
theorem Oo : ∀ (p : ae), ∀ q ∈ nodes p, q.cond.nn <= p.cn
  | .mk o n args t v s a c, q, h => by
    rw [nodes] at h
    simp only [ae.cn]
    rcases Cp.1 h with rfl | h
    · simp only [ae.cond]; omega
    · have := Kq args q h; omega
theorem Kq : ∀ (l : bq), ∀ q ∈ eS l, q.cond.nn <= ae.gi l
  | [], q, h => by rw [eS] at h; exact absurd h mO
  | p :: l, q, h => by
    rw [eS, Co] at h
    simp only [ae.gi]
    rcases h with h | h
    · have := Oo p q h; omega
    · have := Kq l q h; omega
end
theorem VT:∀a b:bq,ae.bN (a++b)=ae.bN a+ae.bN b|[],b=>by simp[ae.bN]|x::a,b=>by simp only[lS,ae.bN,VT a b];omega
theorem aCi{f:bq}{a:ae}(h:f[k]?=J a):ae.bN f=ae.bN (f.take k)+(a.nn+ae.bN (f.drop (k+1))):=by grind[D3,G3,ae.bN,VT]
theorem VX:∀a b:bq,eS (a++b)=eS a++eS b|[],b=>by simp[eS]|x::a,b=>by simp only[lS,eS,VX a b,wv]
theorem ajj(n:Bool)(k:Int):∀l:bq,(qt n k l).nn<=1+ae.bN l|[]=>by simp[qt,ae.nn,ae.bN]|[p]=>by simp only[qt,ae.bN];omega|p::q::l=>by simp only[qt,ae.nn];omega
theorem ZA(n:Bool)(k:Int)(l:bq)(w:Nat)(b:1<=w)(h:∀q∈eS l,q.cond.nn<=w):∀q∈nodes (qt n k l),q.cond.nn<=w:=by
 have e:∀q∈nodes (ae.mk k n l 0 0 0 0 zE),q.cond.nn<=w:=by
  intro q a;rw[nodes]at a;rcases Cp.1 a with rfl|a;.exact b
  grind
 match l with|[]=>exact e|[p]=>intro q a;exact h q (by rw[eS];exact J3 _ a)|p::q::l=>exact e
theorem FC{n N:Nat}(h:n+1+T<=N):n*n+n+1+T<=N*N:=by have h:=qz h h;grind
theorem aji(n:Bool)(k:Int):∀l:bq,(qt n k l).cn<=2+ae.gi l|[]=>by simp[qt,ae.cn,R7,ae.gi]|[p]=>by simp only[qt,ae.gi];omega|p::q::l=>by simp only[qt,ae.cn,R7];omega
theorem FB{n c N C:Nat}(a:n+1<=N)(b:c+2+T<=C):n*c+c+2+T<=N*C:=by have h:=qz a b;grind
theorem ahs(k:Int)(o n a t v s p c)(q:ae):(nK k (.mk o n a t v s p c) q).cn=1+c.nn+q.cn:=by simp[nK,ae.cn,ae.gi]
theorem aht(k:Int)(o n a t v s p c)(q:ae):(nK k (.mk o n a t v s p c) q).nn=1+q.nn:=by grind[nK,ae.nn,ae.bN]
theorem ahr(k:Int)(o n a t v s p c)(q:ae)(w:Nat)(b:c.nn<=w)(d:∀z∈nodes q,z.cond.nn<=w):∀z∈nodes (nK k (.mk o n a t v s p c) q),z.cond.nn<=w:=by
 intro z h;simp only[nK,nodes,eS,kD]at h;rcases Cp.1 h with rfl|h;.exact b
 grind
theorem RP(k:Int)(l:bq)(w:Nat)(b:1<=w)(h:∀q∈eS l,q.cond.nn<=w):∀z∈nodes (ae.mk k V l 0 0 0 0 zE),z.cond.nn<=w:=by
 intro z a;rw[nodes]at a;rcases Cp.1 a with rfl|a;.exact b
 grind
def aaz:zP.nn=1:=rfl
def aax(w:Nat)(a:1<=w):∀z∈nodes zP,z.cond.nn<=w:=RP 0 [] w a (λq h=>absurd h mO)
theorem arF(t v:Int)(o:Expr)(n c:Nat)(a:1<=n)(b:o.nn<=c)(d:2<=c):iJ n c (OV t v o):=⟨mn _,mn _,mn _,mn _,mn _,b,λ_ h=>absurd h mO,by show zP.cn<=_;rw[aay];have:=qz a d;omega,by show zP.nn<=_;rw[aaz];have:=qz a a;omega,aax _ ab,λ_=>rfl,rfl,rfl⟩
def iJ.rest{n c d:Nat}(h:iJ n c x)(a:n<=m)(b:c<=d){q:ae}(g:q.cn<=m*d)(f:q.nn<=m*m)(e:∀z∈nodes q,z.cond.nn<=d):iJ m d ⟨x.cJ,C,q⟩:=let h:=h.mono a b
 ⟨h.o,h.p,h.i,h.l,h.k,h.c,h.e,g,f,e,λh=>Bool.noConfusion h,h.s,h.d⟩
theorem aog{n c d:Nat}(h:iJ n c x)(e:Bool)(l:bq)(i:ae.gi l=T)(f:n+1+ae.bN l<=m)(g:c+2+T<=d):iJ m d (nX x e l):=by
 have j:=FB (show n+1<=m by omega) g;have hN:=FC f;have hr:=h.r;have o:=h.m;have k:∀b∈eS l,b.cond.nn<=d:=λb a=>by have:=Kq l b a;omega
 rcases l with _|⟨p,l⟩;.exact h.mono ab ab
 refine h.rest (q:=bif x.done then qt e 1 (p::l)else qt e 1 (x.rest::p::l)) ab ab ?_ ?_ ?_;.grind[aji,ae.gi]
 .grind[ajj,ae.bN]
 . cases x.done
   . rw[bX];refine ZA e 1 _ d ab λb a=>?_;rw[eS,Co]at a;rcases a with a|a;.have:=h.b b a;omega
     grind
   grind[ZA]
theorem ayz{g i d:Nat}(h:iJ g i x){f:bq}{a:ae}(j:f[k]?=J a)(p:i=a.cn)(t:g=a.nn)(l:ae.bN f+1<=m)(o:2+ae.gi f<=d):iJ m d (Qi x f k):=by
 have u:=aoa j;have v:=aCi j;have r:=FB (n:=g) (c:=i) (N:=m) (C:=d) (T:=ae.gi (f.take k)+ae.gi (f.drop (k+1))) ab ab;have hN:=FC (n:=g) (N:=m) (T:=ae.bN (f.take k)+ae.bN (f.drop (k+1))) ab;have hr:=h.r;have s:=h.m;have L:∀e∈eS (f.take k),e.cond.nn<=d:=λe b=>by have:=Kq _ e b;omega
 have R:∀e∈eS (f.drop (k+1)),e.cond.nn<=d:=λe b=>by have:=Kq _ e b;omega
 refine h.rest (q:=qt C 3 (L5 x f k)) ab ab ?_ ?_ ?_;.grind[aji,L5,Td,ae.gi]
 .grind[ajj,L5,VT,ae.bN]
 . refine ZA C 3 _ d ab λe b=>?_;unfold L5 at b;rw[VX,VX]at b;rcases Co.1 b with b|b;.grind
   . rcases Co.1 b with b|b
     . cases hd:x.done;.rw[hd,bX]at b;simp only[eS,kD]at b;have:=h.b e b;omega
       grind[eS]
     grind
theorem aMF{n c d:Nat}(h:iJ n c x)(g l r t v s p o)(f:n+1<=m)(j:1+o.nn+c<=d):iJ m d (NP x (.mk g l r t v s p o) o):=by
 have q:=Expr.IZ o;have k:=FB (T:=o.nn-1) f (show c+2+(o.nn-1)<=d by omega);have hN:=FC (T:=0) f;have hr:=h.r;have u:=h.m;have z:=aay;have i:=aaz;have a:=h.mono (show n<=m by omega) (show c<=d by omega);unfold NP;cases x.done;.refine h.rest ab ab ?_ ?_ (ahr _ _ _ _ _ _ _ _ _ _ _ ab a.b)<;>grind[ahs,aht]
 . refine⟨a.o,a.p,a.i,a.l,?_,a.c,?_,ai,ai,aax _ ab,λ_=>rfl,a.s,a.d⟩;.have:=h.k;grind[Ec]
   . intro e b;simp only[Ec,aR,Co,Cq]at b;rcases b with b|rfl;.exact a.e e b
     omega
theorem aIL{n c d:Nat}(h:iJ n c x)(y s p:Int)(A w a B v t R o)(l:n+1<=m)(K:1+o.nn+c<=d):iJ m d (Nh x y s p (.mk A w a B v t R o)):=by
 have M:=Expr.IZ o;have L:=FB (T:=o.nn-1) l (show c+2+(o.nn-1)<=d by omega);have hN:=FC (T:=0) l;have hr:=h.r;have N:=h.m;have O:=aay;have D:=aaz;have b:=h.mono (show n<=m by omega) (show c<=d by omega);have E:=h.o;have F:=h.p;have G:=h.i;have H:=h.l;have I:=h.k;have k:∀(g i j:Bool)(e:Bool)(q:ae),q.cn<=m*d->q.nn<=m*m->(∀z∈nodes q,z.cond.nn<=d)->(e=V->q=zP)->iJ m d ⟨pQ x.cJ g i j s p,e,q⟩:=by intro g i j e q u f P r;refine⟨?_,?_,?_,?_,?_,b.c,b.e,u,f,P,r,b.s,b.d⟩<;>grind[pQ]
 unfold Nh;cases x.done;.refine k _ _ _ _ _ ?_ ?_ (ahr _ _ _ _ _ _ _ _ _ _ _ ab b.b) (λh=>Bool.noConfusion h)<;>grind[ahs,aht]
 .exact k _ _ _ _ _ (by show zP.cn<=_;omega) (by show zP.nn<=_;omega) (aax _ ab) (λ_=>rfl)
theorem aiL{n c d:Nat}(h:iJ n c x)(b:ae)(g:n+1<=m)(i:c+2<=d)(a:(b.cn<=c/\b.nn<=n)\/(c+2+b.cn<=d/\n+1+b.nn<=m)):∀y∈DD b x,iJ m d y:=by
 have hr:=h.r;have o:=h.m;have f:=R7;have l:n*c+b.cn+2<=m*d:=by
   rcases a with a|a;.have:=FB (T:=0) g i;omega
   .have:=FB g a.1;omega
 have hN:n*n+b.nn+1<=m*m:=by
   rcases a with a|a;.have:=FC (T:=0) g;omega
   .have:=FC a.2;omega
 have j:∀z∈nodes b,z.cond.nn<=d:=λz f=>by have:=Oo b z f;omega
 have L:∀z∈nodes x.rest,z.cond.nn<=d:=λz f=>by have:=h.b z f;omega
 unfold DD;cases x.done;.intro y e;rw[bX,Cq]at e;rw[e];refine h.rest ab ab (by grind[ae.cn,ae.gi]) (by grind[ae.nn,ae.bN]) (RP _ _ _ ab λq k=>?_);grind[eS]
 . intro y e;rw[aR,Cp,Cq]at e;rcases e with rfl|rfl;.exact h.mono ab ab
   .refine h.rest ab ab (by grind[ae.cn,ae.gi]) (by grind[ae.nn,ae.bN]) (RP _ _ _ ab λq k=>?_);grind[eS]
theorem aHw{n c d:Nat}(h:iJ n c x)(p a:ae)(f:n+1<=m)(i:c+2<=d)(l:a.cn<=c)(B:a.nn<=n)(o:p.cn<=d)(j:p.nn<=m):∀y∈u6 p a x,iJ m d y:=by
 have hr:=h.r;have k:=h.m;have g:=R7;have r:=FB (T:=0) f i;have hN:=FC (T:=0) f;have s:d<=m*d:=by have:=qz (show 1<=m by omega) (bS d);omega
 have L:m<=m*m:=by have:=qz (show 1<=m by omega) (bS m);omega
 unfold u6;cases x.done
 . intro y e;rw[bX,Cq]at e;rw[e];refine h.rest ab ab (by grind[ae.cn,ae.gi]) (by grind[ae.nn,ae.bN]) (RP _ _ _ ab λq b=>?_);simp only[eS,kD,Co]at b;rcases b with b|b;.have:=h.b q b;omega
   .have:=Oo a q b;omega
 . intro y e;rw[aR,Cp,Cq]at e;rcases e with rfl|rfl;.exact h.mono ab ab
   .exact h.rest ab ab ab ab (λz g=>by have:=Oo p z g;omega)
theorem aEJ{o n a l t v s p c}(h:iJ a.nn a.cn x)(i:aj o 8=V->l≠[]):∀y∈rW (.mk o n (a::l) t v s p c) x,iJ (ae.nn (.mk o n (a::l) t v s p c)) (ae.cn (.mk o n (a::l) t v s p c)) y:=by
 have j:=Expr.IZ c;have e1:ae.nn (.mk o n (a::l) t v s p c)=a.nn+ae.bN l+1:=by simp[ae.nn,ae.bN]
 have e2:ae.cn (.mk o n (a::l) t v s p c)=1+c.nn+(a.cn+ae.gi l):=by simp[ae.cn,ae.gi]
 rw[e1,e2];intro y d;rw[rW]at d;cases f:aj o 1 with|true=>rw[f,aR,Cq]at d;rw[d];exact aog h C _ rfl ai ai|false=>rw[f,bX]at d;cases g:aj o 4 with|true=>rw[g,aR]at d;exact aiL h _ ab ab (.inl ⟨bS _,bS _⟩) y d|false=>rw[g,bX]at d;cases e:aj o 8 with
 |true=>
 rw[e,aR]at d;refine aiL h _ ab ab (.inr ?_) y d;rcases l with _|⟨b,l⟩;.grind
 refine⟨?_,?_⟩;.show _+b.cn<=_;grind[ae.gi]
 .show _+b.nn<=_;grind[ae.bN]|false=>grind[aMF,aIL]
theorem aEG{o n a l t v s p c}(h:iJ a.nn a.cn x)(e:aj o 8=V->l≠[]):∀y∈BU (.mk o n (a::l) t v s p c) x,iJ (ae.nn (.mk o n (a::l) t v s p c)) (ae.cn (.mk o n (a::l) t v s p c)) y:=by intro y b;rw[BU]at b;cases d:aj o 4 with|true=>have f:=Expr.IZ c;rw[d,aR]at b;exact aHw h _ _ (by simp[ae.nn,ae.bN]) (by grind[ae.cn,ae.gi]) (bS _) (bS _) (bS _) (bS _) y b|false=>grind[aEJ]
def mT(l:List Pr):Nat:=(l.filter Pr.done).length
theorem acJ(a b:List Pr):mT (a++b)=mT a+mT b:=by simp[mT]
theorem aEH(p:ae)(x:Pr):(rW p x).length<=1+(bif x.done then 1 else 0)/\mT (rW p x)<=(bif x.done then 1 else 0):=by
 obtain⟨op,nl,args,ty,var,scope,s,cond⟩:=p;rw[rW];have k:∀y:Pr,(y.done=V->x.done=V)->[y].length<=1+(bif x.done then 1 else 0)/\mT [y]<=(bif x.done then 1 else 0):=by grind[mT]
 have r:∀b,(DD b x).length<=1+(bif x.done then 1 else 0)/\mT (DD b x)<=(bif x.done then 1 else 0):=by grind[DD,mT]
 cases aj op 1;.grind[Nh,NP]
 .exact k _ (by unfold nX;grind)
theorem aEE(p:ae)(x:Pr):(BU p x).length<=1+(bif x.done then 1 else 0)/\mT (BU p x)<=(bif x.done then 1 else 0):=by obtain⟨op,nl,args,ty,var,scope,s,cond⟩:=p;grind[BU,aEH,u6,mT]
theorem aea{f:Pr->List Pr}(h:∀x,(f x).length<=1+(bif x.done then 1 else 0)/\mT (f x)<=(bif x.done then 1 else 0)):∀l:List Pr,(l.flatMap f).length<=l.length+mT l/\mT (l.flatMap f)<=mT l
 |[]=>⟨bS _,bS _⟩|x::l=>by
  obtain⟨a,b⟩:=aea h l;obtain⟨c,d⟩:=h x;have e:mT (x::l)=(bif x.done then 1 else 0)+mT l:=by unfold mT;cases hd:x.done<;>simp[hd];omega
  rw[GZ,ib,acJ,e,dH];omega
theorem ayx(a:Bool)(f:bq)(k:Nat)(l:List Pr):mT (l.map (uQ a f k))<=mT l:=by unfold mT;induction l with|nil=>grind|cons x l i=>
 rw[fO,D4,D4];have:(uQ a f k x).done=V->x.done=V:=by
  cases a;.exact id
  .exactλh=>Bool.noConfusion h
 grind
theorem sqB{a b:Nat}:a*a+b*b<=(a+b)*(a+b):=ai
mutual
theorem Q4 : ∀ p : ae, (eK p).length <= p.nn * p.nn /\ mT (eK p) <= p.nn
  | .mk o n args t v s a c => by
    rw [eK, ae.nn]
    have q : ae.bN args * ae.bN args + 2 * ae.bN args + 1 = (ae.bN args + 1) * (ae.bN args + 1) := by
      rw [zo, Nat.mul_add]; omega
    cases aj o 0
    · rw [bX]
      cases aj o 2 || aj o 3
      · rw [bX]
        obtain ⟨h, b⟩ := aGv args
        obtain ⟨d, e⟩ := aea (aEE (.mk o n args t v s a c)) (BZ args)
        omega
      · rw [aR]
        obtain ⟨h, b⟩ := aio (aj o 3) args args 0
        omega
    · rw [aR]
      show 1 <= _ /\ 1 <= _
      omega
theorem aGv : ∀ l : bq, (BZ l).length <= ae.bN l * ae.bN l /\ mT (BZ l) <= ae.bN l
  | [] => ⟨bS _, bS _⟩
  | a :: l => by
    obtain ⟨h, c⟩ := Q4 a
    have := sqB (a := a.nn) (b := ae.bN l)
    rw [BZ, ae.bN]
    omega
theorem aio (c : Bool) (f : bq) : ∀ (l : bq) (k : Nat), (nk c f l k).length <= ae.bN l * ae.bN l /\ mT (nk c f l k) <= ae.bN l
  | [], _ => ⟨bS _, bS _⟩
  | a :: l, k => by
    obtain ⟨h, d⟩ := Q4 a
    obtain ⟨e, g⟩ := aio c f l (k + 1)
    have := sqB (a := a.nn) (b := ae.bN l)
    have := ayx c f k (eK a)
    rw [nk, ae.bN, ib, acJ, fZ]
    omega
end
def zy(p:ae):Prop:=∀q∈nodes p,ur q.op q.args.length=V
theorem zy.IM{o n r t v s p c a}(h:zy (.mk o n r t v s p c))(b:a∈r):zy a:=λq d=>h q (by grind[nodes,ae.Mx])
theorem zy.ar{o n a t v s p c}(h:zy (.mk o n a t v s p c)):ur o a.length=V:=h (.mk o n a t v s p c) (by simp[nodes])
theorem nY{a b:Int}(h:aj a b=V):a=b:=by grind[iZ]
theorem ar8{o:Int}{n:Nat}(h:aj o 8=V)(a:ur o n=V):n=2:=by have:=nY h;subst this;have a:aj (.ofNat n) 2=V:=a;grind[nY]
theorem alT{o:Int}{a:ae}{l:bq}(h:ur o (a::l).length=V):aj o 8=V->l≠[]:=by grind[ar8]
theorem ayy{l:Bool}{d:Nat}{f:bq}{a:ae}(h:iJ a.nn a.cn x)(b:f[k]?=J a)(c:ae.bN f+1<=m)(e:2+ae.gi f<=d):iJ m d (uQ l f k x):=by
 cases l;.have:=ae.Te f a (du b);have:=ae.rV f a (du b);exact h.mono ab ab
 .exact ayz h b rfl rfl c e
theorem aip(b:Bool)(f:bq)(m d:Nat)(g:ae.bN f+1<=m)(c:2+ae.gi f<=d):∀(l:bq)(k:Nat),f.drop k=l->(∀a∈l,∀y∈eK a,iJ a.nn a.cn y)->∀y∈nk b f l k,iJ m d y
 |[],_,_,_,y,h=>by rw[nk]at h;exact absurd h mO|a::l,k,hd,hr,y,h=>by
  have e:f[k]?=J a:=by rw[<-G1,hd];rfl
  rw[nk,Co]at h;rcases h with h|h;.obtain⟨x,j,rfl⟩:=au.1 h;have:=ae.rV f a (du e);exact ayy (hr a gv x j) e ab c
  .exact aip b f m d g c l (k+1) (by rw[<-D5,hd];rfl) (λa i=>hr a (jR _ i)) y h
theorem Jb:∀p:ae,zy p->∀y∈eK p,iJ p.nn p.cn y|.mk o k args t v s n c,f,y,h=>by have j:=Expr.IZ c;have i:∀a∈args,∀y∈eK a,iJ a.nn a.cn y:=λa e=>Jb a (f.IM e);rw[eK]at h;cases b:aj o 0 with|true=>rw[b,aR,Cq]at h;rw[h];exact arF _ _ _ _ _ (by simp only[ae.nn];omega) (by simp only[ae.cn];omega) (by simp only[ae.cn];omega)|false=>rw[b,bX]at h;cases d:aj o 2||aj o 3 with|true=>rw[d,aR]at h;exact aip _ args _ _ (by simp only[ae.nn];omega) (by simp only[ae.cn];omega) args 0 rfl i y h|false=>rw[d,bX]at h;cases args with|nil=>rw[BZ]at h;exact absurd h mO|cons a l=>rw[BZ]at h;obtain⟨x,g,h⟩:=List.mem_flatMap.1 h;exact aEG (i a gv x g) (alT f.ar) y h termination_by p=>pB p decreasing_by simp_wf;have:=pr e;omega
theorem iJ.ok{n w:Nat}(h:iJ n w x)(b:n<=99)(c:w<=99999):aks x:=⟨⟨by have:=h.c;omega,by have:=h.k;omega,λe a=>by have:=h.e e a;omega,by have:=h.o;omega,by have:=h.p;omega,by have:=h.i;omega,by have:=h.l;omega⟩,by have:=h.r;have:=qz b c;omega⟩
theorem aEI(p:ae)(x:Pr):rW p x≠[]:=by obtain⟨op,nl,args,ty,var,scope,s,cond⟩:=p;grind[rW,DD]
theorem SE{o:Int}(a:aj o 0=C)(h:ur o 0=V):False:=by unfold ur at h;rw[a,bX]at h;cases b:aj o 1<;>cases c:aj o 2<;>cases d:aj o 3<;>cases e:aj o 8<;>rw[b,c,d]at h<;>try rw[e]at h<;>exact absurd h fD
theorem iJ.pat{n w:Nat}(h:iJ n w x)(a:n<=99)(c:w<=99999):lV x.rest:=⟨by have:=h.m;have:=qz a a;omega,λq b=>by have:=h.b q b;omega⟩
section
variable{X φ σ:Type}{tr:X->List φ}{step:φ->σ->ah bM×σ}
def tZ(r:X->List φ)(t:φ->σ->ah bM×σ)(x:X)(s:ah bM×σ):ah bM×(ah bM×σ):=((cP t (r x) s.2).1.map λ_=>.ret,cP t (r x) s.2)
theorem CT:∀(a:List X)(s:σ),cP (tZ tr step) a (Z,s)=((cP step (a.flatMap tr) s).1.map λ_=>Code.ret,cP step (a.flatMap tr) s)|[],_=>rfl|x::a,s=>by rw[vu,GZ,xZ];simp only[tZ];rcases h:cP step (tr x) s with⟨c,b⟩;cases c with|none=>exact CT a b|some c=>rfl
theorem N6{d:List X}{s:σ}{x:X}{a:ah bM×σ}(h:tx (tZ tr step) d (Z,s) x a):a.1=Z/\∀pre y post b,tr x=pre++y::post->cP step pre a.2=(Z,b)->tx step (d.flatMap tr) s y b:=by obtain⟨pre,post,rfl,e⟩:=h;rw[CT]at e;rcases f:cP _ _ s with⟨c,k⟩;rw[f]at e;cases c with|some c=>grind|none=>have e2:=(gY (λz=>z.2) e).symm;subst e2;refine⟨rfl,λp y g b i j=>⟨pre.flatMap tr++p,g++post.flatMap tr,?_,?_⟩⟩<;>grind[xZ]
theorem Hi.lo{b c:GH}(h:Hi k a b)(l:Lo m b c)(f:a.next<=m):Hi k a c:=⟨gw h.1 l.1,λi d e=>(l.2 i ab).trans (h.2 i d e)⟩
end
set_option maxHeartbeats 4000000
def Pr.rd(x:Pr):DV:=.agg (.bool x.done::x.rest.cells)
abbrev qE:Pr->ao:=λx=>[x.cJ.d,x.rd]
def G9(p:ae):Prop:=∀g,∃h a c g',ev PP cf (.call 211 [.agg p.cells] .no g)=J (.val (.dv (.func h [] a) .no) g')/\Lo g.next g g'/\c g'/\(∀g1 g2,c g1->g1.next<=g2.next->(∀i,g.next<=i->i<g'.next->g2.get i=g1.get i)->c g2)/\wu qE h [] a c (eK p)/\∀m,cf.iU h ([]++[.dU m]++a)=Z
theorem Bn{X a:Type}{t:X->a->ah bM×a}(x:X)(s:a):cP t [x] s=t x s:=by rw[vu];rcases t x s with⟨c,b⟩;cases c<;>rfl
theorem ays(b:Nat)(f l a t v o p c):wu qE 250 [] [.ptr b 0] (abG . b (.mk f l a t v o p c)) [OV t v c]:=by intro n k i r step s U j g hr e;have h:g.get b=J _:=j _ _ _ hr;obtain⟨g2,e2,r2,d⟩:=U.run _ s g ⟨[],[],rfl,rfl⟩ hr e;rw[Bn];refine⟨g2,?_,r2,d⟩;simp only[qE,OV,Pr.rd,Edge.d,Edge.cells,ae.cells,Expr.cells,zP,ae.bn,Expr.bn,eG,zK,go_sem]at e2 h;refine aO func250 ?_;simp only[f250,go_sem,h,e2]
theorem atn{n:Nat}:(DV.dU n).flat=[.dU n]:=rfl
attribute[go_sem]atn
def kT(g:GH)(b:Nat)(p:ae):Prop:=g.get b=J (.box ⟨p.cells,[]⟩)/\b<g.next
def kT.lo{b:Nat}(h:kT g b p)(l:Lo k g g')(a:b<k):kT g' b p:=⟨(l.2 b a).trans h.1,gx h.2 l.1⟩
structure zj{σ:Type}(k:Nat)(g0:GH)(iy ny:Nat)(cap:GH->Prop)(rel:ah bM->σ->GH->Prop)(cd:ah bM)(s:ah bM×σ)(g:GH):Prop where
 r:rel s.1 s.2 g
 c:cap g
 h:Hi k g0 g
 y:g.get iy=J (.box ⟨[.dU ny],[]⟩)e:cd=s.1.map λ_=>Code.ret
 n:iy<g.next
def zj.lo{a:Type}{b:GH}{y n:Nat}{c:GH->Prop}{r:ah bM->a->GH->Prop}{d:ah bM}{s:ah bM×a}{e:Pr->ao}{p:Pr->a->Prop}{t:Pr->a->ah bM×a}(U:Cu e p n k r t)(h:zj k b y n c r d s g)(l:Lo m g g')(j:k<=m)(i:b.next<=m)(o:y<m)(f:∀g1 g2,c g1->Lo m g1 g2->c g2):zj k b y n c r d s g':=⟨U.stay _ _ _ _ h.r (l.mono j),f _ _ h.c l,h.h.lo l i,(l.2 y o).trans h.y,h.e,gx h.n l.1⟩
structure nu(L:Nat)(a b:GH):Prop where
 n:a.next<=b.next
 g:∀i,i≠L->i<a.next->b.get i=a.get i
theorem nu.refl:nu L a a:=⟨bS _,λ_ _ _=>rfl⟩
theorem nu.set{b:GH}{o:GO}(h:nu L a b):nu L a (b.set L o):=⟨h.n,λi c d=>by rw[kU,if_neg c];exact h.g i c d⟩
theorem nu.sg{j:Nat}{b:GH}{o:GO}(h:nu L a b)(e:a.next<=j):nu L a (b.set j o):=⟨h.n,λi c d=>by rw[kU,if_neg ab];exact h.g i c d⟩
theorem nu.alloc{b:GH}{o:GO}(h:nu L a b):nu L a (b.alloc o):=⟨gw h.n (by simp[dM]),λi c d=>by have:=h.n;rw[km,if_neg ab];exact h.g i c d⟩
theorem lz{b:GH}(h:nu L a b:=by repeat(first|exact nu.refl|refine nu.alloc ?_|refine nu.set ?_|refine nu.sg ?_ (by first|exact bS _|omega|(simp only[dM,gO];omega)))):nu L a b:=h
theorem nu.lo{b:GH}(h:nu L a b)(e:k<=L)(c:L<a.next):Lo k a b:=⟨h.n,λi d=>h.g i ab ab⟩
section
variable{σ:Type}{k n L:Nat}{ok:Pr->σ->Prop}{rel:ah bM->σ->GH->Prop}{step:Pr->σ->ah bM×σ}{cap:GH->Prop}{g0 g1 gA g2:GH}{iy:Nat}{s:σ}
theorem R6(U:Cu qE ok n k rel step)(y:Pr)(s:σ)(d:ok y s)(f:rel Z s g1)(c:k<=L)(b:L<g1.next)(a:nu L g1 gA)(h:∀g2,rel (step y s).1 (step y s).2 g2->Hi k gA g2->Sat (F (.val (.dv (.bool (step y s).1.isNone) .no) g2)) Q):Sat ((ev PP cf (.dU n (qE y) gA)).bind F) Q:=by obtain⟨g2,e,r,g⟩:=U.run y s gA d (U.stay _ _ _ _ f (a.lo c b)) (by have:=a.n;omega);grind
theorem yY(U:Cu qE ok n k rel step)(y:Pr)(s:σ){a:ao}(e:qE y=a)(d:ok y s)(r:rel Z s g1)(f:k<=L)(c:L<g1.next)(b:nu L g1 gA)(h:∀g2,rel (step y s).1 (step y s).2 g2->Hi k gA g2->Sat (F (.val (.dv (.bool (step y s).1.isNone) .no) g2)) Q):Sat ((ev PP cf (.dU n a gA)).bind F) Q:=by subst e;exact R6 U y s d r f c b h
theorem zj.next(U:Cu qE ok n k rel step)(R:zj k g0 iy n cap rel Z (Z,s) g1)(d:nu L g1 gA)(b:Hi k gA g2)(l:k<=iy)(y:iy<L)(p:g0.next<=L)(m:L<g1.next)(g:∀g1 g2,cap g1->g1.next<=g2.next->(∀i,iy<i->i<L->g2.get i=g1.get i)->cap g2){c:ah bM}{f:σ}{o:GO}(r:rel c f g2):zj k g0 iy n cap rel (c.map λ_=>Code.ret) (c,f) (g2.set L o)/\Hi (L+1) g1 (g2.set L o):=by
 have q:=d.n;have S:=b.1;have e:∀i,k<=i->i≠L->i<g1.next->(g2.set L o).get i=g1.get i:=λi a h j=>by rw[kU,if_neg h,b.2 i a ab,d.g i h j]
 refine⟨⟨U.stay _ _ _ _ r (Lo.set ab),g _ _ R.c (by grind[gO]) ai,⟨by grind[gO],λi a h=>?_⟩,?_,rfl,by grind[gO]⟩,⟨by grind[gO],λi a h=>e i ab ab h⟩⟩;.rw[e i a ab ab];exact R.h.2 i a h
 .rw[e iy l ab ab];exact R.y
end
theorem agd(a q c:ae)(l:bq)(O B:Nat)(hT:G9 a)(hq:q.args=c::l):wu qE 294 [] [.ptr O 0,.ptr B 0] (λg=>kT g O a/\kT g B q) ((eK a).flatMap (u6 q c)):=by
 intro n k σ D step s U jX g hr Q;obtain⟨⟨kV,nI⟩,⟨ji,oS⟩⟩:=jX _ _ _ hr;obtain⟨h,ca,cap,g1,e1,l1,c1,H,it,hp⟩:=hT (g.alloc (.box ⟨[.dU n],[]⟩));suffices hS:Sat (ev PP cf (.call 294 ([]++[.dU n]++[.ptr O 0,.ptr B 0]) .no g)) λv g'=>v=.tp []/\D (cP step ((eK a).flatMap (u6 q c)) s).1 (cP step ((eK a).flatMap (u6 q c)) s).2 g'/\Hi k g g' by obtain⟨v,g',e,rfl,r,h⟩:=hS;simp_all
 refine np func294 ?_;have kY:(O=g.next)=False:=cH ab;have Lt:(B=g.next)=False:=cH ab;have wS:Lo g.next g g1:=(Lo.alloc (bS _)).trans (l1.mono (by simp[dM]));have db:g.next<g1.next:=by have:=l1.1;grind[dM]
 have hy:g1.get g.next=J (.box ⟨[.dU n],[]⟩):=(l1.2 _ (by simp[dM])).trans (by simp[km]);rw[dM]at H;simp only[f294];simp only[go_sem,kV,kY,e1];refine Av it (tZ (u6 q c) step) (zj k g g.next n cap D) (Z,s) hp rfl ⟨U.stay _ _ _ _ hr (wS.mono Q),c1,⟨ab,λi h1 P=>wS.2 i P⟩,hy,rfl,db⟩ (λc s g' h=>h.c) (λc s g2 g3 h hl=>h.lo U hl ab ab db (λg4 g5 m u=>H g4 g5 m u.1 λi _ hi=>u.2 i hi)) (λx s g2 hx R hN M=>?_) (λg2 R hN=>?_);.obtain⟨jB,S⟩:=N6 hx;obtain⟨s0,s⟩:=s;simp only at jB S;subst jB;refine Ay M rfl ?_;have T:=R.y;obtain⟨zC,Bb⟩:=jX _ _ _ R.r;have X:(g1.next=g2.next)=False:=cH ab;have Y:(g1.next=g2.next+1)=False:=cH ab;have z3:(g2.next=g1.next)=False:=cH ab;have z4:(g2.next+1=g1.next)=False:=cH ab;have z5:(g.next=g2.next)=False:=cH ab;have z6:(g.next=g2.next+1)=False:=cH ab;have z7:(g.next=g1.next)=False:=cH ab;have z8:(B=g2.next)=False:=cH ab;have z9:(B=g2.next+1)=False:=cH ab;have tf:(B=g1.next)=False:=cH ab;have mj:(g2.next+1=g2.next)=False:=cH ab;have E:(g2.next=g2.next+1)=False:=cH ab;have d1:=aKh;simp only[bH,opsOf,f294,go_sem]at d1;obtain⟨y,w,args,A,j,p,f,d⟩:=q;obtain rfl:args=c::l:=hq;have G:=Bb.1;simp only[ae.cells]at G;obtain⟨cJ,done,rest⟩:=x;simp only[qE,Pr.rd,Edge.d];cases done with
 |false=>
  simp only[go_sem,M,T,X,Y,z3,z4,z5,z6,z7,z8,z9,tf,mj,E,G,d1];simp only[um];have dX:=S [] ⟨cJ,C,.mk 8 V [rest,c] 0 0 0 0 zE⟩ [] s rfl rfl;refine R6 U ⟨cJ,C,.mk 8 V [rest,c] 0 0 0 0 zE⟩ s dX R.r (show k<=g1.next by omega) hN lz (λg3 N t=>?_);have F:=t.2 g1.next ab (by grind[dM,gO]);have W:=t.2 g.next ab (by grind[dM,gO]);simp only[go_sem,M,T,X,Y,z5,z6,z7]at F W;have fin:=λo=>R.next U lz t Q ab ab hN (λa b m u I=>H a b m u λi h7 K=>I i ab K) (o:=o) N;have ns:tZ (u6 (.mk y w (c::l) A j p f d) c) step ⟨cJ,C,rest⟩ (Z,s)=((step ⟨cJ,C,.mk 8 V [rest,c] 0 0 0 0 zE⟩ s).1.map λ_=>Code.ret,step ⟨cJ,C,.mk 8 V [rest,c] 0 0 0 0 zE⟩ s):=by show((cP step [_] s).1.map _,cP step [_] s)=_;rw[Bn]
  rw[ns];generalize step ⟨cJ,C,.mk 8 V [rest,c] 0 0 0 0 zE⟩ s=z at*;obtain⟨c3,s3⟩:=z;rcases c3 with _|c3<;>simp only[rz,rA,sE,gJ]at fin|-<;>simp only[go_sem,F]<;>exact⟨trivial,(fin _).1,(fin _).2,rfl⟩|true=>
  have ns:tZ (u6 (.mk y w (c::l) A j p f d) c) step ⟨cJ,V,rest⟩ (Z,s)=((match(step ⟨cJ,V,rest⟩ s).1 with|none=>(step ⟨cJ,C,.mk y w (c::l) A j p f d⟩ (step ⟨cJ,V,rest⟩ s).2).1|some c=>J c).map λ_=>Code.ret,match(step ⟨cJ,V,rest⟩ s).1 with|none=>step ⟨cJ,C,.mk y w (c::l) A j p f d⟩ (step ⟨cJ,V,rest⟩ s).2|some c=>(J c,(step ⟨cJ,V,rest⟩ s).2)):=by show((cP step [_,_] s).1.map _,cP step [_,_] s)=_;grind[vu,Bn]
  rw[ns];simp only[go_sem,M,T,X,Y,z3,z4,z5,z6,z7,mj,E];simp only[um];have dX:=S [] ⟨cJ,V,rest⟩ [⟨cJ,C,.mk y w (c::l) A j p f d⟩] s rfl rfl;have L:=S [⟨cJ,V,rest⟩] ⟨cJ,C,.mk y w (c::l) A j p f d⟩ [] (step ⟨cJ,V,rest⟩ s).2 rfl;rw[Bn]at L;refine R6 U ⟨cJ,V,rest⟩ s dX R.r (show k<=g1.next by omega) hN lz (λg3 N t=>?_);have PF:=t.1;simp only[dM,gO]at PF;have F:=t.2 g1.next ab (by grind[dM,gO]);have W:=t.2 g.next ab (by grind[dM,gO]);have q3:=t.2 g2.next ab (by simp only[dM,gO];omega);simp only[go_sem,M,T,X,Y,z3,z5,z6,z7,E]at F W q3;have fin:=λo=>R.next U lz t Q ab ab hN (λa b m u I=>H a b m u λi h7 K=>I i ab K) (o:=o) N;have uD:=λ(g4:GH)(m:Hi k g3 g4)c s o(r:D c s g4)=>R.next U lz (t.trans m) Q ab ab hN (λa b m u I=>H a b m u λi h7 K=>I i ab K) (o:=o) r;generalize step ⟨cJ,V,rest⟩ s=z at*;obtain⟨c3,s3⟩:=z;cases c3 with|some c3=>simp only[sE,gJ]at fin|-;simp only[go_sem,F];exact⟨trivial,(fin _).1,(fin _).2,rfl⟩|none=>simp only[rz]at fin L|-;have On:=(jX _ _ _ N).2.1;simp only[ae.cells,ae.bn,oP]at On;have L:=L trivial;simp only[go_sem,W,q3,On];simp only[um];refine R6 U ⟨cJ,C,.mk y w (c::l) A j p f d⟩ s3 L N (show k<=g1.next by omega) ab nu.refl (λg4 r4 m=>?_);have q4:=(m.2 g1.next ab ab).trans F;have uD:=λo=>uD g4 m _ _ o r4;generalize step ⟨cJ,C,.mk y w (c::l) A j p f d⟩ s3=z at*;obtain⟨c4,s4⟩:=z;cases c4 with|none=>simp only[rz,rA]at uD|-;simp only[go_sem,q4];exact⟨trivial,(uD _).1,(uD _).2,rfl⟩|some c4=>simp only[sE,gJ]at uD|-;simp only[go_sem,q4];exact⟨trivial,(uD _).1,(uD _).2,rfl⟩
 .rw[CT]at R|-;obtain⟨r,_,P,_⟩:=R;revert r;cases(cP step ((eK a).flatMap (u6 q c)) s).1 with|none=>intro r;simp only[rA,go_sem];exact⟨trivial,r,P⟩|some c=>intro r;simp only[gJ,go_sem];exact⟨trivial,r,P⟩
section
variable{P:aH}{cf:bU}{rec:dR}{gs cr:aC}{ops l:List aB}{os:Hd (List aB)}{e:Kx}{O:St}{k:eF->ah bh}{i j:Nat}
def r2(P:aH)(c:bU)(r:dR)(g a:aC)(s:Hd (List aB))(e:Kx):List Unit->List aB->(eF->ah bh)->St->ah bh|[],o::l,k,O=>bif Kx.fr e (jE c O o.op)then re P c r g a s (.mk (o::l) (.mk (o::l))) k O else Z|_::b,o::l,k,O=>(dG P c r g a l O o).bind (r2 P c r g a s e b l k)|_,[],_,_=>Z
def r1(P:aH)(c:bU)(r:dR)(g d:aC)(s:Hd (List aB))(b:List Unit):List Unit->List aB->(eF->ah bh)->St->ah bh|[],o::l,k,O=>(dG P c r g d l O o).bind (r2 P c r g d s (jE c O o.op) b l k)|_::a,o::l,k,O=>(dG P c r g d l O o).bind (r1 P c r g d s b a l k)|_,[],_,_=>Z
def Re(P:aH)(c:bU)(r:dR)(g a:aC)(o:Hd (List aB))(e:Kx)(b:List Unit)(l:Hd (List aB))(k:eF->ah bh)(s:St):ah bh:=r2 P c r g a o e b l.get k s
def Jd(P:aH)(c:bU)(r:dR)(g d:aC)(o:Hd (List aB))(b a:List Unit)(l:Hd (List aB))(k:eF->ah bh)(s:St):ah bh:=r1 P c r g d o b a l.get k s
variable{d:ah Tmp}{op:Op}{ty:an}{pos:String}{af:Array Go.Edge}{a b:List Unit}
theorem aGW{t:Tg (⟨d,op,ty,pos,af,Z⟩::l)}:Jd P cf rec gs cr os b (()::a) (.mk (⟨d,op,ty,pos,af,Z⟩::l) t) k O=(dG P cf rec gs cr l O ⟨d,op,ty,pos,af,Z⟩).bind (Jd P cf rec gs cr os b a (.mk l (.mk l)) k):=(rfl)
theorem aGX{t:Tg (⟨d,op,ty,pos,af,Z⟩::l)}:Jd P cf rec gs cr os b [] (.mk (⟨d,op,ty,pos,af,Z⟩::l) t) k O=(dG P cf rec gs cr l O ⟨d,op,ty,pos,af,Z⟩).bind (Re P cf rec gs cr os (jE cf O op) b (.mk l (.mk l)) k):=(rfl)
theorem aGY{t:Tg (⟨d,op,ty,pos,af,Z⟩::l)}:Re P cf rec gs cr os e (()::b) (.mk (⟨d,op,ty,pos,af,Z⟩::l) t) k O=(dG P cf rec gs cr l O ⟨d,op,ty,pos,af,Z⟩).bind (Re P cf rec gs cr os e b (.mk l (.mk l)) k):=(rfl)
theorem aGZ{t:Tg (⟨d,op,ty,pos,af,Z⟩::l)}:Re P cf rec gs cr os e [] (.mk (⟨d,op,ty,pos,af,Z⟩::l) t) k O=bif Kx.fr e (jE cf O op)then re P cf rec gs cr os (.mk (⟨d,op,ty,pos,af,Z⟩::l) (.mk _)) k O else Z:=(rfl)
theorem axQ{n x:Nat}(h:j<n):vK [(i,j)] x n=C:=by show((aw i x&&aw j n)||false)=C;grind[kS]
theorem atW{n:Nat}(h:i<n):ED [(i,j)] n=C:=by show(aw i n||false)=C;grind[kS]
theorem ai4:∀(l:List aB)(n:Nat)(g:List (Nat×Kx))(O:St),j<n->i<n->ue P cf rec gs cr ops [(i,j)] l n g k O=re P cf rec gs cr (.mk ops (.mk ops)) (.mk l (.mk l)) k O|[],_,_,_,_,_=>rfl|o::l,n,g,O,a,b=>by have h:=λg O=>ai4 l (n+1) g O ab ab;unfold ue;show _=((yX ⟨ops⟩ O o).bind _).bind _;cases yX ⟨ops⟩ O o with|none=>rfl|some w=>simp only[cR];cases w with
 |true=>
 have:(g.all λe=>!(vK [(i,j)] e.1 n)||Kx.fr e.2 (jE cf O o.op))=V:=by rw[AW];intro e _;rw[axQ a];rfl
 rw[this];show(dG P cf rec gs cr l O o).bind _=(((dG P cf rec gs cr l O o).bind λs=>kf P cf rec gs cr C ⟨ops⟩ l 1 [] s).bind _);cases dG P cf rec gs cr l O o with|none=>rfl|some s=>show ue P cf rec gs cr ops [(i,j)] l (n+1) _ k s=(kf P cf rec gs cr C ⟨ops⟩ l 1 [] s).bind _;rw[h,Jp l 1 0];rfl
 |false=>show(aG O o.dst (.tp [])).bind _=(((aG O o.dst (.tp [])).bind λO=>kf P cf rec gs cr C ⟨ops⟩ l 1 [] O).bind _);cases aG O o.dst (.tp [])with|none=>rfl|some s=>show ue P cf rec gs cr ops [(i,j)] l (n+1) _ k s=(kf P cf rec gs cr C ⟨ops⟩ l 1 [] s).bind _;rw[h,Jp l 1 0];rfl
def Dq(l:List aB)(n:Nat):Bool:=(l.take n).all λo=>o.guard.isNone
theorem QM{o:aB}{n:Nat}(h:Dq (o::l) (n+1)=V):o.guard=Z/\Dq l n=V:=by simp_all[Dq]
theorem NO{o:aB}(h:o.guard=Z):yX ⟨ops⟩ O o=J V:=by grind[yX]
theorem ai3{r:bh}(K:i<j):∀(b:List Unit)(l:List aB)(n:Nat)(O:St),n+b.length=j->i<n->Dq l (b.length+1)=V->r2 P cf rec gs cr (.mk ops (.mk ops)) e b l k O=J r->ue P cf rec gs cr ops [(i,j)] l n [(i,e)] k O=J r
 |[],[],_,_,_,_,_,h=>by cases h|_::_,[],_,_,_,_,_,h=>by cases h|[],o::l,n,O,m,q,g,h=>by
  obtain⟨g1,g2⟩:=QM g;have p:n=j:=by simpa using m
  subst p;have a:(bif Kx.fr e (jE cf O o.op)then re P cf rec gs cr (.mk ops (.mk ops)) (.mk (o::l) (.mk (o::l))) k O else Z)=J r:=h;cases f:Kx.fr e (jE cf O o.op)with|false=>rw[f]at a;cases a|true=>
   rw[f]at a;unfold ue;rw[NO g1];simp only[cR,aR];have:([(i,e)].all λe=>!(vK [(i,n)] e.1 n)||Kx.fr e.2 (jE cf O o.op))=V:=by show((!(vK [(i,n)] i n)||Kx.fr e (jE cf O o.op))&&V)=V;rw[f];simp
   rw[this,aR];have c:((yX ⟨ops⟩ O o).bind λw=>bif w then bif !C||IS ops [] 0 (jE cf O o.op)then(dG P cf rec gs cr l O o).bind λs=>kf P cf rec gs cr C ⟨ops⟩ l 1 [] s else Z else(aG O o.dst (.tp [])).bind λO=>kf P cf rec gs cr C ⟨ops⟩ l 1 [] O).bind (ahR k)=J r:=a;rw[NO g1]at c;simp only[cR,aR,y8,Bool.true_or]at c;cases d:dG P cf rec gs cr l O o with|none=>rw[d]at c;cases c|some s=>rw[d]at c;simp only[cR]at c|-;rw[ai4 l (n+1) _ s ab ab];rw[Jp l 1 0]at c;exact c
 |u::b,o::l,n,O,m,q,g,h=>by
  obtain⟨g1,g2⟩:=QM g;rw[dH]at m;have a:(dG P cf rec gs cr l O o).bind (r2 P cf rec gs cr (.mk ops (.mk ops)) e b l k)=J r:=h;unfold ue;rw[NO g1];simp only[cR,aR];have:([(i,e)].all λe=>!(vK [(i,j)] e.1 n)||Kx.fr e.2 (jE cf O o.op))=V:=by
   have:vK [(i,j)] i n=C:=by show((aw i i&&aw j n)||false)=C;rw[kS (show j≠n by omega)];simp
   show((!(vK [(i,j)] i n)||Kx.fr e (jE cf O o.op))&&V)=V;rw[this];rfl
  rw[this,aR,atW q];cases d:dG P cf rec gs cr l O o with|none=>rw[d]at a;cases a|some s=>rw[d]at a;exact ai3 K b l (n+1) s ab ab g2 a
theorem ai2{r:bh}(K:i<j):∀(a:List Unit)(l:List aB)(n:Nat)(O:St),n+a.length=i->i+1+b.length=j->Dq l (a.length+1+(b.length+1))=V->r1 P cf rec gs cr (.mk ops (.mk ops)) b a l k O=J r->ue P cf rec gs cr ops [(i,j)] l n [] k O=J r
 |[],[],_,_,_,_,_,h=>by cases h|_::_,[],_,_,_,_,_,h=>by cases h|[],o::l,n,O,e,f,g,h=>by
  obtain⟨g1,g2⟩:=QM (n:=b.length+1) (by rw[<-g];congr 1;simp only[gX];omega);have m:n=i:=by simpa using e
  subst m;have c:(dG P cf rec gs cr l O o).bind (r2 P cf rec gs cr (.mk ops (.mk ops)) (jE cf O o.op) b l k)=J r:=h;unfold ue;rw[NO g1];simp only[cR,aR,nU];have:ED [(n,j)] n=V:=by show(aw n n||false)=V;rw[show aw n n=V from pw n];rfl
  rw[this,aR];cases d:dG P cf rec gs cr l O o with|none=>rw[d]at c;cases c|some s=>rw[d]at c;exact ai3 K b l (n+1) s ab ab g2 c
 |u::a,o::l,n,O,e,f,g,h=>by
  obtain⟨g1,g2⟩:=QM (n:=a.length+1+(b.length+1)) (by rw[<-g];congr 1;simp only[dH];omega);rw[dH]at e;have c:(dG P cf rec gs cr l O o).bind (r1 P cf rec gs cr (.mk ops (.mk ops)) b a l k)=J r:=h;unfold ue;rw[NO g1];simp only[cR,aR,nU];have:ED [(i,j)] n=C:=by show(aw i n||false)=C;rw[kS (show i≠n by omega)];rfl
  rw[this,bX];cases d:dG P cf rec gs cr l O o with|none=>rw[d]at c;cases c|some s=>rw[d]at c;exact ai2 K a l (n+1) s ab f g2 c
theorem TR{e:ah Nat}{i:Nat}{r:bh}(a b:List Unit)(h:nE cf st0 ops=V)(d:AG cf ops=[(a.length,a.length+1+b.length)])(g:Dq ops (a.length+1+(b.length+1))=V)(c:Jd P cf rec (cf.tH O.fn) (cf.zF O.fn) (.mk ops (.mk ops)) b a (.mk ops (.mk ops)) (FA (cf.keep O.fn i) k) O=J r):exec P cf rec e (.region i ⟨ops⟩ V) O k=J r:=aoR h d (ai2 ab a ops 0 O ab rfl g c)
end
def L'(g:GH)(w:Bool):SV->ah Kx|.dv (.ptr id _) _=>J (.pt (J id) g w)|.se ..|.lp ..=>bif w then J (.pt Z g V)else Z|_=>Z
theorem azx{c:bU}{s:St}{a:aK}:jE c s (.load t a)=(((cU c.aq s a).bind (L' s.g C)).getD (.s (kindOf c s (.load t a)))):=by show(match cU c.aq s a with|some (.dv (.ptr id _) _)=>Kx.pt (J id) s.g C|_=>.s (kindOf c s (.load t a)))=_;cases cU c.aq s a with|none=>rfl|some v=>cases v with|dv d o=>cases d<;>rfl|_=>rfl
theorem azy{c:bU}{s:St}{a v:aK}:jE c s (.store t a v)=(((cU c.aq s a).bind (L' s.g V)).getD (.s (kindOf c s (.store t a v)))):=by show(match cU c.aq s a with|some (.dv (.ptr id _) _)=>Kx.pt (J id) s.g V|some (.se ..)|some (.lp ..)=>Kx.pt Z s.g V|_=>.s (kindOf c s (.store t a v)))=_;cases cU c.aq s a with|none=>rfl|some v=>cases v with|dv d o=>cases d<;>rfl|_=>rfl
theorem azw{i:Nat}{o:aM}:L' g w (.dv (.ptr i I) o)=J (.pt (J i) g w):=(rfl)
theorem azu{i o:Nat}:L' g V (.se s i o)=J (.pt Z g V):=(rfl)
theorem azv{o:Nat}:L' g V (.lp s o)=J (.pt Z g V):=(rfl)
theorem aeq{a b:α}:(J a).getD b=a:=rfl
theorem atL{a b:Kx}:Kx.fr a b=(Kx.xU a b||Kx.xU b a):=(rfl)
theorem asH{t:ah Nat}:Kx.xU (.pt t g w) (.pt Z g' w')=C:=(rfl)
theorem asI{x i:Nat}:Kx.xU (.pt (J x) g w) (.pt (J i) g' w')=((g.get i).isSome&&!(aw x i)):=(rfl)
theorem asG{i:Nat}:Kx.xU (.pt Z g w) (.pt (J i) g' w')=((g.get i).isSome&&V):=(rfl)
attribute[go_sem↓]aGW aGX aGY aGZ
attribute[go_sem]azx azy azw azu azv aeq atL asH asI asG Sp
set_option maxHeartbeats 1000000
theorem ak8(l:cF)(s:Int):fP ((l++[s]).map iD) 3 1=.dv (bw V ((l++[s]).map iD) 3 1) (.ex 3):=by cases l<;>rfl
def aGC(l:cF):cg (l.map iD)=V:=gT (λ_=>rfl) l
theorem ari(e:Edge)(b k a y v s p c)(n o:Bool)(f:e.opens.l.length<100000000)(g:e.inside.l.length<100000000)(i:e.ma.l.length<100000000)(j:e.ka.l.length<100000000):CC 297 [.agg (ae.mk b k a y v s p c).cells,e.d,.bool n,.bool o] (.val (.dv (pQ e (oY b) o n s p).d .no) .empty):=by
 have k1:=Hs (d:=iD) (.inl rfl) (λ_=>rfl) [s] e.opens.l C e.opens.nl (by simp only[Si];omega);have k2:=Hs (d:=iD) (.inl rfl) (λ_=>rfl) [s] e.inside.l C e.inside.nl (by simp only[Si];omega);have k3:=Hs (d:=iD) (.inl rfl) (λ_=>rfl) e.ma.l [s] e.ma.nl C (by simp only[Si];omega);have k4:=Hs (d:=kC.d) (.inr (.inl rfl)) (λ_=>rfl) [⟨s,p⟩] e.ka.l C e.ka.nl (by simp only[Si];omega);clear f g i j;obtain⟨src,t,U,H,⟨I,K,L,M,N,O,P,Q,R⟩,m,l,T,S,ins⟩:=e;obtain⟨x,z,c3,A,B,D,E,F,G⟩:=c;rw[ak8]at k3;simp only[fO,eG,lS,jJ,kC.d,oP,go_sem]at k1 k2 k3 k4;have r1:cY [(12,.ex 3)] 16 1=[(12,.ex 3)]:=rfl;have r2:cY [(12,.ex 3)] 15 1=[(12,.ex 3)]:=rfl;have r:cY [(16,.ex 3),(12,.ex 3)] 13 1=[(16,.ex 3),(12,.ex 3)]:=rfl;have q:cY [(15,.ex 373),(12,.ex 3)] 13 1=[(15,.ex 373),(12,.ex 3)]:=rfl;have u:cY [(16,.ex 3)] 13 1=[(16,.ex 3)]:=rfl;have w:cY [(15,.ex 373)] 13 1=[(15,.ex 373)]:=rfl;refine aO func297 ?_;simp only[f297];simp only[go_sem,Edge.d,Edge.cells,ae.cells,Expr.cells,pQ,oY];repeat'(with_reducible apply sp<;>intro h<;>simp only[h,k1,k2,k3,k4,aGC,r1,r2,r,q,u,w,go_sem])
 all_goals(simp only[oP,go_sem];try rfl)
theorem az6{u:iK}{n:Nat}{s:cX}{d:ah Tmp}{i:Nat}{b:LB}(h:AM.isAgg P t=J V):rQ P t u ⟨fn,n,s,lb,g⟩ d i I (.box b)=(fF P u t b I).bind λr=>aG ⟨fn,n,s,lb,g.set i (.box r.2)⟩ d r.1:=by show(match u,eu b _,AM.isAgg P t with|.ref,.ex _,J C=>_|_,_,_=>_)=_;grind
attribute[go_sem]az6
theorem OS(k:Int)(p q:ae):∃g,CC 298 [.agg p.cells,iD k,.agg q.cells] (.val (.dv (.agg (nK k p q).cells) .no) g):=by obtain⟨op,nl,args,ty,var,scope,s,cond⟩:=p;have d1:=aIA;have d2:=aIP;simp only[bH,opsOf,f298,go_sem]at d1 d2;refine⟨⟨2,[(0,.box ⟨iD k::.ay [.agg q.cells] 75 14::iD ty::iD var::iD scope::iD s::cond.cells,[(1,.ty 75)]⟩),(1,.box ⟨q.cells,[]⟩)]⟩,?_⟩;refine aO func298 ?_;simp only[go_sem,f298,ae.cells,nK,ae.bn];refine TR [()] [(),()] d2 d1 rfl ?_;simp only[go_sem];rfl
theorem OF{n:Nat}:bw C l e n=.ay l e n:=by cases l<;>rfl
theorem encS{x:DV}{n:Nat}:bw V (l++[x]) e n=.ay (l++[x]) e n:=by cases l<;>rfl
theorem Pr.dE(r:Pr):r.cells.length=32:=by simp[Pr.cells,Edge.dE,ae.dE]
theorem Pr.pure(r:Pr):r.d.pure=V:=by show cg _=V;have h:cg _=V:=Edge.pure r.cJ;grind[Pr.cells,B0,cg,DV.pure,ae.pure]
set_option maxHeartbeats 4000000
theorem Edge.KB(e:Edge):List.drop 17 e.cells=[]:=by simp[Edge.dE]
theorem ae.KB(e:ae):List.drop 14 e.cells=[]:=by simp[ae.dE]
attribute[go_sem]Edge.KB Edge.dE ae.KB
theorem Kb{x:DV}{n:Nat}:fP (l++[x]) e n=.dv (.ay (l++[x]) e n) (.ex e):=by cases l<;>rfl
theorem ayv(q u a l A m p f j)(b:Nat)(hT:G9 a)(o1:aj q 1=C)(o4:aj q 4=C)(o8:aj q 8=C)(hz:∀x∈eK a,∃n w,n<100000000/\iJ n w x):wu qE 295 [] [.ptr b 0] (λg=>kT g b (.mk q u (a::l) A m p f j)) ((eK a).flatMap (rW (.mk q u (a::l) A m p f j))):=by
 intro n k σ rel step s U jX g hr P;obtain⟨kV,nI⟩:=jX _ _ _ hr;obtain⟨h,ca,cap,g1,e1,l1,c1,O,it,hp⟩:=hT (g.alloc (.box ⟨[.dU n],[]⟩));suffices hS:Sat (ev PP cf (.call 295 ([]++[.dU n]++[.ptr b 0]) .no g)) λv g'=>v=.tp []/\rel (cP step ((eK a).flatMap (rW (.mk q u (a::l) A m p f j))) s).1 (cP step ((eK a).flatMap (rW (.mk q u (a::l) A m p f j))) s).2 g'/\Hi k g g' by obtain⟨v,g',e,rfl,r,h⟩:=hS;simp_all
 refine np func295 ?_;have kY:(b=g.next)=False:=cH ab;have wS:Lo g.next g g1:=(Lo.alloc (bS _)).trans (l1.mono (by simp[dM]));have db:g.next<g1.next:=by have:=l1.1;grind[dM]
 have hy:g1.get g.next=J (.box ⟨[.dU n],[]⟩):=(l1.2 _ (by simp[dM])).trans (by simp[km]);rw[dM]at O;simp only[ae.cells,ae.bn,oP]at kV;simp only[f295];simp only[go_sem,kV,kY,e1];refine Av it (tZ (rW (.mk q u (a::l) A m p f j)) step) (zj k g g.next n cap rel) (Z,s) hp rfl ⟨U.stay _ _ _ _ hr (wS.mono P),c1,⟨ab,λi h1 h2=>wS.2 i h2⟩,hy,rfl,db⟩ (λc s g' h=>h.c) (λc s g2 g3 h hl=>h.lo U hl ab ab db (λg4 g5 F t=>O g4 g5 F t.1 λi _ hi=>t.2 i hi)) (λx s g2 hx R hN L=>?_) (λg2 R hN=>?_)
 . obtain⟨jB,mC⟩:=N6 hx;obtain⟨s0,s⟩:=s;simp only at jB mC;subst jB;refine Ay L rfl ?_;have Y:=R.y;have Q:=(jX _ _ _ R.r).1;simp only[ae.cells,ae.bn,oP]at Q;have H:(g1.next=g2.next)=False:=cH ab;have I:(g1.next=g2.next+1)=False:=cH ab;have z3:(g2.next=g1.next)=False:=cH ab;have z4:(g2.next+1=g1.next)=False:=cH ab;have z5:(g.next=g2.next)=False:=cH ab;have z6:(g.next=g2.next+1)=False:=cH ab;have z7:(g.next=g1.next)=False:=cH ab;have z8:(b=g2.next)=False:=cH ab;have z9:(b=g2.next+1)=False:=cH ab;have tf:(b=g1.next)=False:=cH ab;have W:(g2.next+1=g2.next)=False:=cH ab;have G:(g2.next=g2.next+1)=False:=cH ab;obtain⟨nb,wb,mY,hB⟩:=hz x hx.mem;have LU:=hB.z;obtain⟨y,Dd,Ae⟩:∃y,rW (.mk q u (a::l) A m p f j) x=[y]/\y=bif aj q 7 then NP x (.mk q u (a::l) A m p f j) j else Nh x q p f (.mk q u (a::l) A m p f j):=by grind[rW]
   have X:=mC [] y [] s Dd rfl;have ns:tZ (rW (.mk q u (a::l) A m p f j)) step x (Z,s)=((step y s).1.map λ_=>Code.ret,step y s):=by grind[tZ,Bn]
   rw[ns];obtain⟨cJ,done,rest⟩:=x;have k1:=anF cJ.jN.l [j] cJ.jN.nl C (by have:=hB.k;grind);rw[Expr.Bh,show Expr.bn [j]=[.agg j.cells]from rfl,Kb]at k1;simp only[OF]at k1;have k3:=λd o=>ari cJ q u (a::l) A m p f j d o (J5 hB.o mY) (J5 hB.i mY) (J5 hB.p mY) (J5 hB.l mY);clear hB mY;simp only[Edge.d,ae.cells,ae.bn,oP,go_sem]at k3;have k4:=λd o=>Edge.dE (pQ cJ (oY q) o d p f);simp only[qE,Pr.rd,Edge.d];simp only at LU;cases E:aj q 7 with
   |true=>rw[E,aR]at Ae;obtain rfl:=nY E;cases done with|true=>
   obtain rfl:=LU rfl;have T:y=⟨Ec cJ j,V,zP⟩:=Ae;subst T;have ps:cg (Expr.bn cJ.jN.l++[.agg j.cells])=V:=by simp[B0,Expr.uX,cg,DV.pure,Expr.pure]
   have hE:uB ⟨V,cJ.jN.l++[j]⟩=.ay (Expr.bn cJ.jN.l++[.agg j.cells]) 64 8:=by rw[uB,Expr.Bh];exact encS
   obtain⟨src,dst,xr,JH,⟨o1,o2,o3,o4',o5,o6,o7,o8',o9⟩,ops,cls,uz,uR,ins⟩:=cJ;simp only[go_sem,L,Y,H,I,z3,z4,z5,z6,z7,z8,z9,tf,W,G,Q,Edge.cells,Expr.cells,E,k1,ps];simp only[um];refine yY U ⟨Ec ⟨src,dst,xr,JH,⟨o1,o2,o3,o4',o5,o6,o7,o8',o9⟩,ops,cls,uz,uR,ins⟩ j,V,zP⟩ s (by simp only[qE,Pr.rd,Edge.d,Ec,Edge.cells,Expr.cells,hE];rfl) X R.r (show k<=g1.next by omega) hN lz (λg3 N B=>?_);have D:=B.2 g1.next ab (by grind[dM,gO]);simp only[go_sem,L,H,I]at D;have fin:=λo=>R.next U lz B P ab ab hN (λa b F t K=>O a b F t λi E M=>K i ab M) (o:=o) N;generalize step ⟨Ec ⟨src,dst,xr,JH,⟨o1,o2,o3,o4',o5,o6,o7,o8',o9⟩,ops,cls,uz,uR,ins⟩ j,V,zP⟩ s=z at*;obtain⟨c3,s3⟩:=z;rcases c3 with _|c3<;>simp only[rz,rA,sE,gJ]at fin|-<;>simp only[go_sem,D]<;>exact⟨trivial,(fin _).1,(fin _).2,rfl⟩|false=>have T:y=⟨cJ,C,nK 7 (.mk 7 u (a::l) A m p f j) rest⟩:=Ae;subst T;obtain⟨gz,k2⟩:=OS 7 (.mk 7 u (a::l) A m p f j) rest;simp only[ae.cells,ae.bn,oP,go_sem]at k2;simp only[go_sem,L,Y,H,I,z3,z4,z5,z6,z7,z8,z9,tf,W,G,Q,E,k2];simp only[um];refine yY U ⟨cJ,C,nK 7 (.mk 7 u (a::l) A m p f j) rest⟩ s rfl X R.r (show k<=g1.next by omega) hN lz (λg3 N B=>?_);have D:=B.2 g1.next ab (by grind[dM,gO]);simp only[go_sem,L,H,I]at D;have fin:=λo=>R.next U lz B P ab ab hN (λa b F t K=>O a b F t λi E M=>K i ab M) (o:=o) N;generalize step ⟨cJ,C,nK 7 (.mk 7 u (a::l) A m p f j) rest⟩ s=z at*;obtain⟨c3,s3⟩:=z;rcases c3 with _|c3<;>simp only[rz,rA,sE,gJ]at fin|-<;>simp only[go_sem,D]<;>exact⟨trivial,(fin _).1,(fin _).2,rfl⟩
   |false=>rw[E,bX]at Ae;have S:y=bif done then⟨pQ cJ (oY q) (bif aj q 5 then V else aj q 6) done p f,V,zP⟩else⟨pQ cJ (oY q) (bif aj q 5 then V else aj q 6) done p f,C,nK (bif oY q then 9 else 10) (.mk q u (a::l) A m p f j) rest⟩:=Ae;cases t:aj q 5 with
   |true=>obtain rfl:=nY t;have k3:=k3 done V;cases done with|true=>obtain rfl:=LU rfl;have T:y=⟨pQ cJ (oY 5) V V p f,V,zP⟩:=S;subst T;generalize pQ cJ (oY 5) V V p f=e9 at*;simp only[go_sem,L,Y,H,I,z3,z4,z5,z6,z7,z8,z9,tf,W,G,Q,E,t,k3];simp only[um];refine yY U ⟨e9,V,zP⟩ s rfl X R.r (show k<=g1.next by omega) hN lz (λg3 N B=>?_);have D:=B.2 g1.next ab (by grind[dM,gO]);simp only[go_sem,L,H,I]at D;have fin:=λo=>R.next U lz B P ab ab hN (λa b F t K=>O a b F t λi E M=>K i ab M) (o:=o) N;generalize step ⟨e9,V,zP⟩ s=z at*;obtain⟨c3,s3⟩:=z;rcases c3 with _|c3<;>simp only[rz,rA,sE,gJ]at fin|-<;>simp only[go_sem,D]<;>exact⟨trivial,(fin _).1,(fin _).2,rfl⟩|false=>have T:y=⟨pQ cJ (oY 5) V C p f,C,nK 9 (.mk 5 u (a::l) A m p f j) rest⟩:=S;subst T;obtain⟨gz,k2⟩:=OS 9 (.mk 5 u (a::l) A m p f j) rest;simp only[ae.cells,ae.bn,oP,go_sem]at k2;generalize pQ cJ (oY 5) V C p f=e9 at*;simp only[go_sem,L,Y,H,I,z3,z4,z5,z6,z7,z8,z9,tf,W,G,Q,E,t,k3,k2];simp only[um];refine yY U ⟨e9,C,nK 9 (.mk 5 u (a::l) A m p f j) rest⟩ s rfl X R.r (show k<=g1.next by omega) hN lz (λg3 N B=>?_);have D:=B.2 g1.next ab (by grind[dM,gO]);simp only[go_sem,L,H,I]at D;have fin:=λo=>R.next U lz B P ab ab hN (λa b F t K=>O a b F t λi E M=>K i ab M) (o:=o) N;generalize step ⟨e9,C,nK 9 (.mk 5 u (a::l) A m p f j) rest⟩ s=z at*;obtain⟨c3,s3⟩:=z;rcases c3 with _|c3<;>simp only[rz,rA,sE,gJ]at fin|-<;>simp only[go_sem,D]<;>exact⟨trivial,(fin _).1,(fin _).2,rfl⟩
   |false=>cases h9:aj q 9 with
   |true=>obtain rfl:=nY h9;have k3:=k3 done C;cases done with|true=>obtain rfl:=LU rfl;have T:y=⟨pQ cJ (oY 9) C V p f,V,zP⟩:=S;subst T;generalize pQ cJ (oY 9) C V p f=e9 at*;simp only[go_sem,L,Y,H,I,z3,z4,z5,z6,z7,z8,z9,tf,W,G,Q,E,t,h9,k3];simp only[um];refine yY U ⟨e9,V,zP⟩ s rfl X R.r (show k<=g1.next by omega) hN lz (λg3 N B=>?_);have D:=B.2 g1.next ab (by grind[dM,gO]);simp only[go_sem,L,H,I]at D;have fin:=λo=>R.next U lz B P ab ab hN (λa b F t K=>O a b F t λi E M=>K i ab M) (o:=o) N;generalize step ⟨e9,V,zP⟩ s=z at*;obtain⟨c3,s3⟩:=z;rcases c3 with _|c3<;>simp only[rz,rA,sE,gJ]at fin|-<;>simp only[go_sem,D]<;>exact⟨trivial,(fin _).1,(fin _).2,rfl⟩|false=>have T:y=⟨pQ cJ (oY 9) C C p f,C,nK 9 (.mk 9 u (a::l) A m p f j) rest⟩:=S;subst T;obtain⟨gz,k2⟩:=OS 9 (.mk 9 u (a::l) A m p f j) rest;simp only[ae.cells,ae.bn,oP,go_sem]at k2;generalize pQ cJ (oY 9) C C p f=e9 at*;simp only[go_sem,L,Y,H,I,z3,z4,z5,z6,z7,z8,z9,tf,W,G,Q,E,t,h9,k3,k2];simp only[um];refine yY U ⟨e9,C,nK 9 (.mk 9 u (a::l) A m p f j) rest⟩ s rfl X R.r (show k<=g1.next by omega) hN lz (λg3 N B=>?_);have D:=B.2 g1.next ab (by grind[dM,gO]);simp only[go_sem,L,H,I]at D;have fin:=λo=>R.next U lz B P ab ab hN (λa b F t K=>O a b F t λi E M=>K i ab M) (o:=o) N;generalize step ⟨e9,C,nK 9 (.mk 9 u (a::l) A m p f j) rest⟩ s=z at*;obtain⟨c3,s3⟩:=z;rcases c3 with _|c3<;>simp only[rz,rA,sE,gJ]at fin|-<;>simp only[go_sem,D]<;>exact⟨trivial,(fin _).1,(fin _).2,rfl⟩
   |false=>
   have Io:oY q=C:=by unfold oY;simp only[t,h9];rfl
   rw[Io]at S k3;simp only[t,bX]at S;have k3:=k3 done (aj q 6);cases done with|true=>obtain rfl:=LU rfl;have T:y=⟨pQ cJ C (aj q 6) V p f,V,zP⟩:=S;subst T;generalize pQ cJ C (aj q 6) V p f=e9 at*;simp only[go_sem,L,Y,H,I,z3,z4,z5,z6,z7,z8,z9,tf,W,G,Q,E,t,h9,k3];simp only[um];refine yY U ⟨e9,V,zP⟩ s rfl X R.r (show k<=g1.next by omega) hN lz (λg3 N B=>?_);have D:=B.2 g1.next ab (by simp only[dM,gO];omega);simp only[go_sem,L,H,I]at D;have fin:=λo=>R.next U lz B P ab ab hN (λa b F t K=>O a b F t λi E M=>K i ab M) (o:=o) N;generalize step ⟨e9,V,zP⟩ s=z at*;obtain⟨c3,s3⟩:=z;rcases c3 with _|c3<;>simp only[rz,rA,sE,gJ]at fin|-<;>simp only[go_sem,D]<;>exact⟨trivial,(fin _).1,(fin _).2,rfl⟩|false=>have T:y=⟨pQ cJ C (aj q 6) C p f,C,nK 10 (.mk q u (a::l) A m p f j) rest⟩:=S;subst T;obtain⟨gz,k2⟩:=OS 10 (.mk q u (a::l) A m p f j) rest;simp only[ae.cells,ae.bn,oP,go_sem]at k2;generalize pQ cJ C (aj q 6) C p f=e9 at*;simp only[go_sem,L,Y,H,I,z3,z4,z5,z6,z7,z8,z9,tf,W,G,Q,E,t,h9,k3,k2];simp only[um];refine yY U ⟨e9,C,nK 10 (.mk q u (a::l) A m p f j) rest⟩ s rfl X R.r (show k<=g1.next by omega) hN lz (λg3 N B=>?_);have D:=B.2 g1.next ab (by simp only[dM,gO];omega);simp only[go_sem,L,H,I]at D;have fin:=λo=>R.next U lz B P ab ab hN (λa b F t K=>O a b F t λi E M=>K i ab M) (o:=o) N;generalize step ⟨e9,C,nK 10 (.mk q u (a::l) A m p f j) rest⟩ s=z at*;obtain⟨c3,s3⟩:=z;rcases c3 with _|c3<;>simp only[rz,rA,sE,gJ]at fin|-<;>simp only[go_sem,D]<;>exact⟨trivial,(fin _).1,(fin _).2,rfl⟩
 .rw[CT]at R|-;obtain⟨r,_,h2,_⟩:=R;revert r;cases(cP step ((eK a).flatMap (rW (.mk q u (a::l) A m p f j))) s).1 with|none=>intro r;simp only[rA,go_sem];exact⟨trivial,r,h2⟩|some c=>intro r;simp only[gJ,go_sem];exact⟨trivial,r,h2⟩
set_option maxHeartbeats 1000000
theorem amq:gb PP .eql 73 (.ay l 75 14) .nl=J (.bool C):=by rfl
theorem amp:gb PP .eql 32 (.ay l 3 1) .nl=J (.bool C):=by rfl
theorem amu:gb PP .eql 32 .nl .nl=J (.bool V):=by rfl
attribute[go_sem]amq amp amu
theorem adv(a:bq)(h:a.length<900):CC 346 [.ay (ae.bn a) 75 14] (.val (.dv (.ay (ae.bn a) 75 14) (.ex 75)) .empty):=by have b:=alM (l:=[]) (new:=ae.bn a) (by grind[ae.qF]);refine aO func346 ?_;simp only[f346];simp only[go_sem,b]
theorem ajI{n:Nat}(h:n<1000000000):sw n=V:=by simp_all[sw]
theorem arl(l:ao)(x:DV)(h:l.length<1000000000):ev PP cf (.call 347 [.ay l 75 14,iD 0,.ay [x] 75 14] (.ex 75) .empty)=J (.val (.dv (.ay (x::l) 75 14) .no) .empty):=by refine CN ?_ rfl;show(bif sw _ then J _ else J _)=_;grind[ajI]
theorem arn(l:ao)(i j:Nat)(h:l.length<1000000000)(a:i<j)(b:j<=l.length):ev PP cf (.call 349 [.ay l 75 14,iD (.ofNat i),iD (.ofNat j)] (.ex 75) .empty)=J (.val (.dv (.ay (l.take i++l.drop j) 75 14) .no) .empty):=by refine CN ?_ rfl;show(bif sw _&&(ct i j&&bt j _)then J _ else J _)=_;grind[ajI,eQ,dj]
theorem arf(r:Pr)(l:bq)(h:l.length<900)(z:r.done=V->r.rest=zP):CC 292 [r.rd,.ay (ae.bn l) 75 14] (.val (.dv (nX r C l).rd .no) .empty):=by have e1:=adv l h;have i:ev PP cf (.call 347 [.ay (ae.bn l) 75 14,iD 0,.ay [.agg r.rest.cells] 75 14] (.ex 75) .empty)=J (.val (.dv (.ay (ae.bn (r.rest::l)) 75 14) .no) .empty):=arl _ _ (by grind[ae.qF]);have e2:=OT C 1 (r.rest::l) ai;have e3:=OT C 1 l ab;rw[OF]at e2 e3;refine aO func292 ?_;obtain⟨cJ,done,rest⟩:=r;simp only[f292];cases done with
 |true=>
 obtain rfl:=z rfl;simp only[go_sem,Pr.rd,e1];rcases l with _|⟨p,l⟩;.rfl
 have q:aj (.ofNat (p::l).length) 0=C:=by rfl
 simp only[e3,go_sem,nX]|false=>simp only[go_sem,Pr.rd,e1,i,e2];cases l<;>rfl
theorem aKF{n i:Nat}{l:cX}{d:ah Tmp}{x:aK}{v:DV}{o:aM}:RF P t ⟨fn,n,l,lb,g⟩ d x v o (.se s i I)=(nF (aQ share ⟨fn,n,l,lb,g⟩ x) s).bind λy=>(y.1[i]?).bind λel=>(aW P t).bind λa=>bif aw v.flat.length a&&bt (I+a) el.flat.length then(reshape el (lg el.flat I v.flat)).bind λe=>aG {aQ share ⟨fn,n,l,lb,g⟩ x with sl:=put (cN (aQ share ⟨fn,n,l,lb,g⟩ x).sl) s (.dv (.ay (iH y.1 i e) y.2.1 y.2.2) (.ex y.2.1))} d (.tp [])else Z:=(rfl)
theorem aHD{c:ao}:reshape (.agg l) c=J (.agg c):=by rfl
attribute[go_sem]aKF aHD
theorem arh(r:Pr)(a:bq)(k:Nat)(b:k<a.length)(h:a.length<900):CC 293 [.ay (ae.bn a) 75 14,iD (.ofNat k),r.rd] (.val (.dv (Qi r a k).rd .no) .empty):=by
 have e1:=adv _ h;have w:=vi (i:=k) ab;have d:ev PP cf (.call 349 [.ay (ae.bn a) 75 14,iD (.ofNat k),iD (.ofNat (k+1))] (.ex 75) .empty)=J (.val (.dv (.ay (ae.bn (a.take k++a.drop (k+1))) 75 14) .no) .empty):=by rw[arn _ _ _ (by grind[ae.qF]) ab (by grind[ae.qF]),ae.Bh,ae.rH,ae.rH,ae.rH,List.map_take,List.map_drop]
 have e2:=OT C 3 (a.take k++a.drop (k+1)) ai;have e3:=OT C 3 (a.take k++([r.rest]++a.drop (k+1))) ai;rw[OF]at e2 e3;have s:List.take k (ae.bn a)++DV.agg r.rest.cells::List.drop (k+1) (ae.bn a)=ae.bn (a.take k++([r.rest]++a.drop (k+1))):=by simp[ae.rH]
 have L:=ir b;obtain⟨x,c⟩:∃x,a[k]?=J x:=⟨_,dA b⟩;refine aO func293 ?_;obtain⟨cJ,done,rest⟩:=r;simp only[lS,jJ]at e3 s;simp only[f293];cases done with|true=>simp only[go_sem,Pr.rd,e1,w,d,e2];rfl|false=>simp only[go_sem,Pr.rd,e1,L,c,s,e3];rfl
set_option maxHeartbeats 4000000
theorem ap3{k:eF->ah bh}{s:St}(p:ah bM):(HA k s p).bind F=HA (λo=>(k o).bind F) s p:=by
 rcases p with _|c;.rfl
 cases c<;>rfl
theorem aiQ{f:bU}{i:dR}{e:ah Nat}{p:List Tmp}{a b:Hd bM}{s:St}{k:eF->ah bh}{d:DV}:(Rh P f i e p a b s k d).bind F=Rh P f i e p a b s (λo=>(k o).bind F) d:=by cases d with
 |func h first c=>show(bif(f.iU h (first++[.dU s.g.next]++c)).isSome||!(Au e s.g)then Z else sD _ _).bind F=bif(f.iU h (first++[.dU s.g.next]++c)).isSome||!(Au e s.g)then Z else sD _ _;cases((f.iU h (first++[.dU s.g.next]++c)).isSome||!(Au e s.g))with|true=>rfl|false=>
 simp only[bX,um];congr 1;funext r;rcases r with⟨v,g⟩|_
 . show(match g.get s.g.next with|some (.loop r)=>_|_=>Z).bind F=_;simp only;rcases g.get s.g.next with _|o;.rfl
   cases o<;>grind[ap3]
 rfl|_=>rfl
theorem CR{b c:Type}{f:b->c}:∀l:List b,(l.flatMap λy=>[f y])=l.map f|[]=>rfl|a::l=>by rw[GZ,CR l];rfl
structure BrI{σ:Type}(k n:Nat)(g0:GH)(rel:ah bM->σ->GH->Prop)(step:Pr->σ->ah bM×σ)(s0:σ)(X φ:List Pr)(s:σ×GH):Prop where
 r:rel Z s.1 s.2
 h:Hi k g0 s.2
 y:s.2.get g0.next=J (.box ⟨[.dU n],[]⟩)n:g0.next<s.2.next
 f:cP step φ s.1=cP step X s0
 d:∃dn,X=dn++φ/\cP step dn s0=(Z,s.1)
theorem ayt(j:Bool)(nl d ty aa w I D)(b:Nat)(hl:d.length<900)(hT:∀a∈d,G9 a):wu qE 291 [] [.ptr b 0] (λg=>kT g b (.mk (bif j then 3 else 2) nl d ty aa w I D)) (nk j d d 0):=by
 intro n k σ u step s U jX g hr hk;suffices hS:Sat (ev PP cf (.call 291 ([]++[.dU n]++[.ptr b 0]) .no g)) λv g'=>v=.tp []/\u (cP step (nk j d d 0) s).1 (cP step (nk j d d 0) s).2 g'/\Hi k g g' by obtain⟨v,g',e,rfl,r,h⟩:=hS;simp_all
 obtain⟨kV,nI⟩:=jX _ _ _ hr;have kY:(b=g.next)=False:=cH ab;refine np func291 ?_;simp only[ae.cells]at kV;simp only[f291];simp only[go_sem,kV,kY];refine Aj d (s,g.alloc (.box ⟨[.dU n],[]⟩)) (λi _=>[(10,iS i)]) (λs=>s.2) (λi l p=>BrI k n g u step s (nk j d d 0) (nk j d l i) p) ab rfl rfl ⟨U.stay _ _ _ _ hr (Lo.alloc hk),Hi.alloc,by simp[km],by simp[dM],rfl,[],rfl,rfl⟩ (λp hI=>?_) (λi x l p O hx hw hI P=>?_);.obtain⟨r,N,_,_,f,_⟩:=hI;rw[nk]at f;rw[<-f];simp only[go_sem];exact⟨trivial,r,N⟩
 . obtain⟨Q,g1⟩:=p;obtain⟨oV,eX,Dd,oS,yf,E,tJ,qI⟩:=hI;simp only at oV eX Dd oS yf qI;have A:∃B,B=((((g1.alloc (.box ⟨[iD 0],[]⟩)).alloc (.box ⟨[iD 0,.nl,iD 0,iD 0,iD 0,iD 0,iD 0,.nl,iD 0,iD 0,iD 0,iD 0,iD 0,.str []],[]⟩)).set g1.next (.box ⟨[iD (.ofNat i)],[]⟩)).set (g1.next+1) (.box ⟨x.cells,[]⟩)):=⟨_,rfl⟩;obtain⟨B,A⟩:=A;obtain⟨h,ca,cap,g2,e1,l1,c1,cs,it,hp⟩:=hT x (du hx) B;obtain⟨ji,PF⟩:=jX _ _ _ oV;simp only[ae.cells]at ji;have y1:(g1.next=g1.next+1)=False:=cH ab;have y2:(g1.next+1=g1.next)=False:=cH ab;have y3:(b=g1.next)=False:=cH ab;have y4:(b=g1.next+1)=False:=cH ab;have o1:aj (bif j then 3 else 2) 1=C:=by cases j<;>rfl
   have o3:aj (bif j then 3 else 2) 3=j:=by cases j<;>rfl
   have EH:B.next=g1.next+2:=by rw[A];rfl
   have lB:Lo g1.next g1 B:=by rw[A];exact((Lo.alloc (bS _)).trans ((Lo.alloc (by simp[dM])).trans ((Lo.set (bS _)).trans (Lo.set ab))))
   have yB:B.get g1.next=J (.box ⟨[iD (.ofNat i)],[]⟩):=by rw[A];simp only[go_sem,y1]
   simp only[go_sem,O,hx,ji,y1,y2,y3,y4,o1];rw[<-A];simp only[go_sem,e1];rw[aiQ];have db:g.next<g1.next:=oS;have l2:Lo g1.next g1 g2:=lB.trans (l1.mono ab);have hn4:=l1.1;have ov:g2.get g.next=J (.box ⟨[.dU n],[]⟩):=(l2.2 _ db).trans Dd;have oX:g2.get g1.next=J (.box ⟨[iD (.ofNat i)],[]⟩):=(l1.2 _ ab).trans yB;refine Av it (tZ (λy=>[uQ j d i y]) step) (zj k g g.next n (λg'=>cap g'/\g'.get g1.next=J (.box ⟨[iD (.ofNat i)],[]⟩)/\g1.next<g'.next) u) (Z,Q) hp rfl ⟨U.stay _ _ _ _ oV (l2.mono ab),⟨c1,oX,ab⟩,eX.lo l2 ab,ov,rfl,ab⟩ (λc s g' h=>h.c.1) (λc s g3 g4 h hl=>h.lo U hl ab ab ab (λg5 g6 t m=>⟨cs g5 g6 t.1 m.1 λi _ O=>m.2 i O,(m.2 _ ab).trans t.2.1,gx t.2.2 m.1⟩)) (λy q g3 hy R hN L=>?_) (λg3 R hN=>?_)
   . obtain⟨jB,mC⟩:=N6 hy;obtain⟨s0,q⟩:=q;simp only at jB mC;subst jB;have U4:∀y p,tx step ((eK x).flatMap λy=>[uQ j d i y]) Q y p->tx step (nk j d d 0) s y p:=by
      rintro y p⟨pre,post,p1,p2⟩;refine⟨E++pre,post++nk j d l (i+1),?_,?_⟩;.grind[CR,nk]
      grind[xZ]
     have dX:=U4 _ _ (mC [] (uQ j d i y) [] q rfl rfl);have ns:tZ (λy=>[uQ j d i y]) step y (Z,q)=((step (uQ j d i y) q).1.map λ_=>Code.ret,step (uQ j d i y) q):=by simp[tZ,Bn]
     rw[ns];refine Ay L rfl ?_;have Ae:=R.y;have P3:=R.c.2.1;obtain⟨M,On⟩:=jX _ _ _ R.r;simp only[ae.cells]at M;have Y:bw nl (ae.bn d) 75 14=.ay (ae.bn d) 75 14:=by
      cases d;.simp_all
      rfl
     have e4:=arh y d i (mI O) hl;have S:(g2.next=g3.next)=False:=cH ab;have T:(g2.next=g3.next+1)=False:=cH ab;have z3:(g3.next=g2.next)=False:=cH ab;have z4:(g3.next+1=g2.next)=False:=cH ab;have z5:(g.next=g3.next)=False:=cH ab;have z6:(g.next=g3.next+1)=False:=cH ab;have z7:(g.next=g2.next)=False:=cH ab;have z8:(b=g3.next)=False:=cH ab;have z9:(b=g3.next+1)=False:=cH ab;have tf:(b=g2.next)=False:=cH ab;have mj:(g3.next+1=g3.next)=False:=cH ab;have K:(g3.next=g3.next+1)=False:=cH ab;have z13:(g1.next=g3.next)=False:=cH ab;have z14:(g1.next=g3.next+1)=False:=cH ab;have z15:(g1.next=g2.next)=False:=cH ab;simp only[qE,Pr.rd,Edge.d]at e4|-;simp only[go_sem]at e4;generalize ID:uQ j d i y=y' at*;cases j with|false=>have X:y=y':=ID;subst X;have n1:aj 2 1=C:=rfl;have n2:aj 2 3=C:=rfl;simp only[go_sem,n1,n2,L,Ae,M,S,T,z3,z4,z5,z6,z7,z8,z9,tf,mj,K];simp only[um];refine yY U y q rfl dX R.r (show k<=g2.next by omega) hN lz (λg4 r4 t=>?_);have H:=t.2 g2.next ab (by grind[dM,gO]);simp only[go_sem,L,S,T]at H;have fin:=λo=>R.next U lz t hk ab ab hN (λa b m F G=>⟨cs a b m.1 F λi h8 h9=>G i ab h9,(G _ ab ab).trans m.2.1,gx m.2.2 F⟩) (o:=o) r4;generalize step y q=z at*;obtain⟨c3,s4⟩:=z;rcases c3 with _|c3<;>simp only[rz,rA,sE,gJ]at fin|-<;>simp only[go_sem,H]<;>exact⟨trivial,(fin _).1,(fin _).2,rfl⟩|true=>have X:Qi y d i=y':=ID;have n1:aj 3 1=C:=rfl;have n2:aj 3 3=V:=rfl;obtain⟨e9,d9,r9⟩:=y';have hed:y.cJ=e9:=gY Pr.cJ X;subst hed;rw[X]at e4;simp only[go_sem,Y,L,S,T,z8,z9,tf,mj]at M e4|-;simp only[go_sem,M,e4,n1,n2,Ae,P3,z3,z4,z5,z6,z7,z8,z9,tf,mj,K,z13,z14,z15];simp only[um];refine yY U ⟨y.cJ,d9,r9⟩ q rfl dX R.r (show k<=g2.next by omega) hN lz (λg4 r4 t=>?_);have H:=t.2 g2.next ab (by simp only[dM,gO];omega);simp only[go_sem,L,S,T]at H;have fin:=λo=>R.next U lz t hk ab ab hN (λa b m F G=>⟨cs a b m.1 F λi h8 h9=>G i ab h9,(G _ ab ab).trans m.2.1,gx m.2.2 F⟩) (o:=o) r4;generalize step ⟨y.cJ,d9,r9⟩ q=z at*;obtain⟨c3,s4⟩:=z;rcases c3 with _|c3<;>simp only[rz,rA,sE,gJ]at fin|-<;>simp only[go_sem,H]<;>exact⟨trivial,(fin _).1,(fin _).2,rfl⟩
   .rw[CT,CR]at R;rw[CT,CR];have W:=yf;rw[nk,xZ]at W;have Lj:∀p,cP step ((eK x).map (uQ j d i)) Q=(Z,p)->∃E,nk j d d 0=E++nk j d l (i+1)/\cP step E s=(Z,p):=λp h=>⟨E++(eK x).map (uQ j d i),by rw[tJ,nk,wv],by rw[xZ,qI];exact h⟩;obtain⟨r,_,N,X,_,UI⟩:=R;generalize cP step ((eK x).map (uQ j d i)) Q=z at*;obtain⟨cz,sz⟩:=z;cases cz with|none=>have P:=P (sz,g3) ⟨r,N,X,UI,W,Lj _ rfl⟩;simp only[rA];simp only[go_sem]at P;simp only[go_sem,hw,P]|some cz=>simp only[gJ,go_sem];rw[<-W];exact⟨trivial,r,N⟩
theorem ayu(nl a d ty aa u G E)(b:Nat)(hl:d.length<800)(cD:d≠[])(hT:G9 a)(hz:∀x∈eK a,x.done=V->x.rest=zP):wu qE 291 [] [.ptr b 0] (λg=>kT g b (.mk 1 nl (a::d) ty aa u G E)) ((eK a).map λy=>nX y C d):=by
 intro n k σ j step s U L g hr hk;suffices hS:Sat (ev PP cf (.call 291 ([]++[.dU n]++[.ptr b 0]) .no g)) λv g'=>v=.tp []/\j (cP step ((eK a).map λy=>nX y C d) s).1 (cP step ((eK a).map λy=>nX y C d) s).2 g'/\Hi k g g' by obtain⟨v,g',e,rfl,r,h⟩:=hS;simp_all
 obtain⟨kV,nI⟩:=L _ _ _ hr;have kY:(b=g.next)=False:=cH ab;have uH:1<=d.length:=by grind
 have d1:=aKg;simp only[bH,opsOf,f291,go_sem]at d1;have n1:aj 1 1=V:=rfl;refine np func291 ?_;simp only[ae.cells,ae.bn,oP]at kV;simp only[f291];simp only[go_sem,kV,kY];refine Aj (a::d) (s,g.alloc (.box ⟨[.dU n],[]⟩)) (λi _=>[(10,iS i)]) (λs=>s.2) (λi _ f=>(i=0/\BrI k n g j step s ((eK a).map λy=>nX y C d) ((eK a).map λy=>nX y C d) f)\/(i=1/\j Z f.1 f.2/\Hi k g f.2/\g.next<f.2.next/\cP step ((eK a).map λy=>nX y C d) s=(Z,f.1))) ai rfl rfl (.inl ⟨rfl,U.stay _ _ _ _ hr (Lo.alloc hk),Hi.alloc,by simp[km],by simp[dM],rfl,[],rfl,rfl⟩) (λf I=>?_) (λi x m f A hx hw I K=>?_);.simp_all
 . obtain⟨s1,g1⟩:=f;have D:∃B,B=((((g1.alloc (.box ⟨[iD 0],[]⟩)).alloc (.box ⟨[iD 0,.nl,iD 0,iD 0,iD 0,iD 0,iD 0,.nl,iD 0,iD 0,iD 0,iD 0,iD 0,.str []],[]⟩)).set g1.next (.box ⟨[iD (.ofNat i)],[]⟩)).set (g1.next+1) (.box ⟨x.cells,[]⟩)):=⟨_,rfl⟩;obtain⟨B,D⟩:=D;rcases I with⟨O,I⟩|⟨O,t,X,S,hf⟩;rotate_left 1
   . simp only at t X S hf;obtain⟨F,PF⟩:=L _ _ _ t;simp only[ae.cells]at F;have N:(g1.next=g1.next+1)=False:=cH ab;have y2:(g1.next+1=g1.next)=False:=cH ab;have y3:(b=g1.next)=False:=cH ab;have y4:(b=g1.next+1)=False:=cH ab;have kX:aA 0 (.ofNat i)=V:=by rw[O];rfl
     have W:(DV.agg a.cells::ae.bn d)[i]?=J (.agg x.cells):=by grind[ae.rH]
     have P:(i<(DV.agg a.cells::ae.bn d).length)=True:=by grind
     simp only[dH]at A P;simp only[go_sem,A,W,F,N,y2,y3,y4,n1,kX];rw[hf];simp only[go_sem];refine⟨trivial,U.stay _ _ _ _ t ?_,X.lo (m:=g1.next) ?_ ab⟩;all_goals exact((Lo.alloc ab).trans ((Lo.alloc (by grind[dM])).trans ((Lo.set ab).trans (Lo.set ab))))
   . obtain⟨t,X,Dd,S,yf,dn,tJ,qI⟩:=I;simp only at t X Dd S yf qI;have Br:a=x:=ai;subst Br;obtain⟨h,ca,Q,g2,e1,l1,c1,cs,it,hp⟩:=hT B;obtain⟨F,PF⟩:=L _ _ _ t;simp only[ae.cells]at F;have N:(g1.next=g1.next+1)=False:=cH ab;have y2:(g1.next+1=g1.next)=False:=cH ab;have y3:(b=g1.next)=False:=cH ab;have y4:(b=g1.next+1)=False:=cH ab;have kX:aA 0 (.ofNat i)=C:=by rw[O];rfl
     have EH:B.next=g1.next+2:=by rw[D];rfl
     have lB:Lo g1.next g1 B:=by rw[D];exact((Lo.alloc (bS _)).trans ((Lo.alloc (by simp[dM])).trans ((Lo.set (bS _)).trans (Lo.set ab))))
     have yB:B.get g1.next=J (.box ⟨[iD (.ofNat i)],[]⟩):=by rw[D];simp only[go_sem,N]
     have W:(DV.agg a.cells::ae.bn d)[i]?=J (.agg a.cells):=ai;have P:(i<(DV.agg a.cells::ae.bn d).length)=True:=by grind
     simp only[dH]at A P;simp only[go_sem,A,W,F,N,y2,y3,y4,n1,kX];rw[<-D];simp only[go_sem,e1];rw[aiQ];have db:g.next<g1.next:=S;have l2:Lo g1.next g1 g2:=lB.trans (l1.mono ab);have hn4:=l1.1;have ov:g2.get g.next=J (.box ⟨[.dU n],[]⟩):=(l2.2 _ db).trans Dd;have oX:g2.get g1.next=J (.box ⟨[iD (.ofNat i)],[]⟩):=(l1.2 _ ab).trans yB;refine Av it (tZ (λy=>[nX y C d]) step) (zj k g g.next n (λg'=>Q g'/\g'.get g1.next=J (.box ⟨[iD (.ofNat i)],[]⟩)/\g1.next<g'.next) j) (Z,s1) hp rfl ⟨U.stay _ _ _ _ t (l2.mono ab),⟨c1,oX,ab⟩,X.lo l2 ab,ov,rfl,ab⟩ (λc s g' h=>h.c.1) (λc s g3 g4 h hl=>h.lo U hl ab ab ab (λg5 g6 w p=>⟨cs g5 g6 w.1 p.1 λi _ A=>p.2 i A,(p.2 _ ab).trans w.2.1,gx w.2.2 p.1⟩)) (λy q g3 hy R hN T=>?_) (λg3 R hN=>?_)
     . obtain⟨jB,mC⟩:=N6 hy;obtain⟨s0,q⟩:=q;simp only at jB mC;subst jB;have U4:∀y f,tx step ((eK a).flatMap λy=>[nX y C d]) s1 y f->tx step ((eK a).map λy=>nX y C d) s y f:=by
        rintro y f⟨pre,post,p1,p2⟩;refine⟨dn++pre,post,?_,?_⟩;.grind[CR]
        grind[xZ]
       have dX:=U4 _ _ (mC [] (nX y C d) [] q rfl rfl);have ns:tZ (λy=>[nX y C d]) step y (Z,q)=((step (nX y C d) q).1.map λ_=>Code.ret,step (nX y C d) q):=by simp[tZ,Bn]
       rw[ns];have Y:=hz y hy.mem;refine Ay T rfl ?_;have Ae:=R.y;have P3:=R.c.2.1;obtain⟨Bb,On⟩:=L _ _ _ R.r;simp only[ae.cells,ae.bn,oP]at Bb;have e4:=arf y d ab Y;have s9:oD PP 73 (.ay (ae.bn (a::d)) 75 14) (J (.int .i64 1)) Z Z=_:=aJL (l:=ae.bn (a::d)) (n:=1) (by simp[ae.qF]) ab;have z1:(g2.next=g3.next)=False:=cH ab;have z2:(g2.next=g3.next+1)=False:=cH ab;have z3:(g3.next=g2.next)=False:=cH ab;have z4:(g3.next+1=g2.next)=False:=cH ab;have z5:(g.next=g3.next)=False:=cH ab;have z6:(g.next=g3.next+1)=False:=cH ab;have z7:(g.next=g2.next)=False:=cH ab;have z8:(b=g3.next)=False:=cH ab;have z9:(b=g3.next+1)=False:=cH ab;have tf:(b=g2.next)=False:=cH ab;have mj:(g3.next+1=g3.next)=False:=cH ab;have z12:(g3.next=g3.next+1)=False:=cH ab;have z13:(g1.next=g3.next)=False:=cH ab;have z14:(g1.next=g3.next+1)=False:=cH ab;have z15:(g1.next=g2.next)=False:=cH ab;have H:∃d9 M,nX y C d=⟨y.cJ,d9,M⟩:=by simp[nX]
       obtain⟨d9,M,H⟩:=H;rw[H]at dX e4;rw[H];simp only[qE,Pr.rd,Edge.d]at e4|-;simp only[ae.bn,List.drop_succ_cons,xC]at s9;try simp only[go_sem]at e4
       simp only[go_sem,T,Ae,Bb,z1,z2,z3,z4,z5,z6,z7,z8,z9,tf,mj,z12,n1,d1,s9,e4];simp only[um];refine yY U ⟨y.cJ,d9,M⟩ q rfl dX R.r (show k<=g2.next by omega) hN lz (λg4 r4 w=>?_);have q1:=w.2 g2.next ab (by grind[dM,gO]);simp only[go_sem,T,z1,z2]at q1;have fin:=λo=>R.next U lz w hk ab ab hN (λa b p h6 h7=>⟨cs a b p.1 h6 λi h8 h9=>h7 i ab h9,(h7 _ ab ab).trans p.2.1,gx p.2.2 h6⟩) (o:=o) r4;generalize step ⟨y.cJ,d9,M⟩ q=z at*;obtain⟨c3,s4⟩:=z;rcases c3 with _|c3<;>simp only[rz,rA,sE,gJ]at fin|-<;>simp only[go_sem,q1]<;>exact⟨trivial,(fin _).1,(fin _).2,rfl⟩
     .rw[CT,CR]at R;rw[CT,CR];rw[yf]at R|-;obtain⟨r,_,h2,H,_,UI⟩:=R;generalize cP step ((eK a).map λy=>nX y C d) s=z at*;obtain⟨cz,sz⟩:=z;cases cz with|none=>have K:=K (sz,g3) (.inr ⟨ab,r,h2,by show g.next<g3.next;omega,rfl⟩);simp only[rA];simp only[go_sem]at K;simp only[go_sem,hw,K]|some cz=>simp only[gJ,go_sem];exact⟨trivial,r,h2⟩
set_option maxHeartbeats 1000000
theorem ayZ{n:Nat}:pO (fP l e n)=fP l e n:=by cases l<;>rfl
theorem azi{n:Nat}:pP k (fP l e n)=fP l e n:=by cases l<;>rfl
theorem aHu{n:Nat}{t:cX}:F8 ((k,fP l e n)::t)=F8 t:=by cases l<;>rfl
theorem Pr.JA(r:Pr):List.take 32 r.cells=r.cells:=by grind[Pr.dE]
theorem Pr.KB(r:Pr):List.drop 32 r.cells=[]:=by simp[Pr.dE]
attribute[go_sem]Pr.KB ayZ azi aHu Pr.JA Pr.dE
def P8(p:ae):bq->Nat->Int|[],_=>-1|q::l,i=>bif q.same p then .ofNat i else P8 p l (i+1)
def js(e:Edge)(k:Int):Edge:=⟨e.src,k,e.var,e.ty,e.cond,e.opens,e.ma,e.jN,e.ka,e.inside⟩
def tz:ao->Nat->Nat->DV×aM|[],_,_=>(.nl,.any)|a::l,e,n=>(.ay (a::l) e n,.ex e)
theorem uq{l:List α}{n:Nat}(h:l≠[]):fP (l.map f) e n=.dv (.ay (l.map f) e n) (.ex e):=by
 cases l;.grind
 rfl
theorem zt{l:bq}(h:l≠[]):fP (ae.bn l) 75 14=.dv (.ay (ae.bn l) 75 14) (.ex 75):=by
 cases l;.grind
 rfl
theorem Sv{l:List α}{n:Nat}(h:l≠[]):tz (l.map f) e n=(.ay (l.map f) e n,.ex e):=by
 cases l;.grind
 rfl
theorem zu{l:bq}(h:l≠[]):tz (ae.bn l) 75 14=(.ay (ae.bn l) 75 14,.ex 75):=by
 cases l;.grind
 rfl
theorem agQ{l:bq}(h:l≠[]):bw V (ae.bn l) 75 14=.ay (ae.bn l) 75 14:=by
 cases l;.grind
 rfl
theorem ay9{n:Nat}:vL k (fP l e n)=fP l e n:=by cases l<;>rfl
attribute[go_sem]ay9
def zw{n:Nat}:tz [] e n=(.nl,.any):=rfl
theorem Edge.JA(e:Edge):List.take 17 e.cells=e.cells:=by grind[Edge.dE]
theorem aCz{o n a t v s p cond}(h:(ae.mk o n a t v s p cond).iT=0)(l:a.length<=64):(CI o||cond.same JU)=V/\(CI o=V->cond.nC=0)/\yS (mi o) t=V/\yS (mi o) v=V/\yS (Az o) s=V/\yS (Gl o) p=V:=by simp only[ae.iT,FT]at h;cases b:(aA o 0||!aA o 11)with|true=>grind|false=>
 rw[b,bX,abh _ _ l]at h;rcases c:ur o a.length with _|_;.grind
 rcases d:(tU (mi o) t 15&&(tU (mi o) v 15&&(tU (Az o) s 63&&tU (Gl o) p 1099511627776)))with _|_;.grind
 cases e:(CI o&&!aj cond.nC 0)with|true=>simp_all[aj]|false=>grind[nY]
theorem anV{e:Expr}(h:e.nC=0):e.nn<=64:=by grind[Expr.nC,gL]
theorem aIw{e:Expr}(h:e.same JU=V):e.nn<=64:=by obtain⟨o,a,b,c,d,f,g,i,j⟩:=e;grind[Expr.nn,Expr.bN,JU,Expr.same,Expr.Ax]
theorem aCy{q:ae}(h:q.iT=0)(l:q.args.length<=64):q.cond.nn<=64:=by obtain⟨op,nl,args,ty,var,scope,s,cond⟩:=q;obtain⟨a,b,_⟩:=aCz h l;cases c:CI op with|true=>exact anV (b c)|false=>rw[c,y7]at a;exact aIw a
theorem alZ(q:ae):q.args.length<=q.nn:=by obtain⟨op,nl,args,ty,var,scope,s,cond⟩:=q;grind[ae.mH,ae.args,ae.nn]
mutual
theorem acn : ∀ (p : ae) (w : Nat), (∀ q ∈ nodes p, q.cond.nn <= w) -> p.cn <= p.nn * (w + 1)
  | .mk o n args t v s a c, w, h => by
    have b := h (.mk o n args t v s a c) (by rw [nodes]; exact gv)
    have e := acr args w (λ q d => h q (by rw [nodes]; exact jR _ d))
    simp only [ae.cond] at b
    simp only [ae.cn, ae.nn, zo]; omega
theorem acr : ∀ (l : bq) (w : Nat), (∀ q ∈ eS l, q.cond.nn <= w) -> ae.gi l <= ae.bN l * (w + 1)
  | [], _, _ => by simp [ae.gi]
  | p :: l, w, h => by
    have b := acn p w (λ q a => h q (by rw [eS]; exact J3 _ a))
    have c := acr l w (λ q a => h q (by rw [eS]; exact Sj _ a))
    simp only [ae.gi, ae.bN, zo]; omega
end
structure GP(p:ae):Prop where
 o:lV p
 z:∀q∈nodes p,q.iT=0
 a:zy p
 n:p.nn<=64
 c:p.cn<=4160
 r:p.uy=0
theorem S5(e:lV p)(h:p.uy=0):GP p:=by
 obtain⟨b,c,_⟩:=Ov h;have z:=KW b;have l:∀q∈nodes p,q.args.length<=64:=λq a=>by have:=ae.VW p q a;grind[alZ]
 refine⟨e,z,λq a=>?_,c,?_,h⟩;.have:=l q a;have d:=z q a;obtain⟨op,nl,args,ty,var,scope,s,cond⟩:=q;exact(VV d this).2.1
 .have:=acn p 64 (λq a=>aCy (z q a) (l q a));omega
abbrev jM(p:ae):GO:=.box ⟨p.cells,[]⟩
theorem aq9(p:ae)(g:GH):ev PP cf (.call 251 [.agg p.cells] .no g)=J (.val (.dv (.func 291 [] [.ptr g.next 0]) .no) (g.alloc (jM p))):=by refine aO func251 ?_;simp only[go_sem,f251]
theorem ara(p:ae)(g:GH):ev PP cf (.call 253 [.agg p.cells] .no g)=J (.val (.dv (.func 295 [] [.ptr g.next 0]) .no) (g.alloc (jM p))):=by refine aO func253 ?_;simp only[go_sem,f253]
theorem ads(a q:ae)(g:GH):ev PP cf (.call 252 [.agg a.cells,.agg q.cells] .no g)=J (.val (.dv (.func 294 [] [.ptr g.next 0,.ptr (g.next+1) 0]) .no) ((g.alloc (jM a)).alloc (jM q))):=by refine aO func252 ?_;simp only[go_sem,f252]
theorem wu.mono{X:Type}{e:X->ao}{h:Nat}{f b:ao}{a O:GH->Prop}{x:List X}(d:∀g,O g->a g)(t:wu e h f b a x):wu e h f b O x:=λn k l r step s U i g hr j=>t n k l r step s U (λc s g hr=>d g (i c s g hr)) g hr j
def kT.st{a b:Nat}:∀g1 g2:GH,kT g1 k p->g1.next<=g2.next->(∀i,a<=i->i<b->g2.get i=g1.get i)->a<=k->k<b->kT g2 k p:=λ_ _ h c d e f=>⟨(d _ e f).trans h.1,gx h.2 c⟩
theorem aJK{x y:DV}:oD PP 73 (.ay [x,y] 75 14) (J (.int .i64 1)) (J (.int .i64 2)) (J (.int .i64 2))=J (.ay [y] 75 14,.full 75):=by rfl
theorem Su:∀p:ae,zy p->p.nn<=90->G9 p
 |.mk f e args t v s d c,D,H=>by
  have T:∀a∈args,G9 a:=λa r=>Su a (D.IM r) (by have:=ae.rV args a r;simp only[ae.nn]at H;omega);have R:∀a∈args,∀x∈eK a,x.done=V->x.rest=zP:=λa r x I=>(Jb a (D.IM r) x I).z;have L:∀a∈args,∀x∈eK a,∃n w,n<100000000/\iJ n w x:=λa r x I=>⟨_,_,by have:=ae.rV args a r;simp only[ae.nn]at H;omega,Jb a (D.IM r) x I⟩;clear Su;have A:=ae.mH args;simp only[ae.nn]at H;have d1:=aKd;have d2:=aKc;simp only[bH,opsOf,f211,go_sem]at d1 d2;have G:=D.ar;have P:aj f 0=C->∃a l,args=a::l:=λq=>by cases args with|nil=>exact absurd G (λh=>SE q h)|cons a l=>exact⟨a,l,rfl⟩
  intro g;have e2:=aq9 (.mk f e args t v s d c) (g.alloc (jM (.mk f e args t v s d c)));have e4:=ara (.mk f e args t v s d c) (g.alloc (jM (.mk f e args t v s d c)));simp only[jM,ae.cells,go_sem]at e2 e4;have l1:∀o,Lo g.next g (g.alloc o):=λo=>Lo.alloc (bS _);have l2:∀o z,Lo g.next g ((g.alloc o).alloc z):=λo z=>(l1 o).trans (Lo.alloc (by rw[dM];omega));have l3:∀o z O,Lo g.next g (((g.alloc o).alloc z).alloc O):=λo z O=>(l2 o z).trans (Lo.alloc (by simp only[dM];omega));have F:∀o,kT ((g.alloc o).alloc (jM (.mk f e args t v s d c))) (g.next+1) (.mk f e args t v s d c):=λo=>⟨by rw[km];exact if_pos rfl,by simp only[dM];omega⟩;cases q:aj f 0 with
  |true=>
  refine⟨250,[.ptr g.next 0],λg'=>kT g' g.next (.mk f e args t v s d c),g.alloc (jM (.mk f e args t v s d c)),?_,l1 _,⟨by rw[km,if_pos rfl],by rw[dM];omega⟩,λg1 g2 h j i=>kT.st g1 g2 h j i (bS _) (by rw[dM];omega),?_,λm=>rfl⟩;.refine aO func211 ?_;simp only[f211];simp only[go_sem,ae.cells,q];rfl
  .rw[eK,q,aR];exact(ays g.next f e args t v s d c).mono λg' h=>h.1|false=>obtain⟨a,l,rfl⟩:=P q;simp only[dH]at A;have r:=T a gv;have K:=R a gv;have M:=L a gv;simp only[ae.bn,oP]at e2 e4;cases j:aj f 1 with
  |true=>
  obtain rfl:=nY j;have Q:l≠[]:=by rintro rfl;exact absurd (show ur 1 1=V from G) fD
  refine⟨291,[.ptr (g.next+1) 0],λg'=>kT g' (g.next+1) (.mk 1 e (a::l) t v s d c),(g.alloc (jM (.mk 1 e (a::l) t v s d c))).alloc (jM (.mk 1 e (a::l) t v s d c)),?_,l2 _ _,F _,λg1 g2 h j i=>kT.st g1 g2 h j i ab (by simp only[dM];omega),?_,λm=>rfl⟩;.refine aO func211 ?_;simp only[f211];simp only[go_sem,ae.cells,ae.bn,oP,q,j,e2];rfl
  . have:eK (.mk 1 e (a::l) t v s d c)=(eK a).map λW=>nX W C l:=by rw[eK,<-CR];rfl
    rw[this];exact ayu e a l t v s d c (g.next+1) ab Q r K|false=>cases i:aj f 2||aj f 3 with
  |true=>
    obtain⟨k,rfl⟩:∃k,f=bif k then 3 else 2:=by
      rw[AR]at i;rcases i with i|i;.exact⟨C,nY i⟩
      .exact⟨V,nY i⟩
    refine⟨291,[.ptr (g.next+1) 0],λg'=>kT g' (g.next+1) (.mk (bif k then 3 else 2) e (a::l) t v s d c),(g.alloc (jM (.mk (bif k then 3 else 2) e (a::l) t v s d c))).alloc (jM (.mk (bif k then 3 else 2) e (a::l) t v s d c)),?_,l2 _ _,F _,λg1 g2 h j i=>kT.st g1 g2 h j i ab (by simp only[dM];omega),?_,λm=>rfl⟩
    . refine aO func211 ?_;simp only[f211];cases k;.have N:aj 2 2=V:=rfl;simp only[bX]at q j e2|-;simp only[go_sem,ae.cells,ae.bn,oP,q,j,N,e2];rfl
      .have N:aj 3 2=C:=rfl;have q3:aj 3 3=V:=rfl;simp only[aR]at q j e2|-;simp only[go_sem,ae.cells,ae.bn,oP,q,j,N,q3,e2];rfl
    . have:eK (.mk (bif k then 3 else 2) e (a::l) t v s d c)=nk k (a::l) (a::l) 0:=by rw[eK,q,i];cases k<;>rfl
      rw[this];exact ayt k e (a::l) t v s d c (g.next+1) (by simp only[dH];omega) T|false=>
    have U:aj f 2=C:=by cases h:aj f 2<;>rw[h]at i<;>first|rfl|exact absurd i aP
    have E:aj f 3=C:=by cases h:aj f 3<;>rw[h]at i<;>first|rfl|exact absurd i aP
    cases u:aj f 4 with|true=>
      obtain rfl:=nY u;have e3:=ads a (.mk 4 e (a::l) t v s d c) (g.alloc (jM (.mk 4 e (a::l) t v s d c)));simp only[jM,ae.cells,ae.bn,oP,go_sem]at e3;refine⟨294,[.ptr (g.next+1) 0,.ptr (g.next+1+1) 0],λg'=>kT g' (g.next+1) a/\kT g' (g.next+1+1) (.mk 4 e (a::l) t v s d c),((g.alloc (jM (.mk 4 e (a::l) t v s d c))).alloc (jM a)).alloc (jM (.mk 4 e (a::l) t v s d c)),?_,l3 _ _ _,⟨⟨?_,?_⟩,⟨?_,?_⟩⟩,λg1 g2 h j i=>⟨kT.st g1 g2 h.1 j i ab (by simp only[dM];omega),kT.st g1 g2 h.2 j i ab (by simp only[dM];omega)⟩,?_,λm=>rfl⟩;.refine aO func211 ?_;simp only[f211];simp only[go_sem,ae.cells,ae.bn,oP,q,j,U,E,u,d1,e3];rfl
      .rw[km,if_neg (by simp only[dM];omega),km];exact if_pos rfl
      .simp only[dM];omega
      .rw[km];exact if_pos rfl
      .simp only[dM];omega
      . have:eK (.mk 4 e (a::l) t v s d c)=(eK a).flatMap (u6 (.mk 4 e (a::l) t v s d c) a):=by rw[eK];rfl
        rw[this];exact agd a (.mk 4 e (a::l) t v s d c) a l _ _ r rfl|false=>cases B:aj f 8 with
      |true=>
        obtain rfl:=nY B;obtain⟨b,rfl⟩:∃b,l=[b]:=by have:=ar8 (n:=(a::l).length) rfl G;match l,this with|[b],_=>exact⟨b,rfl⟩
        have e3:=ads a (.mk 4 V [b] 0 0 0 0 zE) (g.alloc (jM (.mk 8 e [a,b] t v s d c)));simp only[jM,ae.cells,ae.bn,oP,Expr.cells,Expr.bn,zK,go_sem]at e3;have S:=aJK (x:=.agg a.cells) (y:=.agg b.cells);refine⟨294,[.ptr (g.next+1) 0,.ptr (g.next+1+1) 0],λg'=>kT g' (g.next+1) a/\kT g' (g.next+1+1) (.mk 4 V [b] 0 0 0 0 zE),((g.alloc (jM (.mk 8 e [a,b] t v s d c))).alloc (jM a)).alloc (jM (.mk 4 V [b] 0 0 0 0 zE)),?_,l3 _ _ _,⟨⟨?_,?_⟩,⟨?_,?_⟩⟩,λg1 g2 h j i=>⟨kT.st g1 g2 h.1 j i ab (by simp only[dM];omega),kT.st g1 g2 h.2 j i ab (by simp only[dM];omega)⟩,?_,λm=>rfl⟩;.refine aO func211 ?_;simp only[f211];simp only[go_sem,ae.cells,ae.bn,oP,q,j,U,E,u,B,d2,S,e3];rfl
        .rw[km,if_neg (by simp only[dM];omega),km];exact if_pos rfl
        .simp only[dM];omega
        .rw[km];exact if_pos rfl
        .simp only[dM];omega
        . have:eK (.mk 8 e [a,b] t v s d c)=(eK a).flatMap (u6 (.mk 4 V [b] 0 0 0 0 zE) b):=by rw[eK];rfl
          rw[this];exact agd a (.mk 4 V [b] 0 0 0 0 zE) b [] _ _ r rfl|false=>
        refine⟨295,[.ptr (g.next+1) 0],λg'=>kT g' (g.next+1) (.mk f e (a::l) t v s d c),(g.alloc (jM (.mk f e (a::l) t v s d c))).alloc (jM (.mk f e (a::l) t v s d c)),?_,l2 _ _,F _,λg1 g2 h j i=>kT.st g1 g2 h j i ab (by simp only[dM];omega),?_,λm=>rfl⟩;.refine aO func211 ?_;simp only[f211];simp only[go_sem,ae.cells,ae.bn,oP,q,j,U,E,u,B,e4];rfl
        . have:eK (.mk f e (a::l) t v s d c)=(eK a).flatMap (rW (.mk f e (a::l) t v s d c)):=by rw[eK,q,i,bX,bX,BZ];congr 1;funext x;rw[BU,u,bX]
          rw[this];exact ayv f e a l t v s d c (g.next+1) r j u B M termination_by p=>pB p decreasing_by simp_wf;have:=pr r;omega
theorem aq3(p q:ae)(b:Nat)(g:GH)(h:g.get b=J (jM p))(a:p.cn<100000000):ev PP cf (.call 216 ([]++[.agg q.cells]++[.ptr b 0]) .no g)=J (.val (.dv (.bool (p.same q)) .no) g):=by have e1:=OQ p q a;refine aO func216 ?_;simp only[f216];simp only[go_sem,h,e1]
theorem aq4(p q:ae)(b:Nat)(g:GH)(h:g.get b=J (jM p))(a:q.cn<100000000):ev PP cf (.call 219 ([]++[.agg q.cells]++[.ptr b 0]) .no g)=J (.val (.dv (.bool (q.same p)) .no) g):=by have e1:=OQ q p a;refine aO func219 ?_;simp only[f219];simp only[go_sem,h,e1]
theorem adi(n:Bool)(l:bq)(p:ae)(a:l.length<1200000)(h:p.cn<100000000):∃g,CC 154 [bw n (ae.bn l) 75 14,.agg p.cells] (.val (.dv (iD (gk p.same l 0)) .no) g):=by have e1:=KP (d:=λe=>.agg (ae.cells e)) (q:=p.same) 216 [] [.ptr 0 0] (GH.empty.alloc (jM p)) n l ab (λx _=>.inl ⟨aL,aL,aq3 p x 0 _ rfl h⟩) (.inr (.inr (.inr (.inl rfl)))) (λx=>⟨rfl,ae.dE x⟩);rw[<-ae.rH]at e1;refine⟨GH.empty.alloc (jM p),aO func154 ?_⟩;simp only[go_sem]at e1;simp only[f154];simp only[go_sem,e1]
theorem aqQ(n:Bool)(l:bq)(p:ae)(c:l.length<1200000)(h:∀a∈l,a.cn<100000000):∃g,CC 158 [bw n (ae.bn l) 75 14,.agg p.cells] (.val (.dv (iD (gk (λa=>a.same p) l 0)) .no) g):=by have e1:=KP (d:=λe=>.agg (ae.cells e)) (q:=λa=>a.same p) 219 [] [.ptr 0 0] (GH.empty.alloc (jM p)) n l ab (λx b=>.inl ⟨aL,aL,aq4 p x 0 _ rfl (h x b)⟩) (.inr (.inr (.inr (.inl rfl)))) (λx=>⟨rfl,ae.dE x⟩);rw[<-ae.rH]at e1;refine⟨GH.empty.alloc (jM p),aO func158 ?_⟩;simp only[go_sem]at e1;simp only[f158];simp only[go_sem,e1]
def Edge.Zy(e d:Edge):Bool:=aj e.var d.var&&(aj e.ty d.ty&&(e.cond.same d.cond&&(lx aj e.opens.l d.opens.l&&(lx aj e.ma.l d.ma.l&&(lx Expr.same e.jN.l d.jN.l&&(lx Nd e.ka.l d.ka.l&&lx aj e.inside.l d.inside.l))))))
theorem Edge.aIp(e d:Edge):e.Zy d=e.same d:=by grind[Edge.Zy,Edge.same]
theorem aq2(e d:Edge)(a:xA e):CC 214 [e.d,d.d] (vB (e.same d)):=by rw[<-Edge.aIp];have e1:=Es e.cond d.cond (by have:=a.c;omega);have e2:=HD e.opens d.opens (by have:=a.o;omega);have e3:=HD e.ma d.ma (by have:=a.p;omega);have e4:=HD e.inside d.inside (by have:=a.i;omega);have e5:=ac8 e.ka d.ka (by have:=a.l;omega);have e6:=ac7 e.jN d.jN (by have:=a.k;omega) a.e;simp only[go_sem]at e2 e3 e4 e5 e6;refine aO func214 ?_;simp only[f214];simp only[go_sem,Edge.d,Edge.cells,Edge.Zy];repeat'(with_reducible apply sp<;>intro h<;>simp only[h,e1,e2,e3,e4,e5,e6,go_sem])
def Edge.B9(x y:Edge):Bool:=aj x.dst y.dst&&x.same y
abbrev Eh(x:Edge):GO:=.box ⟨x.cells,[]⟩
theorem aq1(x y:Edge)(b:Nat)(g:GH)(a:g.get b=J (Eh x))(e:xA x):ev PP cf (.call 213 ([]++[y.d]++[.ptr b 0]) .no g)=J (.val (.dv (.bool (x.B9 y)) .no) g):=by have e1:=aq2 x y e;refine aO func213 ?_;simp only[Eh,Edge.d,Edge.cells,go_sem]at e1 a;simp only[f213];simp only[go_sem,a,Edge.B9,Edge.d,Edge.cells];repeat'(with_reducible apply sp<;>intro h<;>simp only[h,e1,a,go_sem])<;>first|done|rw[ZE a]
def Jm:ah bq->bh|none=>.val (.tp [(.nl,.any),iO 17]) .empty|some o=>.val (.tp [tz (ae.bn o) 75 14,iO 0]) .empty
theorem S4(a:lV p)(h:p.jx=0):GP p:=by grind[S5,RV,Ou]
mutual
def ju : ae -> List Guard
  | .mk op _ args ty var scope _ cond => bif aj op 9 then ⟨scope, ty, var, cond⟩ :: sI args else bif aj op 1 || (aj op 8 || (aj op 10 || aj op 7)) then sI args else bif aj op 3 then A2 args else []
def sI : bq -> List Guard
  | [] => []
  | a :: _ => ju a
def A2 : bq -> List Guard
  | [] => []
  | a :: l => ju a ++ A2 l
end
mutual
theorem He : ∀ p : ae, (ju p).length <= p.nn
  | .mk op _ args ty var scope _ cond => by
    have h := ala args
    have a := aaO args
    rw [ju, ae.nn]
    cases aj op 9 <;> cases (aj op 1 || (aj op 8 || (aj op 10 || aj op 7))) <;> cases aj op 3 <;> simp <;> omega
theorem ala : ∀ l : bq, (sI l).length <= ae.bN l
  | [] => bS _
  | a :: l => by have := He a; rw [sI, ae.bN]; omega
theorem aaO : ∀ l : bq, (A2 l).length <= ae.bN l
  | [] => bS _
  | a :: l => by have := He a; have := aaO l; rw [A2, ae.bN, ib]; omega
end
theorem aa4{n:ao}(h:l.length+n.length<1000):fu 305 11 112 (.ay l 305 11) (.ex 305) n=J (.ay (l++n) 305 11,.ex 305):=by grind[p8,bm]
theorem alK{n b:Nat}{o:aM}(h:n≠0):fu e n b .nl o []=J (.nl,.any):=by grind[fu,kS,bt]
theorem aa5{l:List α}{n b:Nat}(c:n≠0)(a:b<=1000)(h:l≠[])(g:l.length<1200000){o:aM}:fu e n b .nl o (l.map f)=J (.ay (l.map f) e n,.ex e):=by
 unfold fu;rw[kS c];have d:(l.map f).length*b<=bm:=by have:=qz (show l.length<=1200000 by omega) a;grind[bm]
 grind[bm,nw]
theorem flG(l:List Guard):((l.map Guard.d).all λy=>decide (y.flat.length=11))=V:=by simp[DV.flat,Guard.d,Guard.dE]
def Bp(l:List Guard):cg (l.map Guard.d)=V:=gT Guard.pure _
def BV:ah DV->ah aM->aM|some .nl,_=>.any|_,x=>x.getD .no
section
variable{P:aH}{u:iK}{t:an}{D:ao}{os:List (Nat×aM)}{o:Nat×aM}{I e a c:Nat}{b:LB}{l:ao}{d:DV}{x:ah aM}
theorem ah8:eu ⟨D,o::os⟩ I=BV (D[I]?) (look (o::os) I):=by
 show(match D[I]? with|some .nl=>aM.any|_=>(look _ _).getD _)=_;rcases D[I]? with _|d;.rfl
 cases d<;>rfl
theorem agC(h:AM.isAgg P t=J C):fF P u t ⟨D,o::os⟩ I=(D[I]?).bind λd=>J (pg u ⟨D,o::os⟩ I d (eu ⟨D,o::os⟩ I)):=by grind[fF]
theorem aFi:BV (J .nl) x=.any:=rfl
theorem aFh:BV (J (.ay l a c)) x=x.getD .no:=rfl
theorem aFg{k:fR}{n:Int}:BV (J (.int k n)) x=x.getD .no:=rfl
theorem aFe:BV (J (.agg l)) x=x.getD .no:=rfl
theorem aFf{z:Bool}:BV (J (.bool z)) x=x.getD .no:=rfl
theorem aFj{z:aC}:BV (J (.str z)) x=x.getD .no:=rfl
theorem aHr:pg .take b I d (.ex e)=(.dv d (.ex e),{cells:=iH b.cells I .jk,own:=cY b.own I 1}):=rfl
theorem aHq:pg .take b I d .any=(.dv d .any,b):=rfl
theorem aHs:pg .take b I d .no=(.dv d .no,b):=rfl
theorem aHj:pg .len b I (.ay l a c) (.ex e)=(.hd l.length,b):=rfl
theorem aHi:pg .len b I d .any=(.dv d .no,b):=rfl
theorem aHk:pg .len b I d .no=(.dv d .no,b):=rfl
theorem aHg:pg .copy b I d .no=(.dv d .no,b):=rfl
theorem aHe:pg .copy b I d .any=(.dv d .no,b):=rfl
theorem aHf:pg .copy b I d (.ex e)=(.dv d .no,{b with own:=(I,.ty e)::cY b.own I 1}):=rfl
theorem aHn:pg .ref b I d (.ex e)=(.dv d .no,{b with own:=(I,.ty e)::cY b.own I 1}):=rfl
theorem aHo:pg .ref b I d .no=(.dv d .no,b):=rfl
theorem aHm:pg .ref b I d .any=(.dv d .no,b):=rfl
theorem getD_none{a:α}:(Z:ah α).getD a=a:=rfl
end
attribute[go_sem]ah8 agC aFi aFh aFg aFe aFf aFj aHr aHq aHs aHj aHi aHk aHg aHe aHf aHn aHo aHm getD_none aeq
def sM(l:bq)(i:Nat)(r:bq)(x:Edge):Edge:=⟨.ofNat i,bif aA x.dst 0 then x.dst else P8 (r.getD x.dst.toNat zP) l 0,x.var,x.ty,x.cond,x.opens,x.ma,x.jN,x.ka,x.inside⟩
theorem Fs{l:List α}{n:Nat}(h:l≠[]):bw V (l.map f) e n=.ay (l.map f) e n:=by
 cases l;.grind
 rfl
set_option maxHeartbeats 4000000
def uC(s:gh)(e:Edge)(r:bq):ah bM×(gh×bq):=bif s.any e.B9 then(Z,(s,r))else bif aA 2048 (.ofNat (s++[e]).length)then(J .ret,(s++[e],r))else(Z,(s++[e],r))
def gM(x:Pr)(s:gh×bq):ah bM×(gh×bq):=bif x.done then uC s.1 (js x.cJ (-1)) s.2 else bif aA (gk x.rest.same s.2 0) 0 then(bif aj x.rest.uy 0 then uC s.1 (js x.cJ (.ofNat s.2.length)) (s.2++[x.rest])else(J .ret,s))else uC s.1 (js x.cJ (gk x.rest.same s.2 0)) s.2
section
variable{P:aH}{t fn n id I e:Nat}{sl:cX}{lb:dV}{g:GH}{d:ah Tmp}{b:LB}{dd:DV}{l new:ao}
theorem az8:rQ P t .copy ⟨fn,n,sl,lb,g⟩ d id I (.box b)=(fF P .copy t b I).bind λr=>aG ⟨fn,n,sl,lb,g.set id (.box r.2)⟩ d r.1:=by simp[rQ]
theorem agv:rQ P t .take ⟨fn,n,sl,lb,g⟩ d id I (.box b)=(fF P .take t b I).bind λr=>aG ⟨fn,n,sl,lb,g.set id (.box r.2)⟩ d r.1:=by simp[rQ]
theorem az9:rQ P t .len ⟨fn,n,sl,lb,g⟩ d id I (.box b)=(fF P .len t b I).bind λr=>aG ⟨fn,n,sl,lb,g.set id (.box r.2)⟩ d r.1:=by simp[rQ]
theorem aHh:pg .copy b I dd (.ty e)=(.dv dd .no,b):=rfl
theorem aHl:pg .len b I dd (.ty e)=(.dv dd .no,b):=rfl
theorem aHt:pg .take b I dd (.ty e)=(.dv dd (.ty e),{b with own:=cY b.own I 1}):=rfl
theorem aa9{b:Nat}(c:n≠0)(h:(l.length+new.length)*b<=bm)(a:l.length+new.length<=bm):fu e n b (.ay l e n) (.ty e) new=J (.ay (l++new) e n,.ty e):=by grind[fu,kS,pw,nw]
end
theorem aEN:mK I (.ay l m k) (.ty e)=[(I,.ty e)]:=rfl
theorem aEO:mK I (.ay l m k) (.ex e)=[(I,.ex e)]:=rfl
def adD(o:Nat):GO->ah DV|.box b=>(match b.cells[o]?,eu b o with|some d,.ex _=>J d|_,_=>Z)|_=>Z
theorem arN{n i:Nat}{s:cX}:Ew ⟨fn,n,s,lb,g⟩ i I=(g.get i).bind (adD I):=by
 show(match g.get i with|some (.box b)=>_|_=>Z)=_;rcases g.get i with _|o;.rfl
 cases o<;>rfl
theorem arO{a:Nat}:adD 0 (.box ⟨[.ay l a m],[(0,.ex k)]⟩)=J (.ay l a m):=rfl
theorem aEZ{s:St}:cU cf.aq s (.const (.agg #[.int .i64 0,.slice Z 0 0,.int .i64 0,.int .i64 0,.int .i64 0,.int .i64 0,.int .i64 0,.slice Z 0 0,.int .i64 0,.int .i64 0,.int .i64 0,.int .i64 0,.int .i64 0,.string ⟨#[]⟩]))=J (.dv (.agg [iD 0,.nl,iD 0,iD 0,iD 0,iD 0,iD 0,.nl,iD 0,iD 0,iD 0,iD 0,iD 0,.str []]) .no):=by rfl
theorem axC{t:St}{d:ah Tmp}{i n:Nat}{x:ao}(h:aW P e=J n):BG P t d (.tmp s) i (J (.slice e)) (.dv (.ay x e n) (.ex k))=bif ct i x.length then aG t d (.se s i 0)else Z:=by show(aW P e).bind _=_;simp_all
attribute[go_sem]axC
theorem aFx:ua .nl=.any:=rfl
attribute[go_sem]aFx aEZ
attribute[go_sem]arN arO aEN aEO az8 agv az9 aHh aHl aHt
theorem Rr{c:bU}{r:dR}{l:ah Nat}{i:Nat}{o:List aB}{s:St}{k:eF->ah bh}(a b:List Unit)(h:nE c st0 o=V)(f:AG c o=[(a.length,a.length+1+b.length)])(j:Dq o (a.length+1+(b.length+1))=V)(d:Sat (Jd P c r (c.tH s.fn) (c.zF s.fn) (.mk o (.mk o)) b a (.mk o (.mk o)) (FA (c.keep s.fn i) k) s) Q):Sat (exec P c r l (.region i ⟨o⟩ V) s k) Q:=by obtain⟨v,g,e,q⟩:=d;exact⟨v,g,TR a b h f j e,q⟩
def tD(e:gh)(o:aM):GO:=match e with|[]=>.box ⟨[.nl],[]⟩|a::l=>.box ⟨[.ay ((a::l).map Edge.d) 257 17],[(0,o)]⟩
def xP:bq->GO|[]=>.box ⟨[.nl],[]⟩|a::l=>.box ⟨[.ay (ae.bn (a::l)) 75 14],[(0,.ex 75)]⟩
theorem rF{o:aM}(h:es≠[]):tD es o=.box ⟨[.ay (es.map Edge.d) 257 17],[(0,o)]⟩:=by
 cases es;.grind
 .rfl
theorem Ba{r:bq}(h:r≠[]):xP r=.box ⟨[.ay (ae.bn r) 75 14],[(0,.ex 75)]⟩:=by
 cases r;.grind
 .rfl
theorem CD{x:Edge}{o:aM}:tD (es++[x]) o=.box ⟨[.ay (es.map Edge.d++[x.d]) 257 17],[(0,o)]⟩:=by simp[rF]
theorem SS{r:bq}{x:ae}:xP (r++[x])=.box ⟨[.ay (ae.bn r++[.agg x.cells]) 75 14],[(0,.ex 75)]⟩:=by rw[Ba aP,ae.Bh];rfl
structure akt(cap:GH->Prop)(ps:List Pr)(c:ah bM)(s:gh×bq)(g:GH):Prop where e:∃o,(o=.ex 257\/o=.ty 257)/\g.get 4=J (tD s.1 o)p:g.get 5=J (xP s.2)a:g.get 1=J (.box ⟨[.nl],[]⟩)b:g.get 2=J (.box ⟨[.nl],[]⟩)d:g.get 3=J (.box ⟨[iD (bif c.isSome then 17 else 0)],[]⟩)c:cap g
theorem T8:∀(l:List Pr)(s:gh×bq),(∀x∈l,lV x.rest)->(∀q∈s.2,GP q)->(cP gM l s).2.1.length<=s.1.length+l.length/\(cP gM l s).2.2.length<=s.2.length+l.length/\∀q∈(cP gM l s).2.2,GP q
 |[],s,_,h=>⟨bS _,bS _,h⟩|x::l,s,i,h=>by
  have j:∀y∈l,lV y.rest:=λy m=>i y (jR _ m);have f:∀e r,(uC s.1 e r).2.1.length<=s.1.length+1/\(uC s.1 e r).2.2=r:=by intro e r;unfold uC;cases s.1.any e.B9 with|true=>exact⟨J4 _,rfl⟩|false=>cases aA 2048 (.ofNat (s.1++[e]).length)with|true=>exact⟨aP,rfl⟩|false=>exact⟨aP,rfl⟩
  have g:(gM x s).2.1.length<=s.1.length+1/\(gM x s).2.2.length<=s.2.length+1/\∀q∈(gM x s).2.2,GP q:=by unfold gM;cases x.done with|true=>rw[aR];obtain⟨a,b⟩:=f (js x.cJ (-1)) s.2;rw[b];exact⟨a,ab,h⟩|false=>rw[bX];cases aA (gk x.rest.same s.2 0) 0 with|false=>rw[bX];obtain⟨a,b⟩:=f (js x.cJ (gk x.rest.same s.2 0)) s.2;rw[b];exact⟨a,ab,h⟩|true=>rw[aR];cases k:aj x.rest.uy 0 with|false=>exact⟨by show s.1.length<=_;omega,by show s.2.length<=_;omega,h⟩|true=>
   rw[aR];obtain⟨a,b⟩:=f (js x.cJ (.ofNat s.2.length)) (s.2++[x.rest]);rw[b];refine⟨a,aP,λq d=>?_⟩;rcases Co.1 d with d|d;.exact h q d
   .rw[Cq.1 d];exact S5 (i x gv) (nY k)
  rw[vu,dH];cases(gM x s).1 with|some c=>exact⟨by show(gM x s).2.1.length<=_;omega,by show(gM x s).2.2.length<=_;omega,g.2.2⟩|none=>obtain⟨a,b,c⟩:=T8 l (gM x s).2 j g.2.2;exact⟨by show(cP gM l (gM x s).2).2.1.length<=_;omega,by show(cP gM l (gM x s).2).2.2.length<=_;omega,c⟩
theorem aKS(x:Pr)(s:gh×bq)(c:bM)(h:(gM x s).1=J c):c=.ret:=by grind[uC,gM]
theorem aej:∀(l:List Pr)(s:gh×bq)(c:bM),(cP gM l s).1=J c->c=.ret|[],_,_,h=>by cases h|x::l,s,c,h=>by rw[vu]at h;cases a:(gM x s).1 with|none=>rw[a]at h;exact aej l _ c h|some d=>rw[a]at h;exact aKS x s c (by rw[a];exact h)
def fx(p:ae):Int×(gh×bq):=match(cP gM (eK p) ([],[])).1 with|none=>(0,(cP gM (eK p) ([],[])).2)|some _=>(17,[],[])
def xH(e:gh)(o:aM):DV×aM:=match e with|[]=>(.nl,.any)|a::l=>(.ay ((a::l).map Edge.d) 257 17,o)
def Hb{o:aM}:xH [] o=(.nl,.any):=rfl
theorem A1{o:aM}(h:es≠[]):xH es o=(.ay (es.map Edge.d) 257 17,o):=by
 cases es;.grind
 .rfl
theorem adh(p:ae)(P:GP p):Sat (ev PP cf (.call 153 [.agg p.cells] .no .empty)) λv _=>∃o,(o=.ex 257\/o=.ty 257)/\v=.tp [xH (fx p).2.1 o,tz (ae.bn (fx p).2.2) 75 14,iO (fx p).1]:=by
 refine np func153 ?_;obtain⟨h,ca,cap,g1,e1,l1,c1,M,it,hp⟩:=Su p P.a (by have:=P.n;omega) ⟨6,[(0,jM p),(1,.box ⟨[.nl],[]⟩),(2,.box ⟨[.nl],[]⟩),(3,.box ⟨[iD 0],[]⟩),(4,.box ⟨[.nl],[]⟩),(5,.box ⟨[.nl],[]⟩)]⟩;have k0:=l1.2 1 (by show 1<6;decide);have k1:=l1.2 2 (by show 2<6;decide);have k2:=l1.2 3 (by show 3<6;decide);have k3:=l1.2 4 (by show 4<6;decide);have k4:=l1.2 5 (by show 5<6;decide);have hn:6<=g1.next:=l1.1;simp only[f153];simp only[go_sem,e1];have It:=Jb p P.a;have cT:=(Q4 p).1;have hsq:p.nn*p.nn<=4096:=qz P.n P.n;refine Av it gM (akt cap (eK p)) ([],[]) hp rfl ⟨⟨.ex 257,.inl rfl,k3⟩,k4,k0,k1,k2,c1⟩ (λc s g' h=>h.c) (λc s g3 g4 h R=>⟨let⟨o,l,D⟩:=h.e;⟨o,l,(R.2 4 ab).trans D⟩,(R.2 5 ab).trans h.p,(R.2 1 ab).trans h.a,(R.2 2 ab).trans h.b,(R.2 3 ab).trans h.d,M _ _ h.c R.1 λi _ hi=>R.2 i hi⟩) (λx s g2 hx hR hN L=>?_) (λg2 hR hN=>?_)
 . have pN:=hx.mem;have hxb:=It x pN;have afi:∀x∈eK p,lV x.rest:=λx hx=>(It x hx).pat (by have:=P.n;omega) (by have:=P.c;omega);have hlen:s.1.length<=4096/\s.2.length<=4096/\∀aa∈s.2,GP aa:=by obtain⟨pre,post,l,D⟩:=hx;have:=T8 pre ([],[]) (λy hy=>afi y (by rw[l];exact J3 _ hy)) (λaa h=>absurd h mO);rw[D]at this;have R:=gY List.length l;rw[ib]at R;simp only[gX]at this;exact⟨ab,ab,this.2.2⟩
   obtain⟨⟨oe,Q,r1⟩,r2,m,t,r,N⟩:=hR;refine Ay L rfl ?_;have n:∀i,i<=6->(i=g2.next)=False:=λi h=>cH ab;have b:∀i,i<=6->(i=g2.next+1)=False:=λi h=>cH ab;have K:∀i,i<=6->(g2.next=i)=False:=λi h=>cH ab;have E:∀i,i<=5->(g1.next=i)=False:=λi h=>cH ab;have n6:∀i,i<=6->(g2.next+1=i)=False:=λi h=>cH ab;have f:∀i,i<=5->(i=g1.next)=False:=λi h=>cH ab;have O:∀i,6<=i->i<g1.next->(∀k,k<=5->(i=k)=False)/\(i=g1.next)=False/\(i=g2.next)=False/\(i=g2.next+1)=False:=λi l D=>⟨λk h=>cH ab,cH ab,cH ab,cH ab⟩;have w:(g1.next=g2.next)=False:=cH ab;have A:(g1.next=g2.next+1)=False:=cH ab;have u:(g2.next=g1.next)=False:=cH ab;have z4:(g2.next+1=g1.next)=False:=cH ab;have mj:(g2.next+1=g2.next)=False:=cH ab;have a:(g2.next=g2.next+1)=False:=cH ab;obtain⟨⟨src,G,var,ty,⟨S,T,U,W,X,Y,o7,o8,o9⟩,H,F,uz,uR,ins⟩,done,rest⟩:=x;obtain⟨es,I⟩:=s;simp only at r1 r2 hlen;have OC:=λ(e:Edge)(j:xA e)(g:GH)(hb:g.get g2.next=J (Eh e))=>Eu (d:=Edge.d) (q:=e.B9) 213 [] [.ptr g2.next 0] g V es ab (λy hy=>.inl ⟨aL,aL,aq1 e y g2.next g hb j⟩) (.inr (.inr (.inl rfl))) (λx=>⟨rfl,Edge.dE x⟩);simp only[qE,Pr.rd,Edge.d,Edge.cells,Expr.cells];have hE:∀k,xA (js ⟨src,G,var,ty,⟨S,T,U,W,X,Y,o7,o8,o9⟩,H,F,uz,uR,ins⟩ k):=λk=>let h:=(hxb.ok (by have:=P.n;omega) (by have:=P.c;omega)).e
   ⟨h.c,h.k,h.e,h.o,h.p,h.i,h.l⟩;have ha:∀x:DV,fu 257 17 240 (.ay (es.map Edge.d) 257 17) (.ty 257) [x]=J (.ay (es.map Edge.d++[x]) 257 17,.ty 257):=λe=>aa9 fD (by show(List.length (es.map Edge.d)+1)*240<=bm;rw[fZ];unfold bm;omega) (by show List.length (es.map Edge.d)+1<=bm;rw[fZ];unfold bm;omega);have d3:cY [(0,.ex 75)] 0 1=[]:=rfl;have d0:cY [] 0 1=[]:=rfl;have d1:cY [(0,.ex 257)] 0 1=[]:=rfl;have d2:cY [(0,.ty 257)] 0 1=[]:=rfl;cases done with
   |true=>
   simp only[gM,aR];have e9:=OC _ (hE (-1));unfold uC;generalize hq:es.any (Edge.B9 (js ⟨src,G,var,ty,⟨S,T,U,W,X,Y,o7,o8,o9⟩,H,F,uz,uR,ins⟩ (-1)))=aa at*;simp only[Eh,js,Edge.cells,Expr.cells,go_sem]at e9;rcases pq (es=[])with j|j;.subst j;simp only[tD]at r1;simp only[eG,zK]at e9;simp only[go_sem,L,w,A,u,z4,mj,a,n,b,f,r1,e9];have l1:aA 2048 (.ofNat 1)=C:=rfl;apply gV<;>intro h<;>simp only[h,l1,go_sem,L,w,A,u,a,n,b,f,E,r1];all_goals refine⟨rfl,⟨⟨.ex 257,.inl rfl,?_⟩,?_,?_,?_,?_,M _ _ N ?_ (λi l D=>?_)⟩,oo,rfl⟩<;>first|(simp only[dM,gO];omega)|(simp only[go_sem,n,b,f,r1,tD,r2,m,t,r,sF,fO,eG,js,Edge.d,Edge.cells,Expr.cells];done)|simp only[go_sem,O i l ab]
   . rw[rF j]at r1;rw[Fs j]at e9;have Bs:es++[js ⟨src,G,var,ty,⟨S,T,U,W,X,Y,o7,o8,o9⟩,H,F,uz,uR,ins⟩ (-1)]≠[]:=aP;rcases Q with rfl|rfl;.simp only[go_sem,L,w,A,u,z4,mj,a,n,b,f,K,r1,e9,d1];apply gV<;>intro h<;>simp only[h,go_sem,L,w,A,u,a,n,b,f,K,E,r1,d2,ha,ib,dH,gX,fZ,kE];rotate_left;refine gV (λB=>?_) (λB=>?_)<;>simp only[B,go_sem,L,w,A,n,b,f,E,m,t,r];all_goals refine⟨rfl,⟨⟨.ty 257,.inr rfl,?_⟩,?_,?_,?_,?_,M _ _ N ?_ (λi l D=>?_)⟩,oo,rfl⟩<;>first|(simp only[dM,gO];omega)|(simp only[go_sem,n,b,f,r1,rF j,r2,m,t,r,sF,CD,js,Edge.d,Edge.cells,Expr.cells];done)|simp only[go_sem,O i l ab]
     .simp only[go_sem,L,w,A,u,z4,mj,a,n,b,f,r1,e9];apply gV<;>intro h<;>simp only[h,go_sem,L,w,A,u,a,n,b,f,K,r1,d2,ha,ib,dH,gX,fZ,kE];rotate_left;refine gV (λB=>?_) (λB=>?_)<;>simp only[B,go_sem,L,w,A,n,b,f,E,m,t,r];all_goals refine⟨rfl,⟨⟨.ty 257,.inr rfl,?_⟩,?_,?_,?_,?_,M _ _ N ?_ (λi l D=>?_)⟩,oo,rfl⟩<;>first|(simp only[dM,gO];omega)|(simp only[go_sem,n,b,f,r1,rF j,r2,m,t,r,sF,CD,js,Edge.d,Edge.cells,Expr.cells];done)|simp only[go_sem,O i l ab]
   |false=>
   have hpx:=afi _ pN;have Li:=(hxb.ok (by have:=P.n;omega) (by have:=P.c;omega)).p;simp only at hpx Li;obtain⟨gz,e8⟩:=adi V I rest ab Li;obtain⟨_,g0,h0,rfl⟩:=OO rest hpx;have b1:=aIx;have b2:=aIM;simp only[bH,opsOf,f153,go_sem]at b1 b2;simp only[gM,bX];rcases pq (I=[])with hr|hr
   . subst hr;have i1:gk rest.same [] 0=-1:=rfl;have i2:aA (-1) 0=V:=rfl;simp only[xP]at r2;simp only[ae.bn,zK,i1]at e8;simp only[i1,i2,aR];simp only[go_sem,L,w,A,u,z4,mj,a,n,b,f,r2,e8,i2,h0];apply gV<;>intro h<;>simp only[h,go_sem,L,w,A,u,a,n,b,f,E,r2,m,t,r]
     . refine Rr [(),(),(),(),(),(),()] [] b2 b1 rfl ?_;simp only[go_sem,z4,mj,n,b,f,r2];have e9:=OC _ (hE (0));unfold uC;generalize hq:es.any (Edge.B9 (js ⟨src,G,var,ty,⟨S,T,U,W,X,Y,o7,o8,o9⟩,H,F,uz,uR,ins⟩ (0)))=aa at*;simp only[Eh,js,Edge.cells,Expr.cells,go_sem]at e9;rcases pq (es=[])with j|j;.subst j;simp only[tD]at r1;simp only[eG,zK]at e9;simp only[go_sem,u,a,n,b,f,K,r1,e9];have l1:aA 2048 (.ofNat 1)=C:=rfl;apply gV<;>intro h<;>simp only[h,l1,go_sem,L,w,A,u,a,n,b,f,K,E,r1];all_goals refine⟨rfl,⟨⟨.ex 257,.inl rfl,?_⟩,?_,?_,?_,?_,M _ _ N ?_ (λi l D=>?_)⟩,oo,rfl⟩<;>first|(simp only[dM,gO];omega)|(simp only[go_sem,n,b,f,r1,tD,r2,xP,ae.bn,m,t,r,sF,fO,eG,js,Edge.d,Edge.cells,Expr.cells];done)|simp only[go_sem,O i l ab]
       . rw[rF j]at r1;rw[Fs j]at e9;have Bs:es++[js ⟨src,G,var,ty,⟨S,T,U,W,X,Y,o7,o8,o9⟩,H,F,uz,uR,ins⟩ (0)]≠[]:=aP;rcases Q with rfl|rfl;.simp only[go_sem,u,a,K,r1,e9,d1];apply gV<;>intro h<;>simp only[h,go_sem,L,w,A,u,a,n,b,f,K,E,r1,d2,ha,ib,dH,gX,fZ,kE];rotate_left;refine gV (λB=>?_) (λB=>?_)<;>simp only[B,go_sem,L,w,A,n,b,f,E,m,t,r];all_goals refine⟨rfl,⟨⟨.ty 257,.inr rfl,?_⟩,?_,?_,?_,?_,M _ _ N ?_ (λi l D=>?_)⟩,oo,rfl⟩<;>first|(simp only[dM,gO];omega)|(simp only[go_sem,n,b,f,r1,rF j,r2,xP,ae.bn,m,t,r,sF,CD,js,Edge.d,Edge.cells,Expr.cells];done)|simp only[go_sem,O i l ab]
         .simp only[go_sem,u,a,n,b,f,K,r1,e9];apply gV<;>intro h<;>simp only[h,go_sem,L,w,A,u,a,n,b,f,K,E,r1,d2,ha,ib,dH,gX,fZ,kE];rotate_left;refine gV (λB=>?_) (λB=>?_)<;>simp only[B,go_sem,L,w,A,n,b,f,E,m,t,r];all_goals refine⟨rfl,⟨⟨.ty 257,.inr rfl,?_⟩,?_,?_,?_,?_,M _ _ N ?_ (λi l D=>?_)⟩,oo,rfl⟩<;>first|(simp only[dM,gO];omega)|(simp only[go_sem,n,b,f,r1,rF j,r2,xP,ae.bn,m,t,r,sF,CD,js,Edge.d,Edge.cells,Expr.cells];done)|simp only[go_sem,O i l ab]
     . rcases pq (es=[])with j|j;.subst j;have hb:tD [] oe=.box ⟨[.nl],[]⟩:=rfl;refine⟨rfl,⟨⟨oe,Q,?_⟩,?_,?_,?_,?_,M _ _ N ?_ (λi l D=>?_)⟩,oo,rfl⟩<;>first|(simp only[dM,gO];omega)|(simp only[go_sem,n,b,f,r1,hb,r2,xP,m,t,r,sF];done)|simp only[go_sem,O i l ab]
       .refine⟨rfl,⟨⟨oe,Q,?_⟩,?_,?_,?_,?_,M _ _ N ?_ (λi l D=>?_)⟩,oo,rfl⟩<;>first|(simp only[dM,gO];omega)|(simp only[go_sem,n,b,f,r1,rF j,r2,xP,m,t,r,sF];done)|simp only[go_sem,O i l ab]
   . rw[Ba hr]at r2;rw[agQ hr]at e8;generalize gk rest.same I 0=iq at*;simp only[go_sem,L,w,A,u,z4,mj,a,n,b,f,r2,e8];apply gV<;>intro h<;>simp only[h,go_sem,h0,z4,mj,n,b,f]
     . apply gV<;>intro h<;>simp only[h,go_sem,L,w,A,u,a,n,b,f,E,r2,m,t,r]
       . refine Rr [(),(),(),(),(),(),()] [] b2 b1 rfl ?_;have hlr:(I.length<1200000)=True:=ir ab;have tk:∀z:DV,List.take I.length (ae.bn I++[z])=ae.bn I:=λz=>List.take_left' (ae.qF I);have dr:∀z:DV,List.drop (I.length+1) (ae.bn I++[z])=[]:=λz=>List.drop_eq_nil_of_le (by simp[ae.qF]);have gt:∀z:DV,(ae.bn I++[z])[I.length]?=J z:=λz=>by rw[pY (by rw[ae.qF];exact bS _),ae.qF,Nat.sub_self];rfl
         have lt:(I.length<I.length+1)=True:=ir ab;simp only[go_sem,z4,mj,n,b,f,n6,r2,ae.qF,hlr,tk,dr,gt,lt,ib,dH,gX,kE];have e9:=OC _ (hE (.ofNat I.length));unfold uC;generalize hq:es.any (Edge.B9 (js ⟨src,G,var,ty,⟨S,T,U,W,X,Y,o7,o8,o9⟩,H,F,uz,uR,ins⟩ (.ofNat I.length)))=aa at*;simp only[Eh,js,Edge.cells,Expr.cells,go_sem]at e9;rcases pq (es=[])with j|j;.subst j;simp only[tD]at r1;simp only[eG,zK]at e9;simp only[go_sem,u,a,n,b,f,K,r1,e9];have l1:aA 2048 (.ofNat 1)=C:=rfl;apply gV<;>intro h<;>simp only[h,l1,go_sem,L,w,A,u,a,n,b,f,K,E,r1];all_goals refine⟨rfl,⟨⟨.ex 257,.inl rfl,?_⟩,?_,?_,?_,?_,M _ _ N ?_ (λi l D=>?_)⟩,oo,rfl⟩<;>first|(simp only[dM,gO];omega)|(simp only[go_sem,n,b,f,r1,tD,r2,SS,d3,d0,m,t,r,sF,fO,eG,js,Edge.d,Edge.cells,Expr.cells];done)|simp only[go_sem,O i l ab]
         . rw[rF j]at r1;rw[Fs j]at e9;have Bs:es++[js ⟨src,G,var,ty,⟨S,T,U,W,X,Y,o7,o8,o9⟩,H,F,uz,uR,ins⟩ (.ofNat I.length)]≠[]:=aP;rcases Q with rfl|rfl;.simp only[go_sem,u,a,K,r1,e9,d1];apply gV<;>intro h<;>simp only[h,go_sem,L,w,A,u,a,n,b,f,K,E,r1,d2,ha,ib,dH,gX,fZ,kE];rotate_left;refine gV (λB=>?_) (λB=>?_)<;>simp only[B,go_sem,L,w,A,n,b,f,E,m,t,r];all_goals refine⟨rfl,⟨⟨.ty 257,.inr rfl,?_⟩,?_,?_,?_,?_,M _ _ N ?_ (λi l D=>?_)⟩,oo,rfl⟩<;>first|(simp only[dM,gO];omega)|(simp only[go_sem,n,b,f,r1,rF j,r2,SS,d3,d0,m,t,r,sF,CD,js,Edge.d,Edge.cells,Expr.cells];done)|simp only[go_sem,O i l ab]
           .simp only[go_sem,u,a,n,b,f,K,r1,e9];apply gV<;>intro h<;>simp only[h,go_sem,L,w,A,u,a,n,b,f,K,E,r1,d2,ha,ib,dH,gX,fZ,kE];rotate_left;refine gV (λB=>?_) (λB=>?_)<;>simp only[B,go_sem,L,w,A,n,b,f,E,m,t,r];all_goals refine⟨rfl,⟨⟨.ty 257,.inr rfl,?_⟩,?_,?_,?_,?_,M _ _ N ?_ (λi l D=>?_)⟩,oo,rfl⟩<;>first|(simp only[dM,gO];omega)|(simp only[go_sem,n,b,f,r1,rF j,r2,SS,d3,d0,m,t,r,sF,CD,js,Edge.d,Edge.cells,Expr.cells];done)|simp only[go_sem,O i l ab]
       . rcases pq (es=[])with j|j;.subst j;have hb:tD [] oe=.box ⟨[.nl],[]⟩:=rfl;refine⟨rfl,⟨⟨oe,Q,?_⟩,?_,?_,?_,?_,M _ _ N ?_ (λi l D=>?_)⟩,oo,rfl⟩<;>first|(simp only[dM,gO];omega)|(simp only[go_sem,n,b,f,r1,hb,r2,Ba hr,m,t,r,sF];done)|simp only[go_sem,O i l ab]
         .refine⟨rfl,⟨⟨oe,Q,?_⟩,?_,?_,?_,?_,M _ _ N ?_ (λi l D=>?_)⟩,oo,rfl⟩<;>first|(simp only[dM,gO];omega)|(simp only[go_sem,n,b,f,r1,rF j,r2,Ba hr,m,t,r,sF];done)|simp only[go_sem,O i l ab]
     . skip;have e9:=OC _ (hE (iq));unfold uC;generalize hq:es.any (Edge.B9 (js ⟨src,G,var,ty,⟨S,T,U,W,X,Y,o7,o8,o9⟩,H,F,uz,uR,ins⟩ (iq)))=aa at*;simp only[Eh,js,Edge.cells,Expr.cells,go_sem]at e9;rcases pq (es=[])with j|j;.subst j;simp only[tD]at r1;simp only[eG,zK]at e9;simp only[go_sem,u,a,n,b,f,r1,e9];have l1:aA 2048 (.ofNat 1)=C:=rfl;apply gV<;>intro h<;>simp only[h,l1,go_sem,L,w,A,u,a,n,b,f,E,r1];all_goals refine⟨rfl,⟨⟨.ex 257,.inl rfl,?_⟩,?_,?_,?_,?_,M _ _ N ?_ (λi l D=>?_)⟩,oo,rfl⟩<;>first|(simp only[dM,gO];omega)|(simp only[go_sem,n,b,f,r1,tD,r2,Ba hr,m,t,r,sF,fO,eG,js,Edge.d,Edge.cells,Expr.cells];done)|simp only[go_sem,O i l ab]
       . rw[rF j]at r1;rw[Fs j]at e9;have Bs:es++[js ⟨src,G,var,ty,⟨S,T,U,W,X,Y,o7,o8,o9⟩,H,F,uz,uR,ins⟩ (iq)]≠[]:=aP;rcases Q with rfl|rfl;.simp only[go_sem,u,a,K,r1,e9,d1];apply gV<;>intro h<;>simp only[h,go_sem,L,w,A,u,a,n,b,f,K,E,r1,d2,ha,ib,dH,gX,fZ,kE];rotate_left;refine gV (λB=>?_) (λB=>?_)<;>simp only[B,go_sem,L,w,A,n,b,f,E,m,t,r];all_goals refine⟨rfl,⟨⟨.ty 257,.inr rfl,?_⟩,?_,?_,?_,?_,M _ _ N ?_ (λi l D=>?_)⟩,oo,rfl⟩<;>first|(simp only[dM,gO];omega)|(simp only[go_sem,n,b,f,r1,rF j,r2,Ba hr,m,t,r,sF,CD,js,Edge.d,Edge.cells,Expr.cells];done)|simp only[go_sem,O i l ab]
         .simp only[go_sem,u,a,n,b,f,r1,e9];apply gV<;>intro h<;>simp only[h,go_sem,L,w,A,u,a,n,b,f,K,r1,d2,ha,ib,dH,gX,fZ,kE];rotate_left;refine gV (λB=>?_) (λB=>?_)<;>simp only[B,go_sem,L,w,A,n,b,f,E,m,t,r];all_goals refine⟨rfl,⟨⟨.ty 257,.inr rfl,?_⟩,?_,?_,?_,?_,M _ _ N ?_ (λi l D=>?_)⟩,oo,rfl⟩<;>first|(simp only[dM,gO];omega)|(simp only[go_sem,n,b,f,r1,rF j,r2,Ba hr,m,t,r,sF,CD,js,Edge.d,Edge.cells,Expr.cells];done)|simp only[go_sem,O i l ab]
 .obtain⟨⟨oe,Q,r1⟩,r2,m,t,r,N⟩:=hR;have b1:=aIy;have b2:=aIN;simp only[bH,opsOf,f153,go_sem]at b1 b2;unfold fx;have BB:=aej (eK p) ([],[]);generalize cP gM (eK p) ([],[])=z at*;obtain⟨c,es,I⟩:=z;simp only at r1 r2 r BB;cases c with|some c=>obtain rfl:=BB c rfl;simp only[Sp,aR]at r;simp only[go_sem,m,t,r];exact⟨.ex 257,.inl rfl,rfl⟩|none=>
   simp only[sF,bX]at r;simp only[go_sem];refine Rr [()] [] b2 b1 rfl ?_;have d0:cY [] 0 1=[]:=rfl;have d1:cY [(0,.ex 257)] 0 1=[]:=rfl;have d2:cY [(0,.ty 257)] 0 1=[]:=rfl;have d3:cY [(0,.ex 75)] 0 1=[]:=rfl;rcases pq (es=[])with j|j<;>rcases pq (I=[])with hr|hr;.subst j;subst hr;simp only[tD,xP]at r1 r2;simp only[go_sem,r1,r2,m,t,r,d0];exact⟨.ex 257,.inl rfl,rfl⟩
   .subst j;rw[Ba hr]at r2;simp only[tD]at r1;simp only[go_sem,r1,r2,m,t,r,d0,d3];exact⟨.ex 257,.inl rfl,by rw[Hb,zu hr]⟩
   . subst hr;rw[rF j]at r1;simp only[xP]at r2;rcases Q with rfl|rfl;.simp only[go_sem,r1,r2,m,t,r,d0,d1];exact⟨.ex 257,.inl rfl,by rw[A1 j];rfl⟩
     .simp only[go_sem,r1,r2,m,t,r,d0,d2];exact⟨.ty 257,.inr rfl,by rw[A1 j];rfl⟩
   . rw[rF j]at r1;rw[Ba hr]at r2;rcases Q with rfl|rfl;.simp only[go_sem,r1,r2,m,t,r,d0,d1,d3];exact⟨.ex 257,.inl rfl,by rw[A1 j,zu hr]⟩
     .simp only[go_sem,r1,r2,m,t,r,d0,d2,d3];exact⟨.ty 257,.inr rfl,by rw[A1 j,zu hr]⟩
section
variable{P:aH}{cf:bU}{rec:dR}{O:St}{gs cr:aC}{l:List aB}{d:ah Tmp}{ty t u:an}{pos:String}{af:Array Go.Edge}{wh:ah (Nat×Bool)}{x y k:aK}{id I len e n m i:Nat}{o:aM}{w:DV}{lo hi:ah DV}
theorem axE(h:aW P e=J n):BG P O d x i (J (.slice e)) (.dv (.dY id I len e n) o)=bif ct i len then aG O d (.dv (.ptr id (I+i*n)) .no)else Z:=by show(aW P e).bind _=_;simp_all
theorem aAl:Qr O (J (.slice t)) (.dv (.dY id I len e n) o)=J len:=rfl
theorem aAi:nd (.dY id I len e n)=J len:=rfl
theorem aJm:oC (.full e)=.full e:=rfl
theorem aJk:oC .any=.any:=rfl
def acj(P:aH)(s:St)(d:ah Tmp)(l:an):DV->ah St|.nl=>aG s d (.tp [])|.dY id I n _ e=>(match s.g.get id,cu P l with|some (.box b),J z=>bif bt (I+n*e) b.cells.length&&aw z.flat.length e then aG {s with sl:=cN s.sl,g:=s.g.set id (.box {cells:=lg b.cells I ((lT n z).flatMap DV.flat),own:=cY b.own I (n*e)})} d (.tp [])else Z|_,_=>Z)|_=>Z
theorem akD:dG P cf rec gs cr l O ⟨d,.call ⟨.builtin .clear,⟨[x]⟩,⟨[t]⟩⟩,ty,pos,af,wh⟩=(Gk (P.underlying t)).bind λe=>(bj cf.aq O x).bind (acj P O d e):=by
 show(match P.underlying t with|some (.slice _)=>_|_=>Z)=_;rcases P.underlying t with _|q;.rfl
 cases q<;>rfl
def QB(P:aH)(a:aC)(s:St)(d:ah Tmp)(e:an)(n:Nat):ah St:=(dL P e).bind λi=>(cu P e).bind λz=>bif !(aw i.1 0)&&aw z.flat.length i.1&&bt (n*i.2) bm&&bt n bm&&CV a d then aG {s with g:=s.g.alloc (.box ⟨(lT n z).flatMap DV.flat,[(((lT n z).flatMap DV.flat).length,.full e)]⟩)} d (.dv (.dY s.g.next 0 n e i.1) .no)else Z
theorem akS:dG P cf rec gs cr l O ⟨d,.makeSlice t x x,ty,pos,af,wh⟩=(Gk (P.underlying t)).bind λe=>(bj cf.aq (cZ O [x,x]) x).bind λv=>(FE v).bind λn=>QB P gs (cZ O [x,x]) d e n:=by show(match P.underlying t,bj _ (cZ O [x,x]) x,bj _ (cZ O [x,x]) x with|some (.slice _),J (.int _ (.ofNat n)),J (.int _ (.ofNat m))=>_|_,_,_=>Z)=_;cases P.underlying t with|none=>rfl|some q=>cases q with
 |slice b=>cases bj _ _ x with|none=>rfl|some v=>cases v with
  | int k a => rcases a with a|a
               . show(match P.info? _,cu P _ with|some i,J z=>_|_,_=>Z)=QB P gs _ d _ a;unfold QB dL;rcases P.info? _ with _|i;.rfl
                 rcases cu P _ with _|z;.rfl
                 simp only[gJ,cR,pw,wm];rfl
               rfl|_=>rfl
 |_=>rfl
end
attribute[go_sem↓]akD akS
attribute[go_sem]axE aAl aAi aJm aJk acj QB
theorem apD:dz cf (bH f7 6)=V:=by rfl
theorem apC:dz cf (bH f7 11)=V:=by rfl
theorem aps:dz cf (bH f105 13)=V:=by rfl
theorem apE:dz cf (bH f165 1)=V:=by rfl
theorem apG:dz cf (bH f165 6)=V:=by rfl
theorem apF:dz cf (bH f165 10)=V:=by rfl
theorem aoX:dz cf (bH f226 24)=V:=by rfl
theorem ao8:dz cf (bH f302 1)=V:=by rfl
theorem ao9:dz cf (bH f302 2)=V:=by rfl
theorem aoZ:dz cf (bH f268 2)=V:=by rfl
theorem apg:dz cf (bH f325 17)=V:=by rfl
theorem apl:dz cf (bH f385 1)=V:=by rfl
theorem apn:dz cf (bH f385 3)=V:=by rfl
theorem apo:dz cf (bH f385 5)=V:=by rfl
theorem apq:dz cf (bH f385 6)=V:=by rfl
theorem apr:dz cf (bH f385 9)=V:=by rfl
theorem apm:dz cf (bH f385 10)=V:=by rfl
theorem apt:dz cf (bH f424 1)=V:=by rfl
theorem aIz:AG cf (bH f359 1)=[(7,9)]:=by rfl
theorem aIO:nE cf st0 (bH f359 1)=V:=by rfl
theorem ao0:dz cf (bH f273 11)=V:=by rfl
theorem ao1:dz cf (bH f274 1)=V:=by rfl
theorem ao5:dz cf (bH f274 8)=V:=by rfl
theorem ao6:dz cf (bH f274 9)=V:=by rfl
theorem ao2:dz cf (bH f274 11)=V:=by rfl
theorem ao3:dz cf (bH f274 19)=V:=by rfl
theorem ao4:dz cf (bH f274 21)=V:=by rfl
theorem apf:dz cf (bH f322 1)=V:=by rfl
theorem api:dz cf (bH f377 1)=V:=by rfl
theorem apd:dz cf (bH f315 1)=V:=by rfl
theorem apj:dz cf (bH f382 1)=V:=by rfl
theorem apk:dz cf (bH f383 1)=V:=by rfl
theorem aoY:dz cf (bH f265 9)=V:=by rfl
theorem apH:dz cf (bH f168 15)=V:=by rfl
theorem apI:dz cf (bH f178 1)=V:=by rfl
theorem apJ:dz cf (bH f178 3)=V:=by rfl
theorem ao7:dz cf (bH f28 11)=V:=by rfl
theorem apu:dz cf (bH f51 2)=V:=by rfl
theorem apv:dz cf (bH f51 7)=V:=by rfl
theorem apc:dz cf (bH f26 16)=V:=by rfl
theorem apy:dz cf (bH f52 3)=V:=by rfl
theorem apz:dz cf (bH f52 4)=V:=by rfl
theorem apA:dz cf (bH f52 5)=V:=by rfl
theorem apB:dz cf (bH f53 1)=V:=by rfl
theorem apa:dz cf (bH f306 6)=V:=by rfl
theorem apb:dz cf (bH f307 6)=V:=by rfl
theorem aph:dz cf (bH f374 6)=V:=by rfl
theorem apw:dz cf (bH f459 4)=V:=by rfl
theorem apx:dz cf (bH f459 6)=V:=by rfl
set_option maxHeartbeats 1000000
def oQ(a b c d e f:Int):Bool:=bif aj a d then bif aj b e then aj c f else C else C
theorem acZ(a:Int):aj a a=V:=by simp[iZ]
theorem KJ{n:Nat}{a b c:Int}:gF PP (n+2) 182 (.agg [.int .i64 a,.int .i64 b,.int .i64 c]) (.agg [.int .i64 a',.int .i64 b',.int .i64 c'])=J (oQ a b c a' b' c'):=by rw[HC underlying182 aT];simp only[go_sem,oQ,Bi,String.reduceBEq];grind
theorem KI{v a b c d:Int}:gF PP 50 184 (.agg [.int .i64 v,.int .i64 a,.int .i64 b,.int .i64 c]) (.agg [.int .i64 d,.int .i64 a',.int .i64 b',.int .i64 c'])=J (bif aj v d then oQ a b c a' b' c' else C):=by rw[HC underlying184 aT];simp only[go_sem,KJ,Bi,String.reduceBEq];grind
theorem KK{a b:Int}:gF PP 50 187 (.agg [.int .i64 a,.int .i64 b]) (.agg [.int .i64 a',.int .i64 b'])=J (bif aj a a' then aj b b' else C):=by rw[HC underlying187 aT];simp only[go_sem,Bi,String.reduceBEq];grind
section
variable{v a b c v' a' b' c':Int}
theorem abu:gb PP .eql 182 (.agg [.int .i64 a,.int .i64 b,.int .i64 c]) (.agg [.int .i64 a',.int .i64 b',.int .i64 c'])=J (.bool (oQ a b c a' b' c')):=by simp[Eg,KJ]
theorem ame:gb PP .neq 184 (.agg [.int .i64 v,.int .i64 a,.int .i64 b,.int .i64 c]) (.agg [.int .i64 v',.int .i64 a',.int .i64 b',.int .i64 c'])=J (.bool (!bif aj v v' then oQ a b c a' b' c' else C)):=by simp[Eg,KI]
theorem amg:gb PP .neq 187 (.agg [.int .i64 a,.int .i64 b]) (.agg [.int .i64 a',.int .i64 b'])=J (.bool (!bif aj a a' then aj b b' else C)):=by simp[Eg,KK]
end
attribute[go_sem]abu ame amg
theorem aqE(a:Int):CC 108 [iD a] (vB C):=by refine aO func108 ?_;simp only[go_sem,f108,acZ]
theorem An(a b:Int):CC 74 [iD a,iD b] (vI (iB a b)):=by refine aO func74 ?_;simp only[go_sem,f74,aqE,iB];apply sp<;>intro h<;>simp only[h,go_sem];apply sp<;>intro h<;>simp only[h,go_sem]
def Aq:cF->Int|[]=>0|a::l=>bif aj a 0 then Aq l else a
theorem FK(l:cF)(n:Bool)(d:l.length<1000000000):CC 73 [bw n (l.map iD) 3 1] (vI (Aq l)):=by
 refine aO func73 ?_;simp only[go_sem,f73];refine jn l (λi=>[(8,iS i)]) (λ_ l=>vI (Aq l)) ab rfl rfl ?_ (λi x l b c w a=>?_);.simp only[go_sem,Aq]
 .simp only[go_sem]at a;simp only[go_sem,b,c,Aq];apply sp<;>intro h<;>simp only[h,w,go_sem,a]
theorem Ta(a:Int):iB a a=0:=by simp[iB,gL]
theorem acX{a b c:Int}(h:oQ a b c a' b' c'=V):a=a'/\b=b'/\c=c':=by grind[oQ,iZ]
def ke(t s q:Int):DV:=.agg [iD t,iD s,iD q]
def aN.ref(e:aN):DV:=ke e.tm e.src e.seq
theorem VZ(e:aN):CC 230 [e.d] (.val (.dv e.ref .no) .empty):=by refine aO func230 ?_;simp only[go_sem,f230,aN.d,aN.cells,aN.ref,ke]
theorem aDw(e:aN):CC 314 [e.d] (.val (.dv e.ref .no) .empty):=by refine aO func314 ?_;simp only[go_sem,f314,aN.d,aN.cells,aN.ref,ke]
def CG(t s q c b a:Int):Int:=Aq [iB t c,iB s b,iB q a]
theorem ahC(t s q c b a:Int):CC 315 [ke t s q,ke c b a] (vI (CG t s q c b a)):=by have h:=FK [iB t c,iB s b,iB q a] C ai;simp only[zJ,fO,eG]at h;have hd:=apd;simp only[bH,opsOf,f315,go_sem]at hd;refine aO func315 ?_;simp only[go_sem,f315,hd,ke,An,h,CG]
theorem aEa(a b:aN):CC 174 [a.d,b.d] (vB (bif aj a.src b.src then aj a.seq b.seq else C)):=by refine aO func174 ?_;simp only[go_sem,f174,aN.d,aN.cells];apply sp<;>intro h<;>simp only[h,go_sem]
def aN.cmp(a b:aN):Int:=CG a.tm a.src a.seq b.tm b.src b.seq
theorem aEb(a b:aN):CC 178 [a.d,b.d] (vI (a.cmp b)):=by have h:=FK [iB a.tm b.tm,iB a.src b.src,iB a.seq b.seq] C ai;simp only[zJ,fO,eG]at h;have d:=VZ a;have e:=VZ b;have hd:=apI;have c:=apJ;simp only[bH,opsOf,f178,go_sem]at hd c;simp only[aN.d,aN.cells,aN.ref,ke]at d e;refine aO func178 ?_;simp only[go_sem,f178,hd,aN.d,aN.cells,d,e,aN.cmp,CG];apply sp<;>intro k<;>simp only[k,c,An,h,go_sem];obtain⟨k1,k2,k3⟩:=acX k;rw[k1,k2,k3,Ta,Ta,Ta];rfl
def br.sz(c:br):Prop:=c.bs.l.length<1000000000/\c.ss.l.length<1000000000
def Gv(v:Sl aN):Prop:=v.l.length<1000000000/\∀e∈v.l,e.lR.l.length<1000000000
def ew.sz(e:ew):Prop:=Gv e.wait/\Gv e.held/\e.runs.l.length<1000000000/\∀c∈e.runs.l,c.sz
theorem amU{s u:aC}:gb PP .lss t (.str s) (.str u)=J (.bool (IU s u)):=rfl
attribute[go_sem]amU
def bG.sz(o:bG):Prop:=o.marks.l.length<1000000000/\o.keys.l.length<1000000000/\∀k∈o.keys.l,k.e.sz
theorem axD{t:St}{d:ah Tmp}{i n:Nat}{x:ao}(h:aW P e=J n):BG P t d (.tmp s) i (J (.slice e)) (.dv (.ay x e n) (.ex k))=bif ct i x.length then aG t d (.se s i 0)else Z:=by show(aW P e).bind _=_;simp_all
attribute[go_sem]axD
def aDb(a b:aC):CC 111 [.str a,.str b] (vI (cmpL a b)):=CN (v:=.dv (.int .i64 (cmpL a b)) .no) rfl rfl
theorem aC8(a b:cM):CC 109 [a.d,b.d] (vI (iB a.k b.k)):=by refine aO func109 ?_;simp only[go_sem,f109,cM.d,cM.cells,An]
theorem aC9(a b:cM):CC 110 [a.d,b.d] (vI (iB a.n b.n)):=by refine aO func110 ?_;simp only[go_sem,f110,cM.d,cM.cells,An]
def cM.cmp(a b:cM):Int:=bif aj (iB a.k b.k) 0 then bif aj (iB a.n b.n) 0 then cmpL a.s b.s else iB a.n b.n else iB a.k b.k
theorem ahM(a b:cM):CC 75 [a.d,b.d] (vI (a.cmp b)):=by have c:=aC8 a b;have d:=aC9 a b;simp only[cM.d,cM.cells]at c d;refine aO func75 ?_;simp only[go_sem,f75,cM.d,cM.cells,cM.cmp];refine ik ?_;have l0:aA 0 (dk 2)=V:=rfl;have l1:aA 1 (dk 2)=V:=rfl;have l2:aA 2 (dk 2)=C:=rfl;have w:dN .i64 (kh 0 1)=1:=rfl;have e:dN .i64 (kh 1 1)=2:=rfl;simp only[go_sem];rw[l0,aR];show kg PP cf (ev PP cf) _=_;simp only[go_sem,c];apply sp<;>intro h<;>simp only[h,go_sem,w];refine ik ?_;simp only[go_sem];rw[l1,aR];show kg PP cf _ _=_;simp only[go_sem,d];apply sp<;>intro h<;>simp only[h,go_sem,e];refine ik ?_;simp only[go_sem];show kg PP cf _ _=_;simp only[go_sem,aDb]
def aF.cmp(a b:aF):Int:=bif aj (iB a.q b.q) 0 then a.key.cmp b.key else iB a.q b.q
theorem aD2(a b:aF):CC 166 [a.d,b.d] (vI (a.cmp b)):=by have v:=ahM a.key b.key;simp only[cM.d,cM.cells]at v;refine aO func166 ?_;simp only[go_sem,f166,aF.d,aF.cells,aF.cmp,An];apply sp<;>intro h<;>simp only[h,v,go_sem]
theorem aD7(e:ew):CC 182 [e.d] (vB (bif aj (.ofNat e.held.l.length) 0 then aj (.ofNat e.wait.l.length) 0 else C)):=by refine aO func182 ?_;simp only[go_sem,f182,ew.d,ew.cells,de];apply sp<;>intro h<;>simp only[h,go_sem]
def IV(n:Int):Bool:=bif aA n (-1)then V else aA 1099511627776 n
theorem aD0(n:Int):CC 164 [iD n] (vB (IV n)):=by refine aO func164 ?_;simp only[go_sem,f164,IV];apply sp<;>intro h<;>simp only[h,go_sem]
theorem ahF(n:Int):CC 32 [iD n] (vB (bif aA n 1 then C else !aA 8 n)):=by refine aO func32 ?_;simp only[go_sem,f32];apply sp<;>intro h<;>simp only[h,go_sem]
theorem ahE(l:List Bool)(c:l.length<1000):CC 31 [.ay (l.map DV.bool) 4 1] (vI (bif l.all id then 0 else 2)):=by
 refine aO func31 ?_;simp only[go_sem,f31];refine jn l (λi=>[(7,iS i)]) (λ_ l=>vI (bif l.all id then 0 else 2)) ab rfl rfl ?_ (λi x l a b w h=>?_);.simp only[go_sem,nU]
 .simp only[go_sem]at h;cases x<;>simp only[go_sem,a,b,w,h,oJ,id]
def Fz:Int->cF->Int|a,[]=>a|a,b::l=>Fz (bif aA b a then b else a) l
theorem aC6(n:Bool)(a:Int)(l:cF)(d:l.length<1100000):CC 186 [bw n ((a::l).map iD) 3 1] (vI (Fz a l)):=by
 refine aO func186 ?_;have e:aA (.ofNat (l.length+1)) 1=C:=by rfl
 simp only[go_sem,f186];refine Jy e ?_;simp only[go_sem];refine sV l a (λi s=>[(4,iS (i+1)),(3,.dv (.int .i64 s) .no)]) (λ_ l s=>vI (Fz s l)) (λ_ _ _=>True) ab rfl trivial rfl (λs _=>?_) (λi x t s c b w _ h=>?_);.simp only[go_sem,Fz]
 .have E:(i+1<l.length+1)=True:=ir aT;have D:dN .i64 (kh (dk (i+1)) 1)=dk (i+1+1):=vi ai;have h:=h (bif aA x s then x else s) trivial;simp only[go_sem]at h;simp only[go_sem,E,b,D,Fz,J1,h]
theorem aD3(o:bG)(m:o.marks.l.length<1100000):CC 120 [o.d] (vI (match o.marks.l with|[]=>-1|a::l=>Fz a l)):=by refine aO func120 ?_;obtain⟨⟨nl,s⟩,k⟩:=o;simp only[go_sem,f120,bG.d,bG.cells,cE];cases s with
 |nil=>
 simp only[go_sem,gX];all_goals try show kg PP cf (ev PP cf) _=_
 all_goals simp only[go_sem]|cons a l=>
 have h:=aC6 nl a l (by have:(a::l).length<1100000:=m;rw[dH]at this;omega);simp only[fO]at h;simp only[go_sem,h];all_goals try show kg PP cf (ev PP cf) _=_
 all_goals try simp only[go_sem,h]
theorem aDd(e:aN):cW BI (ev PP cf (.call 225 [e.d] .no .empty)):=by refine fY func225 ?_;simp only[go_sem,f225,aN.d,aN.cells];repeat'(with_reducible apply cV<;>intro h<;>simp only[h,go_sem,bz,qN])
theorem aDn(e:aN):cW Di (ev PP cf (.call 300 [e.d] .no .empty)):=by refine fY func300 ?_;simp only[go_sem,f300,aN.d,aN.cells];repeat'(with_reducible apply cV<;>intro h<;>simp only[h,go_sem,bz,uP])
theorem aDo(e:aN):CC 301 [e.d] (.val (.dv (.agg [iD e.src,iD e.seq]) .no) .empty):=by refine aO func301 ?_;simp only[go_sem,f301,aN.d,aN.cells]
def aN.fits(t:Sl b9)(e:aN):Prop:=∃n s,e.ty=.ofNat n/\t.l[n]?=J s/\s.fields.l.length=e.lR.l.length
def Qe(t:Sl b9)(e:aN)(r:bh):Prop:=∃n,r=vI n/\(n=0->e.fits t)
theorem aD9(t:Sl b9)(e:aN)(A:t.l.length<1000000000)(o:e.lR.l.length<1000000000):cW (Qe t e) (ev PP cf (.call 168 [cB t,e.d] .no .empty)):=by
 obtain⟨u,e0,_⟩:=aDd e;obtain⟨m,rfl⟩:∃n,u=vI n:=by assumption
 have r:∀{n:Int},n≠0->Qe t e (vI n):=λh=>⟨_,rfl,λk=>absurd k h⟩;have a:aj m 0=C->Qe t e (vI m):=λh=>r λk=>by rw[k]at h;cases h
 have hd:=apH;simp only[bH,opsOf,f168,go_sem]at hd;refine fY func168 ?_;simp only[aN.d,aN.cells]at e0;obtain⟨src,y,ty,D,l⟩:=e;rcases ty with n|n
 . have z:aA (dk n) 0=C:=rfl;simp only[go_sem,f168,aN.d,aN.cells,e0,cB];apply cV<;>intro h;rotate_left;.simp only[h,go_sem,bz,a]
   simp only[h,go_sem,z];by_cases b:n<t.l.length
   . obtain⟨s,d⟩:∃s,t.l[n]?=J s:=⟨_,dA b⟩;simp only[b,go_sem,yV];try show cW _ (kg PP cf (ev PP cf) _)
     simp only[d,go_sem,b9.d,CQ];apply cV<;>intro h
     . simp only[h,go_sem];refine tX l.l (λi=>[(40,iS i)]) (by have:l.l.length<1000000000:=o;omega) rfl ?_ (λi x c q w j=>?_);.simp only[go_sem,bz];exact⟨0,rfl,λ_=>⟨n,s,rfl,d,(uU h).symm⟩⟩
       . simp only[go_sem]at j;have B:l.l.length=s.fields.l.length:=uU h;obtain⟨f,p⟩:∃f,s.fields.l[i]?=J f:=⟨_,dA (by have:=mI c;omega)⟩;have v:=OR x.k x.n x.s;simp only[go_sem,c,q,cM.d,cM.cells,v];apply cV<;>intro g
         . simp only[g,go_sem,hd,p,lr.d];apply cV<;>intro g;.simp only[g,go_sem,w,j]
           .simp only[g,go_sem,bz];exact r fD
         .simp only[g,go_sem,bz];exact r (λk=>by rw[k]at g;cases g)
     .simp only[h,go_sem,bz];exact r fD
   . simp only[b,go_sem];try show cW _ (kg PP cf (ev PP cf) _)
     simp only[go_sem,bz];exact r fD
 . have z:aA (Int.negSucc n) 0=V:=rfl;simp only[go_sem,f168,aN.d,aN.cells,e0,cB];apply cV<;>intro h;rotate_left;.simp only[h,go_sem,bz,a]
   simp only[h,go_sem,z,bz];exact r fD
theorem V2(t:Sl b9)(e:aN)(a:lX t)(d:e.lR.l.length<1000000000):cW (Qe t e) (ev PP cf (.call 114 [cB t,e.d] .no .empty)):=by
 obtain⟨g,b⟩:=KN t a.a a.b;have f:=a.b;obtain⟨r,c,k3⟩:=aD9 t e ab d;obtain⟨n,rfl,k4⟩:=k3;refine fY func114 ?_;simp only[aN.d,aN.cells,cB]at c b;simp only[go_sem,f114,aN.d,aN.cells,cB,b];apply cV<;>intro h;.simp only[h,go_sem,c,bz];exact⟨n,rfl,k4⟩
 .simp only[h,go_sem,bz];exact⟨_,rfl,λk=>by rw[k]at h;cases h⟩
def isK(r:bh):Prop:=∃(v:cM)(b:Bool)(n:Int),r=.val (.tp [(v.d,.no),(.bool b,.no),iO n]) .empty
def ayX(t:Sl b9)(e:Sl Int)(i:Nat):Prop:=∀j k,j<i->e.l[j]?=J k->∃s,t.l[j]?=J s/\aA k (.ofNat s.fields.l.length)=V
theorem V3(t:Sl b9)(y:Sl Int)(e:aN)(B:lX t)(a:y.l.length<1000000000)(u:e.lR.l.length<1000000000):cW isK (ev PP cf (.call 115 [cB t,cE y,e.d] .no .empty)):=by
 obtain⟨r,f,k3⟩:=V2 t e B u;obtain⟨n,rfl,k4⟩:=k3;have z:∀n:Int,isK (.val (.tp [(.agg [iD 0,iD 0,.str []],.no),(.bool C,.no),iO n]) .empty):=λn=>⟨⟨0,0,[]⟩,C,n,rfl⟩;refine fY func115 ?_;simp only[aN.d,aN.cells,cB]at f;simp only[go_sem,f115,aN.d,aN.cells,cB,cE,f];apply cV<;>intro h;rotate_left;.simp only[h,go_sem,bz];grind
 have A:n=0:=by grind[iZ]
 obtain⟨m,s,b,p,o⟩:=k4 A;simp only[h,go_sem];apply cV<;>intro h;.simp only[h,go_sem,bz];exact⟨⟨0,0,[]⟩,V,0,rfl⟩
 simp only[h,go_sem];apply cV<;>intro h;rotate_left;.simp only[h,go_sem,bz];grind
 have L:y.l.length=t.l.length:=uU h;simp only[h,go_sem];refine Ml y.l (λi=>[(32,iS i)]) (ayX t y) ab rfl (λj k l=>absurd l (N3 _)) (λI=>?_) (λi x w F E I c=>?_)
 . have M:m<t.l.length:=(am.1 p).1;obtain⟨k,a⟩:∃k,y.l[m]?=J k:=⟨_,dA ab⟩;obtain⟨H,e1,e2⟩:=I m k ab a;rw[p]at e1;cases e1;rcases k with k|k
   . have d:aA (dk k) 0=C:=rfl;have K:k<e.lR.l.length:=by grind[gL]
     obtain⟨v,D⟩:∃v,e.lR.l[k]?=J v:=⟨_,dA K⟩;simp only[go_sem,b,a,d,yV,D,cM.d,cM.cells,bz];exact⟨v,V,0,rfl⟩
   .have d:aA (Int.negSucc k) 0=V:=rfl;simp only[go_sem,b,a,d,bz];simp_all
 . have q:i<t.l.length:=aT;obtain⟨H,G⟩:∃s,t.l[i]?=J s:=⟨_,dA q⟩;simp only[go_sem]at c;simp only[go_sem,w,F];apply cV<;>intro g;.simp only[g,go_sem,bz];simp_all
   . simp only[g,go_sem,G,b9.d,CQ];apply cV<;>intro g2
     . have c:=c λj k l a=>by
        by_cases e:j=i;.simp_all
        .exact I j k ab a
       simp only[g2,go_sem,E,c]
     .simp only[g2,go_sem,bz];simp_all
end Go.VM
