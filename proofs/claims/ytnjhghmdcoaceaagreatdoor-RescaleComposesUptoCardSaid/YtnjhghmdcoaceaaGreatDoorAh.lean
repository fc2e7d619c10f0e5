/- Proved: what functions of the program answer, within the sizes that each theorem names. -/
import Derived.Test.YtnjhghmdcoaceaaGreatDoorAg
open Option renaming some->J,none->Z
open Bool renaming true->V,false->C
open Go renaming TypeId->an,Oper->aB,Program->aH,Operand->aK,Code->bM,IntKind->fT
open Int renaming ofNat->du,add->jX
open List renaming replicate->mr
open Nat renaming beq->aw,ble->bz,blt->cw
open Option renaming bind->sM
open SizeOf renaming sizeOf->pM
noncomputable section
set_option maxRecDepth 100000
set_option maxHeartbeats 4000000
set_option linter.all false
namespace Go.VM
open Go Go.AM Proofs.Tryz
variable{α:Type}{w w':Bool}{a g g':GH}{a' b' c':Int}{L T e fn k m I s:Nat}{x:Pr}{Q:SV->GH->Prop}{P:aH}{p:ae}{t:an}{l:ao}{F:bh->ah bh}{lb:ew}{es:gk}{f:α->DV}
attribute[local congr]bB bC
def Mi(r:Pr)(a:bt)(k:Nat):bt:=a.take k++((bif r.done then[]else[r.rest])++a.drop (k+1))
def Qy(r:Pr)(a:bt)(k:Nat):Pr:=⟨r.cM,C,qF C 3 (Mi r a k)⟩
def p9(e:Edge)(n o d:Bool)(s p:Int):Edge:=⟨e.src,e.dst,e.var,e.ty,e.cond,bif o then⟨V,s::e.opens.l⟩else e.opens,bif d then⟨V,e.ma.l++[s]⟩else e.ma,e.jS,bif n then e.ki else⟨V,⟨s,p⟩::e.ki.l⟩,bif n then⟨V,s::e.inside.l⟩else e.inside⟩
def Nw(r:Pr)(o s a:Int)(p:ae):Pr:=let e:=p9 r.cM (ph o) (bif aj o 5 then V else aj o 6) r.done s a
 bif r.done then⟨e,V,.mk 0 V [] 0 0 0 0 zE⟩else⟨e,C,nP (bif ph o then 9 else 10) p r.rest⟩
theorem aBs{c:ao}{s:List (Nat×aN)}{o:Nat×aN}(h:bN P t=J C)(n:look (o::s) I=Z):fI P .copy t ⟨c,o::s⟩ I=(c[I]?).bind λd=>J (.dv d .no,⟨c,o::s⟩):=by
 unfold fI;rw[h];rcases b:c[I]? with _|d;.rfl
 have a:eB ⟨c,o::s⟩ I=.any\/eB ⟨c,o::s⟩ I=.no:=by grind[eB]
 rcases a with h|h<;>rw[h]<;>rfl
theorem onw{x:DV}:mM I (.ay (x::l) m 1) (.ex e)=[(I,.ex e)]:=rfl
theorem aFH{s:Int}{l:cG}:mM I (bK V ((l++[s]).map iD) 3 1) (.ex 3)=[(I,.ex 3)]:=by cases l<;>rfl
attribute[go_sem]aBs onw aFH
def oX{b:Bool}{n:Nat}{x:DV}:bK b (x::l) e n=.ay (x::l) e n:=rfl
theorem amK{a b:Bool}:gu PP .eql 4 (.bool a) (.bool b)=J (.bool (a==b)):=by rfl
attribute[go_sem]amK
structure akQ(r:Pr):Prop where
 e:xF r.cM
 p:r.rest.cn<100000000
def zP:ae:=.mk 0 V [] 0 0 0 0 zE
def Pd(t v:Int)(c:Expr):Pr:=⟨⟨0,0,v,t,c,⟨V,[]⟩,⟨V,[]⟩,⟨V,[]⟩,⟨V,[]⟩,⟨V,[]⟩⟩,V,zP⟩
def Es(e:Edge)(c:Expr):Edge:=⟨e.src,e.dst,e.var,e.ty,e.cond,e.opens,e.ma,⟨V,e.jS.l++[c]⟩,e.ki,e.inside⟩
def N4(r:Pr)(p:ae)(c:Expr):Pr:=bif r.done then⟨Es r.cM c,V,zP⟩else⟨r.cM,C,nP 7 p r.rest⟩
def UZ(l:bt):ae:=l.headD zP
def sD:ae->Pr->List Pr|.mk o n args t v s p c,x=>bif aj o 1 then[oc x C (args.drop 1)]else bif aj o 4 then DS (UZ args) x else bif aj o 8 then DS (UZ (args.drop 1)) x else bif aj o 7 then[N4 x (.mk o n args t v s p c) c]else[Nw x o s p (.mk o n args t v s p c)]
def ve(p a:ae)(x:Pr):List Pr:=bif x.done then[x,⟨x.cM,C,p⟩]else[⟨x.cM,C,.mk 8 V [x.rest,a] 0 0 0 0 zE⟩]
def Ca:ae->Pr->List Pr|.mk o n args t v s p c,x=>bif aj o 4 then ve (.mk o n args t v s p c) (UZ args) x else sD (.mk o n args t v s p c) x
def uW(a:Bool)(f:bt)(k:Nat)(x:Pr):Pr:=bif a then Qy x f k else x
mutual
def eN : ae -> List Pr
  | .mk o n args t v s p c => bif aj o 0 then [Pd t v c] else bif aj o 2 || aj o 3 then nv (aj o 3) args args 0 else (Cf args).flatMap (Ca (.mk o n args t v s p c))
def Cf : bt -> List Pr
  | [] => []
  | a :: _ => eN a
def nv (b : Bool) (f : bt) : bt -> Nat -> List Pr
  | [], _ => []
  | a :: l, k => (eN a).map (uW b f k) ++ nv b f l (k + 1)
end
structure iL(n w:Nat)(x:Pr):Prop where
 o:x.cM.opens.l.length<=n
 p:x.cM.ma.l.length<=n
 i:x.cM.inside.l.length<=n
 l:x.cM.ki.l.length<=n
 k:x.cM.jS.l.length<=n
 c:x.cM.cond.nn<=w
 e:∀e∈x.cM.jS.l,e.nn<=w
 r:x.rest.cn<=n*w
 m:x.rest.nn<=n*n
 b:∀q∈nodes x.rest,q.cond.nn<=w
 z:x.done=V->x.rest=zP
 s:x.cM.src=0
 d:x.cM.dst=0
theorem Expr.Je(e:Expr):1<=e.nn:=by cases e<;>simp[Expr.nn]
def a58:=@Expr.Je
theorem iL.mono{n c d:Nat}(h:iL n c x)(a:n<=m)(b:c<=d):iL m d x:=⟨gj h.o a,gj h.p a,gj h.i a,gj h.l a,gj h.k a,gj h.c b,λe f=>gj (h.e e f) b,gj h.r (qL a b),gj h.m (qL a a),λq g=>gj (h.b q g) b,h.z,h.s,h.d⟩
def Sp:zE.nn=1:=rfl
def ej:zP.cn=2:=rfl
theorem Ty:∀a b:bt,ae.gv (a++b)=ae.gv a+ae.gv b|[],b=>by simp[ae.gv]|x::a,b=>by simp only[lU,ae.gv,Ty a b];omega
theorem aoA{f:bt}{a:ae}(h:f[k]?=J a):ae.gv f=ae.gv (f.take k)+(a.cn+ae.gv (f.drop (k+1))):=by grind[Ei,Hl,ae.gv,Ty]
mutual
theorem OG : ∀ (p : ae), ∀ q ∈ nodes p, q.cond.nn <= p.cn
  | .mk o n args t v s a c, q, h => by
    rw [nodes] at h
    simp only [ae.cn]
    rcases CI.1 h with rfl | h
    · simp only [ae.cond]; omega
    · have := KC args q h; omega
theorem KC : ∀ (l : bt), ∀ q ∈ eU l, q.cond.nn <= ae.gv l
  | [], q, h => by rw [eU] at h; exact absurd h lV
  | p :: l, q, h => by
    rw [eU, CH] at h
    simp only [ae.gv]
    rcases h with h | h
    · have := OG p q h; omega
    · have := KC l q h; omega
end
theorem Wc:∀a b:bt,ae.bP (a++b)=ae.bP a+ae.bP b|[],b=>by simp[ae.bP]|x::a,b=>by simp only[lU,ae.bP,Wc a b];omega
theorem aC6{f:bt}{a:ae}(h:f[k]?=J a):ae.bP f=ae.bP (f.take k)+(a.nn+ae.bP (f.drop (k+1))):=by grind[Ei,Hl,ae.bP,Wc]
theorem Wg:∀a b:bt,eU (a++b)=eU a++eU b|[],b=>by simp[eU]|x::a,b=>by simp only[lU,eU,Wg a b,uu]
theorem pm(n:Bool)(k:Int):∀l:bt,(qF n k l).nn<=1+ae.bP l|[]=>by simp[qF,ae.nn,ae.bP]|[p]=>by simp only[qF,ae.bP];omega|p::q::l=>by simp only[qF,ae.nn];omega
theorem Z4(n:Bool)(k:Int)(l:bt)(w:Nat)(b:1<=w)(h:∀q∈eU l,q.cond.nn<=w):∀q∈nodes (qF n k l),q.cond.nn<=w:=by
 have e:∀q∈nodes (ae.mk k n l 0 0 0 0 zE),q.cond.nn<=w:=by
  intro q a;rw[nodes]at a;rcases CI.1 a with rfl|a;.exact b
  grind
 match l with|[]=>exact e|[p]=>intro q a;exact h q (by rw[eU];exact Kg _ a)|p::q::l=>exact e
theorem FO{n N:Nat}(h:n+1+T<=N):n*n+n+1+T<=N*N:=by have h:=qL h h;grind
theorem pu(n:Bool)(k:Int):∀l:bt,(qF n k l).cn<=2+ae.gv l|[]=>by simp[qF,ae.cn,Sp,ae.gv]|[p]=>by simp only[qF,ae.gv];omega|p::q::l=>by simp only[qF,ae.cn,Sp];omega
theorem FN{n c N C:Nat}(a:n+1<=N)(b:c+2+T<=C):n*c+c+2+T<=N*C:=by have h:=qL a b;grind
theorem AC(k:Int)(o n a t v s p c)(q:ae):(nP k (.mk o n a t v s p c) q).cn=1+c.nn+q.cn:=by simp[nP,ae.cn,ae.gv]
theorem Aw(k:Int)(o n a t v s p c)(q:ae):(nP k (.mk o n a t v s p c) q).nn=1+q.nn:=by grind[nP,ae.nn,ae.bP]
theorem A1(k:Int)(o n a t v s p c)(q:ae)(w:Nat)(b:c.nn<=w)(d:∀z∈nodes q,z.cond.nn<=w):∀z∈nodes (nP k (.mk o n a t v s p c) q),z.cond.nn<=w:=by
 intro z h;simp only[nP,nodes,eU,jY]at h;rcases CI.1 h with rfl|h;.exact b
 grind
theorem R8(k:Int)(l:bt)(w:Nat)(b:1<=w)(h:∀q∈eU l,q.cond.nn<=w):∀z∈nodes (ae.mk k V l 0 0 0 0 zE),z.cond.nn<=w:=by
 intro z a;rw[nodes]at a;rcases CI.1 a with rfl|a;.exact b
 grind
def ei:zP.nn=1:=rfl
def en(w:Nat)(a:1<=w):∀z∈nodes zP,z.cond.nn<=w:=R8 0 [] w a (λq h=>absurd h lV)
theorem ast(t v:Int)(o:Expr)(n c:Nat)(a:1<=n)(b:o.nn<=c)(d:2<=c):iL n c (Pd t v o):=⟨mw _,mw _,mw _,mw _,mw _,b,λ_ h=>absurd h lV,by show zP.cn<=_;rw[ej];have:=qL a d;omega,by show zP.nn<=_;rw[ei];have:=qL a a;omega,en _ ab,λ_=>rfl,rfl,rfl⟩
def iL.rest{n c d:Nat}(h:iL n c x)(a:n<=m)(b:c<=d){q:ae}(g:q.cn<=m*d)(f:q.nn<=m*m)(e:∀z∈nodes q,z.cond.nn<=d):iL m d ⟨x.cM,C,q⟩:=let h:=h.mono a b
 ⟨h.o,h.p,h.i,h.l,h.k,h.c,h.e,g,f,e,λh=>Bool.noConfusion h,h.s,h.d⟩
theorem aoG{n c d:Nat}(h:iL n c x)(e:Bool)(l:bt)(i:ae.gv l=T)(f:n+1+ae.bP l<=m)(g:c+2+T<=d):iL m d (oc x e l):=by
 have j:=FN (show n+1<=m by omega) g;have hN:=FO f;have hr:=h.r;have o:=h.m;have k:∀b∈eU l,b.cond.nn<=d:=λb a=>by have:=KC l b a;omega
 rcases l with _|⟨p,l⟩;.exact h.mono ab ab
 refine h.rest (q:=bif x.done then qF e 1 (p::l)else qF e 1 (x.rest::p::l)) ab ab ?_ ?_ ?_;.grind[pu,ae.gv]
 .grind[pm,ae.bP]
 . cases x.done
   . rw[ch];refine Z4 e 1 _ d ab λb a=>?_;rw[eU,CH]at a;rcases a with a|a;.have:=h.b b a;omega
     grind
   grind[Z4]
theorem azl{g i d:Nat}(h:iL g i x){f:bt}{a:ae}(j:f[k]?=J a)(p:i=a.cn)(t:g=a.nn)(l:ae.bP f+1<=m)(o:2+ae.gv f<=d):iL m d (Qy x f k):=by
 have u:=aoA j;have v:=aC6 j;have r:=FN (n:=g) (c:=i) (N:=m) (C:=d) (T:=ae.gv (f.take k)+ae.gv (f.drop (k+1))) ab ab;have hN:=FO (n:=g) (N:=m) (T:=ae.bP (f.take k)+ae.bP (f.drop (k+1))) ab;have hr:=h.r;have s:=h.m;have L:∀e∈eU (f.take k),e.cond.nn<=d:=λe b=>by have:=KC _ e b;omega
 have R:∀e∈eU (f.drop (k+1)),e.cond.nn<=d:=λe b=>by have:=KC _ e b;omega
 refine h.rest (q:=qF C 3 (Mi x f k)) ab ab ?_ ?_ ?_;.grind[pu,Mi,Ty,ae.gv]
 .grind[pm,Mi,Wc,ae.bP]
 . refine Z4 C 3 _ d ab λe b=>?_;unfold Mi at b;rw[Wg,Wg]at b;rcases CH.1 b with b|b;.grind
   . rcases CH.1 b with b|b
     . cases hd:x.done;.rw[hd,ch]at b;simp only[eU,jY]at b;have:=h.b e b;omega
       grind[eU]
     grind
theorem aNP{n c d:Nat}(h:iL n c x)(g l r t v s p o)(f:n+1<=m)(i:1+o.nn+c<=d):iL m d (N4 x (.mk g l r t v s p o) o):=by
 have k:=a58 o;have j:=FN (T:=o.nn-1) f (show c+2+(o.nn-1)<=d by omega);have hN:=FO (T:=0) f;have hr:=h.r;have q:=h.m;have z:=ej;have w:=ei;have a:=h.mono (show n<=m by omega) (show c<=d by omega);unfold N4;cases x.done;.refine h.rest ab ab ?_ ?_ (A1 _ _ _ _ _ _ _ _ _ _ _ ab a.b)<;>grind[AC,Aw]
 . refine⟨a.o,a.p,a.i,a.l,?_,a.c,?_,ai,ai,en _ ab,λ_=>rfl,a.s,a.d⟩;.have:=h.k;grind[Es]
   . intro e b;simp only[Es,aR,CH,CJ]at b;rcases b with b|rfl;.exact a.e e b
     omega
theorem aJV{n c d:Nat}(h:iL n c x)(w s p:Int)(A u a y v R r o)(l:n+1<=m)(K:1+o.nn+c<=d):iL m d (Nw x w s p (.mk A u a y v R r o)):=by
 have M:=a58 o;have L:=FN (T:=o.nn-1) l (show c+2+(o.nn-1)<=d by omega);have hN:=FO (T:=0) l;have hr:=h.r;have N:=h.m;have O:=ej;have B:=ei;have b:=h.mono (show n<=m by omega) (show c<=d by omega);have D:=h.o;have E:=h.p;have F:=h.i;have H:=h.l;have I:=h.k;have k:∀(g i j:Bool)(e:Bool)(q:ae),q.cn<=m*d->q.nn<=m*m->(∀z∈nodes q,z.cond.nn<=d)->(e=V->q=zP)->iL m d ⟨p9 x.cM g i j s p,e,q⟩:=by intro g i j e q t f P G;refine⟨?_,?_,?_,?_,?_,b.c,b.e,t,f,P,G,b.s,b.d⟩<;>grind[p9]
 unfold Nw;cases x.done;.refine k _ _ _ _ _ ?_ ?_ (A1 _ _ _ _ _ _ _ _ _ _ _ ab b.b) (λh=>Bool.noConfusion h)<;>grind[AC,Aw]
 .exact k _ _ _ _ _ (by show zP.cn<=_;omega) (by show zP.nn<=_;omega) (en _ ab) (λ_=>rfl)
theorem ajc{n c d:Nat}(h:iL n c x)(b:ae)(g:n+1<=m)(i:c+2<=d)(a:(b.cn<=c/\b.nn<=n)\/(c+2+b.cn<=d/\n+1+b.nn<=m)):∀y∈DS b x,iL m d y:=by
 have hr:=h.r;have o:=h.m;have f:=Sp;have l:n*c+b.cn+2<=m*d:=by
   rcases a with a|a;.have:=FN (T:=0) g i;omega
   .have:=FN g a.1;omega
 have hN:n*n+b.nn+1<=m*m:=by
   rcases a with a|a;.have:=FO (T:=0) g;omega
   .have:=FO a.2;omega
 have j:∀z∈nodes b,z.cond.nn<=d:=λz f=>by have:=OG b z f;omega
 have L:∀z∈nodes x.rest,z.cond.nn<=d:=λz f=>by have:=h.b z f;omega
 unfold DS;cases x.done;.intro y e;rw[ch,CJ]at e;rw[e];refine h.rest ab ab (by grind[ae.cn,ae.gv]) (by grind[ae.nn,ae.bP]) (R8 _ _ _ ab λq k=>?_);grind[eU]
 . intro y e;rw[aR,CI,CJ]at e;rcases e with rfl|rfl;.exact h.mono ab ab
   .refine h.rest ab ab (by grind[ae.cn,ae.gv]) (by grind[ae.nn,ae.bP]) (R8 _ _ _ ab λq k=>?_);grind[eU]
theorem aIB{n c d:Nat}(h:iL n c x)(p a:ae)(f:n+1<=m)(i:c+2<=d)(l:a.cn<=c)(B:a.nn<=n)(o:p.cn<=d)(j:p.nn<=m):∀y∈ve p a x,iL m d y:=by
 have hr:=h.r;have k:=h.m;have g:=Sp;have r:=FN (T:=0) f i;have hN:=FO (T:=0) f;have s:d<=m*d:=by have:=qL (show 1<=m by omega) (bT d);omega
 have L:m<=m*m:=by have:=qL (show 1<=m by omega) (bT m);omega
 unfold ve;cases x.done
 . intro y e;rw[ch,CJ]at e;rw[e];refine h.rest ab ab (by grind[ae.cn,ae.gv]) (by grind[ae.nn,ae.bP]) (R8 _ _ _ ab λq b=>?_);simp only[eU,jY,CH]at b;rcases b with b|b;.have:=h.b q b;omega
   .have:=OG a q b;omega
 . intro y e;rw[aR,CI,CJ]at e;rcases e with rfl|rfl;.exact h.mono ab ab
   .exact h.rest ab ab ab ab (λz g=>by have:=OG p z g;omega)
theorem aFE{o n a l t v s p c}(h:iL a.nn a.cn x)(i:aj o 8=V->l≠[]):∀y∈sD (.mk o n (a::l) t v s p c) x,iL (ae.nn (.mk o n (a::l) t v s p c)) (ae.cn (.mk o n (a::l) t v s p c)) y:=by
 have j:=a58 c;have e1:ae.nn (.mk o n (a::l) t v s p c)=a.nn+ae.bP l+1:=by simp[ae.nn,ae.bP]
 have e2:ae.cn (.mk o n (a::l) t v s p c)=1+c.nn+(a.cn+ae.gv l):=by simp[ae.cn,ae.gv]
 rw[e1,e2];intro y d;rw[sD]at d;cases f:aj o 1 with|true=>rw[f,aR,CJ]at d;rw[d];exact aoG h C _ rfl ai ai|false=>rw[f,ch]at d;cases g:aj o 4 with|true=>rw[g,aR]at d;exact ajc h _ ab ab (.inl ⟨bT _,bT _⟩) y d|false=>rw[g,ch]at d;cases e:aj o 8 with
 |true=>
 rw[e,aR]at d;refine ajc h _ ab ab (.inr ?_) y d;rcases l with _|⟨b,l⟩;.grind
 refine⟨?_,?_⟩;.show _+b.cn<=_;grind[ae.gv]
 .show _+b.nn<=_;grind[ae.bP]|false=>grind[aNP,aJV]
theorem aFB{o n a l t v s p c}(h:iL a.nn a.cn x)(e:aj o 8=V->l≠[]):∀y∈Ca (.mk o n (a::l) t v s p c) x,iL (ae.nn (.mk o n (a::l) t v s p c)) (ae.cn (.mk o n (a::l) t v s p c)) y:=by intro y b;rw[Ca]at b;cases d:aj o 4 with|true=>have f:=a58 c;rw[d,aR]at b;exact aIB h _ _ (by simp[ae.nn,ae.bP]) (by grind[ae.cn,ae.gv]) (bT _) (bT _) (bT _) (bT _) y b|false=>grind[aFE]
def mW(l:List Pr):Nat:=(l.filter Pr.done).length
theorem PU(a b:List Pr):mW (a++b)=mW a+mW b:=by simp[mW]
theorem aFC(p:ae)(x:Pr):(sD p x).length<=1+(bif x.done then 1 else 0)/\mW (sD p x)<=(bif x.done then 1 else 0):=by
 obtain⟨op,nl,args,ty,var,scope,s,cond⟩:=p;rw[sD];have k:∀y:Pr,(y.done=V->x.done=V)->[y].length<=1+(bif x.done then 1 else 0)/\mW [y]<=(bif x.done then 1 else 0):=by grind[mW]
 have r:∀b,(DS b x).length<=1+(bif x.done then 1 else 0)/\mW (DS b x)<=(bif x.done then 1 else 0):=by grind[DS,mW]
 cases aj op 1;.grind[Nw,N4]
 .exact k _ (by unfold oc;grind)
theorem aFz(p:ae)(x:Pr):(Ca p x).length<=1+(bif x.done then 1 else 0)/\mW (Ca p x)<=(bif x.done then 1 else 0):=by obtain⟨op,nl,args,ty,var,scope,s,cond⟩:=p;grind[Ca,aFC,ve,mW]
theorem aey{f:Pr->List Pr}(h:∀x,(f x).length<=1+(bif x.done then 1 else 0)/\mW (f x)<=(bif x.done then 1 else 0)):∀l:List Pr,(l.flatMap f).length<=l.length+mW l/\mW (l.flatMap f)<=mW l
 |[]=>⟨bT _,bT _⟩|x::l=>by
  obtain⟨a,b⟩:=aey h l;obtain⟨c,d⟩:=h x;have e:mW (x::l)=(bif x.done then 1 else 0)+mW l:=by unfold mW;cases hd:x.done<;>simp[hd];omega
  rw[Hh,gR,PU,e,dD];omega
theorem azj(a:Bool)(f:bt)(k:Nat)(l:List Pr):mW (l.map (uW a f k))<=mW l:=by unfold mW;induction l with|nil=>grind|cons x l i=>
 rw[gb,Ek,Ek];have:(uW a f k x).done=V->x.done=V:=by
  cases a;.exact id
  .exactλh=>Bool.noConfusion h
 grind
theorem hM{a b:Nat}:a*a+b*b<=(a+b)*(a+b):=ai
mutual
theorem Rj : ∀ p : ae, (eN p).length <= p.nn * p.nn /\ mW (eN p) <= p.nn
  | .mk o n args t v s a c => by
    rw [eN, ae.nn]
    have q : ae.bP args * ae.bP args + 2 * ae.bP args + 1 = (ae.bP args + 1) * (ae.bP args + 1) := by
      rw [xK, Nat.mul_add]; omega
    cases aj o 0
    · rw [ch]
      cases aj o 2 || aj o 3
      · rw [ch]
        obtain ⟨h, b⟩ := aHs args
        obtain ⟨d, e⟩ := aey (aFz (.mk o n args t v s a c)) (Cf args)
        omega
      · rw [aR]
        obtain ⟨h, b⟩ := wt (aj o 3) args args 0
        omega
    · rw [aR]
      show 1 <= _ /\ 1 <= _
      omega
theorem aHs : ∀ l : bt, (Cf l).length <= ae.bP l * ae.bP l /\ mW (Cf l) <= ae.bP l
  | [] => ⟨bT _, bT _⟩
  | a :: l => by
    obtain ⟨h, c⟩ := Rj a
    have := hM (a := a.nn) (b := ae.bP l)
    rw [Cf, ae.bP]
    omega
theorem wt (c : Bool) (f : bt) : ∀ (l : bt) (k : Nat), (nv c f l k).length <= ae.bP l * ae.bP l /\ mW (nv c f l k) <= ae.bP l
  | [], _ => ⟨bT _, bT _⟩
  | a :: l, k => by
    obtain ⟨h, d⟩ := Rj a
    obtain ⟨e, g⟩ := wt c f l (k + 1)
    have := hM (a := a.nn) (b := ae.bP l)
    have := azj c f k (eN a)
    rw [nv, ae.bP, gR, PU, fO]
    omega
end
def zD(p:ae):Prop:=∀q∈nodes p,uA q.op q.args.length=V
theorem zD.I6{o n r t v s p c a}(h:zD (.mk o n r t v s p c))(b:a∈r):zD a:=λq d=>h q (by grind[nodes,ae.MJ])
theorem zD.ar{o n a t v s p c}(h:zD (.mk o n a t v s p c)):uA o a.length=V:=h (.mk o n a t v s p c) (by simp[nodes])
theorem oj{a b:Int}(h:aj a b=V):a=b:=by grind[jl]
theorem ku{o:Int}{n:Nat}(h:aj o 8=V)(a:uA o n=V):n=2:=by have:=oj h;subst this;have a:aj (.ofNat n) 2=V:=a;grind[oj]
theorem ami{o:Int}{a:ae}{l:bt}(h:uA o (a::l).length=V):aj o 8=V->l≠[]:=by grind[ku]
theorem azk{l:Bool}{d:Nat}{f:bt}{a:ae}(h:iL a.nn a.cn x)(b:f[k]?=J a)(c:ae.bP f+1<=m)(e:2+ae.gv f<=d):iL m d (uW l f k x):=by
 cases l;.have:=ae.Tz f a (dw b);have:=ae.sC f a (dw b);exact h.mono ab ab
 .exact azl h b rfl rfl c e
theorem wq(b:Bool)(f:bt)(m d:Nat)(g:ae.bP f+1<=m)(c:2+ae.gv f<=d):∀(l:bt)(k:Nat),f.drop k=l->(∀a∈l,∀y∈eN a,iL a.nn a.cn y)->∀y∈nv b f l k,iL m d y
 |[],_,_,_,y,h=>by rw[nv]at h;exact absurd h lV|a::l,k,hd,hr,y,h=>by
  have e:f[k]?=J a:=by rw[<-Hk,hd];rfl
  rw[nv,CH]at h;rcases h with h|h;.obtain⟨x,j,rfl⟩:=au.1 h;have:=ae.sC f a (dw e);exact azk (hr a fU x j) e ab c
  .exact wq b f m d g c l (k+1) (by rw[<-El,hd];rfl) (λa i=>hr a (jy _ i)) y h
theorem Jq:∀p:ae,zD p->∀y∈eN p,iL p.nn p.cn y|.mk o k args t v s n c,f,y,h=>by have j:=a58 c;have i:∀a∈args,∀y∈eN a,iL a.nn a.cn y:=λa e=>Jq a (f.I6 e);rw[eN]at h;cases b:aj o 0 with|true=>rw[b,aR,CJ]at h;rw[h];exact ast _ _ _ _ _ (by simp only[ae.nn];omega) (by simp only[ae.cn];omega) (by simp only[ae.cn];omega)|false=>rw[b,ch]at h;cases d:aj o 2||aj o 3 with|true=>rw[d,aR]at h;exact wq _ args _ _ (by simp only[ae.nn];omega) (by simp only[ae.cn];omega) args 0 rfl i y h|false=>rw[d,ch]at h;cases args with|nil=>rw[Cf]at h;exact absurd h lV|cons a l=>rw[Cf]at h;obtain⟨x,g,h⟩:=List.mem_flatMap.1 h;exact aFB (i a fU x g) (ami f.ar) y h termination_by p=>pM p decreasing_by simp_wf;have:=pI e;omega
theorem iL.ok{n w:Nat}(h:iL n w x)(b:n<=99)(c:w<=99999):akQ x:=⟨⟨by have:=h.c;omega,by have:=h.k;omega,λe a=>by have:=h.e e a;omega,by have:=h.o;omega,by have:=h.p;omega,by have:=h.i;omega,by have:=h.l;omega⟩,by have:=h.r;have:=qL b c;omega⟩
theorem aFD(p:ae)(x:Pr):sD p x≠[]:=by obtain⟨op,nl,args,ty,var,scope,s,cond⟩:=p;grind[sD,DS]
theorem SR{o:Int}(a:aj o 0=C)(h:uA o 0=V):False:=by unfold uA at h;rw[a,ch]at h;cases b:aj o 1<;>cases c:aj o 2<;>cases d:aj o 3<;>cases e:aj o 8<;>rw[b,c,d]at h<;>try rw[e]at h<;>exact absurd h ft
theorem iL.pat{n w:Nat}(h:iL n w x)(a:n<=99)(c:w<=99999):lX x.rest:=⟨by have:=h.m;have:=qL a a;omega,λq b=>by have:=h.b q b;omega⟩
section
variable{X φ σ:Type}{tr:X->List φ}{step:φ->σ->ah bM×σ}
def ud(r:X->List φ)(t:φ->σ->ah bM×σ)(x:X)(s:ah bM×σ):ah bM×(ah bM×σ):=((cR t (r x) s.2).1.map λ_=>.ret,cR t (r x) s.2)
theorem C':∀(a:List X)(s:σ),cR (ud tr step) a (Z,s)=((cR step (a.flatMap tr) s).1.map λ_=>Code.ret,cR step (a.flatMap tr) s)|[],_=>rfl|x::a,s=>by rw[vA,Hh,yh];simp only[ud];rcases h:cR step (tr x) s with⟨c,b⟩;cases c with|none=>exact C' a b|some c=>rfl
theorem Ol{d:List X}{s:σ}{x:X}{a:ah bM×σ}(h:tD (ud tr step) d (Z,s) x a):a.1=Z/\∀pre y post b,tr x=pre++y::post->cR step pre a.2=(Z,b)->tD step (d.flatMap tr) s y b:=by obtain⟨pre,post,rfl,e⟩:=h;rw[C']at e;rcases f:cR _ _ s with⟨c,k⟩;rw[f]at e;cases c with|some c=>grind|none=>have e2:=(gT (λz=>z.2) e).symm;subst e2;refine⟨rfl,λp y g b i j=>⟨pre.flatMap tr++p,g++post.flatMap tr,?_,?_⟩⟩<;>grind[yh]
theorem Hi.lo{b c:GH}(h:Hi k a b)(l:Lo m b c)(f:a.next<=m):Hi k a c:=⟨gj h.1 l.1,λi d e=>(l.2 i ab).trans (h.2 i d e)⟩
end
def Pr.rd(x:Pr):DV:=.agg (.bool x.done::x.rest.cells)
abbrev qR:Pr->ao:=λx=>[x.cM.d,x.rd]
def Hu(p:ae):Prop:=∀g,∃h a c g',ev PP cf (.call 219 [.agg p.cells] .no g)=J (.val (.dv (.func h [] a) .no) g')/\Lo g.next g g'/\c g'/\(∀g1 g2,c g1->g1.next<=g2.next->(∀i,g.next<=i->i<g'.next->g2.get i=g1.get i)->c g2)/\wz qR h [] a c (eN p)/\∀m,cf.iW h ([]++[.eu m]++a)=Z
theorem By{X a:Type}{t:X->a->ah bM×a}(x:X)(s:a):cR t [x] s=t x s:=by rw[vA];rcases t x s with⟨c,b⟩;cases c<;>rfl
theorem aze(b:Nat)(i l a t v o p c):wz qR 267 [] [.ptr b 0] (UF . b (.mk i l a t v o p c)) [Pd t v c]:=by intro n k j r step s U f g hr e;have h:g.get b=J _:=f _ _ _ hr;obtain⟨g2,e2,r2,d⟩:=U.run _ s g ⟨[],[],rfl,rfl⟩ hr e;rw[By];refine⟨g2,?_,r2,d⟩;simp only[qR,Pd,Pr.rd,Edge.d,Edge.cells,ae.cells,Expr.cells,zP,ae.bn,Expr.bn,eM,zN,go_sem]at e2 h;refine aO func267 ?_;simp only[f267,go_sem,h,e2]
theorem aua{n:Nat}:(DV.eu n).flat=[.eu n]:=rfl
attribute[go_sem]aua
def kU(g:GH)(b:Nat)(p:ae):Prop:=g.get b=J (.box ⟨p.cells,[]⟩)/\b<g.next
def kU.lo{b:Nat}(h:kU g b p)(l:Lo k g g')(a:b<k):kU g' b p:=⟨(l.2 b a).trans h.1,gE h.2 l.1⟩
structure zm{σ:Type}(k:Nat)(g0:GH)(iy ny:Nat)(cap:GH->Prop)(rel:ah bM->σ->GH->Prop)(cd:ah bM)(s:ah bM×σ)(g:GH):Prop where
 r:rel s.1 s.2 g
 c:cap g
 h:Hi k g0 g
 y:g.get iy=J (.box ⟨[.eu ny],[]⟩)e:cd=s.1.map λ_=>Code.ret
 n:iy<g.next
def zm.lo{a:Type}{b:GH}{y n:Nat}{c:GH->Prop}{r:ah bM->a->GH->Prop}{d:ah bM}{s:ah bM×a}{e:Pr->ao}{p:Pr->a->Prop}{t:Pr->a->ah bM×a}(U:CM e p n k r t)(h:zm k b y n c r d s g)(l:Lo m g g')(j:k<=m)(i:b.next<=m)(o:y<m)(f:∀g1 g2,c g1->Lo m g1 g2->c g2):zm k b y n c r d s g':=⟨U.stay _ _ _ _ h.r (l.mono j),f _ _ h.c l,h.h.lo l i,(l.2 y o).trans h.y,h.e,gE h.n l.1⟩
structure nz(L:Nat)(a b:GH):Prop where
 n:a.next<=b.next
 g:∀i,i≠L->i<a.next->b.get i=a.get i
theorem nz.refl:nz L a a:=⟨bT _,λ_ _ _=>rfl⟩
theorem nz.set{b:GH}{o:GO}(h:nz L a b):nz L a (b.set L o):=⟨h.n,λi c d=>by rw[lI,if_neg c];exact h.g i c d⟩
theorem nz.sg{j:Nat}{b:GH}{o:GO}(h:nz L a b)(e:a.next<=j):nz L a (b.set j o):=⟨h.n,λi c d=>by rw[lI,if_neg ab];exact h.g i c d⟩
theorem nz.alloc{b:GH}{o:GO}(h:nz L a b):nz L a (b.alloc o):=⟨gj h.n (by simp[dS]),λi c d=>by have:=h.n;rw[kr,if_neg ab];exact h.g i c d⟩
theorem lA{b:GH}(h:nz L a b:=by repeat(first|exact nz.refl|refine nz.alloc ?_|refine nz.set ?_|refine nz.sg ?_ (by first|exact bT _|omega|(simp only[dS,gU];omega)))):nz L a b:=h
theorem nz.lo{b:GH}(h:nz L a b)(e:k<=L)(c:L<a.next):Lo k a b:=⟨h.n,λi d=>h.g i ab ab⟩
section
variable{σ:Type}{k n L:Nat}{ok:Pr->σ->Prop}{rel:ah bM->σ->GH->Prop}{step:Pr->σ->ah bM×σ}{cap:GH->Prop}{g0 g1 gA g2:GH}{iy:Nat}{s:σ}
theorem Sn(U:CM qR ok n k rel step)(y:Pr)(s:σ)(b:ok y s)(f:rel Z s g1)(d:k<=L)(c:L<g1.next)(a:nz L g1 gA)(h:∀g2,rel (step y s).1 (step y s).2 g2->Hi k gA g2->Sat (F (.val (.dv (.bool (step y s).1.isNone) .no) g2)) Q):Sat ((ev PP cf (.eu n (qR y) gA)).bind F) Q:=by obtain⟨g2,e,r,g⟩:=U.run y s gA b (U.stay _ _ _ _ f (a.lo d c)) (by have:=a.n;omega);grind
theorem y9(U:CM qR ok n k rel step)(y:Pr)(s:σ){a:ao}(d:qR y=a)(e:ok y s)(r:rel Z s g1)(f:k<=L)(c:L<g1.next)(b:nz L g1 gA)(h:∀g2,rel (step y s).1 (step y s).2 g2->Hi k gA g2->Sat (F (.val (.dv (.bool (step y s).1.isNone) .no) g2)) Q):Sat ((ev PP cf (.eu n a gA)).bind F) Q:=by subst d;exact Sn U y s e r f c b h
theorem zm.next(U:CM qR ok n k rel step)(R:zm k g0 iy n cap rel Z (Z,s) g1)(d:nz L g1 gA)(b:Hi k gA g2)(l:k<=iy)(y:iy<L)(p:g0.next<=L)(m:L<g1.next)(g:∀g1 g2,cap g1->g1.next<=g2.next->(∀i,iy<i->i<L->g2.get i=g1.get i)->cap g2){c:ah bM}{f:σ}{o:GO}(r:rel c f g2):zm k g0 iy n cap rel (c.map λ_=>Code.ret) (c,f) (g2.set L o)/\Hi (L+1) g1 (g2.set L o):=by
 have q:=d.n;have A:=b.1;have e:∀i,k<=i->i≠L->i<g1.next->(g2.set L o).get i=g1.get i:=λi a h j=>by rw[lI,if_neg h,b.2 i a ab,d.g i h j]
 refine⟨⟨U.stay _ _ _ _ r (a48 ab),g _ _ R.c (by grind[gU]) ai,⟨by grind[gU],λi a h=>?_⟩,?_,rfl,by grind[gU]⟩,⟨by grind[gU],λi a h=>e i ab ab h⟩⟩;.rw[e i a ab ab];exact R.h.2 i a h
 .rw[e iy l ab ab];exact R.y
end
theorem F2(a q c:ae)(l:bt)(O B:Nat)(hT:Hu a)(hq:q.args=c::l):wz qR 325 [] [.ptr O 0,.ptr B 0] (λg=>kU g O a/\kU g B q) ((eN a).flatMap (ve q c)):=by
 intro n k σ D step s U kg g hr Q;obtain⟨⟨kV,nN⟩,⟨jb,oA⟩⟩:=kg _ _ _ hr;obtain⟨h,ca,cap,g1,e1,l1,c1,H,it,hp⟩:=hT (g.alloc (.box ⟨[.eu n],[]⟩));suffices hS:Sat (ev PP cf (.call 325 ([]++[.eu n]++[.ptr O 0,.ptr B 0]) .no g)) λv g'=>v=.tp []/\D (cR step ((eN a).flatMap (ve q c)) s).1 (cR step ((eN a).flatMap (ve q c)) s).2 g'/\Hi k g g' by obtain⟨v,g',e,rfl,r,h⟩:=hS;simp_all
 refine nw func325 ?_;have kZ:(O=g.next)=False:=cK ab;have LL:(B=g.next)=False:=cK ab;have wT:Lo g.next g g1:=(a13 (bT _)).trans (l1.mono (by simp[dS]));have di:g.next<g1.next:=by have:=l1.1;grind[dS]
 have hy:g1.get g.next=J (.box ⟨[.eu n],[]⟩):=(l1.2 _ (by simp[dS])).trans (by simp[kr]);rw[dS]at H;simp only[f325];simp only[go_sem,kV,kZ,e1];refine AD it (ud (ve q c) step) (zm k g g.next n cap D) (Z,s) hp rfl ⟨U.stay _ _ _ _ hr (wT.mono Q),c1,⟨ab,λi h1 P=>wT.2 i P⟩,hy,rfl,di⟩ (λc s g' h=>h.c) (λc s g2 g3 h hl=>h.lo U hl ab ab di (λg4 g5 m u=>H g4 g5 m u.1 λi _ hi=>u.2 i hi)) (λx s g2 hx R hN M=>?_) (λg2 R hN=>?_);.obtain⟨jF,S⟩:=Ol hx;obtain⟨s0,s⟩:=s;simp only at jF S;subst jF;refine AH M rfl ?_;have T:=R.y;obtain⟨zG,Bo⟩:=kg _ _ _ R.r;have X:(g1.next=g2.next)=False:=cK ab;have Y:(g1.next=g2.next+1)=False:=cK ab;have z3:(g2.next=g1.next)=False:=cK ab;have z4:(g2.next+1=g1.next)=False:=cK ab;have z5:(g.next=g2.next)=False:=cK ab;have z6:(g.next=g2.next+1)=False:=cK ab;have z7:(g.next=g1.next)=False:=cK ab;have z8:(B=g2.next)=False:=cK ab;have z9:(B=g2.next+1)=False:=cK ab;have tx:(B=g1.next)=False:=cK ab;have mn:(g2.next+1=g2.next)=False:=cK ab;have E:(g2.next=g2.next+1)=False:=cK ab;have d1:=aLs;simp only[bp,opsOf,f325,go_sem]at d1;obtain⟨y,w,args,A,j,p,f,d⟩:=q;obtain rfl:args=c::l:=hq;have G:=Bo.1;simp only[ae.cells]at G;obtain⟨cM,done,rest⟩:=x;simp only[qR,Pr.rd,Edge.d];cases done with
 |false=>
  simp only[go_sem,M,T,X,Y,z3,z4,z5,z6,z7,z8,z9,tx,mn,E,G,d1];simp only[ux];have ey:=S [] ⟨cM,C,.mk 8 V [rest,c] 0 0 0 0 zE⟩ [] s rfl rfl;refine Sn U ⟨cM,C,.mk 8 V [rest,c] 0 0 0 0 zE⟩ s ey R.r (show k<=g1.next by omega) hN lA (λg3 N t=>?_);have F:=t.2 g1.next ab (by grind[dS,gU]);have W:=t.2 g.next ab (by grind[dS,gU]);simp only[go_sem,M,T,X,Y,z5,z6,z7]at F W;have fin:=λo=>R.next U lA t Q ab ab hN (λa b m u I=>H a b m u λi h7 K=>I i ab K) (o:=o) N;have ns:ud (ve (.mk y w (c::l) A j p f d) c) step ⟨cM,C,rest⟩ (Z,s)=((step ⟨cM,C,.mk 8 V [rest,c] 0 0 0 0 zE⟩ s).1.map λ_=>Code.ret,step ⟨cM,C,.mk 8 V [rest,c] 0 0 0 0 zE⟩ s):=by show((cR step [_] s).1.map _,cR step [_] s)=_;rw[By]
  rw[ns];generalize step ⟨cM,C,.mk 8 V [rest,c] 0 0 0 0 zE⟩ s=z at*;obtain⟨c3,s3⟩:=z;rcases c3 with _|c3<;>simp only[rJ,rK,sN,gM]at fin|-<;>simp only[go_sem,F]<;>exact⟨trivial,(fin _).1,(fin _).2,rfl⟩|true=>
  have ns:ud (ve (.mk y w (c::l) A j p f d) c) step ⟨cM,V,rest⟩ (Z,s)=((match(step ⟨cM,V,rest⟩ s).1 with|none=>(step ⟨cM,C,.mk y w (c::l) A j p f d⟩ (step ⟨cM,V,rest⟩ s).2).1|some c=>J c).map λ_=>Code.ret,match(step ⟨cM,V,rest⟩ s).1 with|none=>step ⟨cM,C,.mk y w (c::l) A j p f d⟩ (step ⟨cM,V,rest⟩ s).2|some c=>(J c,(step ⟨cM,V,rest⟩ s).2)):=by show((cR step [_,_] s).1.map _,cR step [_,_] s)=_;grind[vA,By]
  rw[ns];simp only[go_sem,M,T,X,Y,z3,z4,z5,z6,z7,mn,E];simp only[ux];have ey:=S [] ⟨cM,V,rest⟩ [⟨cM,C,.mk y w (c::l) A j p f d⟩] s rfl rfl;have L:=S [⟨cM,V,rest⟩] ⟨cM,C,.mk y w (c::l) A j p f d⟩ [] (step ⟨cM,V,rest⟩ s).2 rfl;rw[By]at L;refine Sn U ⟨cM,V,rest⟩ s ey R.r (show k<=g1.next by omega) hN lA (λg3 N t=>?_);have PV:=t.1;simp only[dS,gU]at PV;have F:=t.2 g1.next ab (by grind[dS,gU]);have W:=t.2 g.next ab (by grind[dS,gU]);have q3:=t.2 g2.next ab (by simp only[dS,gU];omega);simp only[go_sem,M,T,X,Y,z3,z5,z6,z7,E]at F W q3;have fin:=λo=>R.next U lA t Q ab ab hN (λa b m u I=>H a b m u λi h7 K=>I i ab K) (o:=o) N;have uK:=λ(g4:GH)(m:Hi k g3 g4)c s o(r:D c s g4)=>R.next U lA (t.trans m) Q ab ab hN (λa b m u I=>H a b m u λi h7 K=>I i ab K) (o:=o) r;generalize step ⟨cM,V,rest⟩ s=z at*;obtain⟨c3,s3⟩:=z;cases c3 with|some c3=>simp only[sN,gM]at fin|-;simp only[go_sem,F];exact⟨trivial,(fin _).1,(fin _).2,rfl⟩|none=>simp only[rJ]at fin L|-;have OF:=(kg _ _ _ N).2.1;simp only[ae.cells,ae.bn,oX]at OF;have L:=L trivial;simp only[go_sem,W,q3,OF];simp only[ux];refine Sn U ⟨cM,C,.mk y w (c::l) A j p f d⟩ s3 L N (show k<=g1.next by omega) ab nz.refl (λg4 r4 m=>?_);have q4:=(m.2 g1.next ab ab).trans F;have uK:=λo=>uK g4 m _ _ o r4;generalize step ⟨cM,C,.mk y w (c::l) A j p f d⟩ s3=z at*;obtain⟨c4,s4⟩:=z;cases c4 with|none=>simp only[rJ,rK]at uK|-;simp only[go_sem,q4];exact⟨trivial,(uK _).1,(uK _).2,rfl⟩|some c4=>simp only[sN,gM]at uK|-;simp only[go_sem,q4];exact⟨trivial,(uK _).1,(uK _).2,rfl⟩
 .rw[C']at R|-;obtain⟨r,_,P,_⟩:=R;revert r;cases(cR step ((eN a).flatMap (ve q c)) s).1 with|none=>intro r;simp only[rK,go_sem];exact⟨trivial,r,P⟩|some c=>intro r;simp only[gM,go_sem];exact⟨trivial,r,P⟩
section
variable{P:aH}{cf:bV}{rec:dW}{gs cr:aE}{ops l:List aB}{os:Hd (List aB)}{e:Kx}{O:St}{k:eH->ah bh}{i j:Nat}
def r2(P:aH)(c:bV)(r:dW)(g a:aE)(s:Hd (List aB))(e:Kx):List Unit->List aB->(eH->ah bh)->St->ah bh|[],o::l,k,O=>bif Kx.fr e (jI c O o.op)then ry P c r g a s (.mk (o::l) (.mk (o::l))) k O else Z|_::b,o::l,k,O=>(dK P c r g a l O o).bind (r2 P c r g a s e b l k)|_,[],_,_=>Z
def r1(P:aH)(c:bV)(r:dW)(g d:aE)(s:Hd (List aB))(b:List Unit):List Unit->List aB->(eH->ah bh)->St->ah bh|[],o::l,k,O=>(dK P c r g d l O o).bind (r2 P c r g d s (jI c O o.op) b l k)|_::a,o::l,k,O=>(dK P c r g d l O o).bind (r1 P c r g d s b a l k)|_,[],_,_=>Z
def Rt(P:aH)(c:bV)(r:dW)(g a:aE)(o:Hd (List aB))(e:Kx)(b:List Unit)(l:Hd (List aB))(k:eH->ah bh)(s:St):ah bh:=r2 P c r g a o e b l.get k s
def Js(P:aH)(c:bV)(r:dW)(g d:aE)(o:Hd (List aB))(b a:List Unit)(l:Hd (List aB))(k:eH->ah bh)(s:St):ah bh:=r1 P c r g d o b a l.get k s
variable{d:ah Tmp}{op:Op}{ty:an}{pos:String}{af:Array Go.Edge}{a b:List Unit}
theorem aHT{t:Tg (⟨d,op,ty,pos,af,Z⟩::l)}:Js P cf rec gs cr os b (()::a) (.mk (⟨d,op,ty,pos,af,Z⟩::l) t) k O=(dK P cf rec gs cr l O ⟨d,op,ty,pos,af,Z⟩).bind (Js P cf rec gs cr os b a (.mk l (.mk l)) k):=(rfl)
theorem aHU{t:Tg (⟨d,op,ty,pos,af,Z⟩::l)}:Js P cf rec gs cr os b [] (.mk (⟨d,op,ty,pos,af,Z⟩::l) t) k O=(dK P cf rec gs cr l O ⟨d,op,ty,pos,af,Z⟩).bind (Rt P cf rec gs cr os (jI cf O op) b (.mk l (.mk l)) k):=(rfl)
theorem aHV{t:Tg (⟨d,op,ty,pos,af,Z⟩::l)}:Rt P cf rec gs cr os e (()::b) (.mk (⟨d,op,ty,pos,af,Z⟩::l) t) k O=(dK P cf rec gs cr l O ⟨d,op,ty,pos,af,Z⟩).bind (Rt P cf rec gs cr os e b (.mk l (.mk l)) k):=(rfl)
theorem aHW{t:Tg (⟨d,op,ty,pos,af,Z⟩::l)}:Rt P cf rec gs cr os e [] (.mk (⟨d,op,ty,pos,af,Z⟩::l) t) k O=bif Kx.fr e (jI cf O op)then ry P cf rec gs cr os (.mk (⟨d,op,ty,pos,af,Z⟩::l) (.mk _)) k O else Z:=(rfl)
theorem ayB{n x:Nat}(h:j<n):vO [(i,j)] x n=C:=by show((aw i x&&aw j n)||false)=C;grind[kT]
theorem auJ{n:Nat}(h:i<n):EP [(i,j)] n=C:=by show(aw i n||false)=C;grind[kT]
theorem ajv:∀(l:List aB)(n:Nat)(g:List (Nat×Kx))(O:St),j<n->i<n->uk P cf rec gs cr ops [(i,j)] l n g k O=ry P cf rec gs cr (.mk ops (.mk ops)) (.mk l (.mk l)) k O|[],_,_,_,_,_=>rfl|o::l,n,g,O,a,b=>by have h:=λg O=>ajv l (n+1) g O ab ab;unfold uk;show _=((y8 ⟨ops⟩ O o).bind _).bind _;cases y8 ⟨ops⟩ O o with|none=>rfl|some w=>simp only[cU];cases w with
 |true=>
 have:(g.all λe=>!(vO [(i,j)] e.1 n)||Kx.fr e.2 (jI cf O o.op))=V:=by rw[A0];intro e _;rw[ayB a];rfl
 rw[this];show(dK P cf rec gs cr l O o).bind _=(((dK P cf rec gs cr l O o).bind λs=>km P cf rec gs cr C ⟨ops⟩ l 1 [] s).bind _);cases dK P cf rec gs cr l O o with|none=>rfl|some s=>show uk P cf rec gs cr ops [(i,j)] l (n+1) _ k s=(km P cf rec gs cr C ⟨ops⟩ l 1 [] s).bind _;rw[h,JE l 1 0];rfl
 |false=>show(aG O o.dst (.tp [])).bind _=(((aG O o.dst (.tp [])).bind λO=>km P cf rec gs cr C ⟨ops⟩ l 1 [] O).bind _);cases aG O o.dst (.tp [])with|none=>rfl|some s=>show uk P cf rec gs cr ops [(i,j)] l (n+1) _ k s=(km P cf rec gs cr C ⟨ops⟩ l 1 [] s).bind _;rw[h,JE l 1 0];rfl
def DE(l:List aB)(n:Nat):Bool:=(l.take n).all λo=>o.guard.isNone
theorem Q1{o:aB}{n:Nat}(h:DE (o::l) (n+1)=V):o.guard=Z/\DE l n=V:=by simp_all[DE]
theorem N3{o:aB}(h:o.guard=Z):y8 ⟨ops⟩ O o=J V:=by grind[y8]
theorem aju{r:bh}(M:i<j):∀(b:List Unit)(l:List aB)(n:Nat)(O:St),n+b.length=j->i<n->DE l (b.length+1)=V->r2 P cf rec gs cr (.mk ops (.mk ops)) e b l k O=J r->uk P cf rec gs cr ops [(i,j)] l n [(i,e)] k O=J r
 |[],[],_,_,_,_,_,h=>by cases h|_::_,[],_,_,_,_,_,h=>by cases h|[],o::l,n,O,m,q,g,h=>by
  obtain⟨g1,g2⟩:=Q1 g;have p:n=j:=by simpa using m
  subst p;have a:(bif Kx.fr e (jI cf O o.op)then ry P cf rec gs cr (.mk ops (.mk ops)) (.mk (o::l) (.mk (o::l))) k O else Z)=J r:=h;cases f:Kx.fr e (jI cf O o.op)with|false=>rw[f]at a;cases a|true=>
   rw[f]at a;unfold uk;rw[N3 g1];simp only[cU,aR];have:([(i,e)].all λe=>!(vO [(i,n)] e.1 n)||Kx.fr e.2 (jI cf O o.op))=V:=by show((!(vO [(i,n)] i n)||Kx.fr e (jI cf O o.op))&&V)=V;rw[f];simp
   rw[this,aR];have c:((y8 ⟨ops⟩ O o).bind λw=>bif w then bif !C||I' ops [] 0 (jI cf O o.op)then(dK P cf rec gs cr l O o).bind λs=>km P cf rec gs cr C ⟨ops⟩ l 1 [] s else Z else(aG O o.dst (.tp [])).bind λO=>km P cf rec gs cr C ⟨ops⟩ l 1 [] O).bind (aih k)=J r:=a;rw[N3 g1]at c;simp only[cU,aR,ze,Bool.true_or]at c;cases d:dK P cf rec gs cr l O o with|none=>rw[d]at c;cases c|some s=>rw[d]at c;simp only[cU]at c|-;rw[ajv l (n+1) _ s ab ab];rw[JE l 1 0]at c;exact c
 |u::b,o::l,n,O,m,q,g,h=>by
  obtain⟨g1,g2⟩:=Q1 g;rw[dD]at m;have a:(dK P cf rec gs cr l O o).bind (r2 P cf rec gs cr (.mk ops (.mk ops)) e b l k)=J r:=h;unfold uk;rw[N3 g1];simp only[cU,aR];have:([(i,e)].all λe=>!(vO [(i,j)] e.1 n)||Kx.fr e.2 (jI cf O o.op))=V:=by
   have:vO [(i,j)] i n=C:=by show((aw i i&&aw j n)||false)=C;rw[kT (show j≠n by omega)];simp
   show((!(vO [(i,j)] i n)||Kx.fr e (jI cf O o.op))&&V)=V;rw[this];rfl
  rw[this,aR,auJ q];cases d:dK P cf rec gs cr l O o with|none=>rw[d]at a;cases a|some s=>rw[d]at a;exact aju M b l (n+1) s ab ab g2 a
theorem ajt{r:bh}(M:i<j):∀(a:List Unit)(l:List aB)(n:Nat)(O:St),n+a.length=i->i+1+b.length=j->DE l (a.length+1+(b.length+1))=V->r1 P cf rec gs cr (.mk ops (.mk ops)) b a l k O=J r->uk P cf rec gs cr ops [(i,j)] l n [] k O=J r
 |[],[],_,_,_,_,_,h=>by cases h|_::_,[],_,_,_,_,_,h=>by cases h|[],o::l,n,O,e,f,g,h=>by
  obtain⟨g1,g2⟩:=Q1 (n:=b.length+1) (by rw[<-g];congr 1;simp only[gL];omega);have Q:n=i:=by simpa using e
  subst Q;have c:(dK P cf rec gs cr l O o).bind (r2 P cf rec gs cr (.mk ops (.mk ops)) (jI cf O o.op) b l k)=J r:=h;unfold uk;rw[N3 g1];simp only[cU,aR,nY];have:EP [(n,j)] n=V:=by show(aw n n||false)=V;rw[show aw n n=V from pJ n];rfl
  rw[this,aR];cases d:dK P cf rec gs cr l O o with|none=>rw[d]at c;cases c|some s=>rw[d]at c;exact aju M b l (n+1) s ab ab g2 c
 |u::a,o::l,n,O,e,f,g,h=>by
  obtain⟨g1,g2⟩:=Q1 (n:=a.length+1+(b.length+1)) (by rw[<-g];congr 1;simp only[dD];omega);rw[dD]at e;have c:(dK P cf rec gs cr l O o).bind (r1 P cf rec gs cr (.mk ops (.mk ops)) b a l k)=J r:=h;unfold uk;rw[N3 g1];simp only[cU,aR,nY];have:EP [(i,j)] n=C:=by show(aw i n||false)=C;rw[kT (show i≠n by omega)];rfl
  rw[this,ch];cases d:dK P cf rec gs cr l O o with|none=>rw[d]at c;cases c|some s=>rw[d]at c;exact ajt M a l (n+1) s ab f g2 c
theorem Ua{e:ah Nat}{i:Nat}{r:bh}(a b:List Unit)(h:nI cf st0 ops=V)(d:AO cf ops=[(a.length,a.length+1+b.length)])(g:DE ops (a.length+1+(b.length+1))=V)(c:Js P cf rec (cf.tL O.fn) (cf.zI O.fn) (.mk ops (.mk ops)) b a (.mk ops (.mk ops)) (FM (cf.keep O.fn i) k) O=J r):exec P cf rec e (.region i ⟨ops⟩ V) O k=J r:=apk h d (ajt ab a ops 0 O ab rfl g c)
end
def Mn(g:GH)(w:Bool):SV->ah Kx|.dv (.ptr id _) _=>J (.pt (J id) g w)|.se ..|.lp ..=>bif w then J (.pt Z g V)else Z|_=>Z
theorem aAf{c:bV}{s:St}{a:aK}:jI c s (.load t a)=(((cZ c.aq s a).bind (Mn s.g C)).getD (.s (kindOf c s (.load t a)))):=by show(match cZ c.aq s a with|some (.dv (.ptr id _) _)=>Kx.pt (J id) s.g C|_=>.s (kindOf c s (.load t a)))=_;cases cZ c.aq s a with|none=>rfl|some v=>cases v with|dv d o=>cases d<;>rfl|_=>rfl
theorem aAg{c:bV}{s:St}{a v:aK}:jI c s (.store t a v)=(((cZ c.aq s a).bind (Mn s.g V)).getD (.s (kindOf c s (.store t a v)))):=by show(match cZ c.aq s a with|some (.dv (.ptr id _) _)=>Kx.pt (J id) s.g V|some (.se ..)|some (.lp ..)=>Kx.pt Z s.g V|_=>.s (kindOf c s (.store t a v)))=_;cases cZ c.aq s a with|none=>rfl|some v=>cases v with|dv d o=>cases d<;>rfl|_=>rfl
theorem aAe{i:Nat}{o:aN}:Mn g w (.dv (.ptr i I) o)=J (.pt (J i) g w):=(rfl)
theorem aAc{i o:Nat}:Mn g V (.se s i o)=J (.pt Z g V):=(rfl)
theorem aAd{o:Nat}:Mn g V (.lp s o)=J (.pt Z g V):=(rfl)
theorem Iv{a b:α}:(J a).getD b=a:=rfl
theorem auz{a b:Kx}:Kx.fr a b=(Kx.yc a b||Kx.yc b a):=(rfl)
theorem ato{t:ah Nat}:Kx.yc (.pt t g w) (.pt Z g' w')=C:=(rfl)
theorem atp{x i:Nat}:Kx.yc (.pt (J x) g w) (.pt (J i) g' w')=((g.get i).isSome&&!(aw x i)):=(rfl)
theorem atn{i:Nat}:Kx.yc (.pt Z g w) (.pt (J i) g' w')=((g.get i).isSome&&V):=(rfl)
attribute[go_sem↓]aHT aHU aHV aHW
attribute[go_sem]aAf aAg aAe aAc aAd Iv auz ato atp atn SE
theorem aly(l:cG)(s:Int):gh ((l++[s]).map iD) 3 1=.dv (bK V ((l++[s]).map iD) 3 1) (.ex 3):=by cases l<;>rfl
def aHz(l:cG):cj (l.map iD)=V:=ig (λ_=>rfl) l
theorem ar5(e:Edge)(b k a y v s p c)(n o:Bool)(f:e.opens.l.length<100000000)(g:e.inside.l.length<100000000)(i:e.ma.l.length<100000000)(j:e.ki.l.length<100000000):CC 328 [.agg (ae.mk b k a y v s p c).cells,e.d,.bool n,.bool o] (.val (.dv (p9 e (ph b) o n s p).d .no) .empty):=by
 have k1:=HK (d:=iD) (.inl rfl) (λ_=>rfl) [s] e.opens.l C e.opens.nl (by simp only[Sy];omega);have k2:=HK (d:=iD) (.inl rfl) (λ_=>rfl) [s] e.inside.l C e.inside.nl (by simp only[Sy];omega);have k3:=HK (d:=iD) (.inl rfl) (λ_=>rfl) e.ma.l [s] e.ma.nl C (by simp only[Sy];omega);have k4:=HK (d:=kF.d) (.inr (.inl rfl)) (λ_=>rfl) [⟨s,p⟩] e.ki.l C e.ki.nl (by simp only[Sy];omega);clear f g i j;obtain⟨src,t,T,x,⟨I,K,L,M,N,O,P,Q,R⟩,m,l,S,X,ins⟩:=e;obtain⟨z,A,c3,B,D,E,F,G,H⟩:=c;rw[aly]at k3;simp only[gb,eM,lU,jO,kF.d,oX,go_sem]at k1 k2 k3 k4;have r1:dg [(12,.ex 3)] 16 1=[(12,.ex 3)]:=rfl;have r2:dg [(12,.ex 3)] 15 1=[(12,.ex 3)]:=rfl;have r:dg [(16,.ex 3),(12,.ex 3)] 13 1=[(16,.ex 3),(12,.ex 3)]:=rfl;have q:dg [(15,.ex 385),(12,.ex 3)] 13 1=[(15,.ex 385),(12,.ex 3)]:=rfl;have u:dg [(16,.ex 3)] 13 1=[(16,.ex 3)]:=rfl;have w:dg [(15,.ex 385)] 13 1=[(15,.ex 385)]:=rfl;refine aO func328 ?_;simp only[f328];simp only[go_sem,Edge.d,Edge.cells,ae.cells,Expr.cells,p9,ph];repeat'(with_reducible apply sp<;>intro h<;>simp only[h,k1,k2,k3,k4,aHz,r1,r2,r,q,u,w,go_sem])
 all_goals(simp only[oX,go_sem];try rfl)
theorem aAU{u:iM}{n:Nat}{s:db}{d:ah Tmp}{i:Nat}{b:LB}(h:bN P t=J V):sj P t u ⟨fn,n,s,lb,g⟩ d i I (.box b)=(fI P u t b I).bind λr=>aG ⟨fn,n,s,lb,g.set i (.box r.2)⟩ d r.1:=by show(match u,eB b _,bN P t with|.ref,.ex _,J C=>_|_,_,_=>_)=_;grind
attribute[go_sem]aAU
theorem O9(k:Int)(p q:ae):∃g,CC 329 [.agg p.cells,iD k,.agg q.cells] (.val (.dv (.agg (nP k p q).cells) .no) g):=by obtain⟨op,nl,args,ty,var,scope,s,cond⟩:=p;have d1:=aJK;have d2:=aJZ;simp only[bp,opsOf,f329,go_sem]at d1 d2;refine⟨⟨2,[(0,.box ⟨iD k::.ay [.agg q.cells] 62 14::iD ty::iD var::iD scope::iD s::cond.cells,[(1,.ty 62)]⟩),(1,.box ⟨q.cells,[]⟩)]⟩,?_⟩;refine aO func329 ?_;simp only[go_sem,f329,ae.cells,nP,ae.bn];refine Ua [()] [(),()] d2 d1 rfl ?_;simp only[go_sem];rfl
theorem OV{n:Nat}:bK C l e n=.ay l e n:=by cases l<;>rfl
theorem encS{x:DV}{n:Nat}:bK V (l++[x]) e n=.ay (l++[x]) e n:=by cases l<;>rfl
theorem Pr.dI(r:Pr):r.cells.length=32:=by simp[Pr.cells,Edge.dI,ae.dI]
theorem Pr.pure(r:Pr):r.d.pure=V:=by show cj _=V;have h:cj _=V:=a42 r.cM;grind[Pr.cells,Cg,cj,DV.pure,ae.pure]
theorem Edge.KN(e:Edge):List.drop 17 e.cells=[]:=by simp[Edge.dI]
theorem ae.KN(e:ae):List.drop 14 e.cells=[]:=by simp[ae.dI]
attribute[go_sem]Edge.KN Edge.dI ae.KN
theorem Oo{x:DV}{n:Nat}:gh (l++[x]) e n=.dv (.ay (l++[x]) e n) (.ex e):=by cases l<;>rfl
theorem azh(q u a l A m p f j)(b:Nat)(hT:Hu a)(o1:aj q 1=C)(o4:aj q 4=C)(o8:aj q 8=C)(hz:∀x∈eN a,∃n w,n<100000000/\iL n w x):wz qR 326 [] [.ptr b 0] (λg=>kU g b (.mk q u (a::l) A m p f j)) ((eN a).flatMap (sD (.mk q u (a::l) A m p f j))):=by
 intro n k σ rel step s U kg g hr P;obtain⟨kV,nN⟩:=kg _ _ _ hr;obtain⟨h,ca,cap,g1,e1,l1,c1,O,it,hp⟩:=hT (g.alloc (.box ⟨[.eu n],[]⟩));suffices hS:Sat (ev PP cf (.call 326 ([]++[.eu n]++[.ptr b 0]) .no g)) λv g'=>v=.tp []/\rel (cR step ((eN a).flatMap (sD (.mk q u (a::l) A m p f j))) s).1 (cR step ((eN a).flatMap (sD (.mk q u (a::l) A m p f j))) s).2 g'/\Hi k g g' by obtain⟨v,g',e,rfl,r,h⟩:=hS;simp_all
 refine nw func326 ?_;have kZ:(b=g.next)=False:=cK ab;have wT:Lo g.next g g1:=(a13 (bT _)).trans (l1.mono (by simp[dS]));have di:g.next<g1.next:=by have:=l1.1;grind[dS]
 have hy:g1.get g.next=J (.box ⟨[.eu n],[]⟩):=(l1.2 _ (by simp[dS])).trans (by simp[kr]);rw[dS]at O;simp only[ae.cells,ae.bn,oX]at kV;simp only[f326];simp only[go_sem,kV,kZ,e1];refine AD it (ud (sD (.mk q u (a::l) A m p f j)) step) (zm k g g.next n cap rel) (Z,s) hp rfl ⟨U.stay _ _ _ _ hr (wT.mono P),c1,⟨ab,λi h1 h2=>wT.2 i h2⟩,hy,rfl,di⟩ (λc s g' h=>h.c) (λc s g2 g3 h hl=>h.lo U hl ab ab di (λg4 g5 F t=>O g4 g5 F t.1 λi _ hi=>t.2 i hi)) (λx s g2 hx R hN L=>?_) (λg2 R hN=>?_)
 . obtain⟨jF,mH⟩:=Ol hx;obtain⟨s0,s⟩:=s;simp only at jF mH;subst jF;refine AH L rfl ?_;have Y:=R.y;have Q:=(kg _ _ _ R.r).1;simp only[ae.cells,ae.bn,oX]at Q;have H:(g1.next=g2.next)=False:=cK ab;have I:(g1.next=g2.next+1)=False:=cK ab;have z3:(g2.next=g1.next)=False:=cK ab;have z4:(g2.next+1=g1.next)=False:=cK ab;have z5:(g.next=g2.next)=False:=cK ab;have z6:(g.next=g2.next+1)=False:=cK ab;have z7:(g.next=g1.next)=False:=cK ab;have z8:(b=g2.next)=False:=cK ab;have z9:(b=g2.next+1)=False:=cK ab;have tx:(b=g1.next)=False:=cK ab;have X:(g2.next+1=g2.next)=False:=cK ab;have G:(g2.next=g2.next+1)=False:=cK ab;obtain⟨nb,wb,m9,hB⟩:=hz x hx.mem;have Mb:=hB.z;obtain⟨y,Dt,Aj⟩:∃y,sD (.mk q u (a::l) A m p f j) x=[y]/\y=bif aj q 7 then N4 x (.mk q u (a::l) A m p f j) j else Nw x q p f (.mk q u (a::l) A m p f j):=by grind[sD]
   have T:=mH [] y [] s Dt rfl;have ns:ud (sD (.mk q u (a::l) A m p f j)) step x (Z,s)=((step y s).1.map λ_=>Code.ret,step y s):=by grind[ud,By]
   rw[ns];obtain⟨cM,done,rest⟩:=x;have k1:=an4 cM.jS.l [j] cM.jS.nl C (by have:=hB.k;grind);rw[Expr.Bt,show Expr.bn [j]=[.agg j.cells]from rfl,Oo]at k1;simp only[OV]at k1;have k3:=λd o=>ar5 cM q u (a::l) A m p f j d o (Og hB.o m9) (Og hB.i m9) (Og hB.p m9) (Og hB.l m9);clear hB m9;simp only[Edge.d,ae.cells,ae.bn,oX,go_sem]at k3;have k4:=λd o=>Edge.dI (p9 cM (ph q) o d p f);simp only[qR,Pr.rd,Edge.d];simp only at Mb;cases E:aj q 7 with
   |true=>rw[E,aR]at Aj;obtain rfl:=oj E;cases done with|true=>
   obtain rfl:=Mb rfl;have W:y=⟨Es cM j,V,zP⟩:=Aj;subst W;have ps:cj (Expr.bn cM.jS.l++[.agg j.cells])=V:=by simp[Cg,Expr.u7,cj,DV.pure,Expr.pure]
   have hE:uI ⟨V,cM.jS.l++[j]⟩=.ay (Expr.bn cM.jS.l++[.agg j.cells]) 59 8:=by rw[uI,Expr.Bt];exact encS
   obtain⟨src,dst,xw,JV,⟨o1,o2,o3,o4',o5,o6,o7,o8',o9⟩,ops,cls,uG,uX,ins⟩:=cM;simp only[go_sem,L,Y,H,I,z3,z4,z5,z6,z7,z8,z9,tx,X,G,Q,Edge.cells,Expr.cells,E,k1,ps];simp only[ux];refine y9 U ⟨Es ⟨src,dst,xw,JV,⟨o1,o2,o3,o4',o5,o6,o7,o8',o9⟩,ops,cls,uG,uX,ins⟩ j,V,zP⟩ s (by simp only[qR,Pr.rd,Edge.d,Es,Edge.cells,Expr.cells,hE];rfl) T R.r (show k<=g1.next by omega) hN lA (λg3 N B=>?_);have D:=B.2 g1.next ab (by grind[dS,gU]);simp only[go_sem,L,H,I]at D;have fin:=λo=>R.next U lA B P ab ab hN (λa b F t K=>O a b F t λi E M=>K i ab M) (o:=o) N;generalize step ⟨Es ⟨src,dst,xw,JV,⟨o1,o2,o3,o4',o5,o6,o7,o8',o9⟩,ops,cls,uG,uX,ins⟩ j,V,zP⟩ s=z at*;obtain⟨c3,s3⟩:=z;rcases c3 with _|c3<;>simp only[rJ,rK,sN,gM]at fin|-<;>simp only[go_sem,D]<;>exact⟨trivial,(fin _).1,(fin _).2,rfl⟩|false=>have W:y=⟨cM,C,nP 7 (.mk 7 u (a::l) A m p f j) rest⟩:=Aj;subst W;obtain⟨gz,k2⟩:=O9 7 (.mk 7 u (a::l) A m p f j) rest;simp only[ae.cells,ae.bn,oX,go_sem]at k2;simp only[go_sem,L,Y,H,I,z3,z4,z5,z6,z7,z8,z9,tx,X,G,Q,E,k2];simp only[ux];refine y9 U ⟨cM,C,nP 7 (.mk 7 u (a::l) A m p f j) rest⟩ s rfl T R.r (show k<=g1.next by omega) hN lA (λg3 N B=>?_);have D:=B.2 g1.next ab (by grind[dS,gU]);simp only[go_sem,L,H,I]at D;have fin:=λo=>R.next U lA B P ab ab hN (λa b F t K=>O a b F t λi E M=>K i ab M) (o:=o) N;generalize step ⟨cM,C,nP 7 (.mk 7 u (a::l) A m p f j) rest⟩ s=z at*;obtain⟨c3,s3⟩:=z;rcases c3 with _|c3<;>simp only[rJ,rK,sN,gM]at fin|-<;>simp only[go_sem,D]<;>exact⟨trivial,(fin _).1,(fin _).2,rfl⟩
   |false=>rw[E,ch]at Aj;have S:y=bif done then⟨p9 cM (ph q) (bif aj q 5 then V else aj q 6) done p f,V,zP⟩else⟨p9 cM (ph q) (bif aj q 5 then V else aj q 6) done p f,C,nP (bif ph q then 9 else 10) (.mk q u (a::l) A m p f j) rest⟩:=Aj;cases t:aj q 5 with
   |true=>obtain rfl:=oj t;have k3:=k3 done V;cases done with|true=>obtain rfl:=Mb rfl;have W:y=⟨p9 cM (ph 5) V V p f,V,zP⟩:=S;subst W;generalize p9 cM (ph 5) V V p f=e9 at*;simp only[go_sem,L,Y,H,I,z3,z4,z5,z6,z7,z8,z9,tx,X,G,Q,E,t,k3];simp only[ux];refine y9 U ⟨e9,V,zP⟩ s rfl T R.r (show k<=g1.next by omega) hN lA (λg3 N B=>?_);have D:=B.2 g1.next ab (by grind[dS,gU]);simp only[go_sem,L,H,I]at D;have fin:=λo=>R.next U lA B P ab ab hN (λa b F t K=>O a b F t λi E M=>K i ab M) (o:=o) N;generalize step ⟨e9,V,zP⟩ s=z at*;obtain⟨c3,s3⟩:=z;rcases c3 with _|c3<;>simp only[rJ,rK,sN,gM]at fin|-<;>simp only[go_sem,D]<;>exact⟨trivial,(fin _).1,(fin _).2,rfl⟩|false=>have W:y=⟨p9 cM (ph 5) V C p f,C,nP 9 (.mk 5 u (a::l) A m p f j) rest⟩:=S;subst W;obtain⟨gz,k2⟩:=O9 9 (.mk 5 u (a::l) A m p f j) rest;simp only[ae.cells,ae.bn,oX,go_sem]at k2;generalize p9 cM (ph 5) V C p f=e9 at*;simp only[go_sem,L,Y,H,I,z3,z4,z5,z6,z7,z8,z9,tx,X,G,Q,E,t,k3,k2];simp only[ux];refine y9 U ⟨e9,C,nP 9 (.mk 5 u (a::l) A m p f j) rest⟩ s rfl T R.r (show k<=g1.next by omega) hN lA (λg3 N B=>?_);have D:=B.2 g1.next ab (by grind[dS,gU]);simp only[go_sem,L,H,I]at D;have fin:=λo=>R.next U lA B P ab ab hN (λa b F t K=>O a b F t λi E M=>K i ab M) (o:=o) N;generalize step ⟨e9,C,nP 9 (.mk 5 u (a::l) A m p f j) rest⟩ s=z at*;obtain⟨c3,s3⟩:=z;rcases c3 with _|c3<;>simp only[rJ,rK,sN,gM]at fin|-<;>simp only[go_sem,D]<;>exact⟨trivial,(fin _).1,(fin _).2,rfl⟩
   |false=>cases h9:aj q 9 with
   |true=>obtain rfl:=oj h9;have k3:=k3 done C;cases done with|true=>obtain rfl:=Mb rfl;have W:y=⟨p9 cM (ph 9) C V p f,V,zP⟩:=S;subst W;generalize p9 cM (ph 9) C V p f=e9 at*;simp only[go_sem,L,Y,H,I,z3,z4,z5,z6,z7,z8,z9,tx,X,G,Q,E,t,h9,k3];simp only[ux];refine y9 U ⟨e9,V,zP⟩ s rfl T R.r (show k<=g1.next by omega) hN lA (λg3 N B=>?_);have D:=B.2 g1.next ab (by grind[dS,gU]);simp only[go_sem,L,H,I]at D;have fin:=λo=>R.next U lA B P ab ab hN (λa b F t K=>O a b F t λi E M=>K i ab M) (o:=o) N;generalize step ⟨e9,V,zP⟩ s=z at*;obtain⟨c3,s3⟩:=z;rcases c3 with _|c3<;>simp only[rJ,rK,sN,gM]at fin|-<;>simp only[go_sem,D]<;>exact⟨trivial,(fin _).1,(fin _).2,rfl⟩|false=>have W:y=⟨p9 cM (ph 9) C C p f,C,nP 9 (.mk 9 u (a::l) A m p f j) rest⟩:=S;subst W;obtain⟨gz,k2⟩:=O9 9 (.mk 9 u (a::l) A m p f j) rest;simp only[ae.cells,ae.bn,oX,go_sem]at k2;generalize p9 cM (ph 9) C C p f=e9 at*;simp only[go_sem,L,Y,H,I,z3,z4,z5,z6,z7,z8,z9,tx,X,G,Q,E,t,h9,k3,k2];simp only[ux];refine y9 U ⟨e9,C,nP 9 (.mk 9 u (a::l) A m p f j) rest⟩ s rfl T R.r (show k<=g1.next by omega) hN lA (λg3 N B=>?_);have D:=B.2 g1.next ab (by grind[dS,gU]);simp only[go_sem,L,H,I]at D;have fin:=λo=>R.next U lA B P ab ab hN (λa b F t K=>O a b F t λi E M=>K i ab M) (o:=o) N;generalize step ⟨e9,C,nP 9 (.mk 9 u (a::l) A m p f j) rest⟩ s=z at*;obtain⟨c3,s3⟩:=z;rcases c3 with _|c3<;>simp only[rJ,rK,sN,gM]at fin|-<;>simp only[go_sem,D]<;>exact⟨trivial,(fin _).1,(fin _).2,rfl⟩
   |false=>
   have IE:ph q=C:=by unfold ph;simp only[t,h9];rfl
   rw[IE]at S k3;simp only[t,ch]at S;have k3:=k3 done (aj q 6);cases done with|true=>obtain rfl:=Mb rfl;have W:y=⟨p9 cM C (aj q 6) V p f,V,zP⟩:=S;subst W;generalize p9 cM C (aj q 6) V p f=e9 at*;simp only[go_sem,L,Y,H,I,z3,z4,z5,z6,z7,z8,z9,tx,X,G,Q,E,t,h9,k3];simp only[ux];refine y9 U ⟨e9,V,zP⟩ s rfl T R.r (show k<=g1.next by omega) hN lA (λg3 N B=>?_);have D:=B.2 g1.next ab (by simp only[dS,gU];omega);simp only[go_sem,L,H,I]at D;have fin:=λo=>R.next U lA B P ab ab hN (λa b F t K=>O a b F t λi E M=>K i ab M) (o:=o) N;generalize step ⟨e9,V,zP⟩ s=z at*;obtain⟨c3,s3⟩:=z;rcases c3 with _|c3<;>simp only[rJ,rK,sN,gM]at fin|-<;>simp only[go_sem,D]<;>exact⟨trivial,(fin _).1,(fin _).2,rfl⟩|false=>have W:y=⟨p9 cM C (aj q 6) C p f,C,nP 10 (.mk q u (a::l) A m p f j) rest⟩:=S;subst W;obtain⟨gz,k2⟩:=O9 10 (.mk q u (a::l) A m p f j) rest;simp only[ae.cells,ae.bn,oX,go_sem]at k2;generalize p9 cM C (aj q 6) C p f=e9 at*;simp only[go_sem,L,Y,H,I,z3,z4,z5,z6,z7,z8,z9,tx,X,G,Q,E,t,h9,k3,k2];simp only[ux];refine y9 U ⟨e9,C,nP 10 (.mk q u (a::l) A m p f j) rest⟩ s rfl T R.r (show k<=g1.next by omega) hN lA (λg3 N B=>?_);have D:=B.2 g1.next ab (by simp only[dS,gU];omega);simp only[go_sem,L,H,I]at D;have fin:=λo=>R.next U lA B P ab ab hN (λa b F t K=>O a b F t λi E M=>K i ab M) (o:=o) N;generalize step ⟨e9,C,nP 10 (.mk q u (a::l) A m p f j) rest⟩ s=z at*;obtain⟨c3,s3⟩:=z;rcases c3 with _|c3<;>simp only[rJ,rK,sN,gM]at fin|-<;>simp only[go_sem,D]<;>exact⟨trivial,(fin _).1,(fin _).2,rfl⟩
 .rw[C']at R|-;obtain⟨r,_,h2,_⟩:=R;revert r;cases(cR step ((eN a).flatMap (sD (.mk q u (a::l) A m p f j))) s).1 with|none=>intro r;simp only[rK,go_sem];exact⟨trivial,r,h2⟩|some c=>intro r;simp only[gM,go_sem];exact⟨trivial,r,h2⟩
theorem amP:gu PP .eql 60 (.ay l 62 14) .nl=J (.bool C):=by rfl
theorem amO:gu PP .eql 41 (.ay l 3 1) .nl=J (.bool C):=by rfl
theorem amT:gu PP .eql 41 .nl .nl=J (.bool V):=by rfl
attribute[go_sem]amP amO amT
theorem Lp(a:bt)(h:a.length<900):CC 385 [.ay (ae.bn a) 62 14] (.val (.dv (.ay (ae.bn a) 62 14) (.ex 62)) .empty):=by have b:=amb (l:=[]) (new:=ae.bn a) (by grind[ae.qS]);refine aO func385 ?_;simp only[f385];simp only[go_sem,b]
theorem sA{n:Nat}(h:n<1000000000):sH n=V:=by simp_all[sH]
theorem ar9(l:ao)(x:DV)(h:l.length<1000000000):ev PP cf (.call 386 [.ay l 62 14,iD 0,.ay [x] 62 14] (.ex 62) .empty)=J (.val (.dv (.ay (x::l) 62 14) .no) .empty):=by refine C4 ?_ rfl;show(bif sH _ then J _ else J _)=_;grind[sA]
theorem asa(l:ao)(i j:Nat)(h:l.length<1000000000)(a:i<j)(b:j<=l.length):ev PP cf (.call 388 [.ay l 62 14,iD (.ofNat i),iD (.ofNat j)] (.ex 62) .empty)=J (.val (.dv (.ay (l.take i++l.drop j) 62 14) .no) .empty):=by refine C4 ?_ rfl;show(bif sH _&&(cw i j&&bz j _)then J _ else J _)=_;grind[sA,eP,dp]
theorem ar0(r:Pr)(l:bt)(h:l.length<900)(z:r.done=V->r.rest=zP):CC 323 [r.rd,.ay (ae.bn l) 62 14] (.val (.dv (oc r C l).rd .no) .empty):=by have e1:=Lp l h;have i:ev PP cf (.call 386 [.ay (ae.bn l) 62 14,iD 0,.ay [.agg r.rest.cells] 62 14] (.ex 62) .empty)=J (.val (.dv (.ay (ae.bn (r.rest::l)) 62 14) .no) .empty):=ar9 _ _ (by grind[ae.qS]);have e2:=O' C 1 (r.rest::l) ai;have e3:=O' C 1 l ab;rw[OV]at e2 e3;refine aO func323 ?_;obtain⟨cM,done,rest⟩:=r;simp only[f323];cases done with
 |true=>
 obtain rfl:=z rfl;simp only[go_sem,Pr.rd,e1];rcases l with _|⟨p,l⟩;.rfl
 have q:aj (.ofNat (p::l).length) 0=C:=by rfl
 simp only[e3,go_sem,oc]|false=>simp only[go_sem,Pr.rd,e1,i,e2];cases l<;>rfl
theorem aLP{n i:Nat}{l:db}{d:ah Tmp}{x:aK}{v:DV}{o:aN}:RW P t ⟨fn,n,l,lb,g⟩ d x v o (.se s i I)=(nK (aQ share ⟨fn,n,l,lb,g⟩ x) s).bind λy=>(y.1[i]?).bind λel=>(aW P t).bind λa=>bif aw v.flat.length a&&bz (I+a) el.flat.length then(reshape el (lj el.flat I v.flat)).bind λe=>aG {aQ share ⟨fn,n,l,lb,g⟩ x with sl:=put (cP (aQ share ⟨fn,n,l,lb,g⟩ x).sl) s (.dv (.ay (iJ y.1 i e) y.2.1 y.2.2) (.ex y.2.1))} d (.tp [])else Z:=(rfl)
theorem aII{c:ao}:reshape (.agg l) c=J (.agg c):=by rfl
attribute[go_sem]aLP aII
theorem ar4(r:Pr)(a:bt)(k:Nat)(b:k<a.length)(h:a.length<900):CC 324 [.ay (ae.bn a) 62 14,iD (.ofNat k),r.rd] (.val (.dv (Qy r a k).rd .no) .empty):=by
 have e1:=Lp _ h;have w:=vn (i:=k) ab;have d:ev PP cf (.call 388 [.ay (ae.bn a) 62 14,iD (.ofNat k),iD (.ofNat (k+1))] (.ex 62) .empty)=J (.val (.dv (.ay (ae.bn (a.take k++a.drop (k+1))) 62 14) .no) .empty):=by rw[asa _ _ _ (by grind[ae.qS]) ab (by grind[ae.qS]),ae.Bt,a56,a56,a56,List.map_take,List.map_drop]
 have e2:=O' C 3 (a.take k++a.drop (k+1)) ai;have e3:=O' C 3 (a.take k++([r.rest]++a.drop (k+1))) ai;rw[OV]at e2 e3;have s:List.take k (ae.bn a)++DV.agg r.rest.cells::List.drop (k+1) (ae.bn a)=ae.bn (a.take k++([r.rest]++a.drop (k+1))):=by simp[a56]
 have N:=il b;obtain⟨x,c⟩:∃x,a[k]?=J x:=⟨_,dC b⟩;refine aO func324 ?_;obtain⟨cM,done,rest⟩:=r;simp only[lU,jO]at e3 s;simp only[f324];cases done with|true=>simp only[go_sem,Pr.rd,e1,w,d,e2];rfl|false=>simp only[go_sem,Pr.rd,e1,N,c,s,e3];rfl
theorem aqH{k:eH->ah bh}{s:St}(p:ah bM):(HQ k s p).bind F=HQ (λo=>(k o).bind F) s p:=by
 rcases p with _|c;.rfl
 cases c<;>rfl
theorem ajh{f:bV}{i:dW}{e:ah Nat}{p:List Tmp}{a b:Hd bM}{s:St}{k:eH->ah bh}{d:DV}:(Rw P f i e p a b s k d).bind F=Rw P f i e p a b s (λo=>(k o).bind F) d:=by cases d with
 |func h first c=>show(bif(f.iW h (first++[.eu s.g.next]++c)).isSome||!(AB e s.g)then Z else sM _ _).bind F=bif(f.iW h (first++[.eu s.g.next]++c)).isSome||!(AB e s.g)then Z else sM _ _;cases((f.iW h (first++[.eu s.g.next]++c)).isSome||!(AB e s.g))with|true=>rfl|false=>
 simp only[ch,ux];congr 1;funext r;rcases r with⟨v,g⟩|_
 . show(match g.get s.g.next with|some (.loop r)=>_|_=>Z).bind F=_;simp only;rcases g.get s.g.next with _|o;.rfl
   cases o<;>grind[aqH]
 rfl|_=>rfl
theorem C8{b c:Type}{f:b->c}:∀l:List b,(l.flatMap λy=>[f y])=l.map f|[]=>rfl|a::l=>by rw[Hh,C8 l];rfl
structure BrI{σ:Type}(k n:Nat)(g0:GH)(rel:ah bM->σ->GH->Prop)(step:Pr->σ->ah bM×σ)(s0:σ)(X φ:List Pr)(s:σ×GH):Prop where
 r:rel Z s.1 s.2
 h:Hi k g0 s.2
 y:s.2.get g0.next=J (.box ⟨[.eu n],[]⟩)n:g0.next<s.2.next
 f:cR step φ s.1=cR step X s0
 d:∃dn,X=dn++φ/\cR step dn s0=(Z,s.1)
theorem azf(j:Bool)(nl d ty aa w K D)(b:Nat)(hl:d.length<900)(hT:∀a∈d,Hu a):wz qR 322 [] [.ptr b 0] (λg=>kU g b (.mk (bif j then 3 else 2) nl d ty aa w K D)) (nv j d d 0):=by
 intro n k σ u step s U kg g hr hk;suffices hS:Sat (ev PP cf (.call 322 ([]++[.eu n]++[.ptr b 0]) .no g)) λv g'=>v=.tp []/\u (cR step (nv j d d 0) s).1 (cR step (nv j d d 0) s).2 g'/\Hi k g g' by obtain⟨v,g',e,rfl,r,h⟩:=hS;simp_all
 obtain⟨kV,nN⟩:=kg _ _ _ hr;have kZ:(b=g.next)=False:=cK ab;refine nw func322 ?_;simp only[ae.cells]at kV;simp only[f322];simp only[go_sem,kV,kZ];refine Ap d (s,g.alloc (.box ⟨[.eu n],[]⟩)) (λi _=>[(10,iS i)]) (λs=>s.2) (λi l p=>BrI k n g u step s (nv j d d 0) (nv j d l i) p) ab rfl rfl ⟨U.stay _ _ _ _ hr (a13 hk),Hi.alloc,by simp[kr],by simp[dS],rfl,[],rfl,rfl⟩ (λp hI=>?_) (λi x l p P hx hw hI Q=>?_);.obtain⟨r,O,_,_,f,_⟩:=hI;rw[nv]at f;rw[<-f];simp only[go_sem];exact⟨trivial,r,O⟩
 . obtain⟨S,g1⟩:=p;obtain⟨pe,eZ,Dt,oA,yp,E,tN,mb⟩:=hI;simp only at pe eZ Dt oA yp mb;have F:∃B,B=((((g1.alloc (.box ⟨[iD 0],[]⟩)).alloc (.box ⟨[iD 0,.nl,iD 0,iD 0,iD 0,iD 0,iD 0,.nl,iD 0,iD 0,iD 0,iD 0,iD 0,.str []],[]⟩)).set g1.next (.box ⟨[iD (.ofNat i)],[]⟩)).set (g1.next+1) (.box ⟨x.cells,[]⟩)):=⟨_,rfl⟩;obtain⟨B,F⟩:=F;obtain⟨h,ca,cap,g2,e1,l1,c1,cs,it,hp⟩:=hT x (dw hx) B;obtain⟨jb,PV⟩:=kg _ _ _ pe;simp only[ae.cells]at jb;have y1:(g1.next=g1.next+1)=False:=cK ab;have y2:(g1.next+1=g1.next)=False:=cK ab;have y3:(b=g1.next)=False:=cK ab;have y4:(b=g1.next+1)=False:=cK ab;have o1:aj (bif j then 3 else 2) 1=C:=by cases j<;>rfl
   have o3:aj (bif j then 3 else 2) 3=j:=by cases j<;>rfl
   have EU:B.next=g1.next+2:=by rw[F];rfl
   have lB:Lo g1.next g1 B:=by rw[F];exact((a13 (bT _)).trans ((a13 (by simp[dS])).trans ((a48 (bT _)).trans (a48 ab))))
   have yB:B.get g1.next=J (.box ⟨[iD (.ofNat i)],[]⟩):=by rw[F];simp only[go_sem,y1]
   simp only[go_sem,P,hx,jb,y1,y2,y3,y4,o1];rw[<-F];simp only[go_sem,e1];rw[ajh];have di:g.next<g1.next:=oA;have l2:Lo g1.next g1 g2:=lB.trans (l1.mono ab);have hn4:=l1.1;have oD:g2.get g.next=J (.box ⟨[.eu n],[]⟩):=(l2.2 _ di).trans Dt;have pg:g2.get g1.next=J (.box ⟨[iD (.ofNat i)],[]⟩):=(l1.2 _ ab).trans yB;refine AD it (ud (λy=>[uW j d i y]) step) (zm k g g.next n (λg'=>cap g'/\g'.get g1.next=J (.box ⟨[iD (.ofNat i)],[]⟩)/\g1.next<g'.next) u) (Z,S) hp rfl ⟨U.stay _ _ _ _ pe (l2.mono ab),⟨c1,pg,ab⟩,eZ.lo l2 ab,oD,rfl,ab⟩ (λc s g' h=>h.c.1) (λc s g3 g4 h hl=>h.lo U hl ab ab ab (λg5 g6 t m=>⟨cs g5 g6 t.1 m.1 λi _ P=>m.2 i P,(m.2 _ ab).trans t.2.1,gE t.2.2 m.1⟩)) (λy q g3 hy R hN L=>?_) (λg3 R hN=>?_)
   . obtain⟨jF,mH⟩:=Ol hy;obtain⟨s0,q⟩:=q;simp only at jF mH;subst jF;have Vm:∀y p,tD step ((eN x).flatMap λy=>[uW j d i y]) S y p->tD step (nv j d d 0) s y p:=by
      rintro y p⟨pre,post,p1,p2⟩;refine⟨E++pre,post++nv j d l (i+1),?_,?_⟩;.grind[C8,nv]
      grind[yh]
     have ey:=Vm _ _ (mH [] (uW j d i y) [] q rfl rfl);have ns:ud (λy=>[uW j d i y]) step y (Z,q)=((step (uW j d i y) q).1.map λ_=>Code.ret,step (uW j d i y) q):=by simp[ud,By]
     rw[ns];refine AH L rfl ?_;have Aj:=R.y;have Qh:=R.c.2.1;obtain⟨N,OF⟩:=kg _ _ _ R.r;simp only[ae.cells]at N;have Y:bK nl (ae.bn d) 62 14=.ay (ae.bn d) 62 14:=by
      cases d;.simp_all
      rfl
     have e4:=ar4 y d i (nr P) hl;have T:(g2.next=g3.next)=False:=cK ab;have W:(g2.next=g3.next+1)=False:=cK ab;have z3:(g3.next=g2.next)=False:=cK ab;have z4:(g3.next+1=g2.next)=False:=cK ab;have z5:(g.next=g3.next)=False:=cK ab;have z6:(g.next=g3.next+1)=False:=cK ab;have z7:(g.next=g2.next)=False:=cK ab;have z8:(b=g3.next)=False:=cK ab;have z9:(b=g3.next+1)=False:=cK ab;have tx:(b=g2.next)=False:=cK ab;have mn:(g3.next+1=g3.next)=False:=cK ab;have M:(g3.next=g3.next+1)=False:=cK ab;have z13:(g1.next=g3.next)=False:=cK ab;have z14:(g1.next=g3.next+1)=False:=cK ab;have z15:(g1.next=g2.next)=False:=cK ab;simp only[qR,Pr.rd,Edge.d]at e4|-;simp only[go_sem]at e4;generalize IV:uW j d i y=y' at*;cases j with|false=>have A:y=y':=IV;subst A;have n1:aj 2 1=C:=rfl;have n2:aj 2 3=C:=rfl;simp only[go_sem,n1,n2,L,Aj,N,T,W,z3,z4,z5,z6,z7,z8,z9,tx,mn,M];simp only[ux];refine y9 U y q rfl ey R.r (show k<=g2.next by omega) hN lA (λg4 r4 t=>?_);have I:=t.2 g2.next ab (by grind[dS,gU]);simp only[go_sem,L,T,W]at I;have fin:=λo=>R.next U lA t hk ab ab hN (λa b m G H=>⟨cs a b m.1 G λi h8 h9=>H i ab h9,(H _ ab ab).trans m.2.1,gE m.2.2 G⟩) (o:=o) r4;generalize step y q=z at*;obtain⟨c3,s4⟩:=z;rcases c3 with _|c3<;>simp only[rJ,rK,sN,gM]at fin|-<;>simp only[go_sem,I]<;>exact⟨trivial,(fin _).1,(fin _).2,rfl⟩|true=>have A:Qy y d i=y':=IV;have n1:aj 3 1=C:=rfl;have n2:aj 3 3=V:=rfl;obtain⟨e9,d9,r9⟩:=y';have hed:y.cM=e9:=gT Pr.cM A;subst hed;rw[A]at e4;simp only[go_sem,Y,L,T,W,z8,z9,tx,mn]at N e4|-;simp only[go_sem,N,e4,n1,n2,Aj,Qh,z3,z4,z5,z6,z7,z8,z9,tx,mn,M,z13,z14,z15];simp only[ux];refine y9 U ⟨y.cM,d9,r9⟩ q rfl ey R.r (show k<=g2.next by omega) hN lA (λg4 r4 t=>?_);have I:=t.2 g2.next ab (by simp only[dS,gU];omega);simp only[go_sem,L,T,W]at I;have fin:=λo=>R.next U lA t hk ab ab hN (λa b m G H=>⟨cs a b m.1 G λi h8 h9=>H i ab h9,(H _ ab ab).trans m.2.1,gE m.2.2 G⟩) (o:=o) r4;generalize step ⟨y.cM,d9,r9⟩ q=z at*;obtain⟨c3,s4⟩:=z;rcases c3 with _|c3<;>simp only[rJ,rK,sN,gM]at fin|-<;>simp only[go_sem,I]<;>exact⟨trivial,(fin _).1,(fin _).2,rfl⟩
   .rw[C',C8]at R;rw[C',C8];have X:=yp;rw[nv,yh]at X;have Lw:∀p,cR step ((eN x).map (uW j d i)) S=(Z,p)->∃E,nv j d d 0=E++nv j d l (i+1)/\cR step E s=(Z,p):=λp h=>⟨E++(eN x).map (uW j d i),by rw[tN,nv,uu],by rw[yh,mb];exact h⟩;obtain⟨r,_,O,A,_,U4⟩:=R;generalize cR step ((eN x).map (uW j d i)) S=z at*;obtain⟨cz,sz⟩:=z;cases cz with|none=>have Q:=Q (sz,g3) ⟨r,O,A,U4,X,Lw _ rfl⟩;simp only[rK];simp only[go_sem]at Q;simp only[go_sem,hw,Q]|some cz=>simp only[gM,go_sem];rw[<-X];exact⟨trivial,r,O⟩
theorem azg(nl a d ty aa u H D)(b:Nat)(hl:d.length<800)(cI:d≠[])(hT:Hu a)(hz:∀x∈eN a,x.done=V->x.rest=zP):wz qR 322 [] [.ptr b 0] (λg=>kU g b (.mk 1 nl (a::d) ty aa u H D)) ((eN a).map λy=>oc y C d):=by
 intro n k σ j step s U M g hr hk;suffices hS:Sat (ev PP cf (.call 322 ([]++[.eu n]++[.ptr b 0]) .no g)) λv g'=>v=.tp []/\j (cR step ((eN a).map λy=>oc y C d) s).1 (cR step ((eN a).map λy=>oc y C d) s).2 g'/\Hi k g g' by obtain⟨v,g',e,rfl,r,h⟩:=hS;simp_all
 obtain⟨kV,nN⟩:=M _ _ _ hr;have kZ:(b=g.next)=False:=cK ab;have uO:1<=d.length:=by grind
 have d1:=aLr;simp only[bp,opsOf,f322,go_sem]at d1;have n1:aj 1 1=V:=rfl;refine nw func322 ?_;simp only[ae.cells,ae.bn,oX]at kV;simp only[f322];simp only[go_sem,kV,kZ];refine Ap (a::d) (s,g.alloc (.box ⟨[.eu n],[]⟩)) (λi _=>[(10,iS i)]) (λs=>s.2) (λi _ f=>(i=0/\BrI k n g j step s ((eN a).map λy=>oc y C d) ((eN a).map λy=>oc y C d) f)\/(i=1/\j Z f.1 f.2/\Hi k g f.2/\g.next<f.2.next/\cR step ((eN a).map λy=>oc y C d) s=(Z,f.1))) ai rfl rfl (.inl ⟨rfl,U.stay _ _ _ _ hr (a13 hk),Hi.alloc,by simp[kr],by simp[dS],rfl,[],rfl,rfl⟩) (λf K=>?_) (λi x m f A hx hw K L=>?_);.simp_all
 . obtain⟨s1,g1⟩:=f;have F:∃B,B=((((g1.alloc (.box ⟨[iD 0],[]⟩)).alloc (.box ⟨[iD 0,.nl,iD 0,iD 0,iD 0,iD 0,iD 0,.nl,iD 0,iD 0,iD 0,iD 0,iD 0,.str []],[]⟩)).set g1.next (.box ⟨[iD (.ofNat i)],[]⟩)).set (g1.next+1) (.box ⟨x.cells,[]⟩)):=⟨_,rfl⟩;obtain⟨B,F⟩:=F;rcases K with⟨Q,K⟩|⟨Q,t,E,N,hf⟩;rotate_left 1
   . simp only at t E N hf;obtain⟨G,PV⟩:=M _ _ _ t;simp only[ae.cells]at G;have P:(g1.next=g1.next+1)=False:=cK ab;have y2:(g1.next+1=g1.next)=False:=cK ab;have y3:(b=g1.next)=False:=cK ab;have y4:(b=g1.next+1)=False:=cK ab;have kY:aA 0 (.ofNat i)=V:=by rw[Q];rfl
     have W:(DV.agg a.cells::ae.bn d)[i]?=J (.agg x.cells):=by grind[ae.rR]
     have S:(i<(DV.agg a.cells::ae.bn d).length)=True:=by grind
     simp only[dD]at A S;simp only[go_sem,A,W,G,P,y2,y3,y4,n1,kY];rw[hf];simp only[go_sem];refine⟨trivial,U.stay _ _ _ _ t ?_,E.lo (m:=g1.next) ?_ ab⟩;all_goals exact((a13 ab).trans ((a13 (by grind[dS])).trans ((a48 ab).trans (a48 ab))))
   . obtain⟨t,E,Dt,N,yp,dn,tN,mb⟩:=K;simp only at t E Dt N yp mb;have BD:a=x:=ai;subst BD;obtain⟨h,ca,T,g2,e1,l1,c1,cs,it,hp⟩:=hT B;obtain⟨G,PV⟩:=M _ _ _ t;simp only[ae.cells]at G;have P:(g1.next=g1.next+1)=False:=cK ab;have y2:(g1.next+1=g1.next)=False:=cK ab;have y3:(b=g1.next)=False:=cK ab;have y4:(b=g1.next+1)=False:=cK ab;have kY:aA 0 (.ofNat i)=C:=by rw[Q];rfl
     have EU:B.next=g1.next+2:=by rw[F];rfl
     have lB:Lo g1.next g1 B:=by rw[F];exact((a13 (bT _)).trans ((a13 (by simp[dS])).trans ((a48 (bT _)).trans (a48 ab))))
     have yB:B.get g1.next=J (.box ⟨[iD (.ofNat i)],[]⟩):=by rw[F];simp only[go_sem,P]
     have W:(DV.agg a.cells::ae.bn d)[i]?=J (.agg a.cells):=ai;have S:(i<(DV.agg a.cells::ae.bn d).length)=True:=by grind
     simp only[dD]at A S;simp only[go_sem,A,W,G,P,y2,y3,y4,n1,kY];rw[<-F];simp only[go_sem,e1];rw[ajh];have di:g.next<g1.next:=N;have l2:Lo g1.next g1 g2:=lB.trans (l1.mono ab);have hn4:=l1.1;have oD:g2.get g.next=J (.box ⟨[.eu n],[]⟩):=(l2.2 _ di).trans Dt;have pg:g2.get g1.next=J (.box ⟨[iD (.ofNat i)],[]⟩):=(l1.2 _ ab).trans yB;refine AD it (ud (λy=>[oc y C d]) step) (zm k g g.next n (λg'=>T g'/\g'.get g1.next=J (.box ⟨[iD (.ofNat i)],[]⟩)/\g1.next<g'.next) j) (Z,s1) hp rfl ⟨U.stay _ _ _ _ t (l2.mono ab),⟨c1,pg,ab⟩,E.lo l2 ab,oD,rfl,ab⟩ (λc s g' h=>h.c.1) (λc s g3 g4 h hl=>h.lo U hl ab ab ab (λg5 g6 w p=>⟨cs g5 g6 w.1 p.1 λi _ A=>p.2 i A,(p.2 _ ab).trans w.2.1,gE w.2.2 p.1⟩)) (λy q g3 hy R hN X=>?_) (λg3 R hN=>?_)
     . obtain⟨jF,mH⟩:=Ol hy;obtain⟨s0,q⟩:=q;simp only at jF mH;subst jF;have Vm:∀y f,tD step ((eN a).flatMap λy=>[oc y C d]) s1 y f->tD step ((eN a).map λy=>oc y C d) s y f:=by
        rintro y f⟨pre,post,p1,p2⟩;refine⟨dn++pre,post,?_,?_⟩;.grind[C8]
        grind[yh]
       have ey:=Vm _ _ (mH [] (oc y C d) [] q rfl rfl);have ns:ud (λy=>[oc y C d]) step y (Z,q)=((step (oc y C d) q).1.map λ_=>Code.ret,step (oc y C d) q):=by simp[ud,By]
       rw[ns];have Y:=hz y hy.mem;refine AH X rfl ?_;have Aj:=R.y;have Qh:=R.c.2.1;obtain⟨Bo,OF⟩:=M _ _ _ R.r;simp only[ae.cells,ae.bn,oX]at Bo;have e4:=ar0 y d ab Y;have s9:oM PP 60 (.ay (ae.bn (a::d)) 62 14) (J (.int .i64 1)) Z Z=_:=aKV (l:=ae.bn (a::d)) (n:=1) (by simp[ae.qS]) ab;have z1:(g2.next=g3.next)=False:=cK ab;have z2:(g2.next=g3.next+1)=False:=cK ab;have z3:(g3.next=g2.next)=False:=cK ab;have z4:(g3.next+1=g2.next)=False:=cK ab;have z5:(g.next=g3.next)=False:=cK ab;have z6:(g.next=g3.next+1)=False:=cK ab;have z7:(g.next=g2.next)=False:=cK ab;have z8:(b=g3.next)=False:=cK ab;have z9:(b=g3.next+1)=False:=cK ab;have tx:(b=g2.next)=False:=cK ab;have mn:(g3.next+1=g3.next)=False:=cK ab;have z12:(g3.next=g3.next+1)=False:=cK ab;have z13:(g1.next=g3.next)=False:=cK ab;have z14:(g1.next=g3.next+1)=False:=cK ab;have z15:(g1.next=g2.next)=False:=cK ab;have I:∃d9 O,oc y C d=⟨y.cM,d9,O⟩:=by simp[oc]
       obtain⟨d9,O,I⟩:=I;rw[I]at ey e4;rw[I];simp only[qR,Pr.rd,Edge.d]at e4|-;simp only[ae.bn,List.drop_succ_cons,xH]at s9;try simp only[go_sem]at e4
       simp only[go_sem,X,Aj,Bo,z1,z2,z3,z4,z5,z6,z7,z8,z9,tx,mn,z12,n1,d1,s9,e4];simp only[ux];refine y9 U ⟨y.cM,d9,O⟩ q rfl ey R.r (show k<=g2.next by omega) hN lA (λg4 r4 w=>?_);have q1:=w.2 g2.next ab (by grind[dS,gU]);simp only[go_sem,X,z1,z2]at q1;have fin:=λo=>R.next U lA w hk ab ab hN (λa b p h6 h7=>⟨cs a b p.1 h6 λi h8 h9=>h7 i ab h9,(h7 _ ab ab).trans p.2.1,gE p.2.2 h6⟩) (o:=o) r4;generalize step ⟨y.cM,d9,O⟩ q=z at*;obtain⟨c3,s4⟩:=z;rcases c3 with _|c3<;>simp only[rJ,rK,sN,gM]at fin|-<;>simp only[go_sem,q1]<;>exact⟨trivial,(fin _).1,(fin _).2,rfl⟩
     .rw[C',C8]at R;rw[C',C8];rw[yp]at R|-;obtain⟨r,_,h2,I,_,U4⟩:=R;generalize cR step ((eN a).map λy=>oc y C d) s=z at*;obtain⟨cz,sz⟩:=z;cases cz with|none=>have L:=L (sz,g3) (.inr ⟨ab,r,h2,by show g.next<g3.next;omega,rfl⟩);simp only[rK];simp only[go_sem]at L;simp only[go_sem,hw,L]|some cz=>simp only[gM,go_sem];exact⟨trivial,r,h2⟩
theorem azH{n:Nat}:p7 (gh l e n)=gh l e n:=by cases l<;>rfl
theorem az0{n:Nat}:p8 k (gh l e n)=gh l e n:=by cases l<;>rfl
theorem aIz{n:Nat}{t:db}:Gm ((k,gh l e n)::t)=Gm t:=by cases l<;>rfl
theorem Pr.JP(r:Pr):List.take 32 r.cells=r.cells:=by grind[Pr.dI]
theorem Pr.KN(r:Pr):List.drop 32 r.cells=[]:=by simp[Pr.dI]
attribute[go_sem]Pr.KN azH az0 aIz Pr.JP Pr.dI
def Qn(p:ae):bt->Nat->Int|[],_=>-1|q::l,i=>bif q.same p then .ofNat i else Qn p l (i+1)
def ju(e:Edge)(k:Int):Edge:=⟨e.src,k,e.var,e.ty,e.cond,e.opens,e.ma,e.jS,e.ki,e.inside⟩
def tE:ao->Nat->Nat->DV×aN|[],_,_=>(.nl,.any)|a::l,e,n=>(.ay (a::l) e n,.ex e)
theorem uz{l:List α}{n:Nat}(h:l≠[]):gh (l.map f) e n=.dv (.ay (l.map f) e n) (.ex e):=by
 cases l;.grind
 rfl
theorem zw{l:bt}(h:l≠[]):gh (ae.bn l) 62 14=.dv (.ay (ae.bn l) 62 14) (.ex 62):=by
 cases l;.grind
 rfl
theorem SI{l:List α}{n:Nat}(h:l≠[]):tE (l.map f) e n=(.ay (l.map f) e n,.ex e):=by
 cases l;.grind
 rfl
theorem zx{l:bt}(h:l≠[]):tE (ae.bn l) 62 14=(.ay (ae.bn l) 62 14,.ex 62):=by
 cases l;.grind
 rfl
theorem ahh{l:bt}(h:l≠[]):bK V (ae.bn l) 62 14=.ay (ae.bn l) 62 14:=by
 cases l;.grind
 rfl
theorem azR{n:Nat}:vQ k (gh l e n)=gh l e n:=by cases l<;>rfl
attribute[go_sem]azR
def zB{n:Nat}:tE [] e n=(.nl,.any):=rfl
theorem Edge.JP(e:Edge):List.take 17 e.cells=e.cells:=by grind[Edge.dI]
theorem aDn{o n a t v s p cond}(h:(ae.mk o n a t v s p cond).iV=0)(l:a.length<=64):(CZ o||cond.same J7)=V/\(CZ o=V->cond.nG=0)/\yX (ml o) t=V/\yX (ml o) v=V/\yX (AI o) s=V/\yX (GA o) p=V:=by simp only[ae.iV,F9]at h;cases b:(aA o 0||!aA o 11)with|true=>grind|false=>
 rw[b,ch,TA _ _ l]at h;rcases c:uA o a.length with _|_;.grind
 rcases d:(tX (ml o) t 15&&(tX (ml o) v 15&&(tX (AI o) s 63&&tX (GA o) p 1099511627776)))with _|_;.grind
 cases e:(CZ o&&!aj cond.nG 0)with|true=>simp_all[aj]|false=>grind[oj]
theorem aok{e:Expr}(h:e.nG=0):e.nn<=64:=by grind[Expr.nG,fX]
theorem aJG{e:Expr}(h:e.same J7=V):e.nn<=64:=by obtain⟨o,a,b,c,d,f,g,i,j⟩:=e;grind[Expr.nn,Expr.bP,J7,Expr.same,Expr.AG]
theorem aDm{q:ae}(h:q.iV=0)(l:q.args.length<=64):q.cond.nn<=64:=by obtain⟨op,nl,args,ty,var,scope,s,cond⟩:=q;obtain⟨a,b,_⟩:=aDn h l;cases c:CZ op with|true=>exact aok (b c)|false=>rw[c,xB]at a;exact aJG a
theorem amo(q:ae):q.args.length<=q.nn:=by obtain⟨op,nl,args,ty,var,scope,s,cond⟩:=q;grind[ae.mK,ae.args,ae.nn]
mutual
theorem OE : ∀ (p : ae) (w : Nat), (∀ q ∈ nodes p, q.cond.nn <= w) -> p.cn <= p.nn * (w + 1)
  | .mk o n args t v s a c, w, h => by
    have b := h (.mk o n args t v s a c) (by rw [nodes]; exact fU)
    have e := NK args w (λ q d => h q (by rw [nodes]; exact jy _ d))
    simp only [ae.cond] at b
    simp only [ae.cn, ae.nn, xK]; omega
theorem NK : ∀ (l : bt) (w : Nat), (∀ q ∈ eU l, q.cond.nn <= w) -> ae.gv l <= ae.bP l * (w + 1)
  | [], _, _ => by simp [ae.gv]
  | p :: l, w, h => by
    have b := OE p w (λ q a => h q (by rw [eU]; exact Kg _ a))
    have c := NK l w (λ q a => h q (by rw [eU]; exact Sz _ a))
    simp only [ae.gv, ae.bP, xK]; omega
end
structure GP(p:ae):Prop where
 o:lX p
 z:∀q∈nodes p,q.iV=0
 a:zD p
 n:p.nn<=64
 c:p.cn<=4160
 r:p.uF=0
theorem Tn(e:lX p)(h:p.uF=0):GP p:=by
 obtain⟨b,c,_⟩:=OK h;have z:=Lb b;have l:∀q∈nodes p,q.args.length<=64:=λq a=>by have:=ae.Wf p q a;grind[amo]
 refine⟨e,z,λq a=>?_,c,?_,h⟩;.have:=l q a;have d:=z q a;obtain⟨op,nl,args,ty,var,scope,s,cond⟩:=q;exact(We d this).2.1
 .have:=OE p 64 (λq a=>aDm (z q a) (l q a));omega
abbrev jR(p:ae):GO:=.box ⟨p.cells,[]⟩
theorem arU(p:ae)(g:GH):ev PP cf (.call 268 [.agg p.cells] .no g)=J (.val (.dv (.func 322 [] [.ptr g.next 0]) .no) (g.alloc (jR p))):=by refine aO func268 ?_;simp only[go_sem,f268]
theorem arV(p:ae)(g:GH):ev PP cf (.call 270 [.agg p.cells] .no g)=J (.val (.dv (.func 326 [] [.ptr g.next 0]) .no) (g.alloc (jR p))):=by refine aO func270 ?_;simp only[go_sem,f270]
theorem Lr(a q:ae)(g:GH):ev PP cf (.call 269 [.agg a.cells,.agg q.cells] .no g)=J (.val (.dv (.func 325 [] [.ptr g.next 0,.ptr (g.next+1) 0]) .no) ((g.alloc (jR a)).alloc (jR q))):=by refine aO func269 ?_;simp only[go_sem,f269]
theorem wz.mono{X:Type}{e:X->ao}{h:Nat}{f b:ao}{a O:GH->Prop}{x:List X}(d:∀g,O g->a g)(t:wz e h f b a x):wz e h f b O x:=λn k l r step s U i g hr j=>t n k l r step s U (λc s g hr=>d g (i c s g hr)) g hr j
def kU.st{a b:Nat}:∀g1 g2:GH,kU g1 k p->g1.next<=g2.next->(∀i,a<=i->i<b->g2.get i=g1.get i)->a<=k->k<b->kU g2 k p:=λ_ _ h c d e f=>⟨(d _ e f).trans h.1,gE h.2 c⟩
theorem aKU{x y:DV}:oM PP 60 (.ay [x,y] 62 14) (J (.int .i64 1)) (J (.int .i64 2)) (J (.int .i64 2))=J (.ay [y] 62 14,.full 62):=by rfl
theorem SH:∀p:ae,zD p->p.nn<=90->Hu p
 |.mk f e args t v s d c,D,G=>by
  have T:∀a∈args,Hu a:=λa r=>SH a (D.I6 r) (by have:=ae.sC args a r;simp only[ae.nn]at G;omega);have R:∀a∈args,∀x∈eN a,x.done=V->x.rest=zP:=λa r x H=>(Jq a (D.I6 r) x H).z;have L:∀a∈args,∀x∈eN a,∃n w,n<100000000/\iL n w x:=λa r x H=>⟨_,_,by have:=ae.sC args a r;simp only[ae.nn]at G;omega,Jq a (D.I6 r) x H⟩;clear SH;have A:=a38 args;simp only[ae.nn]at G;have d1:=aLn;have d2:=aLm;simp only[bp,opsOf,f219,go_sem]at d1 d2;have F:=D.ar;have P:aj f 0=C->∃a l,args=a::l:=λq=>by cases args with|nil=>exact absurd F (λh=>SR q h)|cons a l=>exact⟨a,l,rfl⟩
  intro g;have e2:=arU (.mk f e args t v s d c) (g.alloc (jR (.mk f e args t v s d c)));have e4:=arV (.mk f e args t v s d c) (g.alloc (jR (.mk f e args t v s d c)));simp only[jR,ae.cells,go_sem]at e2 e4;have l1:∀o,Lo g.next g (g.alloc o):=λo=>a13 (bT _);have l2:∀o z,Lo g.next g ((g.alloc o).alloc z):=λo z=>(l1 o).trans (a13 (by rw[dS];omega));have l3:∀o z O,Lo g.next g (((g.alloc o).alloc z).alloc O):=λo z O=>(l2 o z).trans (a13 (by simp only[dS];omega));have E:∀o,kU ((g.alloc o).alloc (jR (.mk f e args t v s d c))) (g.next+1) (.mk f e args t v s d c):=λo=>⟨by rw[kr];exact if_pos rfl,by simp only[dS];omega⟩;cases q:aj f 0 with
  |true=>
  refine⟨267,[.ptr g.next 0],λg'=>kU g' g.next (.mk f e args t v s d c),g.alloc (jR (.mk f e args t v s d c)),?_,l1 _,⟨by rw[kr,if_pos rfl],by rw[dS];omega⟩,λg1 g2 h j i=>kU.st g1 g2 h j i (bT _) (by rw[dS];omega),?_,λm=>rfl⟩;.refine aO func219 ?_;simp only[f219];simp only[go_sem,ae.cells,q];rfl
  .rw[eN,q,aR];exact(aze g.next f e args t v s d c).mono λg' h=>h.1|false=>obtain⟨a,l,rfl⟩:=P q;simp only[dD]at A;have r:=T a fU;have K:=R a fU;have M:=L a fU;simp only[ae.bn,oX]at e2 e4;cases j:aj f 1 with
  |true=>
  obtain rfl:=oj j;have Q:l≠[]:=by rintro rfl;exact absurd (show uA 1 1=V from F) ft
  refine⟨322,[.ptr (g.next+1) 0],λg'=>kU g' (g.next+1) (.mk 1 e (a::l) t v s d c),(g.alloc (jR (.mk 1 e (a::l) t v s d c))).alloc (jR (.mk 1 e (a::l) t v s d c)),?_,l2 _ _,E _,λg1 g2 h j i=>kU.st g1 g2 h j i ab (by simp only[dS];omega),?_,λm=>rfl⟩;.refine aO func219 ?_;simp only[f219];simp only[go_sem,ae.cells,ae.bn,oX,q,j,e2];rfl
  . have:eN (.mk 1 e (a::l) t v s d c)=(eN a).map λW=>oc W C l:=by rw[eN,<-C8];rfl
    rw[this];exact azg e a l t v s d c (g.next+1) ab Q r K|false=>cases i:aj f 2||aj f 3 with
  |true=>
    obtain⟨k,rfl⟩:∃k,f=bif k then 3 else 2:=by
      rw[AW]at i;rcases i with i|i;.exact⟨C,oj i⟩
      .exact⟨V,oj i⟩
    refine⟨322,[.ptr (g.next+1) 0],λg'=>kU g' (g.next+1) (.mk (bif k then 3 else 2) e (a::l) t v s d c),(g.alloc (jR (.mk (bif k then 3 else 2) e (a::l) t v s d c))).alloc (jR (.mk (bif k then 3 else 2) e (a::l) t v s d c)),?_,l2 _ _,E _,λg1 g2 h j i=>kU.st g1 g2 h j i ab (by simp only[dS];omega),?_,λm=>rfl⟩
    . refine aO func219 ?_;simp only[f219];cases k;.have N:aj 2 2=V:=rfl;simp only[ch]at q j e2|-;simp only[go_sem,ae.cells,ae.bn,oX,q,j,N,e2];rfl
      .have N:aj 3 2=C:=rfl;have q3:aj 3 3=V:=rfl;simp only[aR]at q j e2|-;simp only[go_sem,ae.cells,ae.bn,oX,q,j,N,q3,e2];rfl
    . have:eN (.mk (bif k then 3 else 2) e (a::l) t v s d c)=nv k (a::l) (a::l) 0:=by rw[eN,q,i];cases k<;>rfl
      rw[this];exact azf k e (a::l) t v s d c (g.next+1) (by simp only[dD];omega) T|false=>
    have U:aj f 2=C:=by cases h:aj f 2<;>rw[h]at i<;>first|rfl|exact absurd i aP
    have I:aj f 3=C:=by cases h:aj f 3<;>rw[h]at i<;>first|rfl|exact absurd i aP
    cases u:aj f 4 with|true=>
      obtain rfl:=oj u;have e3:=Lr a (.mk 4 e (a::l) t v s d c) (g.alloc (jR (.mk 4 e (a::l) t v s d c)));simp only[jR,ae.cells,ae.bn,oX,go_sem]at e3;refine⟨325,[.ptr (g.next+1) 0,.ptr (g.next+1+1) 0],λg'=>kU g' (g.next+1) a/\kU g' (g.next+1+1) (.mk 4 e (a::l) t v s d c),((g.alloc (jR (.mk 4 e (a::l) t v s d c))).alloc (jR a)).alloc (jR (.mk 4 e (a::l) t v s d c)),?_,l3 _ _ _,⟨⟨?_,?_⟩,⟨?_,?_⟩⟩,λg1 g2 h j i=>⟨kU.st g1 g2 h.1 j i ab (by simp only[dS];omega),kU.st g1 g2 h.2 j i ab (by simp only[dS];omega)⟩,?_,λm=>rfl⟩;.refine aO func219 ?_;simp only[f219];simp only[go_sem,ae.cells,ae.bn,oX,q,j,U,I,u,d1,e3];rfl
      .rw[kr,if_neg (by simp only[dS];omega),kr];exact if_pos rfl
      .simp only[dS];omega
      .rw[kr];exact if_pos rfl
      .simp only[dS];omega
      . have:eN (.mk 4 e (a::l) t v s d c)=(eN a).flatMap (ve (.mk 4 e (a::l) t v s d c) a):=by rw[eN];rfl
        rw[this];exact F2 a (.mk 4 e (a::l) t v s d c) a l _ _ r rfl|false=>cases B:aj f 8 with
      |true=>
        obtain rfl:=oj B;obtain⟨b,rfl⟩:∃b,l=[b]:=by have:=ku (n:=(a::l).length) rfl F;match l,this with|[b],_=>exact⟨b,rfl⟩
        have e3:=Lr a (.mk 4 V [b] 0 0 0 0 zE) (g.alloc (jR (.mk 8 e [a,b] t v s d c)));simp only[jR,ae.cells,ae.bn,oX,Expr.cells,Expr.bn,zN,go_sem]at e3;have S:=aKU (x:=.agg a.cells) (y:=.agg b.cells);refine⟨325,[.ptr (g.next+1) 0,.ptr (g.next+1+1) 0],λg'=>kU g' (g.next+1) a/\kU g' (g.next+1+1) (.mk 4 V [b] 0 0 0 0 zE),((g.alloc (jR (.mk 8 e [a,b] t v s d c))).alloc (jR a)).alloc (jR (.mk 4 V [b] 0 0 0 0 zE)),?_,l3 _ _ _,⟨⟨?_,?_⟩,⟨?_,?_⟩⟩,λg1 g2 h j i=>⟨kU.st g1 g2 h.1 j i ab (by simp only[dS];omega),kU.st g1 g2 h.2 j i ab (by simp only[dS];omega)⟩,?_,λm=>rfl⟩;.refine aO func219 ?_;simp only[f219];simp only[go_sem,ae.cells,ae.bn,oX,q,j,U,I,u,B,d2,S,e3];rfl
        .rw[kr,if_neg (by simp only[dS];omega),kr];exact if_pos rfl
        .simp only[dS];omega
        .rw[kr];exact if_pos rfl
        .simp only[dS];omega
        . have:eN (.mk 8 e [a,b] t v s d c)=(eN a).flatMap (ve (.mk 4 V [b] 0 0 0 0 zE) b):=by rw[eN];rfl
          rw[this];exact F2 a (.mk 4 V [b] 0 0 0 0 zE) b [] _ _ r rfl|false=>
        refine⟨326,[.ptr (g.next+1) 0],λg'=>kU g' (g.next+1) (.mk f e (a::l) t v s d c),(g.alloc (jR (.mk f e (a::l) t v s d c))).alloc (jR (.mk f e (a::l) t v s d c)),?_,l2 _ _,E _,λg1 g2 h j i=>kU.st g1 g2 h j i ab (by simp only[dS];omega),?_,λm=>rfl⟩;.refine aO func219 ?_;simp only[f219];simp only[go_sem,ae.cells,ae.bn,oX,q,j,U,I,u,B,e4];rfl
        . have:eN (.mk f e (a::l) t v s d c)=(eN a).flatMap (sD (.mk f e (a::l) t v s d c)):=by rw[eN,q,i,ch,ch,Cf];congr 1;funext x;rw[Ca,u,ch]
          rw[this];exact azh f e a l t v s d c (g.next+1) r j u B M termination_by p=>pM p decreasing_by simp_wf;have:=pI r;omega
theorem arO(p q:ae)(b:Nat)(g:GH)(h:g.get b=J (jR p))(a:p.cn<100000000):ev PP cf (.call 224 ([]++[.agg q.cells]++[.ptr b 0]) .no g)=J (.val (.dv (.bool (p.same q)) .no) g):=by have e1:=O7 p q a;refine aO func224 ?_;simp only[f224];simp only[go_sem,h,e1]
theorem arP(p q:ae)(b:Nat)(g:GH)(h:g.get b=J (jR p))(a:q.cn<100000000):ev PP cf (.call 227 ([]++[.agg q.cells]++[.ptr b 0]) .no g)=J (.val (.dv (.bool (q.same p)) .no) g):=by have e1:=O7 q p a;refine aO func227 ?_;simp only[f227];simp only[go_sem,h,e1]
theorem LK(n:Bool)(l:bt)(p:ae)(a:l.length<1200000)(h:p.cn<100000000):∃g,CC 170 [bK n (ae.bn l) 62 14,.agg p.cells] (.val (.dv (iD (iU p.same l 0)) .no) g):=by have e1:=Pc (d:=λe=>.agg (ae.cells e)) (q:=p.same) 224 [] [.ptr 0 0] (GH.empty.alloc (jR p)) n l ab (λx _=>.inl ⟨aL,aL,arO p x 0 _ rfl h⟩) (.inr (.inr (.inr (.inl rfl)))) (λx=>⟨rfl,ae.dI x⟩);rw[<-a56]at e1;refine⟨GH.empty.alloc (jR p),aO func170 ?_⟩;simp only[go_sem]at e1;simp only[f170];simp only[go_sem,e1]
theorem arA(n:Bool)(l:bt)(p:ae)(c:l.length<1200000)(h:∀a∈l,a.cn<100000000):∃g,CC 174 [bK n (ae.bn l) 62 14,.agg p.cells] (.val (.dv (iD (iU (λa=>a.same p) l 0)) .no) g):=by have e1:=Pc (d:=λe=>.agg (ae.cells e)) (q:=λa=>a.same p) 227 [] [.ptr 0 0] (GH.empty.alloc (jR p)) n l ab (λx b=>.inl ⟨aL,aL,arP p x 0 _ rfl (h x b)⟩) (.inr (.inr (.inr (.inl rfl)))) (λx=>⟨rfl,ae.dI x⟩);rw[<-a56]at e1;refine⟨GH.empty.alloc (jR p),aO func174 ?_⟩;simp only[go_sem]at e1;simp only[f174];simp only[go_sem,e1]
def Edge.Z2(e d:Edge):Bool:=aj e.var d.var&&(aj e.ty d.ty&&(e.cond.same d.cond&&(ly aj e.opens.l d.opens.l&&(ly aj e.ma.l d.ma.l&&(ly Expr.same e.jS.l d.jS.l&&(ly Nt e.ki.l d.ki.l&&ly aj e.inside.l d.inside.l))))))
theorem Edge.aJx(e d:Edge):e.Z2 d=e.same d:=by grind[Edge.Z2,Edge.same]
theorem arN(e d:Edge)(a:xF e):CC 222 [e.d,d.d] (vB (e.same d)):=by rw[<-Edge.aJx];have e1:=EG e.cond d.cond (by have:=a.c;omega);have e2:=HT e.opens d.opens (by have:=a.o;omega);have e3:=HT e.ma d.ma (by have:=a.p;omega);have e4:=HT e.inside d.inside (by have:=a.i;omega);have e5:=ady e.ki d.ki (by have:=a.l;omega);have e6:=adx e.jS d.jS (by have:=a.k;omega) a.e;simp only[go_sem]at e2 e3 e4 e5 e6;refine aO func222 ?_;simp only[f222];simp only[go_sem,Edge.d,Edge.cells,Edge.Z2];repeat'(with_reducible apply sp<;>intro h<;>simp only[h,e1,e2,e3,e4,e5,e6,go_sem])
def Edge.Cq(x y:Edge):Bool:=aj x.dst y.dst&&x.same y
abbrev Ey(x:Edge):GO:=.box ⟨x.cells,[]⟩
theorem arM(x y:Edge)(b:Nat)(g:GH)(a:g.get b=J (Ey x))(e:xF x):ev PP cf (.call 221 ([]++[y.d]++[.ptr b 0]) .no g)=J (.val (.dv (.bool (x.Cq y)) .no) g):=by have e1:=arN x y e;refine aO func221 ?_;simp only[Ey,Edge.d,Edge.cells,go_sem]at e1 a;simp only[f221];simp only[go_sem,a,Edge.Cq,Edge.d,Edge.cells];repeat'(with_reducible apply sp<;>intro h<;>simp only[h,e1,a,go_sem])<;>first|done|rw[Z8 a]
def JB:ah bt->bh|none=>.val (.tp [(.nl,.any),iO 17]) .empty|some o=>.val (.tp [tE (ae.bn o) 62 14,iO 0]) .empty
theorem Tl(a:lX p)(h:p.ji=0):GP p:=by grind[Tn,Se,OJ]
mutual
def jz : ae -> List Guard
  | .mk op _ args ty var scope _ cond => bif aj op 9 then ⟨scope, ty, var, cond⟩ :: sR args else bif aj op 1 || (aj op 8 || (aj op 10 || aj op 7)) then sR args else bif aj op 3 then Bf args else []
def sR : bt -> List Guard
  | [] => []
  | a :: _ => jz a
def Bf : bt -> List Guard
  | [] => []
  | a :: l => jz a ++ Bf l
end
mutual
theorem Hw : ∀ p : ae, (jz p).length <= p.nn
  | .mk op _ args ty var scope _ cond => by
    have h := alA args
    have a := abc args
    rw [jz, ae.nn]
    cases aj op 9 <;> cases (aj op 1 || (aj op 8 || (aj op 10 || aj op 7))) <;> cases aj op 3 <;> simp <;> omega
theorem alA : ∀ l : bt, (sR l).length <= ae.bP l
  | [] => bT _
  | a :: l => by have := Hw a; rw [sR, ae.bP]; omega
theorem abc : ∀ l : bt, (Bf l).length <= ae.bP l
  | [] => bT _
  | a :: l => by have := Hw a; have := abc l; rw [Bf, ae.bP, gR]; omega
end
theorem abr{n:ao}(h:l.length+n.length<1000):fE 344 11 112 (.ay l 344 11) (.ex 344) n=J (.ay (l++n) 344 11,.ex 344):=by grind[qO,bm]
theorem al9{n b:Nat}{o:aN}(h:n≠0):fE e n b .nl o []=J (.nl,.any):=by grind[fE,kT,bz]
theorem abt{l:List α}{n b:Nat}(c:n≠0)(a:b<=1000)(h:l≠[])(g:l.length<1200000){o:aN}:fE e n b .nl o (l.map f)=J (.ay (l.map f) e n,.ex e):=by
 unfold fE;rw[kT c];have d:(l.map f).length*b<=bm:=by have:=qL (show l.length<=1200000 by omega) a;grind[bm]
 grind[bm,nB]
theorem i5(l:List Guard):((l.map Guard.d).all λy=>decide (y.flat.length=11))=V:=by simp[DV.flat,Guard.d,Guard.dI]
def BB(l:List Guard):cj (l.map Guard.d)=V:=ig Guard.pure _
def Cb:ah DV->ah aN->aN|some .nl,_=>.any|_,x=>x.getD .no
section
variable{P:aH}{u:iM}{t:an}{D:ao}{os:List (Nat×aN)}{o:Nat×aN}{I e a c:Nat}{b:LB}{l:ao}{d:DV}{x:ah aN}
theorem aiy:eB ⟨D,o::os⟩ I=Cb (D[I]?) (look (o::os) I):=by
 show(match D[I]? with|some .nl=>aN.any|_=>(look _ _).getD _)=_;rcases D[I]? with _|d;.rfl
 cases d<;>rfl
theorem HO(h:bN P t=J C):fI P u t ⟨D,o::os⟩ I=(D[I]?).bind λd=>J (pB u ⟨D,o::os⟩ I d (eB ⟨D,o::os⟩ I)):=by grind[fI]
theorem aGf:Cb (J .nl) x=.any:=rfl
theorem aGe:Cb (J (.ay l a c)) x=x.getD .no:=rfl
theorem aGd{k:fT}{n:Int}:Cb (J (.int k n)) x=x.getD .no:=rfl
theorem aGb:Cb (J (.agg l)) x=x.getD .no:=rfl
theorem aGc{z:Bool}:Cb (J (.bool z)) x=x.getD .no:=rfl
theorem aGg{z:aE}:Cb (J (.str z)) x=x.getD .no:=rfl
theorem aIw:pB .take b I d (.ex e)=(.dv d (.ex e),{cells:=iJ b.cells I .jk,own:=dg b.own I 1}):=rfl
theorem aIv:pB .take b I d .any=(.dv d .any,b):=rfl
theorem aIx:pB .take b I d .no=(.dv d .no,b):=rfl
theorem aIo:pB .len b I (.ay l a c) (.ex e)=(.hd l.length,b):=rfl
theorem aIn:pB .len b I d .any=(.dv d .no,b):=rfl
theorem aIp:pB .len b I d .no=(.dv d .no,b):=rfl
theorem aIl:pB .copy b I d .no=(.dv d .no,b):=rfl
theorem aIj:pB .copy b I d .any=(.dv d .no,b):=rfl
theorem aIk:pB .copy b I d (.ex e)=(.dv d .no,{b with own:=(I,.ty e)::dg b.own I 1}):=rfl
theorem aIs:pB .ref b I d (.ex e)=(.dv d .no,{b with own:=(I,.ty e)::dg b.own I 1}):=rfl
theorem aIt:pB .ref b I d .no=(.dv d .no,b):=rfl
theorem aIr:pB .ref b I d .any=(.dv d .no,b):=rfl
theorem getD_none{a:α}:(Z:ah α).getD a=a:=rfl
end
attribute[go_sem]aiy HO aGf aGe aGd aGb aGc aGg aIw aIv aIx aIo aIn aIp aIl aIj aIk aIs aIt aIr getD_none Iv
def sU(l:bt)(i:Nat)(r:bt)(x:Edge):Edge:=⟨.ofNat i,bif aA x.dst 0 then x.dst else Qn (r.getD x.dst.toNat zP) l 0,x.var,x.ty,x.cond,x.opens,x.ma,x.jS,x.ki,x.inside⟩
theorem FF{l:List α}{n:Nat}(h:l≠[]):bK V (l.map f) e n=.ay (l.map f) e n:=by
 cases l;.grind
 rfl
def uJ(s:gk)(e:Edge)(r:bt):ah bM×(gk×bt):=bif s.any e.Cq then(Z,(s,r))else bif aA 2048 (.ofNat (s++[e]).length)then(J .ret,(s++[e],r))else(Z,(s++[e],r))
def gP(x:Pr)(s:gk×bt):ah bM×(gk×bt):=bif x.done then uJ s.1 (ju x.cM (-1)) s.2 else bif aA (iU x.rest.same s.2 0) 0 then(bif aj x.rest.uF 0 then uJ s.1 (ju x.cM (.ofNat s.2.length)) (s.2++[x.rest])else(J .ret,s))else uJ s.1 (ju x.cM (iU x.rest.same s.2 0)) s.2
section
variable{P:aH}{t fn n id I e:Nat}{sl:db}{lb:ew}{g:GH}{d:ah Tmp}{b:LB}{dd:DV}{l new:ao}
theorem aAW:sj P t .copy ⟨fn,n,sl,lb,g⟩ d id I (.box b)=(fI P .copy t b I).bind λr=>aG ⟨fn,n,sl,lb,g.set id (.box r.2)⟩ d r.1:=by simp[sj]
theorem EV:sj P t .take ⟨fn,n,sl,lb,g⟩ d id I (.box b)=(fI P .take t b I).bind λr=>aG ⟨fn,n,sl,lb,g.set id (.box r.2)⟩ d r.1:=by simp[sj]
theorem aAX:sj P t .len ⟨fn,n,sl,lb,g⟩ d id I (.box b)=(fI P .len t b I).bind λr=>aG ⟨fn,n,sl,lb,g.set id (.box r.2)⟩ d r.1:=by simp[sj]
theorem aIm:pB .copy b I dd (.ty e)=(.dv dd .no,b):=rfl
theorem aIq:pB .len b I dd (.ty e)=(.dv dd .no,b):=rfl
theorem aIy:pB .take b I dd (.ty e)=(.dv dd (.ty e),{b with own:=dg b.own I 1}):=rfl
theorem abx{b:Nat}(c:n≠0)(h:(l.length+new.length)*b<=bm)(a:l.length+new.length<=bm):fE e n b (.ay l e n) (.ty e) new=J (.ay (l++new) e n,.ty e):=by grind[fE,kT,pJ,nB]
end
theorem aFI:mM I (.ay l m k) (.ty e)=[(I,.ty e)]:=rfl
theorem aFJ:mM I (.ay l m k) (.ex e)=[(I,.ex e)]:=rfl
def ME(o:Nat):GO->ah DV|.box b=>(match b.cells[o]?,eB b o with|some d,.ex _=>J d|_,_=>Z)|_=>Z
theorem asB{n i:Nat}{s:db}:EI ⟨fn,n,s,lb,g⟩ i I=(g.get i).bind (ME I):=by
 show(match g.get i with|some (.box b)=>_|_=>Z)=_;rcases g.get i with _|o;.rfl
 cases o<;>rfl
theorem asC{a:Nat}:ME 0 (.box ⟨[.ay l a m],[(0,.ex k)]⟩)=J (.ay l a m):=rfl
theorem aFU{s:St}:cZ cf.aq s (.const (.agg #[.int .i64 0,.slice Z 0 0,.int .i64 0,.int .i64 0,.int .i64 0,.int .i64 0,.int .i64 0,.slice Z 0 0,.int .i64 0,.int .i64 0,.int .i64 0,.int .i64 0,.int .i64 0,.string ⟨#[]⟩]))=J (.dv (.agg [iD 0,.nl,iD 0,iD 0,iD 0,iD 0,iD 0,.nl,iD 0,iD 0,iD 0,iD 0,iD 0,.str []]) .no):=by rfl
theorem ayn{t:St}{d:ah Tmp}{i n:Nat}{x:ao}(h:aW P e=J n):Ak P t d (.tmp s) i (J (.slice e)) (.dv (.ay x e n) (.ex k))=bif cw i x.length then aG t d (.se s i 0)else Z:=by show(aW P e).bind _=_;simp_all
attribute[go_sem]ayn
theorem aGu:uf .nl=.any:=rfl
attribute[go_sem]aGu aFU
attribute[go_sem]asB asC aFI aFJ aAW EV aAX aIm aIq aIy
theorem RH{c:bV}{r:dW}{l:ah Nat}{i:Nat}{o:List aB}{s:St}{k:eH->ah bh}(a b:List Unit)(h:nI c st0 o=V)(f:AO c o=[(a.length,a.length+1+b.length)])(j:DE o (a.length+1+(b.length+1))=V)(d:Sat (Js P c r (c.tL s.fn) (c.zI s.fn) (.mk o (.mk o)) b a (.mk o (.mk o)) (FM (c.keep s.fn i) k) s) Q):Sat (exec P c r l (.region i ⟨o⟩ V) s k) Q:=by obtain⟨v,g,e,q⟩:=d;exact⟨v,g,Ua a b h f j e,q⟩
def tH(e:gk)(o:aN):GO:=match e with|[]=>.box ⟨[.nl],[]⟩|a::l=>.box ⟨[.ay ((a::l).map Edge.d) 281 17],[(0,o)]⟩
def xV:bt->GO|[]=>.box ⟨[.nl],[]⟩|a::l=>.box ⟨[.ay (ae.bn (a::l)) 62 14],[(0,.ex 62)]⟩
theorem rP{o:aN}(h:es≠[]):tH es o=.box ⟨[.ay (es.map Edge.d) 281 17],[(0,o)]⟩:=by
 cases es;.grind
 .rfl
theorem Bn{r:bt}(h:r≠[]):xV r=.box ⟨[.ay (ae.bn r) 62 14],[(0,.ex 62)]⟩:=by
 cases r;.grind
 .rfl
theorem CU{x:Edge}{o:aN}:tH (es++[x]) o=.box ⟨[.ay (es.map Edge.d++[x.d]) 281 17],[(0,o)]⟩:=by simp[rP]
theorem S'{r:bt}{x:ae}:xV (r++[x])=.box ⟨[.ay (ae.bn r++[.agg x.cells]) 62 14],[(0,.ex 62)]⟩:=by rw[Bn aP,ae.Bt];rfl
structure akR(cap:GH->Prop)(ps:List Pr)(c:ah bM)(s:gk×bt)(g:GH):Prop where e:∃o,(o=.ex 281\/o=.ty 281)/\g.get 4=J (tH s.1 o)p:g.get 5=J (xV s.2)a:g.get 1=J (.box ⟨[.nl],[]⟩)b:g.get 2=J (.box ⟨[.nl],[]⟩)d:g.get 3=J (.box ⟨[iD (bif c.isSome then 17 else 0)],[]⟩)c:cap g
theorem Ur:∀(l:List Pr)(s:gk×bt),(∀x∈l,lX x.rest)->(∀q∈s.2,GP q)->(cR gP l s).2.1.length<=s.1.length+l.length/\(cR gP l s).2.2.length<=s.2.length+l.length/\∀q∈(cR gP l s).2.2,GP q
 |[],s,_,h=>⟨bT _,bT _,h⟩|x::l,s,i,h=>by
  have j:∀y∈l,lX y.rest:=λy m=>i y (jy _ m);have f:∀e r,(uJ s.1 e r).2.1.length<=s.1.length+1/\(uJ s.1 e r).2.2=r:=by intro e r;unfold uJ;cases s.1.any e.Cq with|true=>exact⟨Ki _,rfl⟩|false=>cases aA 2048 (.ofNat (s.1++[e]).length)with|true=>exact⟨aP,rfl⟩|false=>exact⟨aP,rfl⟩
  have g:(gP x s).2.1.length<=s.1.length+1/\(gP x s).2.2.length<=s.2.length+1/\∀q∈(gP x s).2.2,GP q:=by unfold gP;cases x.done with|true=>rw[aR];obtain⟨a,b⟩:=f (ju x.cM (-1)) s.2;rw[b];exact⟨a,ab,h⟩|false=>rw[ch];cases aA (iU x.rest.same s.2 0) 0 with|false=>rw[ch];obtain⟨a,b⟩:=f (ju x.cM (iU x.rest.same s.2 0)) s.2;rw[b];exact⟨a,ab,h⟩|true=>rw[aR];cases k:aj x.rest.uF 0 with|false=>exact⟨by show s.1.length<=_;omega,by show s.2.length<=_;omega,h⟩|true=>
   rw[aR];obtain⟨a,b⟩:=f (ju x.cM (.ofNat s.2.length)) (s.2++[x.rest]);rw[b];refine⟨a,aP,λq d=>?_⟩;rcases CH.1 d with d|d;.exact h q d
   .rw[CJ.1 d];exact Tn (i x fU) (oj k)
  rw[vA,dD];cases(gP x s).1 with|some c=>exact⟨by show(gP x s).2.1.length<=_;omega,by show(gP x s).2.2.length<=_;omega,g.2.2⟩|none=>obtain⟨a,b,c⟩:=Ur l (gP x s).2 j g.2.2;exact⟨by show(cR gP l (gP x s).2).2.1.length<=_;omega,by show(cR gP l (gP x s).2).2.2.length<=_;omega,c⟩
theorem aL2(x:Pr)(s:gk×bt)(c:bM)(h:(gP x s).1=J c):c=.ret:=by grind[uJ,gP]
theorem IK:∀(l:List Pr)(s:gk×bt)(c:bM),(cR gP l s).1=J c->c=.ret|[],_,_,h=>by cases h|x::l,s,c,h=>by rw[vA]at h;cases a:(gP x s).1 with|none=>rw[a]at h;exact IK l _ c h|some d=>rw[a]at h;exact aL2 x s c (by rw[a];exact h)
def fB(p:ae):Int×(gk×bt):=match(cR gP (eN p) ([],[])).1 with|none=>(0,(cR gP (eN p) ([],[])).2)|some _=>(17,[],[])
def xN(e:gk)(o:aN):DV×aN:=match e with|[]=>(.nl,.any)|a::l=>(.ay ((a::l).map Edge.d) 281 17,o)
def Hv{o:aN}:xN [] o=(.nl,.any):=rfl
theorem Be{o:aN}(h:es≠[]):xN es o=(.ay (es.map Edge.d) 281 17,o):=by
 cases es;.grind
 .rfl
theorem LP(p:ae)(P:GP p):Sat (ev PP cf (.call 169 [.agg p.cells] .no .empty)) λv _=>∃o,(o=.ex 281\/o=.ty 281)/\v=.tp [xN (fB p).2.1 o,tE (ae.bn (fB p).2.2) 62 14,iO (fB p).1]:=by
 refine nw func169 ?_;obtain⟨h,ca,cap,g1,e1,l1,c1,M,it,hp⟩:=SH p P.a (by have:=P.n;omega) ⟨6,[(0,jR p),(1,.box ⟨[.nl],[]⟩),(2,.box ⟨[.nl],[]⟩),(3,.box ⟨[iD 0],[]⟩),(4,.box ⟨[.nl],[]⟩),(5,.box ⟨[.nl],[]⟩)]⟩;have k0:=l1.2 1 (by show 1<6;decide);have k1:=l1.2 2 (by show 2<6;decide);have k2:=l1.2 3 (by show 3<6;decide);have k3:=l1.2 4 (by show 4<6;decide);have k4:=l1.2 5 (by show 5<6;decide);have hn:6<=g1.next:=l1.1;simp only[f169];simp only[go_sem,e1];have IJ:=Jq p P.a;have cW:=(Rj p).1;have hsq:p.nn*p.nn<=4096:=qL P.n P.n;refine AD it gP (akR cap (eN p)) ([],[]) hp rfl ⟨⟨.ex 281,.inl rfl,k3⟩,k4,k0,k1,k2,c1⟩ (λc s g' h=>h.c) (λc s g3 g4 h R=>⟨let⟨o,l,D⟩:=h.e;⟨o,l,(R.2 4 ab).trans D⟩,(R.2 5 ab).trans h.p,(R.2 1 ab).trans h.a,(R.2 2 ab).trans h.b,(R.2 3 ab).trans h.d,M _ _ h.c R.1 λi _ hi=>R.2 i hi⟩) (λx s g2 hx hR hN L=>?_) (λg2 hR hN=>?_)
 . have pZ:=hx.mem;have hxb:=IJ x pZ;have afJ:∀x∈eN p,lX x.rest:=λx hx=>(IJ x hx).pat (by have:=P.n;omega) (by have:=P.c;omega);have hlen:s.1.length<=4096/\s.2.length<=4096/\∀aa∈s.2,GP aa:=by obtain⟨pre,post,l,D⟩:=hx;have:=Ur pre ([],[]) (λy hy=>afJ y (by rw[l];exact Kg _ hy)) (λaa h=>absurd h lV);rw[D]at this;have R:=gT List.length l;rw[gR]at R;simp only[gL]at this;exact⟨ab,ab,this.2.2⟩
   obtain⟨⟨oe,Q,r1⟩,r2,m,t,r,N⟩:=hR;refine AH L rfl ?_;have n:∀i,i<=6->(i=g2.next)=False:=λi h=>cK ab;have b:∀i,i<=6->(i=g2.next+1)=False:=λi h=>cK ab;have K:∀i,i<=6->(g2.next=i)=False:=λi h=>cK ab;have E:∀i,i<=5->(g1.next=i)=False:=λi h=>cK ab;have n6:∀i,i<=6->(g2.next+1=i)=False:=λi h=>cK ab;have f:∀i,i<=5->(i=g1.next)=False:=λi h=>cK ab;have O:∀i,6<=i->i<g1.next->(∀k,k<=5->(i=k)=False)/\(i=g1.next)=False/\(i=g2.next)=False/\(i=g2.next+1)=False:=λi l D=>⟨λk h=>cK ab,cK ab,cK ab,cK ab⟩;have w:(g1.next=g2.next)=False:=cK ab;have A:(g1.next=g2.next+1)=False:=cK ab;have u:(g2.next=g1.next)=False:=cK ab;have z4:(g2.next+1=g1.next)=False:=cK ab;have mn:(g2.next+1=g2.next)=False:=cK ab;have a:(g2.next=g2.next+1)=False:=cK ab;obtain⟨⟨src,G,var,ty,⟨S,T,U,W,X,Y,o7,o8,o9⟩,H,F,uG,uX,ins⟩,done,rest⟩:=x;obtain⟨es,I⟩:=s;simp only at r1 r2 hlen;have OS:=λ(e:Edge)(j:xF e)(g:GH)(hb:g.get g2.next=J (Ey e))=>HV (d:=Edge.d) (q:=e.Cq) 221 [] [.ptr g2.next 0] g V es ab (λy hy=>.inl ⟨aL,aL,arM e y g2.next g hb j⟩) (.inr (.inr (.inl rfl))) (λx=>⟨rfl,Edge.dI x⟩);simp only[qR,Pr.rd,Edge.d,Edge.cells,Expr.cells];have hE:∀k,xF (ju ⟨src,G,var,ty,⟨S,T,U,W,X,Y,o7,o8,o9⟩,H,F,uG,uX,ins⟩ k):=λk=>let h:=(hxb.ok (by have:=P.n;omega) (by have:=P.c;omega)).e
   ⟨h.c,h.k,h.e,h.o,h.p,h.i,h.l⟩;have ha:∀x:DV,fE 281 17 240 (.ay (es.map Edge.d) 281 17) (.ty 281) [x]=J (.ay (es.map Edge.d++[x]) 281 17,.ty 281):=λe=>abx ft (by show(List.length (es.map Edge.d)+1)*240<=bm;rw[fO];unfold bm;omega) (by show List.length (es.map Edge.d)+1<=bm;rw[fO];unfold bm;omega);have d3:dg [(0,.ex 62)] 0 1=[]:=rfl;have d0:dg [] 0 1=[]:=rfl;have d1:dg [(0,.ex 281)] 0 1=[]:=rfl;have d2:dg [(0,.ty 281)] 0 1=[]:=rfl;cases done with
   |true=>
   simp only[gP,aR];have e9:=OS _ (hE (-1));unfold uJ;generalize hq:es.any (Edge.Cq (ju ⟨src,G,var,ty,⟨S,T,U,W,X,Y,o7,o8,o9⟩,H,F,uG,uX,ins⟩ (-1)))=aa at*;simp only[Ey,ju,Edge.cells,Expr.cells,go_sem]at e9;rcases pG (es=[])with j|j;.subst j;simp only[tH]at r1;simp only[eM,zN]at e9;simp only[go_sem,L,w,A,u,z4,mn,a,n,b,f,r1,e9];have l1:aA 2048 (.ofNat 1)=C:=rfl;apply hJ<;>intro h<;>simp only[h,l1,go_sem,L,w,A,u,a,n,b,f,E,r1];all_goals refine⟨rfl,⟨⟨.ex 281,.inl rfl,?_⟩,?_,?_,?_,?_,M _ _ N ?_ (λi l D=>?_)⟩,oz,rfl⟩<;>first|(simp only[dS,gU];omega)|(simp only[go_sem,n,b,f,r1,tH,r2,m,t,r,sO,gb,eM,ju,Edge.d,Edge.cells,Expr.cells];done)|simp only[go_sem,O i l ab]
   . rw[rP j]at r1;rw[FF j]at e9;have BE:es++[ju ⟨src,G,var,ty,⟨S,T,U,W,X,Y,o7,o8,o9⟩,H,F,uG,uX,ins⟩ (-1)]≠[]:=aP;rcases Q with rfl|rfl;.simp only[go_sem,L,w,A,u,z4,mn,a,n,b,f,K,r1,e9,d1];apply hJ<;>intro h<;>simp only[h,go_sem,L,w,A,u,a,n,b,f,K,E,r1,d2,ha,gR,dD,gL,fO,kG];rotate_left;refine hJ (λB=>?_) (λB=>?_)<;>simp only[B,go_sem,L,w,A,n,b,f,E,m,t,r];all_goals refine⟨rfl,⟨⟨.ty 281,.inr rfl,?_⟩,?_,?_,?_,?_,M _ _ N ?_ (λi l D=>?_)⟩,oz,rfl⟩<;>first|(simp only[dS,gU];omega)|(simp only[go_sem,n,b,f,r1,rP j,r2,m,t,r,sO,CU,ju,Edge.d,Edge.cells,Expr.cells];done)|simp only[go_sem,O i l ab]
     .simp only[go_sem,L,w,A,u,z4,mn,a,n,b,f,r1,e9];apply hJ<;>intro h<;>simp only[h,go_sem,L,w,A,u,a,n,b,f,K,r1,d2,ha,gR,dD,gL,fO,kG];rotate_left;refine hJ (λB=>?_) (λB=>?_)<;>simp only[B,go_sem,L,w,A,n,b,f,E,m,t,r];all_goals refine⟨rfl,⟨⟨.ty 281,.inr rfl,?_⟩,?_,?_,?_,?_,M _ _ N ?_ (λi l D=>?_)⟩,oz,rfl⟩<;>first|(simp only[dS,gU];omega)|(simp only[go_sem,n,b,f,r1,rP j,r2,m,t,r,sO,CU,ju,Edge.d,Edge.cells,Expr.cells];done)|simp only[go_sem,O i l ab]
   |false=>
   have hpx:=afJ _ pZ;have Lv:=(hxb.ok (by have:=P.n;omega) (by have:=P.c;omega)).p;simp only at hpx Lv;obtain⟨gz,e8⟩:=LK V I rest ab Lv;obtain⟨_,g0,h0,rfl⟩:=O5 rest hpx;have b1:=aJH;have b2:=aJW;simp only[bp,opsOf,f169,go_sem]at b1 b2;simp only[gP,ch];rcases pG (I=[])with hr|hr
   . subst hr;have i1:iU rest.same [] 0=-1:=rfl;have i2:aA (-1) 0=V:=rfl;simp only[xV]at r2;simp only[ae.bn,zN,i1]at e8;simp only[i1,i2,aR];simp only[go_sem,L,w,A,u,z4,mn,a,n,b,f,r2,e8,i2,h0];apply hJ<;>intro h<;>simp only[h,go_sem,L,w,A,u,a,n,b,f,E,r2,m,t,r]
     . refine RH [(),(),(),(),(),(),()] [] b2 b1 rfl ?_;simp only[go_sem,z4,mn,n,b,f,r2];have e9:=OS _ (hE (0));unfold uJ;generalize hq:es.any (Edge.Cq (ju ⟨src,G,var,ty,⟨S,T,U,W,X,Y,o7,o8,o9⟩,H,F,uG,uX,ins⟩ (0)))=aa at*;simp only[Ey,ju,Edge.cells,Expr.cells,go_sem]at e9;rcases pG (es=[])with j|j;.subst j;simp only[tH]at r1;simp only[eM,zN]at e9;simp only[go_sem,u,a,n,b,f,K,r1,e9];have l1:aA 2048 (.ofNat 1)=C:=rfl;apply hJ<;>intro h<;>simp only[h,l1,go_sem,L,w,A,u,a,n,b,f,K,E,r1];all_goals refine⟨rfl,⟨⟨.ex 281,.inl rfl,?_⟩,?_,?_,?_,?_,M _ _ N ?_ (λi l D=>?_)⟩,oz,rfl⟩<;>first|(simp only[dS,gU];omega)|(simp only[go_sem,n,b,f,r1,tH,r2,xV,ae.bn,m,t,r,sO,gb,eM,ju,Edge.d,Edge.cells,Expr.cells];done)|simp only[go_sem,O i l ab]
       . rw[rP j]at r1;rw[FF j]at e9;have BE:es++[ju ⟨src,G,var,ty,⟨S,T,U,W,X,Y,o7,o8,o9⟩,H,F,uG,uX,ins⟩ (0)]≠[]:=aP;rcases Q with rfl|rfl;.simp only[go_sem,u,a,K,r1,e9,d1];apply hJ<;>intro h<;>simp only[h,go_sem,L,w,A,u,a,n,b,f,K,E,r1,d2,ha,gR,dD,gL,fO,kG];rotate_left;refine hJ (λB=>?_) (λB=>?_)<;>simp only[B,go_sem,L,w,A,n,b,f,E,m,t,r];all_goals refine⟨rfl,⟨⟨.ty 281,.inr rfl,?_⟩,?_,?_,?_,?_,M _ _ N ?_ (λi l D=>?_)⟩,oz,rfl⟩<;>first|(simp only[dS,gU];omega)|(simp only[go_sem,n,b,f,r1,rP j,r2,xV,ae.bn,m,t,r,sO,CU,ju,Edge.d,Edge.cells,Expr.cells];done)|simp only[go_sem,O i l ab]
         .simp only[go_sem,u,a,n,b,f,K,r1,e9];apply hJ<;>intro h<;>simp only[h,go_sem,L,w,A,u,a,n,b,f,K,E,r1,d2,ha,gR,dD,gL,fO,kG];rotate_left;refine hJ (λB=>?_) (λB=>?_)<;>simp only[B,go_sem,L,w,A,n,b,f,E,m,t,r];all_goals refine⟨rfl,⟨⟨.ty 281,.inr rfl,?_⟩,?_,?_,?_,?_,M _ _ N ?_ (λi l D=>?_)⟩,oz,rfl⟩<;>first|(simp only[dS,gU];omega)|(simp only[go_sem,n,b,f,r1,rP j,r2,xV,ae.bn,m,t,r,sO,CU,ju,Edge.d,Edge.cells,Expr.cells];done)|simp only[go_sem,O i l ab]
     . rcases pG (es=[])with j|j;.subst j;have hb:tH [] oe=.box ⟨[.nl],[]⟩:=rfl;refine⟨rfl,⟨⟨oe,Q,?_⟩,?_,?_,?_,?_,M _ _ N ?_ (λi l D=>?_)⟩,oz,rfl⟩<;>first|(simp only[dS,gU];omega)|(simp only[go_sem,n,b,f,r1,hb,r2,xV,m,t,r,sO];done)|simp only[go_sem,O i l ab]
       .refine⟨rfl,⟨⟨oe,Q,?_⟩,?_,?_,?_,?_,M _ _ N ?_ (λi l D=>?_)⟩,oz,rfl⟩<;>first|(simp only[dS,gU];omega)|(simp only[go_sem,n,b,f,r1,rP j,r2,xV,m,t,r,sO];done)|simp only[go_sem,O i l ab]
   . rw[Bn hr]at r2;rw[ahh hr]at e8;generalize iU rest.same I 0=iq at*;simp only[go_sem,L,w,A,u,z4,mn,a,n,b,f,r2,e8];apply hJ<;>intro h<;>simp only[h,go_sem,h0,z4,mn,n,b,f]
     . apply hJ<;>intro h<;>simp only[h,go_sem,L,w,A,u,a,n,b,f,E,r2,m,t,r]
       . refine RH [(),(),(),(),(),(),()] [] b2 b1 rfl ?_;have hlr:(I.length<1200000)=True:=il ab;have tk:∀z:DV,List.take I.length (ae.bn I++[z])=ae.bn I:=λz=>List.take_left' (ae.qS I);have dr:∀z:DV,List.drop (I.length+1) (ae.bn I++[z])=[]:=λz=>List.drop_eq_nil_of_le (by simp[ae.qS]);have gt:∀z:DV,(ae.bn I++[z])[I.length]?=J z:=λz=>by rw[ql (by rw[ae.qS];exact bT _),ae.qS,Nat.sub_self];rfl
         have lt:(I.length<I.length+1)=True:=il ab;simp only[go_sem,z4,mn,n,b,f,n6,r2,ae.qS,hlr,tk,dr,gt,lt,gR,dD,gL,kG];have e9:=OS _ (hE (.ofNat I.length));unfold uJ;generalize hq:es.any (Edge.Cq (ju ⟨src,G,var,ty,⟨S,T,U,W,X,Y,o7,o8,o9⟩,H,F,uG,uX,ins⟩ (.ofNat I.length)))=aa at*;simp only[Ey,ju,Edge.cells,Expr.cells,go_sem]at e9;rcases pG (es=[])with j|j;.subst j;simp only[tH]at r1;simp only[eM,zN]at e9;simp only[go_sem,u,a,n,b,f,K,r1,e9];have l1:aA 2048 (.ofNat 1)=C:=rfl;apply hJ<;>intro h<;>simp only[h,l1,go_sem,L,w,A,u,a,n,b,f,K,E,r1];all_goals refine⟨rfl,⟨⟨.ex 281,.inl rfl,?_⟩,?_,?_,?_,?_,M _ _ N ?_ (λi l D=>?_)⟩,oz,rfl⟩<;>first|(simp only[dS,gU];omega)|(simp only[go_sem,n,b,f,r1,tH,r2,S',d3,d0,m,t,r,sO,gb,eM,ju,Edge.d,Edge.cells,Expr.cells];done)|simp only[go_sem,O i l ab]
         . rw[rP j]at r1;rw[FF j]at e9;have BE:es++[ju ⟨src,G,var,ty,⟨S,T,U,W,X,Y,o7,o8,o9⟩,H,F,uG,uX,ins⟩ (.ofNat I.length)]≠[]:=aP;rcases Q with rfl|rfl;.simp only[go_sem,u,a,K,r1,e9,d1];apply hJ<;>intro h<;>simp only[h,go_sem,L,w,A,u,a,n,b,f,K,E,r1,d2,ha,gR,dD,gL,fO,kG];rotate_left;refine hJ (λB=>?_) (λB=>?_)<;>simp only[B,go_sem,L,w,A,n,b,f,E,m,t,r];all_goals refine⟨rfl,⟨⟨.ty 281,.inr rfl,?_⟩,?_,?_,?_,?_,M _ _ N ?_ (λi l D=>?_)⟩,oz,rfl⟩<;>first|(simp only[dS,gU];omega)|(simp only[go_sem,n,b,f,r1,rP j,r2,S',d3,d0,m,t,r,sO,CU,ju,Edge.d,Edge.cells,Expr.cells];done)|simp only[go_sem,O i l ab]
           .simp only[go_sem,u,a,n,b,f,K,r1,e9];apply hJ<;>intro h<;>simp only[h,go_sem,L,w,A,u,a,n,b,f,K,E,r1,d2,ha,gR,dD,gL,fO,kG];rotate_left;refine hJ (λB=>?_) (λB=>?_)<;>simp only[B,go_sem,L,w,A,n,b,f,E,m,t,r];all_goals refine⟨rfl,⟨⟨.ty 281,.inr rfl,?_⟩,?_,?_,?_,?_,M _ _ N ?_ (λi l D=>?_)⟩,oz,rfl⟩<;>first|(simp only[dS,gU];omega)|(simp only[go_sem,n,b,f,r1,rP j,r2,S',d3,d0,m,t,r,sO,CU,ju,Edge.d,Edge.cells,Expr.cells];done)|simp only[go_sem,O i l ab]
       . rcases pG (es=[])with j|j;.subst j;have hb:tH [] oe=.box ⟨[.nl],[]⟩:=rfl;refine⟨rfl,⟨⟨oe,Q,?_⟩,?_,?_,?_,?_,M _ _ N ?_ (λi l D=>?_)⟩,oz,rfl⟩<;>first|(simp only[dS,gU];omega)|(simp only[go_sem,n,b,f,r1,hb,r2,Bn hr,m,t,r,sO];done)|simp only[go_sem,O i l ab]
         .refine⟨rfl,⟨⟨oe,Q,?_⟩,?_,?_,?_,?_,M _ _ N ?_ (λi l D=>?_)⟩,oz,rfl⟩<;>first|(simp only[dS,gU];omega)|(simp only[go_sem,n,b,f,r1,rP j,r2,Bn hr,m,t,r,sO];done)|simp only[go_sem,O i l ab]
     . skip;have e9:=OS _ (hE (iq));unfold uJ;generalize hq:es.any (Edge.Cq (ju ⟨src,G,var,ty,⟨S,T,U,W,X,Y,o7,o8,o9⟩,H,F,uG,uX,ins⟩ (iq)))=aa at*;simp only[Ey,ju,Edge.cells,Expr.cells,go_sem]at e9;rcases pG (es=[])with j|j;.subst j;simp only[tH]at r1;simp only[eM,zN]at e9;simp only[go_sem,u,a,n,b,f,r1,e9];have l1:aA 2048 (.ofNat 1)=C:=rfl;apply hJ<;>intro h<;>simp only[h,l1,go_sem,L,w,A,u,a,n,b,f,E,r1];all_goals refine⟨rfl,⟨⟨.ex 281,.inl rfl,?_⟩,?_,?_,?_,?_,M _ _ N ?_ (λi l D=>?_)⟩,oz,rfl⟩<;>first|(simp only[dS,gU];omega)|(simp only[go_sem,n,b,f,r1,tH,r2,Bn hr,m,t,r,sO,gb,eM,ju,Edge.d,Edge.cells,Expr.cells];done)|simp only[go_sem,O i l ab]
       . rw[rP j]at r1;rw[FF j]at e9;have BE:es++[ju ⟨src,G,var,ty,⟨S,T,U,W,X,Y,o7,o8,o9⟩,H,F,uG,uX,ins⟩ (iq)]≠[]:=aP;rcases Q with rfl|rfl;.simp only[go_sem,u,a,K,r1,e9,d1];apply hJ<;>intro h<;>simp only[h,go_sem,L,w,A,u,a,n,b,f,K,E,r1,d2,ha,gR,dD,gL,fO,kG];rotate_left;refine hJ (λB=>?_) (λB=>?_)<;>simp only[B,go_sem,L,w,A,n,b,f,E,m,t,r];all_goals refine⟨rfl,⟨⟨.ty 281,.inr rfl,?_⟩,?_,?_,?_,?_,M _ _ N ?_ (λi l D=>?_)⟩,oz,rfl⟩<;>first|(simp only[dS,gU];omega)|(simp only[go_sem,n,b,f,r1,rP j,r2,Bn hr,m,t,r,sO,CU,ju,Edge.d,Edge.cells,Expr.cells];done)|simp only[go_sem,O i l ab]
         .simp only[go_sem,u,a,n,b,f,r1,e9];apply hJ<;>intro h<;>simp only[h,go_sem,L,w,A,u,a,n,b,f,K,r1,d2,ha,gR,dD,gL,fO,kG];rotate_left;refine hJ (λB=>?_) (λB=>?_)<;>simp only[B,go_sem,L,w,A,n,b,f,E,m,t,r];all_goals refine⟨rfl,⟨⟨.ty 281,.inr rfl,?_⟩,?_,?_,?_,?_,M _ _ N ?_ (λi l D=>?_)⟩,oz,rfl⟩<;>first|(simp only[dS,gU];omega)|(simp only[go_sem,n,b,f,r1,rP j,r2,Bn hr,m,t,r,sO,CU,ju,Edge.d,Edge.cells,Expr.cells];done)|simp only[go_sem,O i l ab]
 .obtain⟨⟨oe,Q,r1⟩,r2,m,t,r,N⟩:=hR;have b1:=aJI;have b2:=aJX;simp only[bp,opsOf,f169,go_sem]at b1 b2;unfold fB;have BM:=IK (eN p) ([],[]);generalize cR gP (eN p) ([],[])=z at*;obtain⟨c,es,I⟩:=z;simp only at r1 r2 r BM;cases c with|some c=>obtain rfl:=BM c rfl;simp only[SE,aR]at r;simp only[go_sem,m,t,r];exact⟨.ex 281,.inl rfl,rfl⟩|none=>
   simp only[sO,ch]at r;simp only[go_sem];refine RH [()] [] b2 b1 rfl ?_;have d0:dg [] 0 1=[]:=rfl;have d1:dg [(0,.ex 281)] 0 1=[]:=rfl;have d2:dg [(0,.ty 281)] 0 1=[]:=rfl;have d3:dg [(0,.ex 62)] 0 1=[]:=rfl;rcases pG (es=[])with j|j<;>rcases pG (I=[])with hr|hr;.subst j;subst hr;simp only[tH,xV]at r1 r2;simp only[go_sem,r1,r2,m,t,r,d0];exact⟨.ex 281,.inl rfl,rfl⟩
   .subst j;rw[Bn hr]at r2;simp only[tH]at r1;simp only[go_sem,r1,r2,m,t,r,d0,d3];exact⟨.ex 281,.inl rfl,by rw[Hv,zx hr]⟩
   . subst hr;rw[rP j]at r1;simp only[xV]at r2;rcases Q with rfl|rfl;.simp only[go_sem,r1,r2,m,t,r,d0,d1];exact⟨.ex 281,.inl rfl,by rw[Be j];rfl⟩
     .simp only[go_sem,r1,r2,m,t,r,d0,d2];exact⟨.ty 281,.inr rfl,by rw[Be j];rfl⟩
   . rw[rP j]at r1;rw[Bn hr]at r2;rcases Q with rfl|rfl;.simp only[go_sem,r1,r2,m,t,r,d0,d1,d3];exact⟨.ex 281,.inl rfl,by rw[Be j,zx hr]⟩
     .simp only[go_sem,r1,r2,m,t,r,d0,d2,d3];exact⟨.ty 281,.inr rfl,by rw[Be j,zx hr]⟩
section
variable{P:aH}{cf:bV}{rec:dW}{O:St}{gs cr:aE}{l:List aB}{d:ah Tmp}{ty t u:an}{pos:String}{af:Array Go.Edge}{wh:ah (Nat×Bool)}{x y k:aK}{id I len e n m i:Nat}{o:aN}{w:DV}{lo hi:ah DV}
theorem ayp(h:aW P e=J n):Ak P O d x i (J (.slice e)) (.dv (.cY id I len e n) o)=bif cw i len then aG O d (.dv (.ptr id (I+i*n)) .no)else Z:=by show(aW P e).bind _=_;simp_all
theorem aA9:QH O (J (.slice t)) (.dv (.cY id I len e n) o)=J len:=rfl
theorem aA6:ni (.cY id I len e n)=J len:=rfl
theorem aKw:oL (.full e)=.full e:=rfl
theorem aKu:oL .any=.any:=rfl
def Pa(P:aH)(s:St)(d:ah Tmp)(l:an):DV->ah St|.nl=>aG s d (.tp [])|.cY id I n _ e=>(match s.g.get id,cE P l with|some (.box b),J z=>bif bz (I+n*e) b.cells.length&&aw z.flat.length e then aG {s with sl:=cP s.sl,g:=s.g.set id (.box {cells:=lj b.cells I ((mr n z).flatMap DV.flat),own:=dg b.own I (n*e)})} d (.tp [])else Z|_,_=>Z)|_=>Z
theorem ak1:dK P cf rec gs cr l O ⟨d,.call ⟨.builtin .clear,⟨[x]⟩,⟨[t]⟩⟩,ty,pos,af,wh⟩=(Gz (P.underlying t)).bind λe=>(bj cf.aq O x).bind (Pa P O d e):=by
 show(match P.underlying t with|some (.slice _)=>_|_=>Z)=_;rcases P.underlying t with _|q;.rfl
 cases q<;>rfl
def QQ(P:aH)(a:aE)(s:St)(d:ah Tmp)(e:an)(n:Nat):ah St:=(dT P e).bind λi=>(cE P e).bind λz=>bif !(aw i.1 0)&&aw z.flat.length i.1&&bz (n*i.2) bm&&bz n bm&&Db a d then aG {s with g:=s.g.alloc (.box ⟨(mr n z).flatMap DV.flat,[(((mr n z).flatMap DV.flat).length,.full e)]⟩)} d (.dv (.cY s.g.next 0 n e i.1) .no)else Z
theorem alg:dK P cf rec gs cr l O ⟨d,.makeSlice t x x,ty,pos,af,wh⟩=(Gz (P.underlying t)).bind λe=>(bj cf.aq (dh O [x,x]) x).bind λv=>(FQ v).bind λn=>QQ P gs (dh O [x,x]) d e n:=by show(match P.underlying t,bj _ (dh O [x,x]) x,bj _ (dh O [x,x]) x with|some (.slice _),J (.int _ (.ofNat n)),J (.int _ (.ofNat m))=>_|_,_,_=>Z)=_;cases P.underlying t with|none=>rfl|some q=>cases q with
 |slice b=>cases bj _ _ x with|none=>rfl|some v=>cases v with
  | int k a => rcases a with a|a
               . show(match P.info? _,cE P _ with|some i,J z=>_|_,_=>Z)=QQ P gs _ d _ a;unfold QQ dT;rcases P.info? _ with _|i;.rfl
                 rcases cE P _ with _|z;.rfl
                 simp only[gM,cU,pJ,xA];rfl
               rfl|_=>rfl
 |_=>rfl
end
attribute[go_sem↓]ak1 alg
attribute[go_sem]ayp aA9 aA6 aKw aKu Pa QQ
theorem aqc:dj cf (bp f33 6)=V:=by rfl
theorem aqb:dj cf (bp f33 11)=V:=by rfl
theorem aqp:dj cf (bp f24 6)=V:=by rfl
theorem aqn:dj cf (bp f24 11)=V:=by rfl
theorem apL:dj cf (bp f53 6)=V:=by rfl
theorem ap9:dj cf (bp f77 6)=V:=by rfl
theorem ap8:dj cf (bp f77 11)=V:=by rfl
theorem aqa:dj cf (bp f78 6)=V:=by rfl
theorem aqh:dj cf (bp f138 1)=V:=by rfl
theorem apr:dj cf (bp f196 6)=V:=by rfl
theorem apY:dj cf (bp f66 13)=V:=by rfl
theorem aqd:dj cf (bp f111 1)=V:=by rfl
theorem aqf:dj cf (bp f111 6)=V:=by rfl
theorem aqe:dj cf (bp f111 10)=V:=by rfl
theorem aps:dj cf (bp f182 24)=V:=by rfl
theorem apD:dj cf (bp f283 1)=V:=by rfl
theorem apE:dj cf (bp f283 2)=V:=by rfl
theorem apu:dj cf (bp f235 2)=V:=by rfl
theorem apK:dj cf (bp f306 17)=V:=by rfl
theorem apQ:dj cf (bp f363 1)=V:=by rfl
theorem apS:dj cf (bp f363 3)=V:=by rfl
theorem apU:dj cf (bp f363 5)=V:=by rfl
theorem apV:dj cf (bp f363 6)=V:=by rfl
theorem apW:dj cf (bp f363 9)=V:=by rfl
theorem apR:dj cf (bp f363 10)=V:=by rfl
theorem apZ:dj cf (bp f414 1)=V:=by rfl
theorem aJJ:AO cf (bp f337 1)=[(7,9)]:=by rfl
theorem aJY:nI cf st0 (bp f337 1)=V:=by rfl
theorem apv:dj cf (bp f240 11)=V:=by rfl
theorem apw:dj cf (bp f241 1)=V:=by rfl
theorem apA:dj cf (bp f241 8)=V:=by rfl
theorem apB:dj cf (bp f241 9)=V:=by rfl
theorem apx:dj cf (bp f241 11)=V:=by rfl
theorem apy:dj cf (bp f241 19)=V:=by rfl
theorem apz:dj cf (bp f241 21)=V:=by rfl
theorem apJ:dj cf (bp f303 1)=V:=by rfl
theorem apN:dj cf (bp f355 1)=V:=by rfl
theorem apI:dj cf (bp f296 1)=V:=by rfl
theorem apO:dj cf (bp f360 1)=V:=by rfl
theorem apP:dj cf (bp f361 1)=V:=by rfl
theorem apt:dj cf (bp f232 9)=V:=by rfl
theorem aqj:dj cf (bp f113 15)=V:=by rfl
theorem aql:dj cf (bp f123 1)=V:=by rfl
theorem aqm:dj cf (bp f123 3)=V:=by rfl
theorem apC:dj cf (bp f28 11)=V:=by rfl
theorem ap0:dj cf (bp f54 2)=V:=by rfl
theorem ap1:dj cf (bp f54 7)=V:=by rfl
theorem apH:dj cf (bp f26 16)=V:=by rfl
theorem ap4:dj cf (bp f55 3)=V:=by rfl
theorem ap5:dj cf (bp f55 4)=V:=by rfl
theorem ap6:dj cf (bp f55 5)=V:=by rfl
theorem ap7:dj cf (bp f56 1)=V:=by rfl
theorem apF:dj cf (bp f287 6)=V:=by rfl
theorem apG:dj cf (bp f288 6)=V:=by rfl
theorem apM:dj cf (bp f352 6)=V:=by rfl
theorem ap2:dj cf (bp f457 4)=V:=by rfl
theorem ap3:dj cf (bp f457 6)=V:=by rfl
def pP(a b c d e f:Int):Bool:=bif aj a d then bif aj b e then aj c f else C else C
theorem nJ(a:Int):aj a a=V:=by simp[jl]
theorem KU{n:Nat}{a b c:Int}:gw PP (n+2) 194 (.agg [.int .i64 a,.int .i64 b,.int .i64 c]) (.agg [.int .i64 a',.int .i64 b',.int .i64 c'])=J (pP a b c a' b' c'):=by rw[EE underlying194 aU];simp only[go_sem,pP,zO,String.reduceBEq];grind
theorem KT{v a b c d:Int}:gw PP 50 196 (.agg [.int .i64 v,.int .i64 a,.int .i64 b,.int .i64 c]) (.agg [.int .i64 d,.int .i64 a',.int .i64 b',.int .i64 c'])=J (bif aj v d then pP a b c a' b' c' else C):=by rw[EE underlying196 aU];simp only[go_sem,KU,zO,String.reduceBEq];grind
theorem KV{a b:Int}:gw PP 50 199 (.agg [.int .i64 a,.int .i64 b]) (.agg [.int .i64 a',.int .i64 b'])=J (bif aj a a' then aj b b' else C):=by rw[EE underlying199 aU];simp only[go_sem,zO,String.reduceBEq];grind
section
variable{v a b c v' a' b' c':Int}
theorem Qk:gu PP .eql 194 (.agg [.int .i64 a,.int .i64 b,.int .i64 c]) (.agg [.int .i64 a',.int .i64 b',.int .i64 c'])=J (.bool (pP a b c a' b' c')):=by simp[HE,KU]
theorem amE:gu PP .neq 196 (.agg [.int .i64 v,.int .i64 a,.int .i64 b,.int .i64 c]) (.agg [.int .i64 v',.int .i64 a',.int .i64 b',.int .i64 c'])=J (.bool (!bif aj v v' then pP a b c a' b' c' else C)):=by simp[HE,KT]
theorem amH:gu PP .neq 199 (.agg [.int .i64 a,.int .i64 b]) (.agg [.int .i64 a',.int .i64 b'])=J (.bool (!bif aj a a' then aj b b' else C)):=by simp[HE,KV]
end
attribute[go_sem]Qk amE amH
theorem arn(a:Int):CC 140 [iD a] (vB C):=by refine aO func140 ?_;simp only[go_sem,f140,nJ]
theorem Au(a b:Int):CC 84 [iD a,iD b] (vI (iE a b)):=by refine aO func84 ?_;simp only[go_sem,f84,arn,iE];apply sp<;>intro h<;>simp only[h,go_sem];apply sp<;>intro h<;>simp only[h,go_sem]
def Ax:cG->Int|[]=>0|a::l=>bif aj a 0 then Ax l else a
theorem FY(l:cG)(n:Bool)(d:l.length<1000000000):CC 83 [bK n (l.map iD) 3 1] (vI (Ax l)):=by
 refine aO func83 ?_;simp only[go_sem,f83];refine gC l (λi=>[(8,iS i)]) (λ_ l=>vI (Ax l)) ab rfl rfl ?_ (λi x l b c w a=>?_);.simp only[go_sem,Ax]
 .simp only[go_sem]at a;simp only[go_sem,b,c,Ax];apply sp<;>intro h<;>simp only[h,w,go_sem,a]
theorem Tv(a:Int):iE a a=0:=by simp[iE,fX]
theorem ado{a b c:Int}(h:pP a b c a' b' c'=V):a=a'/\b=b'/\c=c':=by grind[pP,jl]
def jK(t s q:Int):DV:=.agg [iD t,iD s,iD q]
def aM.ref(e:aM):DV:=jK e.tm e.src e.seq
theorem Wi(e:aM):CC 186 [e.d] (.val (.dv e.ref .no) .empty):=by refine aO func186 ?_;simp only[go_sem,f186,aM.d,aM.cells,aM.ref,jK]
theorem aEm(e:aM):CC 295 [e.d] (.val (.dv e.ref .no) .empty):=by refine aO func295 ?_;simp only[go_sem,f295,aM.d,aM.cells,aM.ref,jK]
theorem aDZ(e:aM):CC 195 [e.d] (.val (.dv e.ref .no) .empty):=by refine aO func195 ?_;simp only[go_sem,f195,aM.d,aM.cells,aM.ref,jK]
def CX(t s q c b a:Int):Int:=Ax [iE t c,iE s b,iE q a]
theorem Dq(t s q c b a:Int):CC 296 [jK t s q,jK c b a] (vI (CX t s q c b a)):=by have h:=FY [iE t c,iE s b,iE q a] C ai;simp only[zM,gb,eM]at h;have hd:=apI;simp only[bp,opsOf,f296,go_sem]at hd;refine aO func296 ?_;simp only[go_sem,f296,hd,jK,Au,h,CX]
theorem aE8(a b:aM):CC 119 [a.d,b.d] (vB (bif aj a.src b.src then aj a.seq b.seq else C)):=by refine aO func119 ?_;simp only[go_sem,f119,aM.d,aM.cells];apply sp<;>intro h<;>simp only[h,go_sem]
def aM.cmp(a b:aM):Int:=CX a.tm a.src a.seq b.tm b.src b.seq
theorem aE9(a b:aM):CC 123 [a.d,b.d] (vI (a.cmp b)):=by have h:=FY [iE a.tm b.tm,iE a.src b.src,iE a.seq b.seq] C ai;simp only[zM,gb,eM]at h;have c:=Wi a;have d:=Wi b;have hd:=aql;have D:=aqm;simp only[bp,opsOf,f123,go_sem]at hd D;simp only[aM.d,aM.cells,aM.ref,jK]at c d;refine aO func123 ?_;simp only[go_sem,f123,hd,aM.d,aM.cells,c,d,aM.cmp,CX];apply sp<;>intro k<;>simp only[k,D,Au,h,go_sem];obtain⟨k1,k2,k3⟩:=ado k;rw[k1,k2,k3,Tv,Tv,Tv];rfl
theorem aBW(a:Int):aA a a=C:=by simp[fX]
theorem aD0(v:Sl cH)(c:v.l.length<1000000000):CC 196 [vl v,vl v] (vB V):=by
 have hd:=apr;simp only[bp,opsOf,f196,go_sem]at hd;refine aO func196 ?_;simp only[go_sem,f196,vl,nJ];refine gC v.l (λi=>[(5,iS i)]) (λ_ _=>vB _) ab rfl rfl ?_ (λi x l a b w h=>?_);.simp only[go_sem]
 .simp only[go_sem]at h;simp only[go_sem,a,b,w,hd,cH.d,cH.cells,h,nJ,DX,dX,aR,xC]
theorem adn(a b c:Int):pP a b c a b c=V:=by simp[pP,jl]
theorem aE1(e:aM)(l:e.kR.l.length<1000000000):CC 138 [e.d,e.d] (vB V):=by have hd:=aqh;have h:=aDZ e;have a:=aD0 _ l;simp only[bp,opsOf,f138,go_sem]at hd;simp only[aM.d,aM.cells,aM.ref,jK]at h;refine aO func138 ?_;simp only[go_sem,f138,hd,aM.d,aM.cells,h,a,adn,nJ]
theorem B4(v:Sl aM)(d:v.l.length<1000000000)(f:∀e∈v.l,e.kR.l.length<1000000000):CC 78 [de v,de v] (vB V):=by
 have hd:=aqa;simp only[bp,opsOf,f78,go_sem]at hd;refine aO func78 ?_;simp only[go_sem,f78,de,nJ];refine gC v.l (λi=>[(5,iS i)]) (λ_ _=>vB _) ab rfl rfl ?_ (λi x l b c w a=>?_);.simp only[go_sem]
 .have h:=aE1 x ai;simp only[go_sem]at a;simp only[go_sem,b,c,w,hd,h,a]
theorem aES(c:bu)(d:c.bs.l.length<1000000000)(e:c.ss.l.length<1000000000):CC 77 [c.d,c.d] (vB V):=by
 have hd:=ap9;have m:=ap8;simp only[bp,opsOf,f77,go_sem]at hd m;refine aO func77 ?_;simp only[go_sem,f77,bu.d,bu.cells,hZ,jM,nJ];refine gC c.bs.l (λi=>[(5,iS i)]) (λ_ _=>vB V) ab rfl rfl ?_ (λi x l a b w h=>?_)
 . simp only[go_sem];refine gC c.ss.l (λi=>[(6,iS i)]) (λ_ _=>vB _) ab rfl rfl ?_ (λi x l a b w h=>?_);.simp only[go_sem]
   .simp only[go_sem]at h;simp only[go_sem,a,b,w,m,fG.d,fG.cells,nJ,h]
 .simp only[go_sem]at h;simp only[go_sem,a,b,w,hd,eC.d,eC.cells,nJ,adn,h]
def bu.sz(c:bu):Prop:=c.bs.l.length<1000000000/\c.ss.l.length<1000000000
def GL(v:Sl aM):Prop:=v.l.length<1000000000/\∀e∈v.l,e.kR.l.length<1000000000
def dP.sz(e:dP):Prop:=GL e.wait/\GL e.held/\e.runs.l.length<1000000000/\∀c∈e.runs.l,c.sz
theorem aEo(e:dP)(h:e.sz):CC 53 [e.d,e.d] (vB V):=by
 obtain⟨⟨b,d⟩,⟨f,g⟩,m,c⟩:=h;have hd:=apL;simp only[bp,opsOf,f53,go_sem]at hd;have g1:=B4 e.wait b d;have g2:=B4 e.held f g;refine aO func53 ?_;simp only[go_sem,f53,dP.d,dP.cells,mD,nJ];refine gC e.runs.l (λi=>[(5,iS i)]) (λ_ _=>vB V) ab rfl rfl ?_ (λi x l j k w a=>?_);.simp only[go_sem,g1,g2]
 .have h:=aES x (c x ai).1 (c x ai).2;simp only[go_sem]at a;simp only[go_sem,j,k,w,hd,h,a]
theorem anm{s u:aE}:gu PP .lss t (.str s) (.str u)=J (.bool (BZ s u)):=rfl
theorem anl{s u:aE}:gu PP .gtr t (.str s) (.str u)=J (.bool (!(BZ s u||decide (s=u)))):=by show J _=_;rw[ya]
theorem aBZ:∀s:aE,BZ s s=C:=by intro s;induction s with|nil=>rfl|cons a s i=>show(bif cw a a then V else bif cw a a then C else BZ s s)=C;grind[eP]
attribute[go_sem]anm anl
theorem aER(v:cH):CC 76 [v.d,v.d] (vI 0):=by refine aO func76 ?_;simp only[go_sem,f76,cH.d,cH.cells,nJ,aBZ,dX,xB]
theorem aEl(k:aC):CC 52 [k.d,k.d] (vI 0):=by have h:=aER k.key;simp only[cH.d,cH.cells]at h;refine aO func52 ?_;simp only[go_sem,f52,aC.d,aC.cells,aBW,h]
def bq.sz(o:bq):Prop:=o.marks.l.length<1000000000/\o.keys.l.length<1000000000/\∀k∈o.keys.l,k.e.sz
theorem WP(o:bq)(a b:Bool)(h:o.sz):CC 24 [(bq.mk ⟨a,o.marks.l⟩ ⟨b,o.keys.l⟩).d,o.d] (vB V):=by
 obtain⟨g,j,f⟩:=h;have hd:=aqp;have m:=aqn;simp only[bp,opsOf,f24,go_sem]at hd m;refine aO func24 ?_;simp only[go_sem,f24,bq.d,bq.cells,bW,jr,nJ];refine gC o.marks.l (λi=>[(5,iS i)]) (λ_ _=>vB V) ab rfl rfl ?_ (λi x l e d w c=>?_)
 . simp only[go_sem];refine gC o.keys.l (λi=>[(6,iS i)]) (λ_ _=>vB V) ab rfl rfl ?_ (λi x l e d w c=>?_);.simp only[go_sem]
   .have g1:=aEl x;have g2:=aEo x.e (f x (dw d));simp only[aC.d,aC.cells,dP.d,dP.cells]at g1 g2;simp only[go_sem]at c;simp only[go_sem,e,d,w,m,aC.d,aC.cells,g1,g2,nJ,c]
 .simp only[go_sem]at c;simp only[go_sem,e,d,w,hd,nJ,c]
theorem ayo{t:St}{d:ah Tmp}{i n:Nat}{x:ao}(h:aW P e=J n):Ak P t d (.tmp s) i (J (.slice e)) (.dv (.ay x e n) (.ex k))=bif cw i x.length then aG t d (.se s i 0)else Z:=by show(aW P e).bind _=_;simp_all
attribute[go_sem]ayo
def aDY(a b:aE):CC 143 [.str a,.str b] (vI (cmpL a b)):=C4 (v:=.dv (.int .i64 (cmpL a b)) .no) rfl rfl
theorem aDV(a b:cH):CC 141 [a.d,b.d] (vI (iE a.k b.k)):=by refine aO func141 ?_;simp only[go_sem,f141,cH.d,cH.cells,Au]
theorem aDW(a b:cH):CC 142 [a.d,b.d] (vI (iE a.n b.n)):=by refine aO func142 ?_;simp only[go_sem,f142,cH.d,cH.cells,Au]
def cH.cmp(a b:cH):Int:=bif aj (iE a.k b.k) 0 then bif aj (iE a.n b.n) 0 then cmpL a.s b.s else iE a.n b.n else iE a.k b.k
theorem aib(a b:cH):CC 85 [a.d,b.d] (vI (a.cmp b)):=by
 have c:=aDV a b;have d:=aDW a b;simp only[cH.d,cH.cells]at c d;refine aO func85 ?_;simp only[go_sem,f85,cH.d,cH.cells,cH.cmp];refine im ?_;have l0:aA 0 (du 2)=V:=rfl;have l1:aA 1 (du 2)=V:=rfl;have l2:aA 2 (du 2)=C:=rfl;have w:dQ .i64 (jX 0 1)=1:=rfl;have e:dQ .i64 (jX 1 1)=2:=rfl;simp only[go_sem];rw[l0,aR];all_goals try show kn PP cf (ev PP cf) _=_
 all_goals simp only[go_sem,c]
 apply sp<;>intro h<;>simp only[h,go_sem,w];refine im ?_;simp only[go_sem];rw[l1,aR];show kn PP cf _ _=_;simp only[go_sem,d];apply sp<;>intro h<;>simp only[h,go_sem,e];refine im ?_;simp only[go_sem];show kn PP cf _ _=_;simp only[go_sem,aDY]
def aC.cmp(a b:aC):Int:=bif aj (iE a.q b.q) 0 then a.key.cmp b.key else iE a.q b.q
theorem aEY(a b:aC):CC 112 [a.d,b.d] (vI (a.cmp b)):=by have v:=aib a.key b.key;simp only[cH.d,cH.cells]at v;refine aO func112 ?_;simp only[go_sem,f112,aC.d,aC.cells,aC.cmp,Au];apply sp<;>intro h<;>simp only[h,v,go_sem]
theorem aE4(e:dP):CC 128 [e.d] (vB (bif aj (.ofNat e.held.l.length) 0 then aj (.ofNat e.wait.l.length) 0 else C)):=by refine aO func128 ?_;simp only[go_sem,f128,dP.d,dP.cells,de];apply sp<;>intro h<;>simp only[h,go_sem]
def Jc(n:Int):Bool:=bif aA n (-1)then V else aA 1099511627776 n
theorem aEW(n:Int):CC 110 [iD n] (vB (Jc n)):=by refine aO func110 ?_;simp only[go_sem,f110,Jc];apply sp<;>intro h<;>simp only[h,go_sem]
theorem aEt(n:Int):CC 49 [iD n] (vB (bif aA n 1 then C else !aA 8 n)):=by refine aO func49 ?_;simp only[go_sem,f49];apply sp<;>intro h<;>simp only[h,go_sem]
theorem aEs(l:List Bool)(c:l.length<1000):CC 48 [.ay (l.map DV.bool) 4 1] (vI (bif l.all id then 0 else 2)):=by
 refine aO func48 ?_;simp only[go_sem,f48];refine gC l (λi=>[(7,iS i)]) (λ_ l=>vI (bif l.all id then 0 else 2)) ab rfl rfl ?_ (λi x l a b w h=>?_);.simp only[go_sem,nY]
 .simp only[go_sem]at h;cases x<;>simp only[go_sem,a,b,w,h,pH,id]
def FL:Int->cG->Int|a,[]=>a|a,b::l=>FL (bif aA b a then b else a) l
theorem aDT(n:Bool)(a:Int)(l:cG)(d:l.length<1100000):CC 132 [bK n ((a::l).map iD) 3 1] (vI (FL a l)):=by
 refine aO func132 ?_;have e:aA (.ofNat (l.length+1)) 1=C:=by rfl
 simp only[go_sem,f132];refine JN e ?_;simp only[go_sem];refine tb l a (λi s=>[(4,iS (i+1)),(3,.dv (.int .i64 s) .no)]) (λ_ l s=>vI (FL s l)) (λ_ _ _=>True) ab rfl trivial rfl (λs _=>?_) (λi x t s c b w _ h=>?_);.simp only[go_sem,FL]
 .have E:(i+1<l.length+1)=True:=il aU;have A:dQ .i64 (jX (du (i+1)) 1)=du (i+1+1):=vn ai;have h:=h (bif aA x s then x else s) trivial;simp only[go_sem]at h;simp only[go_sem,E,b,A,FL,Ke,h]
theorem aEZ(o:bq)(m:o.marks.l.length<1100000):CC 73 [o.d] (vI (match o.marks.l with|[]=>-1|a::l=>FL a l)):=by refine aO func73 ?_;obtain⟨⟨nl,s⟩,k⟩:=o;simp only[go_sem,f73,bq.d,bq.cells,bW];cases s with
 |nil=>
 simp only[go_sem,gL];all_goals try show kn PP cf (ev PP cf) _=_
 all_goals simp only[go_sem]|cons a l=>
 have h:=aDT nl a l (by have:(a::l).length<1100000:=m;rw[dD]at this;omega);simp only[gb]at h;simp only[go_sem];all_goals try show kn PP cf (ev PP cf) _=_
 all_goals simp only[go_sem,h]
theorem aD2(e:aM):cV BS (ev PP cf (.call 181 [e.d] .no .empty)):=by refine fM func181 ?_;simp only[go_sem,f181,aM.d,aM.cells];repeat'(with_reducible apply cX<;>intro h<;>simp only[h,go_sem,bw,qZ])
theorem aEc(e:aM):cV BT (ev PP cf (.call 281 [e.d] .no .empty)):=by refine fM func281 ?_;simp only[go_sem,f281,aM.d,aM.cells];repeat'(with_reducible apply cX<;>intro h<;>simp only[h,go_sem,bw,tY])
theorem aEd(e:aM):CC 282 [e.d] (.val (.dv (.agg [iD e.src,iD e.seq]) .no) .empty):=by refine aO func282 ?_;simp only[go_sem,f282,aM.d,aM.cells]
def aM.fits(t:Sl b9)(e:aM):Prop:=∃n s,e.ty=.ofNat n/\t.l[n]?=J s/\s.fields.l.length=e.kR.l.length
def Qu(t:Sl b9)(e:aM)(r:bh):Prop:=∃n,r=vI n/\(n=0->e.fits t)
theorem aE6(t:Sl b9)(e:aM)(y:t.l.length<1000000000)(m:e.kR.l.length<1000000000):cV (Qu t e) (ev PP cf (.call 113 [cm t,e.d] .no .empty)):=by
 obtain⟨q,e0,_⟩:=aD2 e;obtain⟨l,rfl⟩:∃n,q=vI n:=by assumption
 have r:∀{n:Int},n≠0->Qu t e (vI n):=λh=>⟨_,rfl,λk=>absurd k h⟩;have a:aj l 0=C->Qu t e (vI l):=λh=>r λk=>by rw[k]at h;cases h
 have hd:=aqj;simp only[bp,opsOf,f113,go_sem]at hd;refine fM func113 ?_;simp only[aM.d,aM.cells]at e0;obtain⟨src,u,ty,B,R⟩:=e;rcases ty with n|n
 . have z:aA (du n) 0=C:=rfl;simp only[go_sem,f113,aM.d,aM.cells,e0,cm];apply cX<;>intro h;rotate_left;.simp only[h,go_sem,bw,a]
   simp only[h,go_sem,z];by_cases b:n<t.l.length
   . obtain⟨s,d⟩:∃s,t.l[n]?=J s:=⟨_,dC b⟩;simp only[b,go_sem,vl];try show cV _ (kn PP cf (ev PP cf) _)
     simp only[d,go_sem,b9.d,C7];apply cX<;>intro h
     . simp only[h,go_sem];refine ub R.l (λi=>[(40,iS i)]) (by have:R.l.length<1000000000:=m;omega) rfl ?_ (λi x c p w j=>?_);.simp only[go_sem,bw];exact⟨0,rfl,λ_=>⟨n,s,rfl,d,(ue h).symm⟩⟩
       . simp only[go_sem]at j;have A:R.l.length=s.fields.l.length:=ue h;obtain⟨f,o⟩:∃f,s.fields.l[i]?=J f:=⟨_,dC (by have:=nr c;omega)⟩;have v:=O8 x.k x.n x.s;simp only[go_sem,c,p,cH.d,cH.cells,v];apply cX<;>intro g
         . simp only[g,go_sem,hd,o,lu.d];apply cX<;>intro g;.simp only[g,go_sem,w,j]
           .simp only[g,go_sem,bw];exact r ft
         .simp only[g,go_sem,bw];exact r (λk=>by rw[k]at g;cases g)
     .simp only[h,go_sem,bw];exact r ft
   . simp only[b,go_sem];try show cV _ (kn PP cf (ev PP cf) _)
     simp only[go_sem,bw];exact r ft
 . have z:aA (Int.negSucc n) 0=V:=rfl;simp only[go_sem,f113,aM.d,aM.cells,e0,cm];apply cX<;>intro h;rotate_left;.simp only[h,go_sem,bw,a]
   simp only[h,go_sem,z,bw];exact r ft
