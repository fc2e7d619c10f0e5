/- Proved: what functions of the program answer (a part of the proof of RescaleReturnsUptoCardSaid, whose theorem stands in the last text), within the sizes that each theorem names. -/
import Derived.Test.YtaeflaolgbjjlaaGreatDoorAi
open Option renaming some->J,none->Z
open Bool renaming true->V,false->C
open Go renaming TypeId->an,Oper->aB,Program->aG,Operand->aK,Code->bF
open Nat renaming beq->aw,ble->br,blt->cm
open Option renaming bind->qT
open SizeOf renaming sizeOf->oW
noncomputable section
set_option linter.all false
namespace Go.VM
open Go Go.AM Proofs.Tryz
attribute[local congr]bz bA
set_option maxRecDepth 100000
set_option maxHeartbeats 1000000
section
variable{P:aG}{u:iF}{t:an}{D:aq}{os:List (Nat×aM)}{o:Nat×aM}{I:Nat}
theorem azr(h:AM.isAgg P t=J V):fD P u t ⟨D,o::os⟩ I=(aZ P t).bind λn=>bif br (I+n) D.length then J (.dv (.agg ((D.drop I).take n)) .no,⟨D,(o::os).map λx=>(x.1,n7 x.2)⟩)else Z:=by grind[fD]
end
theorem aH5{e}:n7 (.ex e)=.ty e:=rfl
theorem aH8{e}:n7 (.ty e)=.ty e:=rfl
theorem aH7:n7 .no=.no:=rfl
attribute[go_sem]azr aH5 aH8 aH7
abbrev vPa(p:ae):bh:=.val (.dv (.agg p.cells) .no) .empty
def nw(k:Int)(p q:ae):ae:=match p with|.mk _ _ _ ty var scope s cond=>.mk k V [q] ty var scope s cond
abbrev zE:Expr:=.mk 0 V [] 0 0 0 0 0 []
def p7(n:Bool)(k:Int):bq->ae|[p]=>p|l=>.mk k n l 0 0 0 0 zE
theorem Oh(n:Bool)(k:Int)(l:bq)(h:l.length<1100000):CC 400 [iD k,bP n (ae.bm l) 61 14] (vPa (p7 n k l)):=by refine aP func400 ?_;match l with
 |[p]=>have e1:aj (.ofNat 1) 1=V:=rfl;simp only[go_sem,f400,p7,ae.bm,e1]|[]=>have e1:aj 0 1=C:=rfl;simp only[go_sem,f400,p7,ae.bm,e1];rfl|p::q::l=>
 have a:aj (.ofNat (p::q::l).length) 1=C:=by rfl
 simp only[dE]at a;simp only[go_sem,f400,p7,a];rfl
structure Pr where
 cJ:Edge
 done:Bool
 rest:ae
variable{α:Type}{w w':Bool}{a g g':GH}{L T e k m I s:Nat}{x:Pr}{P:aG}{t:an}{l:aq}{F:bh->ah bh}
def Pr.cells(p:Pr):aq:=p.cJ.cells++([.bool p.done]++p.rest.cells)
theorem apm{e:Expr}{a b c d f:DV}:List.take 13 (e.cells++a::b::c::d::f::l)=e.cells++[a,b,c,d,f]:=by have:e.cells++a::b::c::d::f::l=(e.cells++[a,b,c,d,f])++l:=aO;grind[List.take_left',Expr.dG]
theorem aoO{e:Expr}{a b c d f:DV}:List.drop 13 (e.cells++a::b::c::d::f::l)=l:=by have:e.cells++a::b::c::d::f::l=(e.cells++[a,b,c,d,f])++l:=aO;grind[List.drop_left',Expr.dG]
attribute[go_sem]apm aoO
def nJ(r:Pr)(n:Bool)(l:bq):Pr:=match l with|[]=>r|l=>⟨r.cJ,C,bif r.done then p7 n 1 l else p7 n 1 (r.rest::l)⟩
theorem akK{new:aq}(h:l.length+new.length<1000):fB 61 14 152 (.ay l 61 14) (.ex 61) new=J (.ay (l++new) 61 14,.ex 61):=by grind[qg,bl]
def Pr.d(r:Pr):DV:=.agg r.cells
def Dk(p:ae)(r:Pr):List Pr:=bif r.done then[r,⟨r.cJ,C,.mk 4 V [p] 0 0 0 0 zE⟩]else[⟨r.cJ,C,.mk 8 V [r.rest,p] 0 0 0 0 zE⟩]
theorem aIv{n:Nat}(a:n<=l.length)(h:n<1200000):n8 PP 56 (.ay l 61 14) (J (.int .i64 (.ofNat n))) Z Z=J (.ay (l.drop n) 61 14,.no):=by simp_all[n8,xc,nI,nH]
def Lr(r:Pr)(a:bq)(k:Nat):bq:=a.take k++((bif r.done then[]else[r.rest])++a.drop (k+1))
def PH(r:Pr)(a:bq)(k:Nat):Pr:=⟨r.cJ,C,p7 C 3 (Lr r a k)⟩
def pw(e:Edge)(n o d:Bool)(s p:Int):Edge:=⟨e.src,e.dst,e.var,e.ty,e.cond,bif o then⟨V,s::e.opens.l⟩else e.opens,bif d then⟨V,e.lI.l++[s]⟩else e.lI,e.jJ,bif n then e.jZ else⟨V,⟨s,p⟩::e.jZ.l⟩,bif n then⟨V,s::e.inside.l⟩else e.inside⟩
def MG(r:Pr)(o s a:Int)(p:ae):Pr:=let e:=pw r.cJ (oL o) (bif aj o 5 then V else aj o 6) r.done s a
 bif r.done then⟨e,V,.mk 0 V [] 0 0 0 0 zE⟩else⟨e,C,nw (bif oL o then 9 else 10) p r.rest⟩
theorem azs{c:aq}{s:List (Nat×aM)}{o:Nat×aM}(h:AM.isAgg P t=J C)(n:look (o::s) I=Z):fD P .copy t ⟨c,o::s⟩ I=(c[I]?).bind λd=>J (.dv d .no,⟨c,o::s⟩):=by
 unfold fD;rw[h];rcases b:c[I]? with _|d;.rfl
 have a:ew ⟨c,o::s⟩ I=.any\/ew ⟨c,o::s⟩ I=.no:=by grind[ew]
 rcases a with h|h<;>rw[h]<;>rfl
theorem onw{x:DV}:mn I (.ay (x::l) m 1) (.ex e)=[(I,.ex e)]:=rfl
theorem aDy{s:Int}{l:cE}:mn I (bP V ((l++[s]).map iD) 3 1) (.ex 3)=[(I,.ex 3)]:=by cases l<;>rfl
attribute[go_sem]azs onw aDy
theorem oE{b:Bool}{n:Nat}{x:DV}:bP b (x::l) e n=.ay (x::l) e n:=rfl
theorem ali{a b:Bool}:gG PP .eql 4 (.bool a) (.bool b)=J (.bool (a==b)):=by rfl
attribute[go_sem]ali
structure aju(r:Pr):Prop where
 e:xm r.cJ
 p:r.rest.cn<100000000
def zP:ae:=.mk 0 V [] 0 0 0 0 zE
def Oj(t v:Int)(c:Expr):Pr:=⟨⟨0,0,v,t,c,⟨V,[]⟩,⟨V,[]⟩,⟨V,[]⟩,⟨V,[]⟩,⟨V,[]⟩⟩,V,zP⟩
def DX(e:Edge)(c:Expr):Edge:=⟨e.src,e.dst,e.var,e.ty,e.cond,e.opens,e.lI,⟨V,e.jJ.l++[c]⟩,e.jZ,e.inside⟩
def Na(r:Pr)(p:ae)(c:Expr):Pr:=bif r.done then⟨DX r.cJ c,V,zP⟩else⟨r.cJ,C,nw 7 p r.rest⟩
def TW(l:bq):ae:=l.headD zP
def rI:ae->Pr->List Pr|.mk o n args t v s p c,x=>bif aj o 1 then[nJ x C (args.drop 1)]else bif aj o 4 then Dk (TW args) x else bif aj o 8 then Dk (TW (args.drop 1)) x else bif aj o 7 then[Na x (.mk o n args t v s p c) c]else[MG x o s p (.mk o n args t v s p c)]
def uD(p a:ae)(x:Pr):List Pr:=bif x.done then[x,⟨x.cJ,C,p⟩]else[⟨x.cJ,C,.mk 8 V [x.rest,a] 0 0 0 0 zE⟩]
def BC:ae->Pr->List Pr|.mk o n args t v s p c,x=>bif aj o 4 then uD (.mk o n args t v s p c) (TW args) x else rI (.mk o n args t v s p c) x
def uv(a:Bool)(f:bq)(k:Nat)(x:Pr):Pr:=bif a then PH x f k else x
mutual
def eI : ae -> List Pr
  | .mk o n args t v s p c => bif aj o 0 then [Oj t v c] else bif aj o 2 || aj o 3 then mU (aj o 3) args args 0 else (BH args).flatMap (BC (.mk o n args t v s p c))
def BH : bq -> List Pr
  | [] => []
  | a :: _ => eI a
def mU (b : Bool) (f : bq) : bq -> Nat -> List Pr
  | [], _ => []
  | a :: l, k => (eI a).map (uv b f k) ++ mU b f l (k + 1)
end
structure iE(n w:Nat)(x:Pr):Prop where
 o:x.cJ.opens.l.length<=n
 p:x.cJ.lI.l.length<=n
 i:x.cJ.inside.l.length<=n
 l:x.cJ.jZ.l.length<=n
 k:x.cJ.jJ.l.length<=n
 c:x.cJ.cond.nn<=w
 e:∀e∈x.cJ.jJ.l,e.nn<=w
 r:x.rest.cn<=n*w
 m:x.rest.nn<=n*n
 b:∀q∈nodes x.rest,q.cond.nn<=w
 z:x.done=V->x.rest=zP
 s:x.cJ.src=0
 d:x.cJ.dst=0
theorem Expr.IB(e:Expr):1<=e.nn:=by cases e<;>simp[Expr.nn]
theorem iE.mono{n c d:Nat}(h:iE n c x)(a:n<=m)(b:c<=d):iE m d x:=⟨fX h.o a,fX h.p a,fX h.i a,fX h.l a,fX h.k a,fX h.c b,λe f=>fX (h.e e f) b,fX h.r (qR a b),fX h.m (qR a a),λq g=>fX (h.b q g) b,h.z,h.s,h.d⟩
theorem Rt:zE.nn=1:=rfl
theorem ZJ:zP.cn=2:=rfl
theorem SC:∀a b:bq,ae.gb (a++b)=ae.gb a+ae.gb b|[],b=>by simp[ae.gb]|x::a,b=>by simp only[lC,ae.gb,SC a b];omega
theorem am2{f:bq}{a:ae}(h:f[k]?=J a):ae.gb f=ae.gb (f.take k)+(a.cn+ae.gb (f.drop (k+1))):=by grind[DM,GC,ae.gb,SC]
mutual
theorem NP : ∀ (p : ae), ∀ q ∈ nodes p, q.cond.nn <= p.cn
  | .mk o n args t v s a c, q, h => by
    rw [nodes] at h
    simp only [ae.cn]
    rcases List.mem_cons.1 h with rfl | h
    · simp only [ae.cond]; omega
    · have := JU args q h; omega
theorem JU : ∀ (l : bq), ∀ q ∈ eS l, q.cond.nn <= ae.gb l
  | [], q, h => by rw [eS] at h; exact absurd h mA
  | p :: l, q, h => by
    rw [eS, AK] at h
    simp only [ae.gb]
    rcases h with h | h
    · have := NP p q h; omega
    · have := JU l q h; omega
end
theorem U7:∀a b:bq,ae.bH (a++b)=ae.bH a+ae.bH b|[],b=>by simp[ae.bH]|x::a,b=>by simp only[lC,ae.bH,U7 a b];omega
theorem aAV{f:bq}{a:ae}(h:f[k]?=J a):ae.bH f=ae.bH (f.take k)+(a.nn+ae.bH (f.drop (k+1))):=by grind[DM,GC,ae.bH,U7]
theorem Va:∀a b:bq,eS (a++b)=eS a++eS b|[],b=>by simp[eS]|x::a,b=>by simp only[lC,eS,Va a b,tM]
theorem aip(n:Bool)(k:Int):∀l:bq,(p7 n k l).nn<=1+ae.bH l|[]=>by simp[p7,ae.nn,ae.bH]|[p]=>by simp only[p7,ae.bH];omega|p::q::l=>by simp only[p7,ae.nn];omega
theorem YP(n:Bool)(k:Int)(l:bq)(w:Nat)(b:1<=w)(h:∀q∈eS l,q.cond.nn<=w):∀q∈nodes (p7 n k l),q.cond.nn<=w:=by
 have e:∀q∈nodes (ae.mk k n l 0 0 0 0 zE),q.cond.nn<=w:=by
  intro q a;rw[nodes]at a;rcases List.mem_cons.1 a with rfl|a;.exact b
  grind
 match l with|[]=>exact e|[p]=>intro q a;exact h q (by rw[eS];exact Jz _ a)|p::q::l=>exact e
theorem E9{n N:Nat}(h:n+1+T<=N):n*n+n+1+T<=N*N:=by have h:=qR h h;grind
theorem aio(n:Bool)(k:Int):∀l:bq,(p7 n k l).cn<=2+ae.gb l|[]=>by simp[p7,ae.cn,Rt,ae.gb]|[p]=>by simp only[p7,ae.gb];omega|p::q::l=>by simp only[p7,ae.cn,Rt];omega
theorem E8{n c N C:Nat}(a:n+1<=N)(b:c+2+T<=C):n*c+c+2+T<=N*C:=by have h:=qR a b;grind
theorem agt(k:Int)(o n a t v s p c)(q:ae):(nw k (.mk o n a t v s p c) q).cn=1+c.nn+q.cn:=by simp[nw,ae.cn,ae.gb]
theorem agu(k:Int)(o n a t v s p c)(q:ae):(nw k (.mk o n a t v s p c) q).nn=1+q.nn:=by grind[nw,ae.nn,ae.bH]
theorem ags(k:Int)(o n a t v s p c)(q:ae)(w:Nat)(b:c.nn<=w)(d:∀z∈nodes q,z.cond.nn<=w):∀z∈nodes (nw k (.mk o n a t v s p c) q),z.cond.nn<=w:=by
 intro z h;simp only[nw,nodes,eS,jQ]at h;rcases List.mem_cons.1 h with rfl|h;.exact b
 grind
theorem Rf(k:Int)(l:bq)(w:Nat)(b:1<=w)(h:∀q∈eS l,q.cond.nn<=w):∀z∈nodes (ae.mk k V l 0 0 0 0 zE),z.cond.nn<=w:=by
 intro z a;rw[nodes]at a;rcases List.mem_cons.1 a with rfl|a;.exact b
 grind
theorem ZK:zP.nn=1:=rfl
theorem ZI(w:Nat)(a:1<=w):∀z∈nodes zP,z.cond.nn<=w:=Rf 0 [] w a (λq h=>absurd h mA)
theorem aqw(t v:Int)(o:Expr)(n c:Nat)(a:1<=n)(b:o.nn<=c)(d:2<=c):iE n c (Oj t v o):=⟨lX _,lX _,lX _,lX _,lX _,b,λ_ h=>absurd h mA,by show zP.cn<=_;rw[ZJ];have:=qR a d;omega,by show zP.nn<=_;rw[ZK];have:=qR a a;omega,ZI _ ab,λ_=>rfl,rfl,rfl⟩
theorem iE.rest{n c d:Nat}(h:iE n c x)(a:n<=m)(b:c<=d){q:ae}(g:q.cn<=m*d)(f:q.nn<=m*m)(e:∀z∈nodes q,z.cond.nn<=d):iE m d ⟨x.cJ,C,q⟩:=let h:=h.mono a b
 ⟨h.o,h.p,h.i,h.l,h.k,h.c,h.e,g,f,e,λh=>Bool.noConfusion h,h.s,h.d⟩
theorem am8{n c d:Nat}(h:iE n c x)(e:Bool)(l:bq)(i:ae.gb l=T)(f:n+1+ae.bH l<=m)(g:c+2+T<=d):iE m d (nJ x e l):=by
 have j:=E8 (show n+1<=m by omega) g;have hN:=E9 f;have hr:=h.r;have o:=h.m;have k:∀b∈eS l,b.cond.nn<=d:=λb a=>by have:=JU l b a;omega
 rcases l with _|⟨p,l⟩;.exact h.mono ab ab
 refine h.rest (q:=bif x.done then p7 e 1 (p::l)else p7 e 1 (x.rest::p::l)) ab ab ?_ ?_ ?_;.grind[aio,ae.gb]
 .grind[aip,ae.bH]
 . cases x.done
   . rw[bS];refine YP e 1 _ d ab λb a=>?_;rw[eS,AK]at a;rcases a with a|a;.have:=h.b b a;omega
     grind
   grind[YP]
theorem axs{g i d:Nat}(h:iE g i x){f:bq}{a:ae}(j:f[k]?=J a)(p:i=a.cn)(t:g=a.nn)(l:ae.bH f+1<=m)(o:2+ae.gb f<=d):iE m d (PH x f k):=by
 have u:=am2 j;have v:=aAV j;have r:=E8 (n:=g) (c:=i) (N:=m) (C:=d) (T:=ae.gb (f.take k)+ae.gb (f.drop (k+1))) ab ab;have hN:=E9 (n:=g) (N:=m) (T:=ae.bH (f.take k)+ae.bH (f.drop (k+1))) ab;have hr:=h.r;have s:=h.m;have L:∀e∈eS (f.take k),e.cond.nn<=d:=λe b=>by have:=JU _ e b;omega
 have R:∀e∈eS (f.drop (k+1)),e.cond.nn<=d:=λe b=>by have:=JU _ e b;omega
 refine h.rest (q:=p7 C 3 (Lr x f k)) ab ab ?_ ?_ ?_;.grind[aio,Lr,SC,ae.gb]
 .grind[aip,Lr,U7,ae.bH]
 . refine YP C 3 _ d ab λe b=>?_;unfold Lr at b;rw[Va,Va]at b;rcases List.mem_append.1 b with b|b;.grind
   . rcases List.mem_append.1 b with b|b
     . cases hd:x.done;.rw[hd,bS]at b;simp only[eS,jQ]at b;have:=h.b e b;omega
       grind[eS]
     grind
theorem aK2{n c d:Nat}(h:iE n c x)(g l r t v s p o)(f:n+1<=m)(i:1+o.nn+c<=d):iE m d (Na x (.mk g l r t v s p o) o):=by
 have k:=Expr.IB o;have j:=E8 (T:=o.nn-1) f (show c+2+(o.nn-1)<=d by omega);have hN:=E9 (T:=0) f;have hr:=h.r;have q:=h.m;have z:=ZJ;have U:=ZK;have a:=h.mono (show n<=m by omega) (show c<=d by omega);unfold Na;cases x.done;.refine h.rest ab ab ?_ ?_ (ags _ _ _ _ _ _ _ _ _ _ _ ab a.b)<;>grind[agt,agu]
 . refine⟨a.o,a.p,a.i,a.l,?_,a.c,?_,ai,ai,ZI _ ab,λ_=>rfl,a.s,a.d⟩;.have:=h.k;grind[DX]
   . intro e b;simp only[DX,aR,AK,B6]at b;rcases b with b|rfl;.exact a.e e b
     omega
theorem aHv{n c d:Nat}(h:iE n c x)(u s p:Int)(A t a y v U Q o)(l:n+1<=m)(H:1+o.nn+c<=d):iE m d (MG x u s p (.mk A t a y v U Q o)):=by
 have L:=Expr.IB o;have I:=E8 (T:=o.nn-1) l (show c+2+(o.nn-1)<=d by omega);have hN:=E9 (T:=0) l;have hr:=h.r;have M:=h.m;have N:=ZJ;have w:=ZK;have b:=h.mono (show n<=m by omega) (show c<=d by omega);have B:=h.o;have D:=h.p;have E:=h.i;have F:=h.l;have G:=h.k;have k:∀(g i j:Bool)(e:Bool)(q:ae),q.cn<=m*d->q.nn<=m*m->(∀z∈nodes q,z.cond.nn<=d)->(e=V->q=zP)->iE m d ⟨pw x.cJ g i j s p,e,q⟩:=by intro g i j e q r f O K;refine⟨?_,?_,?_,?_,?_,b.c,b.e,r,f,O,K,b.s,b.d⟩<;>grind[pw]
 unfold MG;cases x.done;.refine k _ _ _ _ _ ?_ ?_ (ags _ _ _ _ _ _ _ _ _ _ _ ab b.b) (λh=>Bool.noConfusion h)<;>grind[agt,agu]
 .exact k _ _ _ _ _ (by show zP.cn<=_;omega) (by show zP.nn<=_;omega) (ZI _ ab) (λ_=>rfl)
theorem ahQ{n c d:Nat}(h:iE n c x)(b:ae)(g:n+1<=m)(i:c+2<=d)(a:(b.cn<=c/\b.nn<=n)\/(c+2+b.cn<=d/\n+1+b.nn<=m)):∀y∈Dk b x,iE m d y:=by
 have hr:=h.r;have o:=h.m;have f:=Rt;have l:n*c+b.cn+2<=m*d:=by
   rcases a with a|a;.have:=E8 (T:=0) g i;omega
   .have:=E8 g a.1;omega
 have hN:n*n+b.nn+1<=m*m:=by
   rcases a with a|a;.have:=E9 (T:=0) g;omega
   .have:=E9 a.2;omega
 have j:∀z∈nodes b,z.cond.nn<=d:=λz f=>by have:=NP b z f;omega
 have K:∀z∈nodes x.rest,z.cond.nn<=d:=λz f=>by have:=h.b z f;omega
 unfold Dk;cases x.done;.intro y e;rw[bS,B6]at e;rw[e];refine h.rest ab ab (by grind[ae.cn,ae.gb]) (by grind[ae.nn,ae.bH]) (Rf _ _ _ ab λq k=>?_);grind[eS]
 . intro y e;rw[aR,List.mem_cons,B6]at e;rcases e with rfl|rfl;.exact h.mono ab ab
   .refine h.rest ab ab (by grind[ae.cn,ae.gb]) (by grind[ae.nn,ae.bH]) (Rf _ _ _ ab λq k=>?_);grind[eS]
theorem aGh{n c d:Nat}(h:iE n c x)(p a:ae)(f:n+1<=m)(i:c+2<=d)(l:a.cn<=c)(B:a.nn<=n)(o:p.cn<=d)(j:p.nn<=m):∀y∈uD p a x,iE m d y:=by
 have hr:=h.r;have k:=h.m;have g:=Rt;have r:=E8 (T:=0) f i;have hN:=E9 (T:=0) f;have s:d<=m*d:=by have:=qR (show 1<=m by omega) (bJ d);omega
 have K:m<=m*m:=by have:=qR (show 1<=m by omega) (bJ m);omega
 unfold uD;cases x.done
 . intro y e;rw[bS,B6]at e;rw[e];refine h.rest ab ab (by grind[ae.cn,ae.gb]) (by grind[ae.nn,ae.bH]) (Rf _ _ _ ab λq b=>?_);simp only[eS,jQ,AK]at b;rcases b with b|b;.have:=h.b q b;omega
   .have:=NP a q b;omega
 . intro y e;rw[aR,List.mem_cons,B6]at e;rcases e with rfl|rfl;.exact h.mono ab ab
   .exact h.rest ab ab ab ab (λz g=>by have:=NP p z g;omega)
theorem aDv{o n a l t v s p c}(h:iE a.nn a.cn x)(i:aj o 8=V->l≠[]):∀y∈rI (.mk o n (a::l) t v s p c) x,iE (ae.nn (.mk o n (a::l) t v s p c)) (ae.cn (.mk o n (a::l) t v s p c)) y:=by
 have j:=Expr.IB c;have e1:ae.nn (.mk o n (a::l) t v s p c)=a.nn+ae.bH l+1:=by simp[ae.nn,ae.bH]
 have e2:ae.cn (.mk o n (a::l) t v s p c)=1+c.nn+(a.cn+ae.gb l):=by simp[ae.cn,ae.gb]
 rw[e1,e2];intro y d;rw[rI]at d;cases f:aj o 1 with|true=>rw[f,aR,B6]at d;rw[d];exact am8 h C _ rfl ai ai|false=>rw[f,bS]at d;cases g:aj o 4 with|true=>rw[g,aR]at d;exact ahQ h _ ab ab (.inl ⟨bJ _,bJ _⟩) y d|false=>rw[g,bS]at d;cases e:aj o 8 with
 |true=>
 rw[e,aR]at d;refine ahQ h _ ab ab (.inr ?_) y d;rcases l with _|⟨b,l⟩;.grind
 refine⟨?_,?_⟩;.show _+b.cn<=_;grind[ae.gb]
 .show _+b.nn<=_;grind[ae.bH]|false=>grind[aK2,aHv]
theorem aDs{o n a l t v s p c}(h:iE a.nn a.cn x)(e:aj o 8=V->l≠[]):∀y∈BC (.mk o n (a::l) t v s p c) x,iE (ae.nn (.mk o n (a::l) t v s p c)) (ae.cn (.mk o n (a::l) t v s p c)) y:=by intro y b;rw[BC]at b;cases d:aj o 4 with|true=>have f:=Expr.IB c;rw[d,aR]at b;exact aGh h _ _ (by simp[ae.nn,ae.bH]) (by grind[ae.cn,ae.gb]) (bJ _) (bJ _) (bJ _) (bJ _) y b|false=>grind[aDv]
def mG(l:List Pr):Nat:=(l.filter Pr.done).length
theorem abR(a b:List Pr):mG (a++b)=mG a+mG b:=by simp[mG]
theorem aDt(p:ae)(x:Pr):(rI p x).length<=1+(bif x.done then 1 else 0)/\mG (rI p x)<=(bif x.done then 1 else 0):=by
 obtain⟨op,nl,args,ty,var,scope,s,cond⟩:=p;rw[rI];have k:∀y:Pr,(y.done=V->x.done=V)->[y].length<=1+(bif x.done then 1 else 0)/\mG [y]<=(bif x.done then 1 else 0):=by grind[mG]
 have r:∀b,(Dk b x).length<=1+(bif x.done then 1 else 0)/\mG (Dk b x)<=(bif x.done then 1 else 0):=by grind[Dk,mG]
 cases aj op 1;.grind[MG,Na]
 .exact k _ (by unfold nJ;grind)
theorem aDq(p:ae)(x:Pr):(BC p x).length<=1+(bif x.done then 1 else 0)/\mG (BC p x)<=(bif x.done then 1 else 0):=by obtain⟨op,nl,args,ty,var,scope,s,cond⟩:=p;grind[BC,aDt,uD,mG]
theorem adh{f:Pr->List Pr}(h:∀x,(f x).length<=1+(bif x.done then 1 else 0)/\mG (f x)<=(bif x.done then 1 else 0)):∀l:List Pr,(l.flatMap f).length<=l.length+mG l/\mG (l.flatMap f)<=mG l
 |[]=>⟨bJ _,bJ _⟩|x::l=>by
  obtain⟨a,b⟩:=adh h l;obtain⟨c,d⟩:=h x;have e:mG (x::l)=(bif x.done then 1 else 0)+mG l:=by unfold mG;cases hd:x.done<;>simp[hd];omega
  rw[B5,gJ,abR,e,dE];omega
theorem axq(a:Bool)(f:bq)(k:Nat)(l:List Pr):mG (l.map (uv a f k))<=mG l:=by unfold mG;induction l with|nil=>grind|cons x l i=>
 rw[fS,tN,tN];have:(uv a f k x).done=V->x.done=V:=by
  cases a;.exact id
  .exactλh=>Bool.noConfusion h
 grind
theorem sqB{a b:Nat}:a*a+b*b<=(a+b)*(a+b):=ai
mutual
theorem Qu : ∀ p : ae, (eI p).length <= p.nn * p.nn /\ mG (eI p) <= p.nn
  | .mk o n args t v s a c => by
    rw [eI, ae.nn]
    have q : ae.bH args * ae.bH args + 2 * ae.bH args + 1 = (ae.bH args + 1) * (ae.bH args + 1) := by
      rw [xu, Nat.mul_add]; omega
    cases aj o 0
    · rw [bS]
      cases aj o 2 || aj o 3
      · rw [bS]
        obtain ⟨h, b⟩ := aFg args
        obtain ⟨d, e⟩ := adh (aDq (.mk o n args t v s a c)) (BH args)
        omega
      · rw [aR]
        obtain ⟨h, b⟩ := ahr (aj o 3) args args 0
        omega
    · rw [aR]
      show 1 <= _ /\ 1 <= _
      omega
theorem aFg : ∀ l : bq, (BH l).length <= ae.bH l * ae.bH l /\ mG (BH l) <= ae.bH l
  | [] => ⟨bJ _, bJ _⟩
  | a :: l => by
    obtain ⟨h, c⟩ := Qu a
    have := sqB (a := a.nn) (b := ae.bH l)
    rw [BH, ae.bH]
    omega
theorem ahr (c : Bool) (f : bq) : ∀ (l : bq) (k : Nat), (mU c f l k).length <= ae.bH l * ae.bH l /\ mG (mU c f l k) <= ae.bH l
  | [], _ => ⟨bJ _, bJ _⟩
  | a :: l, k => by
    obtain ⟨h, d⟩ := Qu a
    obtain ⟨e, g⟩ := ahr c f l (k + 1)
    have := sqB (a := a.nn) (b := ae.bH l)
    have := axq c f k (eI a)
    rw [mU, ae.bH, gJ, abR, fZ]
    omega
end
def zo(p:ae):Prop:=∀q∈nodes p,tW q.op q.args.length=V
theorem zo.Iu{o n r t v s p c a}(h:zo (.mk o n r t v s p c))(b:a∈r):zo a:=λq d=>h q (by grind[nodes,ae.LW])
theorem zo.ar{o n a t v s p c}(h:zo (.mk o n a t v s p c)):tW o a.length=V:=h (.mk o n a t v s p c) (by simp[nodes])
theorem nK{a b:Int}(h:aj a b=V):a=b:=by grind[jU]
theorem ar8{o:Int}{n:Nat}(h:aj o 8=V)(a:tW o n=V):n=2:=by have:=nK h;subst this;have a:aj (.ofNat n) 2=V:=a;grind[nK]
theorem akR{o:Int}{a:ae}{l:bq}(h:tW o (a::l).length=V):aj o 8=V->l≠[]:=by grind[ar8]
theorem axr{l:Bool}{d:Nat}{f:bq}{a:ae}(h:iE a.nn a.cn x)(b:f[k]?=J a)(c:ae.bH f+1<=m)(e:2+ae.gb f<=d):iE m d (uv l f k x):=by
 cases l;.have:=ae.SD f a (dw b);have:=ae.rH f a (dw b);exact h.mono ab ab
 .exact axs h b rfl rfl c e
theorem ahs(b:Bool)(f:bq)(m d:Nat)(g:ae.bH f+1<=m)(c:2+ae.gb f<=d):∀(l:bq)(k:Nat),f.drop k=l->(∀a∈l,∀y∈eI a,iE a.nn a.cn y)->∀y∈mU b f l k,iE m d y
 |[],_,_,_,y,h=>by rw[mU]at h;exact absurd h mA|a::l,k,hd,hr,y,h=>by
  have e:f[k]?=J a:=by rw[<-GB,hd];rfl
  rw[mU,AK]at h;rcases h with h|h;.obtain⟨x,j,rfl⟩:=List.mem_map.1 h;have:=ae.rH f a (dw e);exact axr (hr a gK x j) e ab c
  .exact ahs b f m d g c l (k+1) (by rw[<-DO,hd];rfl) (λa i=>hr a (kG _ i)) y h
theorem IL:∀p:ae,zo p->∀y∈eI p,iE p.nn p.cn y|.mk o k args t v s n c,f,y,h=>by have j:=Expr.IB c;have i:∀a∈args,∀y∈eI a,iE a.nn a.cn y:=λa e=>IL a (f.Iu e);rw[eI]at h;cases b:aj o 0 with|true=>rw[b,aR,B6]at h;rw[h];exact aqw _ _ _ _ _ (by simp only[ae.nn];omega) (by simp only[ae.cn];omega) (by simp only[ae.cn];omega)|false=>rw[b,bS]at h;cases d:aj o 2||aj o 3 with|true=>rw[d,aR]at h;exact ahs _ args _ _ (by simp only[ae.nn];omega) (by simp only[ae.cn];omega) args 0 rfl i y h|false=>rw[d,bS]at h;cases args with|nil=>rw[BH]at h;exact absurd h mA|cons a l=>rw[BH]at h;obtain⟨x,g,h⟩:=List.mem_flatMap.1 h;exact aDs (i a gK x g) (akR f.ar) y h termination_by p=>oW p decreasing_by simp_wf;have:=oU e;omega
theorem iE.ok{n w:Nat}(h:iE n w x)(b:n<=99)(c:w<=99999):aju x:=⟨⟨by have:=h.c;omega,by have:=h.k;omega,λe a=>by have:=h.e e a;omega,by have:=h.o;omega,by have:=h.p;omega,by have:=h.i;omega,by have:=h.l;omega⟩,by have:=h.r;have:=qR b c;omega⟩
theorem aDu(p:ae)(x:Pr):rI p x≠[]:=by obtain⟨op,nl,args,ty,var,scope,s,cond⟩:=p;grind[rI,Dk]
theorem RU{o:Int}(a:aj o 0=C)(h:tW o 0=V):False:=by unfold tW at h;rw[a,bS]at h;cases b:aj o 1<;>cases c:aj o 2<;>cases d:aj o 3<;>cases e:aj o 8<;>rw[b,c,d]at h<;>try rw[e]at h<;>exact absurd h eY
theorem iE.pat{n w:Nat}(h:iE n w x)(a:n<=99)(c:w<=99999):lE x.rest:=⟨by have:=h.m;have:=qR a a;omega,λq b=>by have:=h.b q b;omega⟩
section
variable{X Y σ:Type}{tr:X->List Y}{step:Y->σ->ah bF×σ}
def tB(r:X->List Y)(t:Y->σ->ah bF×σ)(x:X)(s:ah bF×σ):ah bF×(ah bF×σ):=((cO t (r x) s.2).1.map λ_=>.ret,cO t (r x) s.2)
theorem Cy:∀(a:List X)(s:σ),cO (tB tr step) a (Z,s)=((cO step (a.flatMap tr) s).1.map λ_=>Code.ret,cO step (a.flatMap tr) s)|[],_=>rfl|x::a,s=>by rw[uS,B5,xT];simp only[tB];rcases h:cO step (tr x) s with⟨c,b⟩;cases c with|none=>exact Cy a b|some c=>rfl
theorem Nw{d:List X}{s:σ}{x:X}{a:ah bF×σ}(h:sU (tB tr step) d (Z,s) x a):a.1=Z/\∀pre y post b,tr x=pre++y::post->cO step pre a.2=(Z,b)->sU step (d.flatMap tr) s y b:=by obtain⟨pre,post,rfl,e⟩:=h;rw[Cy]at e;rcases f:cO _ _ s with⟨c,k⟩;rw[f]at e;cases c with|some c=>grind|none=>have e2:=(gY (λz=>z.2) e).symm;subst e2;refine⟨rfl,λp y g b i j=>⟨pre.flatMap tr++p,g++post.flatMap tr,?_,?_⟩⟩<;>grind[xT]
theorem Hi.lo{b c:GH}(h:Hi k a b)(l:Lo m b c)(f:a.next<=m):Hi k a c:=⟨fX h.1 l.1,λi d e=>(l.2 i ab).trans (h.2 i d e)⟩
end
set_option maxHeartbeats 4000000
def Pr.rd(x:Pr):DV:=.agg (.bool x.done::x.rest.cells)
abbrev qm:Pr->aq:=λx=>[x.cJ.d,x.rd]
def GK(p:ae):Prop:=∀g,∃h a c g',ev PP cf (.call 223 [.agg p.cells] .no g)=J (.val (.dv (.func h [] a) .no) g')/\Lo g.next g g'/\c g'/\(∀g1 g2,c g1->g1.next<=g2.next->(∀i,g.next<=i->i<g'.next->g2.get i=g1.get i)->c g2)/\vZ qm h [] a c (eI p)/\∀m,cf.iK h ([]++[.dT m]++a)=Z
theorem Ba{X a:Type}{t:X->a->ah bF×a}(x:X)(s:a):cO t [x] s=t x s:=by rw[uS];rcases t x s with⟨c,b⟩;cases c<;>rfl
theorem axl(b:Nat)(f l a t v o p c):vZ qm 277 [] [.ptr b 0] (aaP . b (.mk f l a t v o p c)) [Oj t v c]:=by intro n k i r step s U j g hr e;have h:g.get b=J _:=j _ _ _ hr;obtain⟨g2,e2,r2,d⟩:=U.run _ s g ⟨[],[],rfl,rfl⟩ hr e;rw[Ba];refine⟨g2,?_,r2,d⟩;simp only[qm,Oj,Pr.rd,Edge.d,Edge.cells,ae.cells,Expr.cells,zP,ae.bm,Expr.bm,eG,zB,go_sem]at e2 h;refine aP func277 ?_;simp only[f277,go_sem,h,e2]
theorem ash{n:Nat}:(DV.dT n).flat=[.dT n]:=rfl
attribute[go_sem]ash
def kL(g:GH)(b:Nat)(p:ae):Prop:=g.get b=J (.box ⟨p.cells,[]⟩)/\b<g.next
theorem kL.lo{b:Nat}{p:ae}(h:kL g b p)(l:Lo k g g')(a:b<k):kL g' b p:=⟨(l.2 b a).trans h.1,gi h.2 l.1⟩
structure y7{σ:Type}(k:Nat)(g0:GH)(iy ny:Nat)(cap:GH->Prop)(rel:ah bF->σ->GH->Prop)(cd:ah bF)(s:ah bF×σ)(g:GH):Prop where
 r:rel s.1 s.2 g
 c:cap g
 h:Hi k g0 g
 y:g.get iy=J (.box ⟨[.dT ny],[]⟩)e:cd=s.1.map λ_=>Code.ret
 n:iy<g.next
theorem y7.lo{a:Type}{b:GH}{y n:Nat}{c:GH->Prop}{r:ah bF->a->GH->Prop}{d:ah bF}{s:ah bF×a}{e:Pr->aq}{p:Pr->a->Prop}{t:Pr->a->ah bF×a}(U:B' e p n k r t)(h:y7 k b y n c r d s g)(l:Lo m g g')(j:k<=m)(i:b.next<=m)(o:y<m)(f:∀g1 g2,c g1->Lo m g1 g2->c g2):y7 k b y n c r d s g':=⟨U.stay _ _ _ _ h.r (l.mono j),f _ _ h.c l,h.h.lo l i,(l.2 y o).trans h.y,h.e,gi h.n l.1⟩
structure mY(L:Nat)(a b:GH):Prop where
 n:a.next<=b.next
 g:∀i,i≠L->i<a.next->b.get i=a.get i
theorem mY.refl:mY L a a:=⟨bJ _,λ_ _ _=>rfl⟩
theorem mY.set{b:GH}{o:GO}(h:mY L a b):mY L a (b.set L o):=⟨h.n,λi c d=>by rw[lj,if_neg c];exact h.g i c d⟩
theorem mY.sg{j:Nat}{b:GH}{o:GO}(h:mY L a b)(e:a.next<=j):mY L a (b.set j o):=⟨h.n,λi c d=>by rw[lj,if_neg ab];exact h.g i c d⟩
theorem mY.alloc{b:GH}{o:GO}(h:mY L a b):mY L a (b.alloc o):=⟨fX h.n (by simp[dN]),λi c d=>by have:=h.n;rw[ke,if_neg ab];exact h.g i c d⟩
theorem ld{b:GH}(h:mY L a b:=by repeat(first|exact mY.refl|refine mY.alloc ?_|refine mY.set ?_|refine mY.sg ?_ (by first|exact bJ _|omega|(simp only[dN,gL];omega)))):mY L a b:=h
theorem mY.lo{b:GH}(h:mY L a b)(e:k<=L)(c:L<a.next):Lo k a b:=⟨h.n,λi d=>h.g i ab ab⟩
section
variable{σ:Type}{k n L:Nat}{ok:Pr->σ->Prop}{rel:ah bF->σ->GH->Prop}{step:Pr->σ->ah bF×σ}{cap:GH->Prop}{g0 g1 gA g2:GH}{iy:Nat}{s:σ}
theorem Rs(U:B' qm ok n k rel step)(y:Pr)(s:σ)(d:ok y s)(f:rel Z s g1)(c:k<=L)(b:L<g1.next)(a:mY L g1 gA){Q:SV->GH->Prop}(h:∀g2,rel (step y s).1 (step y s).2 g2->Hi k gA g2->Sat (F (.val (.dv (.bool (step y s).1.isNone) .no) g2)) Q):Sat ((ev PP cf (.dT n (qm y) gA)).bind F) Q:=by obtain⟨g2,e,r,g⟩:=U.run y s gA d (U.stay _ _ _ _ f (a.lo c b)) (by have:=a.n;omega);grind
theorem yS(U:B' qm ok n k rel step)(y:Pr)(s:σ){a:aq}(e:qm y=a)(d:ok y s)(r:rel Z s g1)(f:k<=L)(c:L<g1.next)(b:mY L g1 gA){Q:SV->GH->Prop}(h:∀g2,rel (step y s).1 (step y s).2 g2->Hi k gA g2->Sat (F (.val (.dv (.bool (step y s).1.isNone) .no) g2)) Q):Sat ((ev PP cf (.dT n a gA)).bind F) Q:=by subst e;exact Rs U y s d r f c b h
theorem y7.next(U:B' qm ok n k rel step)(R:y7 k g0 iy n cap rel Z (Z,s) g1)(d:mY L g1 gA)(b:Hi k gA g2)(l:k<=iy)(y:iy<L)(p:g0.next<=L)(m:L<g1.next)(g:∀g1 g2,cap g1->g1.next<=g2.next->(∀i,iy<i->i<L->g2.get i=g1.get i)->cap g2){c:ah bF}{f:σ}{o:GO}(r:rel c f g2):y7 k g0 iy n cap rel (c.map λ_=>Code.ret) (c,f) (g2.set L o)/\Hi (L+1) g1 (g2.set L o):=by
 have q:=d.n;have t:=b.1;have e:∀i,k<=i->i≠L->i<g1.next->(g2.set L o).get i=g1.get i:=λi a h j=>by rw[lj,if_neg h,b.2 i a ab,d.g i h j]
 refine⟨⟨U.stay _ _ _ _ r (Lo.set ab),g _ _ R.c (by grind[gL]) ai,⟨by grind[gL],λi a h=>?_⟩,?_,rfl,by grind[gL]⟩,⟨by grind[gL],λi a h=>e i ab ab h⟩⟩;.rw[e i a ab ab];exact R.h.2 i a h
 .rw[e iy l ab ab];exact R.y
end
theorem afm(a q c:ae)(l:bq)(O B:Nat)(hT:GK a)(hq:q.args=c::l):vZ qm 341 [] [.ptr O 0,.ptr B 0] (λg=>kL g O a/\kL g B q) ((eI a).flatMap (uD q c)):=by
 intro n k σ D step s U jW g hr Q;obtain⟨⟨lr,nR⟩,⟨jt,pj⟩⟩:=jW _ _ _ hr;obtain⟨h,ca,cap,g1,e1,l1,c1,H,it,hp⟩:=hT (g.alloc (.box ⟨[.dT n],[]⟩));suffices hS:Sat (ev PP cf (.call 341 ([]++[.dT n]++[.ptr O 0,.ptr B 0]) .no g)) λv g'=>v=.tp []/\D (cO step ((eI a).flatMap (uD q c)) s).1 (cO step ((eI a).flatMap (uD q c)) s).2 g'/\Hi k g g' by obtain⟨v,g',e,rfl,r,h⟩:=hS;simp_all
 refine mV func341 ?_;have kQ:(O=g.next)=False:=cF ab;have KV:(B=g.next)=False:=cF ab;have wG:Lo g.next g g1:=(Lo.alloc (bJ _)).trans (l1.mono (by simp[dN]));have cZ:g.next<g1.next:=by have:=l1.1;grind[dN]
 have hy:g1.get g.next=J (.box ⟨[.dT n],[]⟩):=(l1.2 _ (by simp[dN])).trans (by simp[ke]);rw[dN]at H;simp only[f341];simp only[go_sem,lr,kQ,e1];refine Al it (tB (uD q c) step) (y7 k g g.next n cap D) (Z,s) hp rfl ⟨U.stay _ _ _ _ hr (wG.mono Q),c1,⟨ab,λi h1 P=>wG.2 i P⟩,hy,rfl,cZ⟩ (λc s g' h=>h.c) (λc s g2 g3 h hl=>h.lo U hl ab ab cZ (λg4 g5 m u=>H g4 g5 m u.1 λi _ hi=>u.2 i hi)) (λx s g2 hx R hN M=>?_) (λg2 R hN=>?_);.obtain⟨iI,S⟩:=Nw hx;obtain⟨s0,s⟩:=s;simp only at iI S;subst iI;refine Ao M rfl ?_;have T:=R.y;obtain⟨zq,A0⟩:=jW _ _ _ R.r;have X:(g1.next=g2.next)=False:=cF ab;have Y:(g1.next=g2.next+1)=False:=cF ab;have z3:(g2.next=g1.next)=False:=cF ab;have z4:(g2.next+1=g1.next)=False:=cF ab;have z5:(g.next=g2.next)=False:=cF ab;have z6:(g.next=g2.next+1)=False:=cF ab;have z7:(g.next=g1.next)=False:=cF ab;have z8:(B=g2.next)=False:=cF ab;have z9:(B=g2.next+1)=False:=cF ab;have sO:(B=g1.next)=False:=cF ab;have lU:(g2.next+1=g2.next)=False:=cF ab;have E:(g2.next=g2.next+1)=False:=cF ab;have d1:=aI2;simp only[bw,opsOf,f341,go_sem]at d1;obtain⟨y,w,args,A,j,p,f,d⟩:=q;obtain rfl:args=c::l:=hq;have G:=A0.1;simp only[ae.cells]at G;obtain⟨cJ,done,rest⟩:=x;simp only[qm,Pr.rd,Edge.d];cases done with
 |false=>
  simp only[go_sem,M,T,X,Y,z3,z4,z5,z6,z7,z8,z9,sO,lU,E,G,d1];simp only[tT];have dZ:=S [] ⟨cJ,C,.mk 8 V [rest,c] 0 0 0 0 zE⟩ [] s rfl rfl;refine Rs U ⟨cJ,C,.mk 8 V [rest,c] 0 0 0 0 zE⟩ s dZ R.r (show k<=g1.next by omega) hN ld (λg3 N t=>?_);have F:=t.2 g1.next ab (by grind[dN,gL]);have W:=t.2 g.next ab (by grind[dN,gL]);simp only[go_sem,M,T,X,Y,z5,z6,z7]at F W;have fin:=λo=>R.next U ld t Q ab ab hN (λa b m u I=>H a b m u λi h7 L=>I i ab L) (o:=o) N;have ns:tB (uD (.mk y w (c::l) A j p f d) c) step ⟨cJ,C,rest⟩ (Z,s)=((step ⟨cJ,C,.mk 8 V [rest,c] 0 0 0 0 zE⟩ s).1.map λ_=>Code.ret,step ⟨cJ,C,.mk 8 V [rest,c] 0 0 0 0 zE⟩ s):=by show((cO step [_] s).1.map _,cO step [_] s)=_;rw[Ba]
  rw[ns];generalize step ⟨cJ,C,.mk 8 V [rest,c] 0 0 0 0 zE⟩ s=z at*;obtain⟨c3,s3⟩:=z;rcases c3 with _|c3<;>simp only[qU,qV,rT,gF]at fin|-<;>simp only[go_sem,F]<;>exact⟨trivial,(fin _).1,(fin _).2,rfl⟩|true=>
  have ns:tB (uD (.mk y w (c::l) A j p f d) c) step ⟨cJ,V,rest⟩ (Z,s)=((match(step ⟨cJ,V,rest⟩ s).1 with|none=>(step ⟨cJ,C,.mk y w (c::l) A j p f d⟩ (step ⟨cJ,V,rest⟩ s).2).1|some c=>J c).map λ_=>Code.ret,match(step ⟨cJ,V,rest⟩ s).1 with|none=>step ⟨cJ,C,.mk y w (c::l) A j p f d⟩ (step ⟨cJ,V,rest⟩ s).2|some c=>(J c,(step ⟨cJ,V,rest⟩ s).2)):=by show((cO step [_,_] s).1.map _,cO step [_,_] s)=_;grind[uS,Ba]
  rw[ns];simp only[go_sem,M,T,X,Y,z3,z4,z5,z6,z7,lU,E];simp only[tT];have dZ:=S [] ⟨cJ,V,rest⟩ [⟨cJ,C,.mk y w (c::l) A j p f d⟩] s rfl rfl;have K:=S [⟨cJ,V,rest⟩] ⟨cJ,C,.mk y w (c::l) A j p f d⟩ [] (step ⟨cJ,V,rest⟩ s).2 rfl;rw[Ba]at K;refine Rs U ⟨cJ,V,rest⟩ s dZ R.r (show k<=g1.next by omega) hN ld (λg3 N t=>?_);have OZ:=t.1;simp only[dN,gL]at OZ;have F:=t.2 g1.next ab (by grind[dN,gL]);have W:=t.2 g.next ab (by grind[dN,gL]);have q3:=t.2 g2.next ab (by simp only[dN,gL];omega);simp only[go_sem,M,T,X,Y,z3,z5,z6,z7,E]at F W q3;have fin:=λo=>R.next U ld t Q ab ab hN (λa b m u I=>H a b m u λi h7 L=>I i ab L) (o:=o) N;have ug:=λ(g4:GH)(m:Hi k g3 g4)c s o(r:D c s g4)=>R.next U ld (t.trans m) Q ab ab hN (λa b m u I=>H a b m u λi h7 L=>I i ab L) (o:=o) r;generalize step ⟨cJ,V,rest⟩ s=z at*;obtain⟨c3,s3⟩:=z;cases c3 with|some c3=>simp only[rT,gF]at fin|-;simp only[go_sem,F];exact⟨trivial,(fin _).1,(fin _).2,rfl⟩|none=>simp only[qU]at fin K|-;have NO:=(jW _ _ _ N).2.1;simp only[ae.cells,ae.bm,oE]at NO;have K:=K trivial;simp only[go_sem,W,q3,NO];simp only[tT];refine Rs U ⟨cJ,C,.mk y w (c::l) A j p f d⟩ s3 K N (show k<=g1.next by omega) ab mY.refl (λg4 r4 m=>?_);have q4:=(m.2 g1.next ab ab).trans F;have ug:=λo=>ug g4 m _ _ o r4;generalize step ⟨cJ,C,.mk y w (c::l) A j p f d⟩ s3=z at*;obtain⟨c4,s4⟩:=z;cases c4 with|none=>simp only[qU,qV]at ug|-;simp only[go_sem,q4];exact⟨trivial,(ug _).1,(ug _).2,rfl⟩|some c4=>simp only[rT,gF]at ug|-;simp only[go_sem,q4];exact⟨trivial,(ug _).1,(ug _).2,rfl⟩
 .rw[Cy]at R|-;obtain⟨r,_,P,_⟩:=R;revert r;cases(cO step ((eI a).flatMap (uD q c)) s).1 with|none=>intro r;simp only[qV,go_sem];exact⟨trivial,r,P⟩|some c=>intro r;simp only[gF,go_sem];exact⟨trivial,r,P⟩
section
variable{P:aG}{cf:bR}{rec:dR}{gs cr:aD}{ops l:List aB}{os:Hd (List aB)}{e:Kx}{O:St}{k:eB->ah bh}{i j:Nat}
def r2(P:aG)(c:bR)(r:dR)(g a:aD)(s:Hd (List aB))(e:Kx):List Unit->List aB->(eB->ah bh)->St->ah bh|[],o::l,k,O=>bif Kx.fr e (jy c O o.op)then qI P c r g a s (.mk (o::l) (.mk (o::l))) k O else Z|_::b,o::l,k,O=>(dH P c r g a l O o).bind (r2 P c r g a s e b l k)|_,[],_,_=>Z
def r1(P:aG)(c:bR)(r:dR)(g d:aD)(s:Hd (List aB))(b:List Unit):List Unit->List aB->(eB->ah bh)->St->ah bh|[],o::l,k,O=>(dH P c r g d l O o).bind (r2 P c r g d s (jy c O o.op) b l k)|_::a,o::l,k,O=>(dH P c r g d l O o).bind (r1 P c r g d s b a l k)|_,[],_,_=>Z
def QE(P:aG)(c:bR)(r:dR)(g a:aD)(o:Hd (List aB))(e:Kx)(b:List Unit)(l:Hd (List aB))(k:eB->ah bh)(s:St):ah bh:=r2 P c r g a o e b l.get k s
def IN(P:aG)(c:bR)(r:dR)(g d:aD)(o:Hd (List aB))(b a:List Unit)(l:Hd (List aB))(k:eB->ah bh)(s:St):ah bh:=r1 P c r g d o b a l.get k s
variable{d:ah Tmp}{op:Op}{ty:an}{pos:String}{af:Array Go.Edge}{a b:List Unit}
theorem aFH{t:Tg (⟨d,op,ty,pos,af,Z⟩::l)}:IN P cf rec gs cr os b (()::a) (.mk (⟨d,op,ty,pos,af,Z⟩::l) t) k O=(dH P cf rec gs cr l O ⟨d,op,ty,pos,af,Z⟩).bind (IN P cf rec gs cr os b a (.mk l (.mk l)) k):=(rfl)
theorem aFI{t:Tg (⟨d,op,ty,pos,af,Z⟩::l)}:IN P cf rec gs cr os b [] (.mk (⟨d,op,ty,pos,af,Z⟩::l) t) k O=(dH P cf rec gs cr l O ⟨d,op,ty,pos,af,Z⟩).bind (QE P cf rec gs cr os (jy cf O op) b (.mk l (.mk l)) k):=(rfl)
theorem aFJ{t:Tg (⟨d,op,ty,pos,af,Z⟩::l)}:QE P cf rec gs cr os e (()::b) (.mk (⟨d,op,ty,pos,af,Z⟩::l) t) k O=(dH P cf rec gs cr l O ⟨d,op,ty,pos,af,Z⟩).bind (QE P cf rec gs cr os e b (.mk l (.mk l)) k):=(rfl)
theorem aFK{t:Tg (⟨d,op,ty,pos,af,Z⟩::l)}:QE P cf rec gs cr os e [] (.mk (⟨d,op,ty,pos,af,Z⟩::l) t) k O=bif Kx.fr e (jy cf O op)then qI P cf rec gs cr os (.mk (⟨d,op,ty,pos,af,Z⟩::l) (.mk _)) k O else Z:=(rfl)
theorem awJ{n x:Nat}(h:j<n):vj [(i,j)] x n=C:=by show((aw i x&&aw j n)||false)=C;grind[kK]
theorem asP{n:Nat}(h:i<n):Ef [(i,j)] n=C:=by show(aw i n||false)=C;grind[kK]
theorem ah9:∀(l:List aB)(n:Nat)(g:List (Nat×Kx))(O:St),j<n->i<n->tG P cf rec gs cr ops [(i,j)] l n g k O=qI P cf rec gs cr (.mk ops (.mk ops)) (.mk l (.mk l)) k O|[],_,_,_,_,_=>rfl|o::l,n,g,O,a,b=>by have h:=λg O=>ah9 l (n+1) g O ab ab;unfold tG;show _=((yR ⟨ops⟩ O o).bind _).bind _;cases yR ⟨ops⟩ O o with|none=>rfl|some w=>simp only[cQ];cases w with
 |true=>
 have:(g.all λe=>!(vj [(i,j)] e.1 n)||Kx.fr e.2 (jy cf O o.op))=V:=by rw[AH];intro e _;rw[awJ a];rfl
 rw[this];show(dH P cf rec gs cr l O o).bind _=(((dH P cf rec gs cr l O o).bind λs=>jN P cf rec gs cr C ⟨ops⟩ l 1 [] s).bind _);cases dH P cf rec gs cr l O o with|none=>rfl|some s=>show tG P cf rec gs cr ops [(i,j)] l (n+1) _ k s=(jN P cf rec gs cr C ⟨ops⟩ l 1 [] s).bind _;rw[h,I0 l 1 0];rfl
 |false=>show(aH O o.dst (.tp [])).bind _=(((aH O o.dst (.tp [])).bind λO=>jN P cf rec gs cr C ⟨ops⟩ l 1 [] O).bind _);cases aH O o.dst (.tp [])with|none=>rfl|some s=>show tG P cf rec gs cr ops [(i,j)] l (n+1) _ k s=(jN P cf rec gs cr C ⟨ops⟩ l 1 [] s).bind _;rw[h,I0 l 1 0];rfl
def C7(l:List aB)(n:Nat):Bool:=(l.take n).all λo=>o.guard.isNone
theorem Qa{o:aB}{n:Nat}(h:C7 (o::l) (n+1)=V):o.guard=Z/\C7 l n=V:=by simp_all[C7]
theorem M'{o:aB}(h:o.guard=Z):yR ⟨ops⟩ O o=J V:=by grind[yR]
theorem ah8{r:bh}(t:i<j):∀(b:List Unit)(l:List aB)(n:Nat)(O:St),n+b.length=j->i<n->C7 l (b.length+1)=V->r2 P cf rec gs cr (.mk ops (.mk ops)) e b l k O=J r->tG P cf rec gs cr ops [(i,j)] l n [(i,e)] k O=J r
 |[],[],_,_,_,_,_,h=>by cases h|_::_,[],_,_,_,_,_,h=>by cases h|[],o::l,n,O,m,q,g,h=>by
  obtain⟨g1,g2⟩:=Qa g;have p:n=j:=by simpa using m
  subst p;have a:(bif Kx.fr e (jy cf O o.op)then qI P cf rec gs cr (.mk ops (.mk ops)) (.mk (o::l) (.mk (o::l))) k O else Z)=J r:=h;cases f:Kx.fr e (jy cf O o.op)with|false=>rw[f]at a;cases a|true=>
   rw[f]at a;unfold tG;rw[M' g1];simp only[cQ,aR];have:([(i,e)].all λe=>!(vj [(i,n)] e.1 n)||Kx.fr e.2 (jy cf O o.op))=V:=by show((!(vj [(i,n)] i n)||Kx.fr e (jy cf O o.op))&&V)=V;rw[f];simp
   rw[this,aR];have c:((yR ⟨ops⟩ O o).bind λw=>bif w then bif !C||Iy ops [] 0 (jy cf O o.op)then(dH P cf rec gs cr l O o).bind λs=>jN P cf rec gs cr C ⟨ops⟩ l 1 [] s else Z else(aH O o.dst (.tp [])).bind λO=>jN P cf rec gs cr C ⟨ops⟩ l 1 [] O).bind (agW k)=J r:=a;rw[M' g1]at c;simp only[cQ,aR,vU,Nl]at c;cases d:dH P cf rec gs cr l O o with|none=>rw[d]at c;cases c|some s=>rw[d]at c;simp only[cQ]at c|-;rw[ah9 l (n+1) _ s ab ab];rw[I0 l 1 0]at c;exact c
 |u::b,o::l,n,O,m,q,g,h=>by
  obtain⟨g1,g2⟩:=Qa g;rw[dE]at m;have a:(dH P cf rec gs cr l O o).bind (r2 P cf rec gs cr (.mk ops (.mk ops)) e b l k)=J r:=h;unfold tG;rw[M' g1];simp only[cQ,aR];have:([(i,e)].all λe=>!(vj [(i,j)] e.1 n)||Kx.fr e.2 (jy cf O o.op))=V:=by
   have:vj [(i,j)] i n=C:=by show((aw i i&&aw j n)||false)=C;rw[kK (show j≠n by omega)];simp
   show((!(vj [(i,j)] i n)||Kx.fr e (jy cf O o.op))&&V)=V;rw[this];rfl
  rw[this,aR,asP q];cases d:dH P cf rec gs cr l O o with|none=>rw[d]at a;cases a|some s=>rw[d]at a;exact ah8 t b l (n+1) s ab ab g2 a
theorem ah7{r:bh}(m:i<j):∀(a:List Unit)(l:List aB)(n:Nat)(O:St),n+a.length=i->i+1+b.length=j->C7 l (a.length+1+(b.length+1))=V->r1 P cf rec gs cr (.mk ops (.mk ops)) b a l k O=J r->tG P cf rec gs cr ops [(i,j)] l n [] k O=J r
 |[],[],_,_,_,_,_,h=>by cases h|_::_,[],_,_,_,_,_,h=>by cases h|[],o::l,n,O,e,f,g,h=>by
  obtain⟨g1,g2⟩:=Qa (n:=b.length+1) (by rw[<-g];congr 1;simp only[gE];omega);have p:n=i:=by simpa using e
  subst p;have c:(dH P cf rec gs cr l O o).bind (r2 P cf rec gs cr (.mk ops (.mk ops)) (jy cf O o.op) b l k)=J r:=h;unfold tG;rw[M' g1];simp only[cQ,aR,nG];have:Ef [(n,j)] n=V:=by show(aw n n||false)=V;rw[show aw n n=V from pM n];rfl
  rw[this,aR];cases d:dH P cf rec gs cr l O o with|none=>rw[d]at c;cases c|some s=>rw[d]at c;exact ah8 m b l (n+1) s ab ab g2 c
 |u::a,o::l,n,O,e,f,g,h=>by
  obtain⟨g1,g2⟩:=Qa (n:=a.length+1+(b.length+1)) (by rw[<-g];congr 1;simp only[dE];omega);rw[dE]at e;have c:(dH P cf rec gs cr l O o).bind (r1 P cf rec gs cr (.mk ops (.mk ops)) b a l k)=J r:=h;unfold tG;rw[M' g1];simp only[cQ,aR,nG];have:Ef [(i,j)] n=C:=by show(aw i n||false)=C;rw[kK (show i≠n by omega)];rfl
  rw[this,bS];cases d:dH P cf rec gs cr l O o with|none=>rw[d]at c;cases c|some s=>rw[d]at c;exact ah7 m a l (n+1) s ab f g2 c
theorem Tb{e:ah Nat}{i:Nat}{r:bh}(a b:List Unit)(h:nk cf st0 ops=V)(d:Av cf ops=[(a.length,a.length+1+b.length)])(g:C7 ops (a.length+1+(b.length+1))=V)(c:IN P cf rec (cf.s8 O.fn) (cf.zt O.fn) (.mk ops (.mk ops)) b a (.mk ops (.mk ops)) (E7 (cf.keep O.fn i) k) O=J r):exec P cf rec e (.region i ⟨ops⟩ V) O k=J r:=anK h d (ah7 ab a ops 0 O ab rfl g c)
end
def Lw(g:GH)(w:Bool):SV->ah Kx|.dv (.ptr id _) _=>J (.pt (J id) g w)|.se ..|.lp ..=>bif w then J (.pt Z g V)else Z|_=>Z
theorem ayk{c:bR}{s:St}{a:aK}:jy c s (.load t a)=(((cR c.ao s a).bind (Lw s.g C)).getD (.s (kindOf c s (.load t a)))):=by show(match cR c.ao s a with|some (.dv (.ptr id _) _)=>Kx.pt (J id) s.g C|_=>.s (kindOf c s (.load t a)))=_;cases cR c.ao s a with|none=>rfl|some v=>cases v with|dv d o=>cases d<;>rfl|_=>rfl
theorem ayl{c:bR}{s:St}{a v:aK}:jy c s (.store t a v)=(((cR c.ao s a).bind (Lw s.g V)).getD (.s (kindOf c s (.store t a v)))):=by show(match cR c.ao s a with|some (.dv (.ptr id _) _)=>Kx.pt (J id) s.g V|some (.se ..)|some (.lp ..)=>Kx.pt Z s.g V|_=>.s (kindOf c s (.store t a v)))=_;cases cR c.ao s a with|none=>rfl|some v=>cases v with|dv d o=>cases d<;>rfl|_=>rfl
theorem ayj{i:Nat}{o:aM}:Lw g w (.dv (.ptr i I) o)=J (.pt (J i) g w):=(rfl)
theorem ayh{i o:Nat}:Lw g V (.se s i o)=J (.pt Z g V):=(rfl)
theorem ayi{o:Nat}:Lw g V (.lp s o)=J (.pt Z g V):=(rfl)
theorem ady{a b:α}:(J a).getD b=a:=rfl
theorem asE{a b:Kx}:Kx.fr a b=(Kx.xP a b||Kx.xP b a):=(rfl)
theorem aru{t:ah Nat}:Kx.xP (.pt t g w) (.pt Z g' w')=C:=(rfl)
theorem arv{x i:Nat}:Kx.xP (.pt (J x) g w) (.pt (J i) g' w')=((g.get i).isSome&&!(aw x i)):=(rfl)
theorem art{i:Nat}:Kx.xP (.pt Z g w) (.pt (J i) g' w')=((g.get i).isSome&&V):=(rfl)
attribute[go_sem↓]aFH aFI aFJ aFK
attribute[go_sem]ayk ayl ayj ayh ayi ady asE aru arv art RH
set_option maxHeartbeats 1000000
theorem akb(l:cE)(s:Int):fU ((l++[s]).map iD) 3 1=.dv (bP V ((l++[s]).map iD) 3 1) (.ex 3):=by cases l<;>rfl
theorem aFn(l:cE):cA (l.map iD)=V:=iB (λ_=>rfl) l
theorem aqc(e:Edge)(b k a y v s p c)(n o:Bool)(f:e.opens.l.length<100000000)(g:e.inside.l.length<100000000)(i:e.lI.l.length<100000000)(j:e.jZ.l.length<100000000):CC 344 [.agg (ae.mk b k a y v s p c).cells,e.d,.bool n,.bool o] (.val (.dv (pw e (oL b) o n s p).d .no) .empty):=by
 have k1:=G1 (d:=iD) (.inl rfl) (λ_=>rfl) [s] e.opens.l C e.opens.nl (by simp only[RB];omega);have k2:=G1 (d:=iD) (.inl rfl) (λ_=>rfl) [s] e.inside.l C e.inside.nl (by simp only[RB];omega);have k3:=G1 (d:=iD) (.inl rfl) (λ_=>rfl) e.lI.l [s] e.lI.nl C (by simp only[RB];omega);have k4:=G1 (d:=ko.d) (.inr (.inl rfl)) (λ_=>rfl) [⟨s,p⟩] e.jZ.l C e.jZ.nl (by simp only[RB];omega);clear f g i j;obtain⟨src,t,U,x,⟨I,K,L,M,N,O,P,Q,R⟩,m,l,S,T,ins⟩:=e;obtain⟨z,A,c3,B,D,E,F,G,H⟩:=c;rw[akb]at k3;simp only[fS,eG,lC,jF,ko.d,oE,go_sem]at k1 k2 k3 k4;have r1:cW [(12,.ex 3)] 16 1=[(12,.ex 3)]:=rfl;have r2:cW [(12,.ex 3)] 15 1=[(12,.ex 3)]:=rfl;have r:cW [(16,.ex 3),(12,.ex 3)] 13 1=[(16,.ex 3),(12,.ex 3)]:=rfl;have q:cW [(15,.ex 394),(12,.ex 3)] 13 1=[(15,.ex 394),(12,.ex 3)]:=rfl;have u:cW [(16,.ex 3)] 13 1=[(16,.ex 3)]:=rfl;have w:cW [(15,.ex 394)] 13 1=[(15,.ex 394)]:=rfl;refine aP func344 ?_;simp only[f344];simp only[go_sem,Edge.d,Edge.cells,ae.cells,Expr.cells,pw,oL];repeat'(with_reducible apply sp<;>intro h<;>simp only[h,k1,k2,k3,k4,aFn,r1,r2,r,q,u,w,go_sem])
 all_goals(simp only[oE,go_sem];try rfl)
theorem ayT{u:iF}{f n:Nat}{s:cT}{l:dV}{d:ah Tmp}{i:Nat}{b:LB}(h:AM.isAgg P t=J V):rB P t u ⟨f,n,s,l,g⟩ d i I (.box b)=(fD P u t b I).bind λr=>aH ⟨f,n,s,l,g.set i (.box r.2)⟩ d r.1:=by show(match u,ew b _,AM.isAgg P t with|.ref,.ex _,J C=>_|_,_,_=>_)=_;grind
attribute[go_sem]ayT
theorem Og(k:Int)(p q:ae):∃g,CC 345 [.agg p.cells,iD k,.agg q.cells] (.val (.dv (.agg (nw k p q).cells) .no) g):=by obtain⟨op,nl,args,ty,var,scope,s,cond⟩:=p;have d1:=aHk;have d2:=aHz;simp only[bw,opsOf,f345,go_sem]at d1 d2;refine⟨⟨2,[(0,.box ⟨iD k::.ay [.agg q.cells] 61 14::iD ty::iD var::iD scope::iD s::cond.cells,[(1,.ty 61)]⟩),(1,.box ⟨q.cells,[]⟩)]⟩,?_⟩;refine aP func345 ?_;simp only[go_sem,f345,ae.cells,nw,ae.bm];refine Tb [()] [(),()] d2 d1 rfl ?_;simp only[go_sem];rfl
theorem N4{n:Nat}:bP C l e n=.ay l e n:=by cases l<;>rfl
theorem encS{x:DV}{n:Nat}:bP V (l++[x]) e n=.ay (l++[x]) e n:=by cases l<;>rfl
theorem Pr.dG(r:Pr):r.cells.length=32:=by simp[Pr.cells,Edge.dG,ae.dG]
theorem Pr.pure(r:Pr):r.d.pure=V:=by show cA _=V;have h:cA _=V:=Edge.pure r.cJ;grind[Pr.cells,BI,cA,DV.pure,ae.pure]
set_option maxHeartbeats 4000000
theorem Edge.J4(e:Edge):List.drop 17 e.cells=[]:=by simp[Edge.dG]
theorem ae.J4(e:ae):List.drop 14 e.cells=[]:=by simp[ae.dG]
attribute[go_sem]Edge.J4 Edge.dG ae.J4
theorem NA{x:DV}{n:Nat}:fU (l++[x]) e n=.dv (.ay (l++[x]) e n) (.ex e):=by cases l<;>rfl
theorem axo(q u a l A m p f j)(b:Nat)(hT:GK a)(o1:aj q 1=C)(o4:aj q 4=C)(o8:aj q 8=C)(hz:∀x∈eI a,∃n w,n<100000000/\iE n w x):vZ qm 342 [] [.ptr b 0] (λg=>kL g b (.mk q u (a::l) A m p f j)) ((eI a).flatMap (rI (.mk q u (a::l) A m p f j))):=by
 intro n k σ rel step s U jW g hr Q;obtain⟨lr,nR⟩:=jW _ _ _ hr;obtain⟨h,ca,cap,g1,e1,l1,c1,P,it,hp⟩:=hT (g.alloc (.box ⟨[.dT n],[]⟩));suffices hS:Sat (ev PP cf (.call 342 ([]++[.dT n]++[.ptr b 0]) .no g)) λv g'=>v=.tp []/\rel (cO step ((eI a).flatMap (rI (.mk q u (a::l) A m p f j))) s).1 (cO step ((eI a).flatMap (rI (.mk q u (a::l) A m p f j))) s).2 g'/\Hi k g g' by obtain⟨v,g',e,rfl,r,h⟩:=hS;simp_all
 refine mV func342 ?_;have kQ:(b=g.next)=False:=cF ab;have wG:Lo g.next g g1:=(Lo.alloc (bJ _)).trans (l1.mono (by simp[dN]));have cZ:g.next<g1.next:=by have:=l1.1;grind[dN]
 have hy:g1.get g.next=J (.box ⟨[.dT n],[]⟩):=(l1.2 _ (by simp[dN])).trans (by simp[ke]);rw[dN]at P;simp only[ae.cells,ae.bm,oE]at lr;simp only[f342];simp only[go_sem,lr,kQ,e1];refine Al it (tB (rI (.mk q u (a::l) A m p f j)) step) (y7 k g g.next n cap rel) (Z,s) hp rfl ⟨U.stay _ _ _ _ hr (wG.mono Q),c1,⟨ab,λi h1 h2=>wG.2 i h2⟩,hy,rfl,cZ⟩ (λc s g' h=>h.c) (λc s g2 g3 h hl=>h.lo U hl ab ab cZ (λg4 g5 F t=>P g4 g5 F t.1 λi _ hi=>t.2 i hi)) (λx s g2 hx R hN L=>?_) (λg2 R hN=>?_)
 . obtain⟨iI,kR⟩:=Nw hx;obtain⟨s0,s⟩:=s;simp only at iI kR;subst iI;refine Ao L rfl ?_;have Y:=R.y;have S:=(jW _ _ _ R.r).1;simp only[ae.cells,ae.bm,oE]at S;have H:(g1.next=g2.next)=False:=cF ab;have I:(g1.next=g2.next+1)=False:=cF ab;have z3:(g2.next=g1.next)=False:=cF ab;have z4:(g2.next+1=g1.next)=False:=cF ab;have z5:(g.next=g2.next)=False:=cF ab;have z6:(g.next=g2.next+1)=False:=cF ab;have z7:(g.next=g1.next)=False:=cF ab;have z8:(b=g2.next)=False:=cF ab;have z9:(b=g2.next+1)=False:=cF ab;have sO:(b=g1.next)=False:=cF ab;have X:(g2.next+1=g2.next)=False:=cF ab;have G:(g2.next=g2.next+1)=False:=cF ab;obtain⟨nb,wb,mM,hB⟩:=hz x hx.mem;have Ll:=hB.z;obtain⟨y,CU,zY⟩:∃y,rI (.mk q u (a::l) A m p f j) x=[y]/\y=bif aj q 7 then Na x (.mk q u (a::l) A m p f j) j else MG x q p f (.mk q u (a::l) A m p f j):=by grind[rI]
   have W:=kR [] y [] s CU rfl;have ns:tB (rI (.mk q u (a::l) A m p f j)) step x (Z,s)=((step y s).1.map λ_=>Code.ret,step y s):=by grind[tB,Ba]
   rw[ns];obtain⟨cJ,done,rest⟩:=x;have k1:=amz cJ.jJ.l [j] cJ.jJ.nl C (by have:=hB.k;grind);rw[Expr.A3,show Expr.bm [j]=[.agg j.cells]from rfl,NA]at k1;simp only[N4]at k1;have k3:=λd o=>aqc cJ q u (a::l) A m p f j d o (Nr hB.o mM) (Nr hB.i mM) (Nr hB.p mM) (Nr hB.l mM);clear hB mM;simp only[Edge.d,ae.cells,ae.bm,oE,go_sem]at k3;have k4:=λd o=>Edge.dG (pw cJ (oL q) o d p f);simp only[qm,Pr.rd,Edge.d];simp only at Ll;cases E:aj q 7 with
   |true=>rw[E,aR]at zY;obtain rfl:=nK E;cases done with|true=>
   obtain rfl:=Ll rfl;have O:y=⟨DX cJ j,V,zP⟩:=zY;subst O;have ps:cA (Expr.bm cJ.jJ.l++[.agg j.cells])=V:=by simp[BI,Expr.uB,cA,DV.pure,Expr.pure]
   have hE:ue ⟨V,cJ.jJ.l++[j]⟩=.ay (Expr.bm cJ.jJ.l++[.agg j.cells]) 59 8:=by rw[ue,Expr.A3];exact encS
   obtain⟨src,dst,xf,Jh,⟨o1,o2,o3,o4',o5,o6,o7,o8',o9⟩,ops,cls,ub,uw,ins⟩:=cJ;simp only[go_sem,L,Y,H,I,z3,z4,z5,z6,z7,z8,z9,sO,X,G,S,Edge.cells,Expr.cells,E,k1,ps];simp only[tT];refine yS U ⟨DX ⟨src,dst,xf,Jh,⟨o1,o2,o3,o4',o5,o6,o7,o8',o9⟩,ops,cls,ub,uw,ins⟩ j,V,zP⟩ s (by simp only[qm,Pr.rd,Edge.d,DX,Edge.cells,Expr.cells,hE];rfl) W R.r (show k<=g1.next by omega) hN ld (λg3 N B=>?_);have D:=B.2 g1.next ab (by grind[dN,gL]);simp only[go_sem,L,H,I]at D;have fin:=λo=>R.next U ld B Q ab ab hN (λa b F t K=>P a b F t λi E M=>K i ab M) (o:=o) N;generalize step ⟨DX ⟨src,dst,xf,Jh,⟨o1,o2,o3,o4',o5,o6,o7,o8',o9⟩,ops,cls,ub,uw,ins⟩ j,V,zP⟩ s=z at*;obtain⟨c3,s3⟩:=z;rcases c3 with _|c3<;>simp only[qU,qV,rT,gF]at fin|-<;>simp only[go_sem,D]<;>exact⟨trivial,(fin _).1,(fin _).2,rfl⟩|false=>have O:y=⟨cJ,C,nw 7 (.mk 7 u (a::l) A m p f j) rest⟩:=zY;subst O;obtain⟨gz,k2⟩:=Og 7 (.mk 7 u (a::l) A m p f j) rest;simp only[ae.cells,ae.bm,oE,go_sem]at k2;simp only[go_sem,L,Y,H,I,z3,z4,z5,z6,z7,z8,z9,sO,X,G,S,E,k2];simp only[tT];refine yS U ⟨cJ,C,nw 7 (.mk 7 u (a::l) A m p f j) rest⟩ s rfl W R.r (show k<=g1.next by omega) hN ld (λg3 N B=>?_);have D:=B.2 g1.next ab (by grind[dN,gL]);simp only[go_sem,L,H,I]at D;have fin:=λo=>R.next U ld B Q ab ab hN (λa b F t K=>P a b F t λi E M=>K i ab M) (o:=o) N;generalize step ⟨cJ,C,nw 7 (.mk 7 u (a::l) A m p f j) rest⟩ s=z at*;obtain⟨c3,s3⟩:=z;rcases c3 with _|c3<;>simp only[qU,qV,rT,gF]at fin|-<;>simp only[go_sem,D]<;>exact⟨trivial,(fin _).1,(fin _).2,rfl⟩
   |false=>rw[E,bS]at zY;have T:y=bif done then⟨pw cJ (oL q) (bif aj q 5 then V else aj q 6) done p f,V,zP⟩else⟨pw cJ (oL q) (bif aj q 5 then V else aj q 6) done p f,C,nw (bif oL q then 9 else 10) (.mk q u (a::l) A m p f j) rest⟩:=zY;cases t:aj q 5 with
   |true=>obtain rfl:=nK t;have k3:=k3 done V;cases done with|true=>obtain rfl:=Ll rfl;have O:y=⟨pw cJ (oL 5) V V p f,V,zP⟩:=T;subst O;generalize pw cJ (oL 5) V V p f=e9 at*;simp only[go_sem,L,Y,H,I,z3,z4,z5,z6,z7,z8,z9,sO,X,G,S,E,t,k3];simp only[tT];refine yS U ⟨e9,V,zP⟩ s rfl W R.r (show k<=g1.next by omega) hN ld (λg3 N B=>?_);have D:=B.2 g1.next ab (by grind[dN,gL]);simp only[go_sem,L,H,I]at D;have fin:=λo=>R.next U ld B Q ab ab hN (λa b F t K=>P a b F t λi E M=>K i ab M) (o:=o) N;generalize step ⟨e9,V,zP⟩ s=z at*;obtain⟨c3,s3⟩:=z;rcases c3 with _|c3<;>simp only[qU,qV,rT,gF]at fin|-<;>simp only[go_sem,D]<;>exact⟨trivial,(fin _).1,(fin _).2,rfl⟩|false=>have O:y=⟨pw cJ (oL 5) V C p f,C,nw 9 (.mk 5 u (a::l) A m p f j) rest⟩:=T;subst O;obtain⟨gz,k2⟩:=Og 9 (.mk 5 u (a::l) A m p f j) rest;simp only[ae.cells,ae.bm,oE,go_sem]at k2;generalize pw cJ (oL 5) V C p f=e9 at*;simp only[go_sem,L,Y,H,I,z3,z4,z5,z6,z7,z8,z9,sO,X,G,S,E,t,k3,k2];simp only[tT];refine yS U ⟨e9,C,nw 9 (.mk 5 u (a::l) A m p f j) rest⟩ s rfl W R.r (show k<=g1.next by omega) hN ld (λg3 N B=>?_);have D:=B.2 g1.next ab (by grind[dN,gL]);simp only[go_sem,L,H,I]at D;have fin:=λo=>R.next U ld B Q ab ab hN (λa b F t K=>P a b F t λi E M=>K i ab M) (o:=o) N;generalize step ⟨e9,C,nw 9 (.mk 5 u (a::l) A m p f j) rest⟩ s=z at*;obtain⟨c3,s3⟩:=z;rcases c3 with _|c3<;>simp only[qU,qV,rT,gF]at fin|-<;>simp only[go_sem,D]<;>exact⟨trivial,(fin _).1,(fin _).2,rfl⟩
   |false=>cases h9:aj q 9 with
   |true=>obtain rfl:=nK h9;have k3:=k3 done C;cases done with|true=>obtain rfl:=Ll rfl;have O:y=⟨pw cJ (oL 9) C V p f,V,zP⟩:=T;subst O;generalize pw cJ (oL 9) C V p f=e9 at*;simp only[go_sem,L,Y,H,I,z3,z4,z5,z6,z7,z8,z9,sO,X,G,S,E,t,h9,k3];simp only[tT];refine yS U ⟨e9,V,zP⟩ s rfl W R.r (show k<=g1.next by omega) hN ld (λg3 N B=>?_);have D:=B.2 g1.next ab (by grind[dN,gL]);simp only[go_sem,L,H,I]at D;have fin:=λo=>R.next U ld B Q ab ab hN (λa b F t K=>P a b F t λi E M=>K i ab M) (o:=o) N;generalize step ⟨e9,V,zP⟩ s=z at*;obtain⟨c3,s3⟩:=z;rcases c3 with _|c3<;>simp only[qU,qV,rT,gF]at fin|-<;>simp only[go_sem,D]<;>exact⟨trivial,(fin _).1,(fin _).2,rfl⟩|false=>have O:y=⟨pw cJ (oL 9) C C p f,C,nw 9 (.mk 9 u (a::l) A m p f j) rest⟩:=T;subst O;obtain⟨gz,k2⟩:=Og 9 (.mk 9 u (a::l) A m p f j) rest;simp only[ae.cells,ae.bm,oE,go_sem]at k2;generalize pw cJ (oL 9) C C p f=e9 at*;simp only[go_sem,L,Y,H,I,z3,z4,z5,z6,z7,z8,z9,sO,X,G,S,E,t,h9,k3,k2];simp only[tT];refine yS U ⟨e9,C,nw 9 (.mk 9 u (a::l) A m p f j) rest⟩ s rfl W R.r (show k<=g1.next by omega) hN ld (λg3 N B=>?_);have D:=B.2 g1.next ab (by grind[dN,gL]);simp only[go_sem,L,H,I]at D;have fin:=λo=>R.next U ld B Q ab ab hN (λa b F t K=>P a b F t λi E M=>K i ab M) (o:=o) N;generalize step ⟨e9,C,nw 9 (.mk 9 u (a::l) A m p f j) rest⟩ s=z at*;obtain⟨c3,s3⟩:=z;rcases c3 with _|c3<;>simp only[qU,qV,rT,gF]at fin|-<;>simp only[go_sem,D]<;>exact⟨trivial,(fin _).1,(fin _).2,rfl⟩
   |false=>
   have HV:oL q=C:=by unfold oL;simp only[t,h9];rfl
   rw[HV]at T k3;simp only[t,bS]at T;have k3:=k3 done (aj q 6);cases done with|true=>obtain rfl:=Ll rfl;have O:y=⟨pw cJ C (aj q 6) V p f,V,zP⟩:=T;subst O;generalize pw cJ C (aj q 6) V p f=e9 at*;simp only[go_sem,L,Y,H,I,z3,z4,z5,z6,z7,z8,z9,sO,X,G,S,E,t,h9,k3];simp only[tT];refine yS U ⟨e9,V,zP⟩ s rfl W R.r (show k<=g1.next by omega) hN ld (λg3 N B=>?_);have D:=B.2 g1.next ab (by simp only[dN,gL];omega);simp only[go_sem,L,H,I]at D;have fin:=λo=>R.next U ld B Q ab ab hN (λa b F t K=>P a b F t λi E M=>K i ab M) (o:=o) N;generalize step ⟨e9,V,zP⟩ s=z at*;obtain⟨c3,s3⟩:=z;rcases c3 with _|c3<;>simp only[qU,qV,rT,gF]at fin|-<;>simp only[go_sem,D]<;>exact⟨trivial,(fin _).1,(fin _).2,rfl⟩|false=>have O:y=⟨pw cJ C (aj q 6) C p f,C,nw 10 (.mk q u (a::l) A m p f j) rest⟩:=T;subst O;obtain⟨gz,k2⟩:=Og 10 (.mk q u (a::l) A m p f j) rest;simp only[ae.cells,ae.bm,oE,go_sem]at k2;generalize pw cJ C (aj q 6) C p f=e9 at*;simp only[go_sem,L,Y,H,I,z3,z4,z5,z6,z7,z8,z9,sO,X,G,S,E,t,h9,k3,k2];simp only[tT];refine yS U ⟨e9,C,nw 10 (.mk q u (a::l) A m p f j) rest⟩ s rfl W R.r (show k<=g1.next by omega) hN ld (λg3 N B=>?_);have D:=B.2 g1.next ab (by simp only[dN,gL];omega);simp only[go_sem,L,H,I]at D;have fin:=λo=>R.next U ld B Q ab ab hN (λa b F t K=>P a b F t λi E M=>K i ab M) (o:=o) N;generalize step ⟨e9,C,nw 10 (.mk q u (a::l) A m p f j) rest⟩ s=z at*;obtain⟨c3,s3⟩:=z;rcases c3 with _|c3<;>simp only[qU,qV,rT,gF]at fin|-<;>simp only[go_sem,D]<;>exact⟨trivial,(fin _).1,(fin _).2,rfl⟩
 .rw[Cy]at R|-;obtain⟨r,_,h2,_⟩:=R;revert r;cases(cO step ((eI a).flatMap (rI (.mk q u (a::l) A m p f j))) s).1 with|none=>intro r;simp only[qV,go_sem];exact⟨trivial,r,h2⟩|some c=>intro r;simp only[gF,go_sem];exact⟨trivial,r,h2⟩
set_option maxHeartbeats 1000000
theorem alo:gG PP .eql 56 (.ay l 61 14) .nl=J (.bool C):=by rfl
theorem aln:gG PP .eql 26 (.ay l 3 1) .nl=J (.bool C):=by rfl
theorem alr:gG PP .eql 26 .nl .nl=J (.bool V):=by rfl
attribute[go_sem]alo aln alr
theorem acB(a:bq)(h:a.length<900):CC 398 [.ay (ae.bm a) 61 14] (.val (.dv (.ay (ae.bm a) 61 14) (.ex 61)) .empty):=by have b:=akK (l:=[]) (new:=ae.bm a) (by grind[ae.qn]);refine aP func398 ?_;simp only[f398];simp only[go_sem,b]
theorem aiO{n:Nat}(h:n<1000000000):rP n=V:=by simp_all[rP]
theorem aqf(l:aq)(x:DV)(h:l.length<1000000000):ev PP cf (.call 399 [.ay l 61 14,iD 0,.ay [x] 61 14] (.ex 61) .empty)=J (.val (.dv (.ay (x::l) 61 14) .no) .empty):=by refine Cs ?_ rfl;show(bif rP _ then J _ else J _)=_;grind[aiO]
theorem aqg(l:aq)(i j:Nat)(h:l.length<1000000000)(a:i<j)(b:j<=l.length):ev PP cf (.call 401 [.ay l 61 14,iD (.ofNat i),iD (.ofNat j)] (.ex 61) .empty)=J (.val (.dv (.ay (l.take i++l.drop j) 61 14) .no) .empty):=by refine Cs ?_ rfl;show(bif rP _&&(cm i j&&br j _)then J _ else J _)=_;grind[aiO,eK,dg]
theorem aqa(r:Pr)(l:bq)(h:l.length<900)(z:r.done=V->r.rest=zP):CC 339 [r.rd,.ay (ae.bm l) 61 14] (.val (.dv (nJ r C l).rd .no) .empty):=by have e1:=acB l h;have i:ev PP cf (.call 399 [.ay (ae.bm l) 61 14,iD 0,.ay [.agg r.rest.cells] 61 14] (.ex 61) .empty)=J (.val (.dv (.ay (ae.bm (r.rest::l)) 61 14) .no) .empty):=aqf _ _ (by grind[ae.qn]);have e2:=Oh C 1 (r.rest::l) ai;have e3:=Oh C 1 l ab;rw[N4]at e2 e3;refine aP func339 ?_;obtain⟨cJ,done,rest⟩:=r;simp only[f339];cases done with
 |true=>
 obtain rfl:=z rfl;simp only[go_sem,Pr.rd,e1];rcases l with _|⟨p,l⟩;.rfl
 have q:aj (.ofNat (p::l).length) 0=C:=by rfl
 simp only[e3,go_sem,nJ]|false=>simp only[go_sem,Pr.rd,e1,i,e2];cases l<;>rfl
theorem aJp{f n i:Nat}{a:cT}{l:dV}{d:ah Tmp}{x:aK}{v:DV}{o:aM}:Q5 P t ⟨f,n,a,l,g⟩ d x v o (.se s i I)=(np (aQ share ⟨f,n,a,l,g⟩ x) s).bind λy=>(y.1[i]?).bind λel=>(aZ P t).bind λb=>bif aw v.flat.length b&&br (I+b) el.flat.length then(reshape el (km el.flat I v.flat)).bind λe=>aH {aQ share ⟨f,n,a,l,g⟩ x with sl:=put (cK (aQ share ⟨f,n,a,l,g⟩ x).sl) s (.dv (.ay (iC y.1 i e) y.2.1 y.2.2) (.ex y.2.1))} d (.tp [])else Z:=(rfl)
theorem aGo{c:aq}:reshape (.agg l) c=J (.agg c):=by rfl
attribute[go_sem]aJp aGo
theorem aqb(r:Pr)(a:bq)(k:Nat)(b:k<a.length)(h:a.length<900):CC 340 [.ay (ae.bm a) 61 14,iD (.ofNat k),r.rd] (.val (.dv (PH r a k).rd .no) .empty):=by
 have e1:=acB _ h;have w:=uL (i:=k) ab;have d:ev PP cf (.call 401 [.ay (ae.bm a) 61 14,iD (.ofNat k),iD (.ofNat (k+1))] (.ex 61) .empty)=J (.val (.dv (.ay (ae.bm (a.take k++a.drop (k+1))) 61 14) .no) .empty):=by rw[aqg _ _ _ (by grind[ae.qn]) ab (by grind[ae.qn]),ae.A3,ae.rh,ae.rh,ae.rh,List.map_take,List.map_drop]
 have e2:=Oh C 3 (a.take k++a.drop (k+1)) ai;have e3:=Oh C 3 (a.take k++([r.rest]++a.drop (k+1))) ai;rw[N4]at e2 e3;have s:List.take k (ae.bm a)++DV.agg r.rest.cells::List.drop (k+1) (ae.bm a)=ae.bm (a.take k++([r.rest]++a.drop (k+1))):=by simp[ae.rh]
 have A:=iT b;obtain⟨x,c⟩:∃x,a[k]?=J x:=⟨_,dD b⟩;refine aP func340 ?_;obtain⟨cJ,done,rest⟩:=r;simp only[lC,jF]at e3 s;simp only[f340];cases done with|true=>simp only[go_sem,Pr.rd,e1,w,d,e2];rfl|false=>simp only[go_sem,Pr.rd,e1,A,c,s,e3];rfl
set_option maxHeartbeats 4000000
theorem aoX{k:eB->ah bh}{s:St}(p:ah bF):(G9 k s p).bind F=G9 (λo=>(k o).bind F) s p:=by
 rcases p with _|c;.rfl
 cases c<;>rfl
theorem ahV{f:bR}{i:dR}{e:ah Nat}{p:List Tmp}{a b:Hd bF}{s:St}{k:eB->ah bh}{d:DV}:(QI P f i e p a b s k d).bind F=QI P f i e p a b s (λo=>(k o).bind F) d:=by cases d with
 |func h first c=>show(bif(f.iK h (first++[.dT s.g.next]++c)).isSome||!(Ak e s.g)then Z else qT _ _).bind F=bif(f.iK h (first++[.dT s.g.next]++c)).isSome||!(Ak e s.g)then Z else qT _ _;cases((f.iK h (first++[.dT s.g.next]++c)).isSome||!(Ak e s.g))with|true=>rfl|false=>
 simp only[bS,tT];congr 1;funext r;rcases r with⟨v,g⟩|_
 . show(match g.get s.g.next with|some (.loop r)=>_|_=>Z).bind F=_;simp only;rcases g.get s.g.next with _|o;.rfl
   cases o<;>grind[aoX]
 rfl|_=>rfl
theorem Cw{b c:Type}{f:b->c}:∀l:List b,(l.flatMap λy=>[f y])=l.map f|[]=>rfl|a::l=>by rw[B5,Cw l];rfl
structure ZO{σ:Type}(k n:Nat)(g0:GH)(rel:ah bF->σ->GH->Prop)(step:Pr->σ->ah bF×σ)(s0:σ)(X Y:List Pr)(s:σ×GH):Prop where
 r:rel Z s.1 s.2
 h:Hi k g0 s.2
 y:s.2.get g0.next=J (.box ⟨[.dT n],[]⟩)n:g0.next<s.2.next
 f:cO step Y s.1=cO step X s0
 d:∃dn,X=dn++Y/\cO step dn s0=(Z,s.1)
theorem axm(j:Bool)(nl d ty aa w H A)(b:Nat)(hl:d.length<900)(hT:∀a∈d,GK a):vZ qm 338 [] [.ptr b 0] (λg=>kL g b (.mk (bif j then 3 else 2) nl d ty aa w H A)) (mU j d d 0):=by
 intro n k σ u step s U jW g hr hk;suffices hS:Sat (ev PP cf (.call 338 ([]++[.dT n]++[.ptr b 0]) .no g)) λv g'=>v=.tp []/\u (cO step (mU j d d 0) s).1 (cO step (mU j d d 0) s).2 g'/\Hi k g g' by obtain⟨v,g',e,rfl,r,h⟩:=hS;simp_all
 obtain⟨lr,nR⟩:=jW _ _ _ hr;have kQ:(b=g.next)=False:=cF ab;refine mV func338 ?_;simp only[ae.cells]at lr;simp only[f338];simp only[go_sem,lr,kQ];refine Ab d (s,g.alloc (.box ⟨[.dT n],[]⟩)) (λi _=>[(10,iS i)]) (λs=>s.2) (λi l p=>ZO k n g u step s (mU j d d 0) (mU j d l i) p) ab rfl rfl ⟨U.stay _ _ _ _ hr (Lo.alloc hk),Hi.alloc,by simp[ke],by simp[dN],rfl,[],rfl,rfl⟩ (λp hI=>?_) (λi x l p N hx hw hI O=>?_);.obtain⟨r,M,_,_,f,_⟩:=hI;rw[mU]at f;rw[<-f];simp only[go_sem];exact⟨trivial,r,M⟩
 . obtain⟨Q,g1⟩:=p;obtain⟨oJ,eV,CU,pj,ya,D,tb,mK⟩:=hI;simp only at oJ eV CU pj ya mK;have W:∃B,B=((((g1.alloc (.box ⟨[iD 0],[]⟩)).alloc (.box ⟨[iD 0,.nl,iD 0,iD 0,iD 0,iD 0,iD 0,.nl,iD 0,iD 0,iD 0,iD 0,iD 0,.str []],[]⟩)).set g1.next (.box ⟨[iD (.ofNat i)],[]⟩)).set (g1.next+1) (.box ⟨x.cells,[]⟩)):=⟨_,rfl⟩;obtain⟨B,W⟩:=W;obtain⟨h,ca,cap,g2,e1,l1,c1,cs,it,hp⟩:=hT x (dw hx) B;obtain⟨jt,OZ⟩:=jW _ _ _ oJ;simp only[ae.cells]at jt;have y1:(g1.next=g1.next+1)=False:=cF ab;have y2:(g1.next+1=g1.next)=False:=cF ab;have y3:(b=g1.next)=False:=cF ab;have y4:(b=g1.next+1)=False:=cF ab;have o1:aj (bif j then 3 else 2) 1=C:=by cases j<;>rfl
   have o3:aj (bif j then 3 else 2) 3=j:=by cases j<;>rfl
   have El:B.next=g1.next+2:=by rw[W];rfl
   have lB:Lo g1.next g1 B:=by rw[W];exact((Lo.alloc (bJ _)).trans ((Lo.alloc (by simp[dN])).trans ((Lo.set (bJ _)).trans (Lo.set ab))))
   have yB:B.get g1.next=J (.box ⟨[iD (.ofNat i)],[]⟩):=by rw[W];simp only[go_sem,y1]
   simp only[go_sem,N,hx,jt,y1,y2,y3,y4,o1];rw[<-W];simp only[go_sem,e1];rw[ahV];have cZ:g.next<g1.next:=pj;have l2:Lo g1.next g1 g2:=lB.trans (l1.mono ab);have hn4:=l1.1;have nU:g2.get g.next=J (.box ⟨[.dT n],[]⟩):=(l2.2 _ cZ).trans CU;have oK:g2.get g1.next=J (.box ⟨[iD (.ofNat i)],[]⟩):=(l1.2 _ ab).trans yB;refine Al it (tB (λy=>[uv j d i y]) step) (y7 k g g.next n (λg'=>cap g'/\g'.get g1.next=J (.box ⟨[iD (.ofNat i)],[]⟩)/\g1.next<g'.next) u) (Z,Q) hp rfl ⟨U.stay _ _ _ _ oJ (l2.mono ab),⟨c1,oK,ab⟩,eV.lo l2 ab,nU,rfl,ab⟩ (λc s g' h=>h.c.1) (λc s g3 g4 h hl=>h.lo U hl ab ab ab (λg5 g6 t m=>⟨cs g5 g6 t.1 m.1 λi _ N=>m.2 i N,(m.2 _ ab).trans t.2.1,gi t.2.2 m.1⟩)) (λy q g3 hy R hN L=>?_) (λg3 R hN=>?_)
   . obtain⟨iI,kR⟩:=Nw hy;obtain⟨s0,q⟩:=q;simp only at iI kR;subst iI;have Uh:∀y p,sU step ((eI x).flatMap λy=>[uv j d i y]) Q y p->sU step (mU j d d 0) s y p:=by
      rintro y p⟨pre,post,p1,p2⟩;refine⟨D++pre,post++mU j d l (i+1),?_,?_⟩;.grind[Cw,mU]
      grind[xT]
     have dZ:=Uh _ _ (kR [] (uv j d i y) [] q rfl rfl);have ns:tB (λy=>[uv j d i y]) step y (Z,q)=((step (uv j d i y) q).1.map λ_=>Code.ret,step (uv j d i y) q):=by simp[tB,Ba]
     rw[ns];refine Ao L rfl ?_;have zY:=R.y;have Po:=R.c.2.1;obtain⟨K,NO⟩:=jW _ _ _ R.r;simp only[ae.cells]at K;have Y:bP nl (ae.bm d) 61 14=.ay (ae.bm d) 61 14:=by
      cases d;.simp_all
      rfl
     have e4:=aqb y d i (mT N) hl;have S:(g2.next=g3.next)=False:=cF ab;have T:(g2.next=g3.next+1)=False:=cF ab;have z3:(g3.next=g2.next)=False:=cF ab;have z4:(g3.next+1=g2.next)=False:=cF ab;have z5:(g.next=g3.next)=False:=cF ab;have z6:(g.next=g3.next+1)=False:=cF ab;have z7:(g.next=g2.next)=False:=cF ab;have z8:(b=g3.next)=False:=cF ab;have z9:(b=g3.next+1)=False:=cF ab;have sO:(b=g2.next)=False:=cF ab;have lU:(g3.next+1=g3.next)=False:=cF ab;have I:(g3.next=g3.next+1)=False:=cF ab;have z13:(g1.next=g3.next)=False:=cF ab;have z14:(g1.next=g3.next+1)=False:=cF ab;have z15:(g1.next=g2.next)=False:=cF ab;simp only[qm,Pr.rd,Edge.d]at e4|-;simp only[go_sem]at e4;generalize Ii:uv j d i y=y' at*;cases j with|false=>have P:y=y':=Ii;subst P;have n1:aj 2 1=C:=rfl;have n2:aj 2 3=C:=rfl;simp only[go_sem,n1,n2,L,zY,K,S,T,z3,z4,z5,z6,z7,z8,z9,sO,lU,I];simp only[tT];refine yS U y q rfl dZ R.r (show k<=g2.next by omega) hN ld (λg4 r4 t=>?_);have G:=t.2 g2.next ab (by grind[dN,gL]);simp only[go_sem,L,S,T]at G;have fin:=λo=>R.next U ld t hk ab ab hN (λa b m E F=>⟨cs a b m.1 E λi h8 h9=>F i ab h9,(F _ ab ab).trans m.2.1,gi m.2.2 E⟩) (o:=o) r4;generalize step y q=z at*;obtain⟨c3,s4⟩:=z;rcases c3 with _|c3<;>simp only[qU,qV,rT,gF]at fin|-<;>simp only[go_sem,G]<;>exact⟨trivial,(fin _).1,(fin _).2,rfl⟩|true=>have P:PH y d i=y':=Ii;have n1:aj 3 1=C:=rfl;have n2:aj 3 3=V:=rfl;obtain⟨e9,d9,r9⟩:=y';have hed:y.cJ=e9:=gY Pr.cJ P;subst hed;rw[P]at e4;simp only[go_sem,Y,L,S,T,z8,z9,sO,lU]at K e4|-;simp only[go_sem,K,e4,n1,n2,zY,Po,z3,z4,z5,z6,z7,z8,z9,sO,lU,I,z13,z14,z15];simp only[tT];refine yS U ⟨y.cJ,d9,r9⟩ q rfl dZ R.r (show k<=g2.next by omega) hN ld (λg4 r4 t=>?_);have G:=t.2 g2.next ab (by simp only[dN,gL];omega);simp only[go_sem,L,S,T]at G;have fin:=λo=>R.next U ld t hk ab ab hN (λa b m E F=>⟨cs a b m.1 E λi h8 h9=>F i ab h9,(F _ ab ab).trans m.2.1,gi m.2.2 E⟩) (o:=o) r4;generalize step ⟨y.cJ,d9,r9⟩ q=z at*;obtain⟨c3,s4⟩:=z;rcases c3 with _|c3<;>simp only[qU,qV,rT,gF]at fin|-<;>simp only[go_sem,G]<;>exact⟨trivial,(fin _).1,(fin _).2,rfl⟩
   .rw[Cy,Cw]at R;rw[Cy,Cw];have X:=ya;rw[mU,xT]at X;have KK:∀p,cO step ((eI x).map (uv j d i)) Q=(Z,p)->∃D,mU j d d 0=D++mU j d l (i+1)/\cO step D s=(Z,p):=λp h=>⟨D++(eI x).map (uv j d i),by rw[tb,mU,tM],by rw[xT,mK];exact h⟩;obtain⟨r,_,M,P,_,T1⟩:=R;generalize cO step ((eI x).map (uv j d i)) Q=z at*;obtain⟨cz,sz⟩:=z;cases cz with|none=>have O:=O (sz,g3) ⟨r,M,P,T1,X,KK _ rfl⟩;simp only[qV];simp only[go_sem]at O;simp only[go_sem,hw,O]|some cz=>simp only[gF,go_sem];rw[<-X];exact⟨trivial,r,M⟩
theorem axn(nl a d ty aa u G D)(b:Nat)(hl:d.length<800)(cB:d≠[])(hT:GK a)(hz:∀x∈eI a,x.done=V->x.rest=zP):vZ qm 338 [] [.ptr b 0] (λg=>kL g b (.mk 1 nl (a::d) ty aa u G D)) ((eI a).map λy=>nJ y C d):=by
 intro n k σ j step s U K g hr hk;suffices hS:Sat (ev PP cf (.call 338 ([]++[.dT n]++[.ptr b 0]) .no g)) λv g'=>v=.tp []/\j (cO step ((eI a).map λy=>nJ y C d) s).1 (cO step ((eI a).map λy=>nJ y C d) s).2 g'/\Hi k g g' by obtain⟨v,g',e,rfl,r,h⟩:=hS;simp_all
 obtain⟨lr,nR⟩:=K _ _ _ hr;have kQ:(b=g.next)=False:=cF ab;have uk:1<=d.length:=by grind
 have d1:=aI1;simp only[bw,opsOf,f338,go_sem]at d1;have n1:aj 1 1=V:=rfl;refine mV func338 ?_;simp only[ae.cells,ae.bm,oE]at lr;simp only[f338];simp only[go_sem,lr,kQ];refine Ab (a::d) (s,g.alloc (.box ⟨[.dT n],[]⟩)) (λi _=>[(10,iS i)]) (λs=>s.2) (λi _ f=>(i=0/\ZO k n g j step s ((eI a).map λy=>nJ y C d) ((eI a).map λy=>nJ y C d) f)\/(i=1/\j Z f.1 f.2/\Hi k g f.2/\g.next<f.2.next/\cO step ((eI a).map λy=>nJ y C d) s=(Z,f.1))) ai rfl rfl (.inl ⟨rfl,U.stay _ _ _ _ hr (Lo.alloc hk),Hi.alloc,by simp[ke],by simp[dN],rfl,[],rfl,rfl⟩) (λf I=>?_) (λi x m f A hx hw I H=>?_);.simp_all
 . obtain⟨s1,g1⟩:=f;have W:∃B,B=((((g1.alloc (.box ⟨[iD 0],[]⟩)).alloc (.box ⟨[iD 0,.nl,iD 0,iD 0,iD 0,iD 0,iD 0,.nl,iD 0,iD 0,iD 0,iD 0,iD 0,.str []],[]⟩)).set g1.next (.box ⟨[iD (.ofNat i)],[]⟩)).set (g1.next+1) (.box ⟨x.cells,[]⟩)):=⟨_,rfl⟩;obtain⟨B,W⟩:=W;rcases I with⟨O,I⟩|⟨O,t,E,L,hf⟩;rotate_left 1
   . simp only at t E L hf;obtain⟨F,OZ⟩:=K _ _ _ t;simp only[ae.cells]at F;have N:(g1.next=g1.next+1)=False:=cF ab;have y2:(g1.next+1=g1.next)=False:=cF ab;have y3:(b=g1.next)=False:=cF ab;have y4:(b=g1.next+1)=False:=cF ab;have kO:aA 0 (.ofNat i)=V:=by rw[O];rfl
     have Y:(DV.agg a.cells::ae.bm d)[i]?=J (.agg x.cells):=by grind[ae.rh]
     have Q:(i<(DV.agg a.cells::ae.bm d).length)=True:=by grind
     simp only[dE]at A Q;simp only[go_sem,A,Y,F,N,y2,y3,y4,n1,kO];rw[hf];simp only[go_sem];refine⟨trivial,U.stay _ _ _ _ t ?_,E.lo (m:=g1.next) ?_ ab⟩;all_goals exact((Lo.alloc ab).trans ((Lo.alloc (by grind[dN])).trans ((Lo.set ab).trans (Lo.set ab))))
   . obtain⟨t,E,CU,L,ya,dn,tb,mK⟩:=I;simp only at t E CU L ya mK;have Be:a=x:=ai;subst Be;obtain⟨h,ca,S,g2,e1,l1,c1,cs,it,hp⟩:=hT B;obtain⟨F,OZ⟩:=K _ _ _ t;simp only[ae.cells]at F;have N:(g1.next=g1.next+1)=False:=cF ab;have y2:(g1.next+1=g1.next)=False:=cF ab;have y3:(b=g1.next)=False:=cF ab;have y4:(b=g1.next+1)=False:=cF ab;have kO:aA 0 (.ofNat i)=C:=by rw[O];rfl
     have El:B.next=g1.next+2:=by rw[W];rfl
     have lB:Lo g1.next g1 B:=by rw[W];exact((Lo.alloc (bJ _)).trans ((Lo.alloc (by simp[dN])).trans ((Lo.set (bJ _)).trans (Lo.set ab))))
     have yB:B.get g1.next=J (.box ⟨[iD (.ofNat i)],[]⟩):=by rw[W];simp only[go_sem,N]
     have Y:(DV.agg a.cells::ae.bm d)[i]?=J (.agg a.cells):=ai;have Q:(i<(DV.agg a.cells::ae.bm d).length)=True:=by grind
     simp only[dE]at A Q;simp only[go_sem,A,Y,F,N,y2,y3,y4,n1,kO];rw[<-W];simp only[go_sem,e1];rw[ahV];have cZ:g.next<g1.next:=L;have l2:Lo g1.next g1 g2:=lB.trans (l1.mono ab);have hn4:=l1.1;have nU:g2.get g.next=J (.box ⟨[.dT n],[]⟩):=(l2.2 _ cZ).trans CU;have oK:g2.get g1.next=J (.box ⟨[iD (.ofNat i)],[]⟩):=(l1.2 _ ab).trans yB;refine Al it (tB (λy=>[nJ y C d]) step) (y7 k g g.next n (λg'=>S g'/\g'.get g1.next=J (.box ⟨[iD (.ofNat i)],[]⟩)/\g1.next<g'.next) j) (Z,s1) hp rfl ⟨U.stay _ _ _ _ t (l2.mono ab),⟨c1,oK,ab⟩,E.lo l2 ab,nU,rfl,ab⟩ (λc s g' h=>h.c.1) (λc s g3 g4 h hl=>h.lo U hl ab ab ab (λg5 g6 w p=>⟨cs g5 g6 w.1 p.1 λi _ A=>p.2 i A,(p.2 _ ab).trans w.2.1,gi w.2.2 p.1⟩)) (λy q g3 hy R hN T=>?_) (λg3 R hN=>?_)
     . obtain⟨iI,kR⟩:=Nw hy;obtain⟨s0,q⟩:=q;simp only at iI kR;subst iI;have Uh:∀y f,sU step ((eI a).flatMap λy=>[nJ y C d]) s1 y f->sU step ((eI a).map λy=>nJ y C d) s y f:=by
        rintro y f⟨pre,post,p1,p2⟩;refine⟨dn++pre,post,?_,?_⟩;.grind[Cw]
        grind[xT]
       have dZ:=Uh _ _ (kR [] (nJ y C d) [] q rfl rfl);have ns:tB (λy=>[nJ y C d]) step y (Z,q)=((step (nJ y C d) q).1.map λ_=>Code.ret,step (nJ y C d) q):=by simp[tB,Ba]
       rw[ns];have X:=hz y hy.mem;refine Ao T rfl ?_;have zY:=R.y;have Po:=R.c.2.1;obtain⟨A0,NO⟩:=K _ _ _ R.r;simp only[ae.cells,ae.bm,oE]at A0;have e4:=aqa y d ab X;have s9:n8 PP 56 (.ay (ae.bm (a::d)) 61 14) (J (.int .i64 1)) Z Z=_:=aIv (l:=ae.bm (a::d)) (n:=1) (by simp[ae.qn]) ab;have z1:(g2.next=g3.next)=False:=cF ab;have z2:(g2.next=g3.next+1)=False:=cF ab;have z3:(g3.next=g2.next)=False:=cF ab;have z4:(g3.next+1=g2.next)=False:=cF ab;have z5:(g.next=g3.next)=False:=cF ab;have z6:(g.next=g3.next+1)=False:=cF ab;have z7:(g.next=g2.next)=False:=cF ab;have z8:(b=g3.next)=False:=cF ab;have z9:(b=g3.next+1)=False:=cF ab;have sO:(b=g2.next)=False:=cF ab;have lU:(g3.next+1=g3.next)=False:=cF ab;have z12:(g3.next=g3.next+1)=False:=cF ab;have z13:(g1.next=g3.next)=False:=cF ab;have z14:(g1.next=g3.next+1)=False:=cF ab;have z15:(g1.next=g2.next)=False:=cF ab;have P:∃d9 M,nJ y C d=⟨y.cJ,d9,M⟩:=by simp[nJ]
       obtain⟨d9,M,P⟩:=P;rw[P]at dZ e4;rw[P];simp only[qm,Pr.rd,Edge.d]at e4|-;simp only[ae.bm,List.drop_succ_cons,xp]at s9;try simp only[go_sem]at e4
       simp only[go_sem,T,zY,A0,z1,z2,z3,z4,z5,z6,z7,z8,z9,sO,lU,z12,n1,d1,s9,e4];simp only[tT];refine yS U ⟨y.cJ,d9,M⟩ q rfl dZ R.r (show k<=g2.next by omega) hN ld (λg4 r4 w=>?_);have q1:=w.2 g2.next ab (by grind[dN,gL]);simp only[go_sem,T,z1,z2]at q1;have fin:=λo=>R.next U ld w hk ab ab hN (λa b p h6 h7=>⟨cs a b p.1 h6 λi h8 h9=>h7 i ab h9,(h7 _ ab ab).trans p.2.1,gi p.2.2 h6⟩) (o:=o) r4;generalize step ⟨y.cJ,d9,M⟩ q=z at*;obtain⟨c3,s4⟩:=z;rcases c3 with _|c3<;>simp only[qU,qV,rT,gF]at fin|-<;>simp only[go_sem,q1]<;>exact⟨trivial,(fin _).1,(fin _).2,rfl⟩
     .rw[Cy,Cw]at R;rw[Cy,Cw];rw[ya]at R|-;obtain⟨r,_,h2,P,_,T1⟩:=R;generalize cO step ((eI a).map λy=>nJ y C d) s=z at*;obtain⟨cz,sz⟩:=z;cases cz with|none=>have H:=H (sz,g3) (.inr ⟨ab,r,h2,by show g.next<g3.next;omega,rfl⟩);simp only[qV];simp only[go_sem]at H;simp only[go_sem,hw,H]|some cz=>simp only[gF,go_sem];exact⟨trivial,r,h2⟩
set_option maxHeartbeats 1000000
theorem axM{n:Nat}:pq (fU l e n)=fU l e n:=by cases l<;>rfl
theorem ax5{n:Nat}:pr k (fU l e n)=fU l e n:=by cases l<;>rfl
theorem aGf{n:Nat}{t:cT}:FH ((k,fU l e n)::t)=FH t:=by cases l<;>rfl
theorem Pr.Jb(r:Pr):List.take 32 r.cells=r.cells:=by grind[Pr.dG]
theorem Pr.J4(r:Pr):List.drop 32 r.cells=[]:=by simp[Pr.dG]
attribute[go_sem]Pr.J4 axM ax5 aGf Pr.Jb Pr.dG
def Pu(p:ae):bq->Nat->Int|[],_=>-1|q::l,i=>bif q.same p then .ofNat i else Pu p l (i+1)
def jm(e:Edge)(k:Int):Edge:=⟨e.src,k,e.var,e.ty,e.cond,e.opens,e.lI,e.jJ,e.jZ,e.inside⟩
def sV:aq->Nat->Nat->DV×aM|[],_,_=>(.nl,.any)|a::l,e,n=>(.ay (a::l) e n,.ex e)
theorem tV{f:α->DV}{l:List α}{n:Nat}(h:l≠[]):fU (l.map f) e n=.dv (.ay (l.map f) e n) (.ex e):=by
 cases l;.grind
 rfl
theorem zh{l:bq}(h:l≠[]):fU (ae.bm l) 61 14=.dv (.ay (ae.bm l) 61 14) (.ex 61):=by
 cases l;.grind
 rfl
theorem RL{f:α->DV}{l:List α}{n:Nat}(h:l≠[]):sV (l.map f) e n=(.ay (l.map f) e n,.ex e):=by
 cases l;.grind
 rfl
theorem zj{l:bq}(h:l≠[]):sV (ae.bm l) 61 14=(.ay (ae.bm l) 61 14,.ex 61):=by
 cases l;.grind
 rfl
theorem afX{l:bq}(h:l≠[]):bP V (ae.bm l) 61 14=.ay (ae.bm l) 61 14:=by
 cases l;.grind
 rfl
theorem axW{n:Nat}:vl k (fU l e n)=fU l e n:=by cases l<;>rfl
attribute[go_sem]axW
theorem zm{n:Nat}:sV [] e n=(.nl,.any):=rfl
theorem Edge.Jb(e:Edge):List.take 17 e.cells=e.cells:=by grind[Edge.dG]
theorem aBb{o n a t v s p cond}(h:(ae.mk o n a t v s p cond).iJ=0)(l:a.length<=64):(Co o||cond.same Jt)=V/\(Co o=V->cond.ni=0)/\yM (lT o) t=V/\yM (lT o) v=V/\yM (Ap o) s=V/\yM (FV o) p=V:=by simp only[ae.iJ,Fu]at h;cases b:(aA o 0||!aA o 11)with|true=>grind|false=>
 rw[b,bS,aao _ _ l]at h;rcases c:tW o a.length with _|_;.grind
 rcases d:(tu (lT o) t 15&&(tu (lT o) v 15&&(tu (Ap o) s 63&&tu (FV o) p 1099511627776)))with _|_;.grind
 cases e:(Co o&&!aj cond.ni 0)with|true=>simp_all[aj]|false=>grind[nK]
theorem amP{e:Expr}(h:e.ni=0):e.nn<=64:=by grind[Expr.ni,fQ]
theorem aHg{e:Expr}(h:e.same Jt=V):e.nn<=64:=by obtain⟨o,a,b,c,d,f,g,i,j⟩:=e;grind[Expr.nn,Expr.bH,Jt,Expr.same,Expr.An]
theorem aBa{q:ae}(h:q.iJ=0)(l:q.args.length<=64):q.cond.nn<=64:=by obtain⟨op,nl,args,ty,var,scope,s,cond⟩:=q;obtain⟨a,b,_⟩:=aBb h l;cases c:Co op with|true=>exact amP (b c)|false=>rw[c,vR]at a;exact aHg a
theorem akX(q:ae):q.args.length<=q.nn:=by obtain⟨op,nl,args,ty,var,scope,s,cond⟩:=q;grind[ae.mj,ae.args,ae.nn]
mutual
theorem abv : ∀ (p : ae) (w : Nat), (∀ q ∈ nodes p, q.cond.nn <= w) -> p.cn <= p.nn * (w + 1)
  | .mk o n args t v s a c, w, h => by
    have b := h (.mk o n args t v s a c) (by rw [nodes]; exact gK)
    have e := abz args w (λ q d => h q (by rw [nodes]; exact kG _ d))
    simp only [ae.cond] at b
    simp only [ae.cn, ae.nn, xu]; omega
theorem abz : ∀ (l : bq) (w : Nat), (∀ q ∈ eS l, q.cond.nn <= w) -> ae.gb l <= ae.bH l * (w + 1)
  | [], _, _ => by simp [ae.gb]
  | p :: l, w, h => by
    have b := abv p w (λ q a => h q (by rw [eS]; exact Jz _ a))
    have c := abz l w (λ q a => h q (by rw [eS]; exact RC _ a))
    simp only [ae.gb, ae.bH, xu]; omega
end
structure GP(p:ae):Prop where
 o:lE p
 z:∀q∈nodes p,q.iJ=0
 a:zo p
 n:p.nn<=64
 c:p.cn<=4160
 r:p.ua=0
theorem Sr{p:ae}(e:lE p)(h:p.ua=0):GP p:=by
 obtain⟨b,c,_⟩:=NT h;have z:=Kn b;have l:∀q∈nodes p,q.args.length<=64:=λq a=>by have:=ae.U' p q a;grind[akX]
 refine⟨e,z,λq a=>?_,c,?_,h⟩;.have:=l q a;have d:=z q a;obtain⟨op,nl,args,ty,var,scope,s,cond⟩:=q;exact(U9 d this).2.1
 .have:=abv p 64 (λq a=>aBa (z q a) (l q a));omega
end Go.VM
