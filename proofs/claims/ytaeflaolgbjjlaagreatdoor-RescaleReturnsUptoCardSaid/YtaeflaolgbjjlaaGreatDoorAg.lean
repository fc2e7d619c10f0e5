/- Proved: what functions of the program answer (a part of the proof of RescaleReturnsUptoCardSaid, whose theorem stands in the last text), within the sizes that each theorem names. -/
import Derived.Test.YtaeflaolgbjjlaaGreatDoorAf
open Option renaming some->J,none->Z
open Bool renaming true->V,false->C
open Go renaming TypeId->an,Oper->aB,Program->aG,Operand->aK,Code->bF,IntKind->fN,ResultVar->oy
open Int renaming ofNat->di,add->jP
open Nat renaming beq->aw,ble->br,blt->cm
open Option renaming bind->qT
open SizeOf renaming sizeOf->oW
noncomputable section
set_option linter.all false
namespace Go.VM
open Go Go.AM Proofs.Tryz
variable{t:Nat}
attribute[local congr]bz bA
set_option maxRecDepth 100000
def Sw(f:Nat)(i c:aq)(g:GH)(a:aq)(b:Bool):Prop:=cf.fk f=0/\cf.eQ f=C/\ev PP cf (.call f (i++a++c) .no g)=J (.val (.dv (.bool b) .no) g)\/cf.fk f=3/\cf.eQ f=V/\cA (i++a++c)=V/\ev PP cf (.call f (i++a++c) .no .empty)=J (vB b)
def gP{a:Type}(q:a->Bool):List a->Nat->Int|[],_=>-1|x::l,i=>bif q x then .ofNat i else gP q l (i+1)
theorem CX{a:Type}{q:a->Bool}:∀(l:List a)(i:Nat),aA (gP q l i) 0=!(l.any q)|[],_=>rfl|x::l,i=>by simp only[gP,y9];cases q x with|true=>rfl|false=>rw[bS,vR];exact CX l (i+1)
section
variable{α:Type}{d:α->DV}{q:α->Bool}(f:Nat)(fi ca:aq)(g:GH)(nl:Bool)(xs:List α)(hl:xs.length<1000000000)(hq:∀x,x∈xs->Sw f fi ca g [d x] (q x))
include hl hq
theorem S7{n t m:Nat}(p:(n,t,m)=(359,281,11)\/(n,t,m)=(416,394,2)\/(n,t,m)=(281,241,17)\/(n,t,m)=(227,61,14))(s:∀x:α,(d x).aV=C/\(d x).flat.length=m):ev PP cf (.call n [bP nl (xs.map d) t m,.func f fi ca] .no g)=J (.val (.dv (.int .i64 (gP q xs 0)) .no) g):=by
 rcases p with h|h|h|h<;>cases h<;>first|refine aP func359 ?_|refine aP func416 ?_|refine aP func281 ?_|refine aP func227 ?_
 all_goals
 simp only[go_sem,f359,f416,f281,f227];refine gR xs (λi=>[(8,iS i)]) (λi l=>.val (.dv (.int _ (gP q l i)) _) g) ab rfl rfl ?_ (λi x l k e w o=>?_);.simp only[go_sem,gP]
 . obtain⟨I,R⟩:=s x;rcases hq x (dw e)with⟨b,c,a⟩|⟨b,c,j,a⟩;.simp only[go_sem,k,e,I,R,gP]at a o|-;simp only[go_sem,b,c,a];apply sp<;>intro h<;>simp only[*,go_sem]
   .simp only[go_sem,k,e,I,R,gP]at a j o|-;simp only[go_sem,b,c,a,j];apply sp<;>intro h<;>simp only[*,go_sem]
theorem aqv{n t:Nat}(o:(n,t)=(83,3)\/(n,t)=(209,5))(s:∀x:α,(d x).aV=V/\cA [d x]=V):ev PP cf (.call n [bP nl (xs.map d) t 1,.func f fi ca] .no g)=J (.val (.dv (.int .i64 (gP q xs 0)) .no) g):=by
 rcases o with h|h<;>cases h<;>first|refine aP func83 ?_|refine aP func209 ?_
 all_goals
 simp only[go_sem,f83,f209];refine gR xs (λi=>[(8,iS i)]) (λi l=>.val (.dv (.int _ (gP q l i)) _) g) ab rfl rfl ?_ (λi x l k e w m=>?_);.simp only[go_sem,gP]
 . obtain⟨I,R⟩:=s x;rcases hq x (dw e)with⟨b,c,a⟩|⟨b,c,j,a⟩;.simp only[go_sem,k,e,I,gP]at a m|-;simp only[go_sem,b,c,a];apply sp<;>intro h<;>simp only[*,go_sem]
   .simp only[go_sem,k,e,I,gP]at a j m|-;simp only[go_sem,b,c,a,j];apply sp<;>intro h<;>simp only[*,go_sem]
theorem S6{n m:Nat}(a:(n,t,m)=(307,281,11)\/(n,t,m)=(356,394,2)\/(n,t,m)=(224,241,17))(s:∀x:α,(d x).aV=C/\(d x).flat.length=m):ev PP cf (.call n [bP nl (xs.map d) t m,.func f fi ca] .no g)=J (.val (.dv (.bool (xs.any q)) .no) g):=by
 have k:=@S7 _ _ _ f fi ca g nl xs hl hq;rcases a with h|h|h<;>cases h;.have h:=k (.inl rfl) s;refine aP func307 ?_;simp only[go_sem,f307,h,CX,Gs]
 .have h:=k (.inr (.inl rfl)) s;refine aP func356 ?_;simp only[go_sem,f356,h,CX,Gs]
 .have h:=k (.inr (.inr (.inl rfl))) s;refine aP func224 ?_;simp only[go_sem,f224,h,CX,Gs]
theorem acH{n:Nat}(a:(n,t)=(52,3)\/(n,t)=(159,5))(s:∀x:α,(d x).aV=V/\cA [d x]=V):ev PP cf (.call n [bP nl (xs.map d) t 1,.func f fi ca] .no g)=J (.val (.dv (.bool (xs.any q)) .no) g):=by
 have k:=@aqv _ _ _ f fi ca g nl xs hl hq;rcases a with h|h<;>cases h;.have h:=k (.inl rfl) s;refine aP func52 ?_;simp only[go_sem,f52,h,CX,Gs]
 .have h:=k (.inr rfl) s;refine aP func159 ?_;simp only[go_sem,f159,h,CX,Gs]
end
end Go.VM
namespace Go.VM
open Go Go.AM Proofs.Tryz
variable{a:Int}{t:an}
attribute[local congr]bz bA
set_option maxRecDepth 100000
theorem ab4{n:Nat}{x y:DV}:gv PP (n+1) t x y=zD PP (gv PP n) t x y:=rfl
theorem He{n:Nat}{s:List Field}{x y:aq}(h:PP.underlying t=J (.struct ⟨s⟩))(d:PP.stoodInHeld t=C):gv PP (n+1) t (.agg x) (.agg y)=nL (λc(f:Field)=>bif c then(bif f.name== "_"then J V else(kU PP f.type x f.offset).bind λa=>(kU PP f.type y f.offset).bind λb=>gv PP n f.type a b)else J C) s V:=by simp_all[ab4,zD]
theorem A4{n:Nat}{b:Int}:gv PP (n+1) 3 (.int .i64 a) (.int .i64 b)=J (aj a b):=by rfl
theorem N8{n:Nat}{a b:aD}:gv PP (n+1) 9 (.str a) (.str b)=J (decide (a=b)):=by simp[ab4,zD,xN]
def Dp(a b:Int)(s:aD)(c d:Int)(e:aD):Bool:=bif aj a c then bif aj b d then decide (s=e)else C else C
theorem xO{b c d:Int}{s e:aD}:gv PP 50 43 (.agg [.int .i64 a,.int .i64 b,.str s]) (.agg [.int .i64 c,.int .i64 d,.str e])=J (Dp a b s c d e):=by rw[He underlying43 aT];simp only[go_sem,Dp,A4,N8,String.reduceBEq];grind
def MD(x y:ko):Bool:=bif aj x.scope y.scope then aj x.span y.span else C
theorem apg{b c d:Int}:gv PP 50 394 (.agg [.int .i64 a,.int .i64 b]) (.agg [.int .i64 c,.int .i64 d])=J (bif aj a c then aj b d else C):=by rw[He underlying394 aT];simp only[go_sem,A4,String.reduceBEq];grind
theorem JP{o:BinOp}{x y:aq}{b:Bool}(h:PP.eqGuardType PP.depth t=C)(k:gv PP 50 t (.agg x) (.agg y)=J b)(a:o=.eql\/o=.neq):gG PP o t (.agg x) (.agg y)=J (.bool (match o with|.eql=>b|_=>!b)):=by rcases a with rfl|rfl<;>show(bif !PP.eqGuardType _ t then Option.map _ _ else Z)=_<;>rw[h,k]<;>rfl
section
variable{a b a' b':Int}{s s':aD}
theorem alg:gG PP .neq 43 (.agg [.int .i64 a,.int .i64 b,.str s]) (.agg [.int .i64 a',.int .i64 b',.str s'])=J (.bool (!Dp a b s a' b' s')):=by simp[JP,xO]
theorem ale:gG PP .neq 394 (.agg [.int .i64 a,.int .i64 b]) (.agg [.int .i64 a',.int .i64 b'])=J (.bool (!bif aj a a' then aj b b' else C)):=by simp[JP,apg]
end
attribute[go_sem]alg ale
def kr{a:Type}(q:a->a->Bool):List a->List a->Bool|[],[]=>V|x::s,y::b=>bif q x y then kr q s b else C|_,_=>C
theorem JI{b:Type}{q:b->b->Bool}:∀s a:List b,s.length=a.length->kr q s a=(s.zip a).all λp=>q p.1 p.2|[],[],_=>rfl|x::s,y::a,h=>by simp only[kr,List.zip_cons_cons,oT];rw[JI s a (by simpa using h)];cases q x y<;>rfl
theorem JH{b:Type}{q:b->b->Bool}:∀s a:List b,s.length≠a.length->kr q s a=C|[],[],h=>absurd rfl h|x::s,y::a,h=>by simp only[kr];rw[JH s a (by simpa using h)];cases q x y<;>rfl|[],_::_,_=>rfl|_::_,[],_=>rfl
theorem Ru{a:Type}{x y:List a}{i:Nat}{p:a×a}(h:(x.zip y)[i]?=J p):x[i]?=J p.1/\y[i]?=J p.2:=ai
theorem DI{a:Type}{x y:List a}(h:x.length=y.length):(x.zip y).length=x.length:=aT
section
variable{α:Type}{d:α->DV}{c:α->aq}{q:α->α->Bool}(f:Nat)(fi ca:aq)(g:GH)(a b:Bool)(xs ys:List α)(hl:xs.length<1000000000)(hq:∀x y,x∈xs->Sw f fi ca g [d x,d y] (q x y))
include hl hq
theorem Kg{n t m:Nat}(A:(n,t,m)=(290,241,17)\/(n,t,m)=(292,229,1)\/(n,t,m)=(294,281,11)\/(n,t,m)=(283,59,8)\/(n,t,m)=(285,61,14))(s:∀x:α,d x=.agg (c x)/\(c x).length=m):ev PP cf (.call n [bP a (xs.map d) t m,bP b (ys.map d) t m,.func f fi ca] .no g)=J (.val (.dv (.bool (kr q xs ys)) .no) g):=by
 have w:∀x,(c x).take m=c x:=λx=>GD aT;by_cases e:xs.length=ys.length<;>rcases A with h|h|h|h|h<;>cases h<;>first|refine aP func290 ?_|refine aP func292 ?_|refine aP func294 ?_|refine aP func283 ?_|refine aP func285 ?_
 all_goals first
 |simp only[go_sem,f290,f292,f294,f283,f285,e,JH _ _ e]
 | simp only[go_sem,f290,f292,f294,f283,f285,e,JI _ _ e];refine gR (xs.zip ys) (λi=>[(17,iS i)]) (λi l=>.val (.dv (.bool (l.all λp=>q p.1 p.2)) .no) g) ai rfl rfl ?_ (λi x l u k B z=>?_);.simp only[go_sem,DI e,nG,e]
   . obtain⟨k,y⟩:=Ru k;rw[DI e,e]at u;rcases hq x.1 x.2 (dw k)with⟨o,r,j⟩|⟨o,r,v,j⟩;.simp only[go_sem,u,k,y,λx=>(s x).1,λx=>(s x).2,w,oT]at j z|-;simp only[go_sem,o,r,j];apply sp<;>intro h<;>simp only[*,go_sem]
     .simp only[go_sem,u,k,y,λx=>(s x).1,λx=>(s x).2,w,oT]at j v z|-;simp only[go_sem,o,r,j,v];apply sp<;>intro h<;>simp only[*,go_sem]
end
theorem Cr(s t:Sl Int)(d:s.l.length<1000000000):CC 10 [cL s,cL t] (vB (kr aj s.l t.l)):=by
 refine aP func10 ?_;have hd:dm cf (bw f10 6)=V:=by rfl
 simp only[bw,opsOf,f10,go_sem]at hd;by_cases e:s.l.length=t.l.length
 . simp only[go_sem,f10,e,JI _ _ e];refine gR (s.l.zip t.l) (λi=>[(13,iS i)]) (λi l=>vB (l.all λp=>aj p.1 p.2)) ai rfl rfl ?_ (λi x l b a w c=>?_);.simp only[go_sem,DI e,nG,e]
   .obtain⟨a,y⟩:=Ru a;rw[DI e,e]at b;simp only[go_sem,hd,b,a,y,oT]at c|-;apply sp<;>intro h<;>simp only[*,go_sem]
 .simp only[go_sem,f10,e,JH _ _ e]
theorem ace(s t:Sl ko)(d:s.l.length<1000000000):CC 284 [C4 s,C4 t] (vB (kr MD s.l t.l)):=by
 refine aP func284 ?_;have hd:dm cf (bw f284 6)=V:=by rfl
 simp only[bw,opsOf,f284,go_sem]at hd;by_cases e:s.l.length=t.l.length
 . simp only[go_sem,f284,e,JI _ _ e];refine gR (s.l.zip t.l) (λi=>[(13,iS i)]) (λi l=>vB (l.all λp=>MD p.1 p.2)) ai rfl rfl ?_ (λi x l b a w c=>?_);.simp only[go_sem,DI e,nG,e]
   .obtain⟨a,y⟩:=Ru a;rw[DI e,e]at b;simp only[go_sem,hd,b,a,y,oT,MD]at c|-;apply sp<;>intro h<;>simp only[*,go_sem]
 .simp only[go_sem,f284,e,JH _ _ e]
end Go.VM
namespace Go.VM
open Go Go.AM Proofs.Tryz
variable{α:Type}{z:Bool}{v:DV}{g g':GH}{ps:List Tmp}{a e f fn k I t:Nat}{Q:SV->GH->Prop}{P:aG}{x:aK}{ow:aM}{p:ae}{r:ah bh}{l:aq}{rec:dR}{lb:dV}{u:iF}{A B:rV}
attribute[local congr]bz bA
set_option maxRecDepth 100000
theorem acp(b:Int):CC 206 [.int .u8 b] (vB (digit b)):=by refine aP func206 ?_;simp only[go_sem,f206,digit];repeat'(with_reducible apply sp<;>intro h<;>simp only[*,go_sem])
theorem apQ(b:Int):CC 207 [.int .u8 b] (vB (letter b)):=by refine aP func207 ?_;simp only[go_sem,f207,letter];repeat'(with_reducible apply sp<;>intro h<;>simp only[*,go_sem])
def word(b:Nat):Bool:=bif letter (.ofNat b)then V else digit (.ofNat b)
def Bz:aD->Bool|[]=>C|c::t=>bif aA 24 (.ofNat (t.length+1))then C else bif digit (.ofNat c)then C else(c::t).all word
theorem ach(s:aD)(e:s.length<1200000):CC 154 [.str s] (vB (Bz s)):=by refine aP func154 ?_;cases s with|nil=>rfl|cons c t=>
 simp only[go_sem,f154,Bz];repeat'(with_reducible apply sp<;>intro h<;>simp only[*,acp,go_sem])
 refine gR (c::t) (λi=>[(19,iS i)]) (λ_ l=>vB (l.all word)) ab rfl rfl ?_ (λi x l a b w d=>?_);.simp only[go_sem,nG]
 .rw[dE]at a;simp only[go_sem,a,b,oT,apQ,word]at d|-;repeat'(with_reducible apply sp<;>intro h<;>simp only[*,acp,go_sem])
theorem apo(b:Int):CC 160 [.int .u8 b] (vB (bif letter b then C else !digit b)):=by refine aP func160 ?_;simp only[go_sem,f160,apq];repeat'(with_reducible apply sp<;>intro h<;>simp only[*,acG,go_sem])
def EN(a b:aD):Int:=match CY b 0 a with|some i=>.ofNat i|none=>-1
theorem ap3(a b:aD)(h:a.length<1000000000):CC 330 [.str a,.str b] (vI (EN a b)):=by
 refine(Cs (v:=.dv (match CY b 0 a with|some i=>goN i|none=>.int .i64 (-1)) .no) ?_ rfl).trans ?_;.show(bif cm _ _ then _ else _)=_;grind[eK]
 unfold EN;cases CY b 0 a<;>rfl
theorem apR(a b:aD)(h:a.length<1000000000):CC 266 [.str a,.str b] (vI (EN a b)):=by refine aP func266 ?_;simp only[go_sem,f266,ap3 a b h]
theorem aci(a b:aD)(h:a.length<1000000000):CC 208 [.str a,.str b] (vB (!aA (EN a b) 0)):=by refine aP func208 ?_;simp only[go_sem,f208,apR a b h]
def kwT:aD:=[32,97,108,108,32,97,108,116,32,97,110,100,32,98,111,111,108,32,98,121,32,99,111,117,110,116,32,102,97,108,115,101,32,102,105,114,115,116,32,105,102,32,105,110,116,32,108,97,99,107,115,32,108,97,115,116,32,109,97,116,99,104,32,109,97,120,32,109,105,110,32,110,111,116,32,111,114,32,112,108,117,115,32,113,117,101,114,121,32,114,101,116,117,114,110,32,115,101,113,32,115,116,114,105,110,103,32,115,117,109,32,116,105,109,101,32,116,114,117,101,32,116,121,112,101,32,119,104,101,114,101,32,119,105,116,104,105,110,32]
def Lv(s:aD):Bool:=bif decide (s=[])then C else bif aA (EN s [32]) 0 then !aA (EN kwT (32::(s++[32]))) 0 else C
theorem aqu(s:aD)(b:s.length<1200000):CC 158 [.str s] (vB (Lv s)):=by
 refine aP func158 ?_;have a:=aci s [32] ab;simp only[go_sem,f158,Lv];repeat'(with_reducible apply sp<;>intro h<;>simp only[h,a,aaR (show[32].length+s.length<=1000000000 by grind),aaR (show(32::s).length+[32].length<=1000000000 by grind),go_sem])
 rw[aci _ _ eY];simp only[go_sem];rfl
def UJ(b:Nat):Bool:=bif letter (.ofNat b)then C else !digit (.ofNat b)
theorem Z7:∀l:aD,l.any UJ=!l.all word|[]=>rfl|x::l=>by simp only[y9,oT,Z7 l,UJ,word];cases letter (.ofNat x)<;>cases digit (.ofNat x)<;>simp
theorem acC(s:aD)(e:s.length<1200000):CC 116 [.str s] (vI (bif Bz s then bif Lv s then 8 else 0 else 8)):=by
 refine aP func116 ?_;rcases s with _|⟨c,t⟩;.rfl
 have a:=acH (d:=λb:Nat=>.int .u8 (.ofNat b)) (q:=UJ) 160 [] [] .empty C (c::t) ab (λx _=>.inr ⟨rfl,rfl,rfl,apo _⟩) (.inr rfl) (λ_=>⟨rfl,rfl⟩);rw[Z7]at a;simp only[fS,bP]at a;simp only[go_sem,f116,Bz];repeat'(with_reducible apply sp<;>intro h<;>simp only[h,acG,aqu _ e,a,go_sem])
 grind
set_option maxHeartbeats 1000000
abbrev Zt:aD:=[116,105,109,101]
theorem apD(s:aD)(a:s.length<1200000):CC 155 [.str s] (vB (bif Bz s then !decide (s=Zt)else C)):=by refine aP func155 ?_;simp only[go_sem,f155,ach _ a,Zt];apply sp<;>intro h<;>simp only[h,go_sem]
def Oq(n:aD):Bool:=bif Bz n then !decide (n=Zt)else C
def Ks:List aD->List kF->Int|_,[]=>0|b,f::l=>bif Oq f.name then bif b.any (λn=>decide (f.name=n))then 7 else bif aA f.kind 0 then 1 else bif aA f.kind 3 then Ks (b++[f.name]) l else 1 else 8
def QT(s:bY):Int:=bif Bz s.name then bif aA 8 (.ofNat s.fields.l.length)then 5 else Ks [] s.fields.l else 8
def N6(b:List aD)(i:Nat):List kX:=(b.zipIdx i).map λx=>(.str x.1,.bool V,x.2)
def pO(b:List aD):List kX:=N6 b 0
theorem N7{b:List aD}{n:aD}:pO (b++[n])=pO b++[(.str n,.bool V,b.length)]:=by simp[pO,N6,List.zipIdx_append]
theorem Kl{n:aD}:∀(b:List aD)(i j:Nat),(b.any λm=>decide (n=m))=C->findD PP 9 (.str n) (N6 b i) j=J Z|[],_,_,_=>rfl|m::b,i,j,h=>by rw[y9,Nk]at h;show(gv PP 50 9 (.str n) (.str m)).bind _=_;rw[N8,h.1];exact Kl b (i+1) (j+1) h.2
theorem Km{n:aD}:∀(b:List aD)(i j:Nat),(b.any λm=>decide (n=m))=V->∃k c m,findD PP 9 (.str n) (N6 b i) j=J (J (k,.str m,.bool V,c))|[],_,_,h=>by simp at h|m::b,i,j,h=>by rw[y9]at h;cases a:decide (n=m)with|true=>exact⟨j,i,m,by show(gv PP 50 9 (.str n) (.str m)).bind _=_;rw[N8,a];rfl⟩|false=>rw[a,vR]at h;obtain⟨k,c,d,e⟩:=Km b (i+1) (j+1) h;exact⟨k,c,d,by show(gv PP 50 9 (.str n) (.str m)).bind _=_;rw[N8,a];exact e⟩
theorem axJ{n:aD}:sC PP 9 (.str n)=V:=by rfl
attribute[go_sem]axJ
theorem aqt(s:bY)(j:s.name.length<1200000)(n:∀f,f∈s.fields.l->f.name.length<1200000)(p:s.fields.l.length<1200000):rS (ev PP cf (.call 111 [s.d] .no .empty)) (zS (QT s)):=by
 refine GQ func111 ?_;simp only[go_sem,f111,ach _ j,QT];apply vK<;>intro h<;>simp only[h,go_sem];apply vK<;>intro h<;>simp only[h,go_sem];refine LK s.fields.l ([]:List aD) (λi b=>⟨111,45,[(18,iS i),(3,.dv (.map 0) .no),(16,.dv (Cv s.fields) .no),(17,iS s.fields.l.length)],[],⟨1,[(0,.map (pO b) b.length)]⟩⟩) (λ_ l b=>zS (Ks b l)) (λ_ _ _=>True) ab rfl trivial rfl (λs _=>?_) (λi x l b o g w _ a=>?_);.simp only[go_sem,Ks]
 . have a:=a (b++[x.name]) trivial;simp only[N7,gJ,dE,gE,go_sem]at a;simp only[go_sem,o,g,Ks,apD _ (n _ (dw g))];apply vK<;>intro h;.cases d:b.any λm=>decide (x.name=m)with|true=>obtain⟨k,c,m,e⟩:=Km b 0 0 d;simp only[Oq,h,go_sem,pO,e]|false=>have e:=Kl b 0 0 d;simp only[Oq,h,go_sem,pO,e];apply vK<;>intro h<;>simp only[h,go_sem];apply vK<;>intro h<;>simp only[h,w,go_sem,e];exact a
   .simp only[Oq,h,go_sem]
def MF:List aD->List bY->Int|_,[]=>0|b,s::l=>bif aj (QT s) 0 then bif b.any (λn=>decide (s.name=n))then 7 else MF (b++[s.name]) l else QT s
def vJ(l:List bY):Int:=bif aA 16 (.ofNat l.length)then 5 else MF [] l
structure bY.ok(s:bY):Prop where
 h1:s.name.length<1200000
 h2:∀f,f∈s.fields.l->f.name.length<1200000
 h3:s.fields.l.length<1200000
theorem Kf(t:Sl bY)(j:∀s,s∈t.l->s.ok)(o:t.l.length<1200000):rS (ev PP cf (.call 69 [cC t] .no .empty)) (zS (vJ t.l)):=by
 refine GQ func69 ?_;simp only[go_sem,f69,vJ];apply vK<;>intro h<;>simp only[h,go_sem];refine LK _ _ (λi b=>⟨69,30,[(13,iS i),(3,.dv (.map 0) .no),(11,.dv (cC t) .no),(12,iS t.l.length)],[],⟨1,[(0,.map (pO b) b.length)]⟩⟩) (λ_ l b=>zS (MF b l)) (λ_ _ _=>True) ab rfl trivial rfl (λs _=>?_) (λi x l b n g w _ a=>?_);.simp only[go_sem,MF]
 .have a:=a (b++[x.name]) trivial;have d:=j x (dw g);obtain⟨g',hr⟩:=aqt x d.h1 d.h2 d.h3;simp only[N7,gJ,dE,gE,go_sem]at a hr;simp only[go_sem,n,g,hr,MF];apply vK<;>intro h<;>simp only[h,go_sem];cases f:b.any λm=>decide (x.name=m)with|true=>obtain⟨k,c,m,e⟩:=Km b 0 0 f;simp only[go_sem,pO,e]|false=>have e:=Kl b 0 0 f;simp only[go_sem,pO,e,w];exact a
theorem Y5{s:List α}{i:Nat}{x:α}(h:s[i]?=J x):s.take (i+1)=s.take i++[x]:=by grind[List.take_add_one]
def rQ(k n:Int)(s:aD):Int:=bif aA k 0 then 1 else bif aA 2 k then 1 else bif aj k 2 then bif aj n 0 then bif aA 64 (.ofNat s.length)then 13 else 0 else 3 else bif decide (s=[])then bif aj k 1 then bif aA n 0 then 2 else bif aA 1 n then 2 else 0 else bif aA n (-1099511627776)then 2 else bif aA 1099511627776 n then 2 else 0 else 3
def YW(k n:Int)(s:aD):Int:=bif bif aj k 0 then bif aA n (-1099511627776)then V else aA 1099511627776 n else C then 2 else bif bif aj k 1 then bif aj n 0 then C else !aj n 1 else C then 2 else bif aA 64 (.ofNat s.length)then 13 else 0
theorem ap9(k n:Int)(s:aD):CC 77 [.agg [iD k,iD n,.str s]] (vI (YW k n s)):=by refine aP func77 ?_;simp only[go_sem,f77,YW];repeat'(with_reducible apply sp<;>intro h<;>simp only[h,go_sem])
theorem Of(k n:Int)(s:aD):CC 48 [.agg [iD k,iD n,.str s]] (vI (rQ k n s)):=by
 refine aP func48 ?_;have a:=ap9 k n s;simp only[go_sem,f48];repeat'(with_reducible apply sp<;>intro h<;>simp only[h,a,go_sem])
 all_goals grind[rQ,YW,fQ,jU]
def arity(o:Int):Int:=bif aA o 0 then-1 else bif aA 12 o then-1 else bif aA o 5 then 0 else bif aj o 12 then 1 else 2
theorem apM(o:Int):CC 333 [iD o] (.val (.tp [(iD (bif aA (arity o) 0 then 0 else arity o),.no),(.bool (!aA (arity o) 0),.no)]) .empty):=by
 refine aP func333 ?_;simp only[go_sem,f333,arity];repeat'(with_reducible apply sp<;>intro h<;>simp only[h,go_sem])
 all_goals rfl
def yP(o:Int):Bool:=aj o 1||(aj o 4||(aj o 2||aj o 3))
def yO(o:Int):Bool:=aj o 1||aj o 4
theorem apN(o:Int):CC 334 [iD o] (.val (.tp [(.bool (yP o),.no),(.bool (yO o),.no)]) .empty):=by refine aP func334 ?_;simp only[go_sem,f334,yP,yO];repeat'(with_reducible apply sp<;>intro h<;>simp only[h,go_sem])
def Ra(k a:Int):Bool:=aj a 0||(aj k 4||aj k 5)
theorem acw(k a b:Int)(s:aD):CC 336 [iD k,.agg [iD a,iD b,.str s]] (vB (Ra k a)):=by refine aP func336 ?_;simp only[go_sem,f336,Ra];repeat'(with_reducible apply sp<;>intro h<;>simp only[h,go_sem])
def NW(o e k n:Int)(s:aD):Int:=bif aj (rQ k n s) 0 then bif aj o 4&&(!Ra e k||(aj e 1&&!Dp k n s 0 0 []))then 9 else 0 else rQ k n s
theorem apO(o l a v L e k n s):CC 335 [.agg (Expr.mk o l a v L e k n s).cells] (vI (NW o e k n s)):=by refine aP func335 ?_;have b:=Of k n s;have c:=acw e k n s;simp only[go_sem]at b c;simp only[go_sem,f335,Expr.cells,NW,b];repeat'(with_reducible apply sp<;>intro h<;>simp only[h,c,go_sem])
def iJ(o n v L e k u:Int)(s:aD):Int:=bif aA (arity o) 0 then 1 else bif aj n (arity o)then bif(yP o&&(aA v 0||!aA v 16))||(yO o&&(aA L 0||!aA L 8))then 2 else bif aj o 4&&(aA e 1||aA 5 e)then 1 else bif(aj o 4||aj o 0)&&!aj (NW o e k u s) 0 then NW o e k u s else bif(!yP o&&!aj v 0)||((!yO o&&!aj L 0)||((!aj o 4&&!aj e 0)||(!(aj o 4||aj o 0)&&!Dp k u s 0 0 [])))then 3 else 0 else 15
def Expr.iJ:Expr->Int|.mk op _ args var e n k num str=>VM.iJ op (.ofNat args.length) var e n k num str
theorem wk{c:bR}(h:jO P c rec A=r):W P c rec A=r:=h
theorem opC(o:Int):(yP o=V/\yO o=V/\aj o 4=C/\aj o 0=C)\/(yP o=V/\yO o=V/\aj o 4=V/\aj o 0=C)\/(yP o=V/\yO o=C/\aj o 4=C/\aj o 0=C)\/(yP o=C/\yO o=C/\aj o 4=C/\aj o 0=V)\/(yP o=C/\yO o=C/\aj o 4=C/\aj o 0=C):=by grind[yP,yO,jU]
theorem apC(e:Expr):CC 272 [.agg e.cells] (vI e.iJ):=by obtain⟨op,nl,args,var,L,n,k,num,str⟩:=e;have f:=apO op nl args var L n k num str;simp only[Expr.cells]at f;refine aP func272 ?_;simp only[go_sem,f272,Expr.cells,Expr.iJ,iJ,apM];apply sp<;>intro h<;>simp only[h,go_sem];apply sp<;>intro h<;>simp only[h,apN,go_sem];rcases opC op with⟨a,b,c,d⟩|⟨a,b,c,d⟩|⟨a,b,c,d⟩|⟨a,b,c,d⟩|⟨a,b,c,d⟩<;>simp only[a,b,c,d,go_sem]<;>refine wk ?_<;>simp only[c,d,f,go_sem]<;>repeat'(with_reducible apply sp<;>intro h<;>simp only[h,c,d,f,go_sem])
set_option maxHeartbeats 4000000
abbrev vT(l:List (DV×aM)):bh:=.val (.tp l) .empty
abbrev iO(n:Int):DV×aM:=(.int .i64 n,.no)
abbrev bO(b:Bool):DV×aM:=(.bool b,.no)
theorem acf:∀e:Expr,e.nn<100000000->CC 270 [.agg e.cells] (vT [iO (.ofNat e.nn),iO (.ofNat e.dep)])
 |.mk o f args v L g k num str,n=>by
  simp only[Expr.nn]at n;refine aP func270 ?_;have hd:=Expr.A1 args 0;simp only[go_sem,f270,Expr.cells,Expr.dep,Expr.nn];refine rC args ((1,0):Nat×Nat) (λi s=>[(13,iS i),(4,iS s.1),(5,iS s.2)]) (λ_ l s=>vT [iO (.ofNat (s.1+Expr.bH l)),iO (.ofNat (Expr.nj l s.2+1))]) (λ_ l s=>s.1+Expr.bH l<100000000/\s.2+Expr.bH l<100000000) (by have:=Expr.mj args;omega) rfl (by simp only;omega) (by simp only[Nat.add_comm]) (λs h=>?_) (λi x l s b a w h c=>?_);.simp only[Expr.bH]at h;simp only[go_sem,Expr.nj,Expr.bH,tQ,uL (show s.2+1<9223372036854775808 by omega)]
  .simp only[Expr.bH]at h;have hr:=acf x ab;have d:=Expr.D5 x;simp only[go_sem,b,a,w,hr,Expr.nj,Expr.bH,GN,vQ (show s.1+x.nn<9223372036854775808 by omega),<-xr];exact c (s.1+x.nn,max s.2 x.dep) (by simp only;omega)termination_by e=>oW e decreasing_by simp_wf;have:=oU (dw a);omega
mutual
def Expr.vO : Expr -> Int
  | .mk o l args v e n k num str => bif aj (Expr.iJ (.mk o l args v e n k num str)) 0 then Expr.Dz args else Expr.iJ (.mk o l args v e n k num str)
def Expr.Dz : List Expr -> Int
  | [] => 0
  | e :: l => bif aj e.vO 0 then Expr.Dz l else e.vO
end
theorem aJJ(o c a v e n k u s)(m:a.length<100000000)(W:∀x,x∈a->CC 271 [.agg x.cells,.func 272 [] []] (vI x.vO)):CC 271 [.agg (Expr.mk o c a v e n k u s).cells,.func 272 [] []] (vI (Expr.mk o c a v e n k u s).vO):=by
 have b:=apC (.mk o c a v e n k u s);generalize j:Expr.iJ _=z at b;simp only[Expr.cells]at b;refine aP func271 ?_;simp only[go_sem,f271,Expr.cells,Expr.vO,b,j];apply sp<;>intro h<;>simp only[h,go_sem];refine gR _ (λi=>[(18,iS i)]) (λ_ l=>vI (Expr.Dz l)) ab rfl rfl ?_ (λi x l f g w d=>?_);.simp only[go_sem,Expr.Dz]
 .have hr:=W x ai;simp only[go_sem,f,g,hr,Expr.Dz]at d|-;apply sp<;>intro h<;>simp only[h,w,d,go_sem]
theorem acg:∀e:Expr,e.nn<100000000->CC 271 [.agg e.cells,.func 272 [] []] (vI e.vO)|.mk o l args v L g k num str,n=>by simp only[Expr.nn]at n;exact aJJ _ _ _ _ _ _ _ _ _ (by have:=Expr.mj args;omega) λx h=>acg x (by have:=Expr.rH args _ h;omega)termination_by e=>oW e decreasing_by simp_wf;have:=oU h;omega
def Expr.ni(e:Expr):Int:=bif aA 64 (.ofNat e.nn)then 5 else bif aA 12 (.ofNat e.dep)then 12 else e.vO
theorem Hg(e:Expr)(n:e.nn<100000000):CC 218 [.agg e.cells] (vI e.ni):=by refine aP func218 ?_;simp only[go_sem,f218,acf e n,Expr.ni];repeat'(with_reducible apply sp<;>intro h<;>simp only[h,acg e n,go_sem])
def fU:aq->Nat->Nat->SV|[],_,_=>.dv .nl .any|a::l,e,n=>.dv (.ay (a::l) e n) (.ex e)
theorem zl{n:Nat}:fU [] e n=.dv .nl .any:=rfl
theorem Nz{a:DV}{n:Nat}:fU (a::l) e n=.dv (.ay (a::l) e n) (.ex e):=rfl
theorem akM{n b:Nat}{o:aM}(a:n≠0)(h:b<=1200000):fB e n b .nl o [v]=J (.ay [v] e n,.ex e):=by grind[fB,kK,bl,nH]
theorem akL{n b:Nat}(d:n≠0)(a:b<=1000)(c:l.length<1200000):fB e n b (.ay l e n) (.ex e) [v]=J (.ay (l++[v]) e n,.ex e):=by have h:(l.length+1)*b<=1200000*1000:=qR ab a;grind[qg,bl]
theorem ay7{n:Nat}:mQ (.ay l e n)=J l.length:=(rfl)
theorem azv{t:an}{l:aq}(h:AM.isAgg P t=J C):fD P .take t ⟨l,[]⟩ I=(l[I]?).bind λd=>J (.dv d (tC d),⟨l,[]⟩):=by
 unfold fD;rw[h];rcases e:l[I]? with _|c;.rfl
 unfold ew;rw[show(⟨_,[]⟩:LB).cells[I]?=J c from e];cases c<;>rfl
theorem aEi{k:fN}{n:Int}:tC (.int k n)=.no:=rfl
theorem aEk{s:aD}:tC (.str s)=.no:=rfl
theorem aEg{b:Bool}:tC (.bool b)=.no:=rfl
theorem aEf:tC (.agg l)=.no:=rfl
theorem aEh{a b:aq}:tC (.func f a b)=.no:=rfl
theorem asw:bN PP 316 0=J (22,0):=aN
theorem asx:bN PP 316 1=J (55,1):=aN
theorem ast:bN PP 266 0=J (22,0):=aN
theorem asu:bN PP 266 1=J (55,1):=aN
theorem asv:bN PP 266 2=J (3,2):=aN
def Ol:SV->ah (aq×an×Nat)|.dv (.ay l e n) (.ex _)=>J (l,e,n)|_=>Z
theorem S'{n s:Nat}{a:cT}:np ⟨fn,n,a,lb,g⟩ s=(look a s).bind Ol:=by show(match look a s with|some (.dv (.ay l e n) (.ex _))=>J _|_=>Z)=_;cases look a s with|none=>rfl|some v=>cases v with|dv d o=>cases d<;>cases o<;>rfl|_=>rfl
theorem aqG{a n:Nat}:Ol (.dv (.ay l e n) (.ex a))=J (l,e,n):=(rfl)
theorem apd{n:Int}:aj n n=V:=by simp[jU]
theorem akr{a:α}{p:α->Bool}:[a].all p=p a:=aO
theorem azy{t:an}{m s i:Nat}{l:cT}{d:ah Tmp}:LH P t u ⟨fn,m,l,lb,g⟩ d (.se s i I)=((look l s).bind Ol).bind λx=>(x.1[i]?).bind λv=>(kU P t v.flat I).bind λv=>aH ⟨fn,m,l,lb,g⟩ d (.dv v .no):=by show(np _ s).bind _=_;rw[S']
attribute[go_sem]azy akr apd S' aqG azv aEi aEk aEg aEf aEh asw asx ast asu asv ay7 zl Nz akM akL Nat.reduceLeDiff
def Sat(x:ah bh)(Q:SV->GH->Prop):Prop:=∃v g,x=J (.val v g)/\Q v g
theorem aj1{v:SV}:Sat (J (.val v g)) Q=Q v g:=propext ⟨λ⟨_,_,h,k⟩=>ai,λh=>⟨_,_,rfl,h⟩⟩
theorem gU{c:bR}(h:z=V->Sat (jO P c rec A) Q)(a:z=C->Sat (jO P c rec B) Q):Sat (bif z then W P c rec A else W P c rec B) Q:=by
 cases z;.exact a rfl
 .exact h rfl
theorem mV{c:bR}{n:Nat}{b:Func}{d:bF}{r:List oy}{a:aq}(i:P.funcs[f]?=J b)(h:Sat (exec P c (ev P c) Z d ⟨f,n,tX 0 ow a,[],g⟩ (BN P r)) Q)(e:b.body=J d:=by rfl)(k:b.results=⟨r⟩:=by rfl)(t:b.ntmps=n:=by rfl)(p:c.iK f a=Z:=by rfl)(j:(yp (r.map vF)&&br a.length n&&!c.Ay f)=V:=by rfl):Sat (ev P c (.call f a ow g)) Q:=by obtain⟨v,g',h,q⟩:=h;exact⟨v,g',aP i h e k t p j,q⟩
theorem lpQ{d:Type}{b:bF}{t:Tg b}{r:ah Nat}{k:eB->ah bh}{j:St}(a:List α)(f:d)(S:Nat->d->St)(I:Nat->List α->d->Prop)(A:a.length<9223372036854775807)(e:S 0 f=j)(z:I 0 a f)(n:∀s,I a.length [] s->Sat ((exec PP cf (ev PP cf) r b (S a.length s) (mR PP cf (.mk b t) r)).bind (fF k)) Q)(o:∀i x l s,(i<a.length)=True->a[i]?=J x->dI .i64 (jP (di i) 1)=di (i+1)->I i (x::l) s->(∀c,I (i+1) l c->Sat ((kT (ev PP cf) (.mk b t) (S (i+1) c) r).bind (fF k)) Q)->Sat ((exec PP cf (ev PP cf) r b (S i s) (mR PP cf (.mk b t) r)).bind (fF k)) Q):Sat ((kT (ev PP cf) (.mk b t) j r).bind (fF k)) Q:=by
 have y:∀(l:List α)(i:Nat)(s:d),i+l.length=a.length->a.drop i=l->I i l s->Sat ((kT (ev PP cf) (.mk b t) (S i s) r).bind (fF k)) Q:=by intro l;induction l with|nil=>intro i s p _ h;obtain rfl:i=a.length:=ab;obtain⟨v,g,h,q⟩:=n s h;grind[hZ]|cons x l w=>
  intro i s p hd h;have E:i<a.length:=ai;have u:a[i]?=J x:=by grind[GB]
  obtain⟨v,g,h,q⟩:=o i x l s (iT E) u (uL ab) h λc m=>w (i+1) c ai (by grind[DO]) m;exact⟨v,g,hZ h,q⟩
 grind
theorem Ab{f:Type}{b:bF}{t:Tg b}{r:ah Nat}{k:eB->ah bh}{a:St}(c:List α)(d:f)(u:Nat->f->cT)(g:f->GH)(I:Nat->List α->f->Prop)(o:c.length<9223372036854775807)(e:fp a.sl (u 0 d)=a.sl)(p:g d=a.g)(n:I 0 c d)(j:∀s,I c.length [] s->Sat ((exec PP cf (ev PP cf) r b ⟨a.fn,a.n,fp a.sl (u c.length s),a.lb,g s⟩ (mR PP cf (.mk b t) r)).bind (fF k)) Q)(m:∀i x l s,(i<c.length)=True->c[i]?=J x->dI .i64 (jP (di i) 1)=di (i+1)->I i (x::l) s->(∀h,I (i+1) l h->Sat ((kT (ev PP cf) (.mk b t) ⟨a.fn,a.n,fp a.sl (u (i+1) h),a.lb,g h⟩ r).bind (fF k)) Q)->Sat ((exec PP cf (ev PP cf) r b ⟨a.fn,a.n,fp a.sl (u i s),a.lb,g s⟩ (mR PP cf (.mk b t) r)).bind (fF k)) Q):Sat ((kT (ev PP cf) (.mk b t) a r).bind (fF k)) Q:=lpQ c d (λi s=>⟨a.fn,a.n,fp a.sl (u i s),a.lb,g s⟩) I o aT n j m
theorem UR{c:Type}(n:Nat)(x:c)(m:Nat):∀l:List (Nat×c),look (put l n x) m=if m=n then J x else look l m
 |[]=>by
  show(bif aw n m then J x else Z)=_;by_cases h:m=n;.rw[if_pos h,h,show aw n n=V from pM n];rfl
  .rw[if_neg h,kK (λe=>h e.symm)];rfl|(a,y)::t=>by
  show look (bif aw a n then(n,x)::t else(a,y)::put t n x) m=_;by_cases b:a=n
  . subst b;rw[show aw a a=V from pM a];show(bif aw a m then J x else look t m)=if m=a then J x else(bif aw a m then J y else look t m);by_cases h:m=a;.rw[if_pos h,h,show aw a a=V from pM a];rfl
    .rw[if_neg h,kK (λe=>h e.symm)];rfl
  . rw[kK b];show(bif aw a m then J y else look (put t n x) m)=if m=n then J x else(bif aw a m then J y else look t m);rw[UR n x m t];by_cases h:m=n;.rw[if_pos h,if_pos h,kK (λe=>b (e.trans h))];rfl
    .rw[if_neg h,if_neg h]
theorem dN{o:GO}:(g.alloc o).next=g.next+1:=rfl
theorem gL{i:Nat}{o:GO}:(g.set i o).next=g.next:=rfl
theorem ke{o:GO}{i:Nat}:(g.alloc o).get i=if i=g.next then J o else g.get i:=UR _ _ _ _
theorem lj{o:GO}{i j:Nat}:(g.set j o).get i=if i=j then J o else g.get i:=UR _ _ _ _
def Hi(k:Nat)(g a:GH):Prop:=g.next<=a.next/\∀i,k<=i->i<g.next->a.get i=g.get i
def Lo(k:Nat)(g a:GH):Prop:=g.next<=a.next/\∀i,i<k->a.get i=g.get i
theorem Hi.refl:Hi k g g:=⟨bJ _,λ_ _ _=>rfl⟩
theorem Hi.trans{a b c:GH}(h:Hi k a b)(d:Hi k b c):Hi k a c:=⟨fX h.1 d.1,λi e j=>(d.2 i e (gi j h.1)).trans (h.2 i e j)⟩
theorem Lo.refl:Lo k g g:=⟨bJ _,λ_ _=>rfl⟩
theorem Lo.trans{a b c:GH}(h:Lo k a b)(d:Lo k b c):Lo k a c:=⟨fX h.1 d.1,λi e=>(d.2 i e).trans (h.2 i e)⟩
theorem Lo.mono{l:Nat}{a b:GH}(h:Lo k a b)(d:l<=k):Lo l a b:=⟨h.1,λi c=>h.2 i ab⟩
theorem Hi.mono{l:Nat}{a b:GH}(h:Hi k a b)(d:k<=l):Hi l a b:=⟨h.1,λi c j=>h.2 i ab j⟩
theorem Lo.alloc{o:GO}(h:k<=g.next):Lo k g (g.alloc o):=⟨by simp[dN],λi a=>by grind[ke]⟩
theorem Hi.alloc{o:GO}:Hi k g (g.alloc o):=⟨by simp[dN],λi _ h=>by grind[ke]⟩
theorem Lo.set{i:Nat}{o:GO}(h:k<=i):Lo k g (g.set i o):=⟨bJ _,λj a=>by grind[lj]⟩
theorem Hi.set{i:Nat}{o:GO}(h:i<k):Hi k g (g.set i o):=⟨bJ _,λj a _=>by grind[lj]⟩
theorem Hi.sa{o:GO}(h:Hi k g g'):Hi k g (g'.alloc o):=h.trans Hi.alloc
theorem Hi.sl{i:Nat}{o:GO}(a:i<k)(h:Hi k g g'):Hi k g (g'.set i o):=h.trans (Hi.set a)
theorem Hi.sg{i:Nat}{o:GO}(c:g.next<=i)(h:Hi k g g'):Hi k g (g'.set i o):=⟨h.1,λj a b=>by rw[lj,if_neg ab];exact h.2 j a b⟩
theorem nQ(h:Hi k g g':=by repeat(first|exact Hi.refl|refine Hi.sa ?_|refine Hi.sl ab ?_|refine Hi.sg (by first|exact bJ _|omega|(simp only[dN,gL];omega)) ?_)):Hi k g g':=h
theorem sY{z:Int}(h:aj z 0=V):z=0:=by grind[jU]
section
variable{X σ:Type}
def cO(t:X->σ->ah bF×σ):List X->σ->ah bF×σ|[],s=>(Z,s)|x::l,s=>match(t x s).1 with|none=>cO t l (t x s).2|some c=>(J c,(t x s).2)
theorem xT(t:X->σ->ah bF×σ):∀(a b:List X)(s:σ),cO t (a++b) s=match(cO t a s).1 with|none=>cO t b (cO t a s).2|some c=>(J c,(cO t a s).2)
 |[],_,_=>rfl|x::a,b,s=>by simp only[lC,cO];cases h:(t x s).1 with|none=>exact xT t a b _|some c=>rfl
theorem uS(t:X->σ->ah bF×σ)(x:X)(l:List X)(s:σ):cO t (x::l) s=match(t x s).1 with|none=>cO t l (t x s).2|some c=>(J c,(t x s).2):=rfl
def sU(t:X->σ->ah bF×σ)(b:List X)(a:σ)(x:X)(s:σ):Prop:=∃pre post,b=pre++x::post/\cO t pre a=(Z,s)
theorem sU.mem{t:X->σ->ah bF×σ}{c:List X}{d s:σ}{x:X}(h:sU t c d x s):x∈c:=by obtain⟨a,b,rfl,_⟩:=h;simp
structure B'(enc:X->aq)(ok:X->σ->Prop)(n k:Nat)(rel:ah bF->σ->GH->Prop)(step:X->σ->ah bF×σ):Prop where
 run:∀x s g,ok x s->rel Z s g->k<=g.next->∃g',ev PP cf (.dT n (enc x) g)=J (.val (.dv (.bool (step x s).1.isNone) .no) g')/\rel (step x s).1 (step x s).2 g'/\Hi k g g'
 stay:∀c s g g',rel c s g->Lo k g g'->rel c s g'
def vZ(e:X->aq)(h:Nat)(f b:aq)(a:GH->Prop)(x:List X):Prop:=∀(n k:Nat)(σ:Type)(r:ah bF->σ->GH->Prop)(step:X->σ->ah bF×σ)(s:σ),B' e (sU step x s) n k r step->(∀c s g,r c s g->a g)->∀g,r Z s g->k<=g.next->∃g',ev PP cf (.call h (f++[.dT n]++b) .no g)=J (.val (.tp []) g')/\r (cO step x s).1 (cO step x s).2 g'/\Hi k g g'
end
def tz(f n:Nat)(l:cT)(s:List Tmp)(a b:Hd bF)(t:LoopState)(p:ah bF):GO:=.loop ⟨t,p,f,n,l,s,a.get,b.get⟩
def G9(k:eB->ah bh)(s:St):ah bF->ah bh|none=>k (.fJ s)|some .ret=>k (.rt s)|some (.exit id)=>k (.ext id s)|_=>Z
def QI(P:aG)(f:bR)(e:dR)(d:ah Nat)(p:List Tmp)(a b:Hd bF)(s:St)(k:eB->ah bh):DV->ah bh
 |.func h first c=>bif(f.iK h (first++[.dT s.g.next]++c)).isSome||!(Ak d s.g)then Z else(e (.call h (first++[.dT s.g.next]++c) .no (s.g.alloc (tz s.fn s.n (lO s.sl) p a b .ready Z)))).bind λ|.val _ g=>(match g.get s.g.next with|some (.loop r)=>(match r.state with|.busy=>Z|_=>G9 k {s with sl:=cK s.sl,g:=g.set s.g.next (.loop {r with state:=.exhausted})} r.pending)|_=>Z)|_=>Z
 |_=>Z
theorem arh{d:bR}{r:ah Nat}{s:St}{k:eB->ah bh}{f:aK}{a b:bF}:exec P d rec r (.rangeFunc f ⟨ps⟩ a b) s k=(bj d.ao s f).bind (QI P d rec r ps (.mk a (.mk a)) (.mk b (.mk b)) s k):=by show(match bj d.ao s f with|some (.func h first c)=>_|_=>Z)=_;cases bj d.ao s f with|none=>rfl|some v=>cases v with|func h first c=>show(bif _ then Z else qT _ _)=(bif _ then Z else qT _ _);congr 1|_=>rfl
def Mw(l:Nat):eB->ah bh|.fJ st=>wz l st Z|.rt st=>wz l st (J .ret)|.ext id st=>wz l st (J (.exit id))
def RX(P:aG)(c:bR)(r:dR)(l:Nat)(b:Hd bF):eB->ah bh|.fJ st=>(match st.g.get l with|some (.loop r1)=>(match r1.state with|.ready=>exec P c r (J l) b.get {st with sl:=cK st.sl,g:=st.g.set l (.loop {r1 with state:=.busy})} (Mw l)|_=>Z)|_=>Z)|_=>Z
theorem aqA{l n:Nat}{s:aq}{c:cT}{a b:bF}{t:Tg a}{u:Tg b}{r:bh}(d:g.get l=J (tz fn n c ps (.mk a t) (.mk b u) .ready Z))(e:(aw s.length ps.length&&ps.all (λp=>cm p n))=V)(h:exec PP cf (ev PP cf) (J l) a ⟨fn,n,BU ps s c,[],g⟩ (RX PP cf (ev PP cf) l (.mk b u))=J r):ev PP cf (.dT l s g)=J r:=by apply Kh;show(match g.get l with|some (.loop r)=>_|_=>Z)=_;rw[d];show(bif aw s.length ps.length&&ps.all (λp=>cm p n)then _ else Z)=_;rw[e];exact h
theorem Ao{l n:Nat}{r:aq}{s:cT}{a b:bF}{t:Tg a}{u:Tg b}(c:g.get l=J (tz fn n s ps (.mk a t) (.mk b u) .ready Z))(d:(aw r.length ps.length&&ps.all (λp=>cm p n))=V)(h:Sat (exec PP cf (ev PP cf) (J l) a ⟨fn,n,BU ps r s,[],g⟩ (RX PP cf (ev PP cf) l (.mk b u))) Q):Sat (ev PP cf (.dT l r g)) Q:=by obtain⟨v,g',h,q⟩:=h;exact⟨v,g',aqA c d h,q⟩
section
variable{P:aG}{cf:bR}{rec:dR}{l f m fn n:Nat}{s sl:cT}{ps:List Tmp}{a c:Hd bF}{b:bF}{u:Tg b}{lb:dV}{g:GH}{sta:LoopState}{pd:ah bF}{k:eB->ah bh}{O:St}
def aat(P:aG)(c:bR)(r:dR)(l:Nat)(b:Hd bF)(s:St):GO->ah bh|.loop r1=>(match r1.state with|.ready=>exec P c r (J l) b.get {s with sl:=cK s.sl,g:=s.g.set l (.loop {r1 with state:=.busy})} (Mw l)|_=>Z)|_=>Z
theorem ak2:RX P cf rec l (.mk b u) (.fJ ⟨fn,n,sl,lb,g⟩)=(g.get l).bind (aat P cf rec l (.mk b u) ⟨fn,n,sl,lb,g⟩):=by
 show(match g.get l with|some (.loop r1)=>_|_=>Z)=_;rcases g.get l with _|o;.rfl
 cases o<;>rfl
theorem ak1:aat P cf rec l (.mk b u) ⟨fn,n,sl,lb,g⟩ (tz f m s ps a c .ready pd)=exec P cf rec (J l) b ⟨fn,n,cK sl,lb,g.set l (tz f m s ps a c .busy pd)⟩ (Mw l):=(rfl)
def ug(l:Nat)(g:GH)(p:ah bF):GO->ah bh|.loop r=>J (.val (.dv (.bool p.isNone) .no) (g.set l (.loop {r with state:=(match p with|none=>.ready|some _=>.done),pending:=p})))|_=>Z
theorem acW{p:ah bF}:wz l ⟨fn,n,sl,lb,g⟩ p=(g.get l).bind (ug l g p):=by
 show(match g.get l with|some (.loop r)=>_|_=>Z)=_;rcases g.get l with _|o;.rfl
 cases o<;>rfl
theorem aGz:Mw l (.fJ ⟨fn,n,sl,lb,g⟩)=(g.get l).bind (ug l g Z):=acW
theorem aGA:Mw l (.rt ⟨fn,n,sl,lb,g⟩)=(g.get l).bind (ug l g (J .ret)):=acW
theorem arI:ug l g Z (tz f m s ps a c sta pd)=J (.val (.dv (.bool V) .no) (g.set l (tz f m s ps a c .ready Z))):=(rfl)
theorem arJ{p:bF}:ug l g (J p) (tz f m s ps a c sta pd)=J (.val (.dv (.bool C) .no) (g.set l (tz f m s ps a c .done (J p)))):=(rfl)
theorem set_set{l:Nat}{o a:GO}:(g.set l o).set l a=g.set l a:=by
 have:∀t:List (Nat×GO),put (put t l o) l a=put t l a:=by intro t;induction t<;>grind[pM,put]
 show(⟨g.next,put (put g.sE l o) l a⟩:GH)=⟨g.next,put g.sE l a⟩;grind
theorem aoY:G9 k O Z=k (.fJ O):=(rfl)
theorem aoZ:G9 k O (J .ret)=k (.rt O):=(rfl)
end
theorem aEV:lO []=[]:=rfl
theorem aEW{d:DV}{l:cT}:lO ((t,.dv d .no)::l)=(t,.dv d .no)::lO l:=rfl
theorem aEP{d:DV}{l:cT}:lO ((t,.dv d .any)::l)=(t,.dv d .any)::lO l:=rfl
theorem aES{d:DV}{l:cT}:lO ((t,.ev d)::l)=(t,.ev d)::lO l:=rfl
theorem aET{d:DV}{l:cT}:lO ((t,.dv d (.ex e))::l)=(t,.dd)::lO l:=rfl
theorem aEU{b:Nat}{l:cT}:lO ((t,.lp a b)::l)=(t,.dd)::lO l:=rfl
theorem aEQ{l:cT}:lO ((t,.dd)::l)=(t,.dd)::lO l:=rfl
theorem aHJ{d:aq}{s:cT}:BU [] d s=s:=by cases d<;>rfl
theorem aHI{p:Nat}{a:aD}{d:DV}{s:aq}{l:cT}:BU (p::a) (d::s) l=BU a s (put l p (.dv d .no)):=rfl
attribute[go_sem]ak1 arI arJ set_set ak2 aGz aGA aoY aoZ aEV aEW aEP aES aET aEU aEQ aHJ aHI arh aj1 dN gL
attribute[go_sem]ke lj
theorem amc{c:bR}{s:St}{o:Op}{a:List aK}{i:Nat}:NL c rec s o x a (.dT i)=(opsV c.ao (cY s (handsOn o)) a).bind λar=>(rec (.dT i ar (cY s (handsOn o)).g)).bind λ|.val v g=>J ({cY s (handsOn o)with g:=g},v)|_=>Z:=(rfl)
theorem ahD{c:Type}{n:Nat}{x:c}:∀{l:List (Nat×c)},look l n=J x->put l n x=l
 |[],h=>by cases h|(a,y)::t,h=>by
  show(bif aw a n then(n,x)::t else(a,y)::put t n x)=_;by_cases b:a=n
  . subst b;have:look ((a,y)::t) a=J y:=by show(bif aw a a then J y else look t a)=_;rw[show aw a a=V from pM a];rfl
    rw[this]at h;cases h;rw[show aw a a=V from pM a];rfl
  . have:look ((a,y)::t) n=look t n:=by show(bif aw a n then J y else look t n)=_;rw[kK b];rfl
    rw[this]at h;rw[kK b,ahD h];rfl
theorem YT{i:Nat}{o:GO}(h:g.get i=J o):g.set i o=g:=by show(⟨g.next,put g.sE i o⟩:GH)=g;rw[ahD h]
def rB(P:aG)(t:an)(u:iF)(s:St)(d:ah Tmp)(i o:Nat):GO->ah St|.box b=>(match u,ew b o,AM.isAgg P t with|.ref,.ex _,J C=>bif cm o b.cells.length then aH s d (.gr i o)else Z|_,_,_=>(fD P u t b o).bind λr=>aH {s with g:=s.g.set i (.box r.2)} d r.1)|_=>Z
theorem azz{t:an}{n:Nat}{s:cT}{d:ah Tmp}{i:Nat}{o:aM}:LH P t u ⟨fn,n,s,lb,g⟩ d (.dv (.ptr i I) o)=(g.get i).bind (rB P t u ⟨fn,n,s,lb,g⟩ d i I):=by
 show(match g.get i with|some (.box b)=>_|_=>Z)=_;rcases g.get i with _|o;.rfl
 cases o<;>rfl
theorem azu{t:an}{e:aq}:∀r,fD P u t ⟨e,[]⟩ I=J r->r.2=⟨e,[]⟩:=by
 intro r hr;unfold fD at hr;rcases b:AM.isAgg P t with _|a;.grind
 rw[b]at hr;cases a with|true=>cases s:aZ P t<;>grind|false=>
 rcases h:e[I]? with _|c;.grind
 simp only[h,gF,xw]at hr;rw[<-hr];unfold ew;simp only[h];cases c<;>cases u<;>rfl
theorem ayU{t:an}{n:Nat}{s:cT}{d:ah Tmp}{i:Nat}{e:aq}:rB P t u ⟨fn,n,s,lb,g⟩ d i I (.box ⟨e,[]⟩)=(fD P u t ⟨e,[]⟩ I).bind λr=>aH ⟨fn,n,s,lb,g.set i (.box ⟨e,[]⟩)⟩ d r.1:=by
 have h:(fD P u t ⟨e,[]⟩ I).bind (λr=>aH ⟨fn,n,s,lb,g.set i (.box r.2)⟩ d r.1)=(fD P u t ⟨e,[]⟩ I).bind λr=>aH ⟨fn,n,s,lb,g.set i (.box ⟨e,[]⟩)⟩ d r.1:=by grind[fD,azu]
 refine Eq.trans ?_ h;have:ew ⟨e,[]⟩ I=.any\/ew ⟨e,[]⟩ I=.no:=by
  unfold ew;rcases(⟨e,[]⟩:LB).cells[I]? with _|c;.exact .inr rfl
  cases c<;>first|exact .inl rfl|exact .inr rfl
 show(match u,ew ⟨e,[]⟩ I,AM.isAgg P t with|.ref,.ex _,J C=>_|_,_,_=>_)=_;grind
def stK(P:aG)(t:an)(s:St)(d:ah Tmp)(x:aK)(v:DV)(w:aM)(i o:Nat):GO->ah St|.box b=>(yK P t b o v w).bind λb=>aH {aQ leave s x with sl:=cK (aQ leave s x).sl,g:=s.g.set i (.box b)} d (.tp [])|_=>Z
theorem aJq{t:an}{n:Nat}{s:cT}{d:ah Tmp}{o:aM}{i:Nat}:Q5 P t ⟨fn,n,s,lb,g⟩ d x v ow (.dv (.ptr i I) o)=(g.get i).bind (stK P t ⟨fn,n,s,lb,g⟩ d x v ow i I):=by
 show(match g.get i with|some (.box b)=>_|_=>Z)=_;rcases g.get i with _|o;.rfl
 cases o<;>rfl
theorem aI6{t:an}{n:Nat}{s:cT}{d:ah Tmp}{i:Nat}{b:LB}:stK P t ⟨fn,n,s,lb,g⟩ d x v ow i I (.box b)=(yK P t b I v ow).bind λb=>aH {aQ leave ⟨fn,n,s,lb,g⟩ x with sl:=cK (aQ leave ⟨fn,n,s,lb,g⟩ x).sl,g:=g.set i (.box b)} d (.tp []):=(rfl)
theorem aAQ{n:Nat}{l:List (Nat×GO)}:(GH.mk n l).next=n:=rfl
theorem akZ{a b:List α}:((⟨a⟩:Array α)++(⟨b⟩:Array α)).toList=a++b:=aO
def Sg(P:aG)(s:St)(a t i o:Nat):GO->ah ((DV×aM)×St)|.box b=>(fD P .take t b o).bind λr=>(aH {s with g:=s.g.set i (.box r.2)} (J a) r.1).bind λs=>uE s a|_=>Z
def Sh(P:aG)(c:St)(a t:Nat):SV->ah ((DV×aM)×St)|.lp s I=>(look c.lb s).bind λb=>(fD P .take t b I).bind λr=>(aH {c with lb:=put c.lb s r.2} (J a) r.1).bind λc=>uE c a|.dv (.ptr id I) _=>(c.g.get id).bind (Sg P c a t id I)|_=>Z
theorem aGk{c:St}:IS P c (.cell a t)=(look c.sl a).bind (Sh P c a t):=by show(match look c.sl a with|some (.lp s I)=>_|some (.dv (.ptr id I) _)=>_|_=>Z)=_;cases look c.sl a with|none=>rfl|some v=>cases v with
 |dv d o=>cases d with
  |ptr id I=>
  show(match c.g.get id with|some (.box b)=>_|_=>Z)=(c.g.get id).bind _;rcases c.g.get id with _|o;.rfl
  cases o<;>rfl|_=>rfl
 |_=>rfl
theorem amB{c:St}{s:Nat}:Sh P c a t (.lp s I)=(look c.lb s).bind λb=>(fD P .take t b I).bind λr=>(aH {c with lb:=put c.lb s r.2} (J a) r.1).bind λc=>uE c a:=(rfl)
theorem amC{s:St}{i:Nat}{o:aM}:Sh P s a t (.dv (.ptr i I) o)=(s.g.get i).bind (Sg P s a t i I):=(rfl)
theorem amA{s:St}{i:Nat}{b:LB}:Sg P s a t i I (.box b)=(fD P .take t b I).bind λr=>(aH {s with g:=s.g.set i (.box r.2)} (J a) r.1).bind λs=>uE s a:=(rfl)
attribute[go_sem]aAQ akZ aGk amB amC amA amc azz ayU aJq aI6 YT
def ldS:ah bF->LoopState|none=>.ready|some _=>.done
theorem Al{X j:Type}{i:X->aq}{h:Nat}{y o:aq}{w:GH->Prop}{f:List X}(D:vZ i h y o w f){F:ah Nat}{a b:bF}{t:Tg a}{u:Tg b}{n:Nat}{l:cT}{k:eB->ah bh}(p:X->j->ah bF×j)(R:ah bF->j->GH->Prop)(d:j)(I:∀m,cf.iK h (y++[.dT m]++o)=Z)(M:Ak F g=V)(B:R Z d g)(W:∀c s g',R c s g'->w g')(U:∀c s g1 g2,R c s g1->Lo g.next g1 g2->R c s g2)(L:∀x s g1,sU p f d x s->R Z s g1->g.next<g1.next->g1.get g.next=J (tz fn n (lO l) ps (.mk a t) (.mk b u) .ready Z)->Sat (ev PP cf (.dT g.next (i x) g1)) λv g2=>v=.dv (.bool (p x s).1.isNone) .no/\R (p x s).1 (p x s).2 g2/\Hi (g.next+1) g1 g2/\g2.get g.next=J (tz fn n (lO l) ps (.mk a t) (.mk b u) (ldS (p x s).1) (p x s).1))(N:∀g1,R (cO p f d).1 (cO p f d).2 g1->g.next<g1.next->Sat (G9 k ⟨fn,n,cK l,lb,g1⟩ (cO p f d).1) Q):Sat (QI PP cf (ev PP cf) F ps (.mk a t) (.mk b u) ⟨fn,n,l,lb,g⟩ k (.func h y o)) Q:=by
 let A:ah bF->j->GH->Prop:=λc s g1=>R c s g1/\g.next<g1.next/\g1.get g.next=J (tz fn n (lO l) ps (.mk a t) (.mk b u) (ldS c) c);have H:B' i (sU p f d) g.next (g.next+1) A p:=by
  constructor;.intro x s g1 K hr _;obtain⟨_,g2,e,rfl,r,G,z⟩:=L x s g1 K hr.1 hr.2.1 hr.2.2;exact⟨g2,e,⟨r,gi hr.2.1 G.1,z⟩,G⟩
  .intro c s g1 g2 hr z;exact⟨U _ _ _ _ hr.1 (z.mono (JA _)),gi hr.2.1 z.1,(z.2 _ (GI _)).trans hr.2.2⟩
 obtain⟨g1,e,hr,_⟩:=D g.next (g.next+1) j A p d H (λc s g' h=>W c s g' h.1) (g.alloc (tz fn n (lO l) ps (.mk a t) (.mk b u) .ready Z)) ⟨U _ _ _ _ B (Lo.alloc (bJ _)),GI _,by rw[ke,if_pos rfl];rfl⟩ (bJ _);have E:=hr.2.2;obtain⟨v,g3,e3,q⟩:=N (g1.set g.next (tz fn n (lO l) ps (.mk a t) (.mk b u) .exhausted (cO p f d).1)) (U _ _ _ _ hr.1 (Lo.set (bJ _))) hr.2.1;refine⟨v,g3,?_,q⟩;refine Eq.trans ?_ e3;show(bif(cf.iK h (y++[.dT g.next]++o)).isSome||!(Ak F g)then Z else(ev PP cf (.call h (y++[.dT g.next]++o) .no (g.alloc (tz fn n (lO l) ps (.mk a t) (.mk b u) .ready Z)))).bind _)=_;rw[I,M,e];show(match g1.get g.next with|some (.loop r)=>_|_=>Z)=_;rw[E];cases(cO p f d).1<;>rfl
section
variable{P:aG}{cf:bR}{rec:dR}{O:St}{gs cr:aD}{l:List aB}{d:ah Tmp}{ty:an}{pos:String}{af:Array Go.Edge}{wh:ah (Nat×Bool)}{x y:aK}{t u:an}{ts:Array an}
def af2(s:St)(d:ah Tmp):DV->DV->ah St|.int k a,.int _ b=>aH s d (.dv (.int k (bif aA b a then b else a)) .no)|_,_=>Z
theorem ajR:dH P cf rec gs cr l O ⟨d,.call ⟨.builtin .min,⟨[x,y]⟩,ts⟩,ty,pos,af,wh⟩=(bj cf.ao O x).bind λa=>(bj cf.ao O y).bind (af2 O d a):=by
 show((bj _ O x).bind λb=>((bj _ O y).bind _).bind _).bind _=_;rcases bj _ O x with _|a;.rfl
 rcases bj _ O y with _|b;.rfl
 cases a<;>cases b<;>rfl
theorem aAe{k c:fN}{a b:Int}:af2 O d (.int k a) (.int c b)=aH O d (.dv (.int k (bif aA b a then b else a)) .no):=rfl
end
attribute[go_sem↓]ajR
attribute[go_sem]aAe
theorem aJG:iL PP 90=J [(0,1),(1,1),(2,1),(3,1),(4,1)]/\iL PP 164=J [(0,1),(1,3)]/\iL PP 167=J [(0,1),(1,1)]/\iL PP 127=J [(0,1),(1,1),(2,1)]/\iL PP 47=J [(0,1),(1,1),(2,1),(3,1)]/\iL PP 49=J [(0,1),(1,3),(4,4)]/\iL PP 29=J [(0,1),(1,1)]/\iL PP 162=J [(0,1),(1,1),(2,1)]/\iL PP 153=J [(0,1)]/\iL PP 25=J [(0,1),(1,1)]/\iL PP 63=J [(0,1),(1,1),(2,1),(3,14),(17,1)]/\iL PP 69=J [(0,1),(1,18),(19,4)]/\iL PP 340=J [(0,1),(1,1)]/\iL PP 345=J [(0,23),(23,1)]/\iL PP 344=J [(0,23),(23,1)]/\iL PP 359=J [(0,4),(4,1)]/\iL PP 358=J [(0,4),(4,1)]/\iL PP 109=J [(0,1),(1,1),(2,2)]/\iL PP 108=J [(0,1),(1,1),(2,2)]/\iL PP 407=J [(0,23),(23,3),(26,1),(27,1),(28,1),(29,3),(32,1)]:=by and_intros<;>kernel_rfl
theorem akl:AM.isAgg PP 88=J C/\AM.isAgg PP 90=J V/\AM.isAgg PP 44=J C/\AM.isAgg PP 164=J V/\AM.isAgg PP 124=J C/\AM.isAgg PP 167=J V/\AM.isAgg PP 125=J C/\AM.isAgg PP 127=J V/\AM.isAgg PP 45=J C/\AM.isAgg PP 47=J V/\AM.isAgg PP 49=J V/\AM.isAgg PP 27=J C/\AM.isAgg PP 29=J V/\AM.isAgg PP 34=J C/\AM.isAgg PP 162=J V/\AM.isAgg PP 153=J V/\AM.isAgg PP 149=J C/\AM.isAgg PP 242=J C/\AM.isAgg PP 25=J V/\AM.isAgg PP 23=J C:=by and_intros<;>kernel_rfl
theorem akm:AM.isAgg PP 95=J C/\AM.isAgg PP 340=J V/\AM.isAgg PP 338=J C/\AM.isAgg PP 345=J V/\AM.isAgg PP 344=J V/\AM.isAgg PP 359=J V/\AM.isAgg PP 358=J V/\AM.isAgg PP 357=J C/\AM.isAgg PP 109=J V/\AM.isAgg PP 108=J V/\AM.isAgg PP 407=J V/\AM.isAgg PP 406=J V/\AM.isAgg PP 405=J C/\AM.isAgg PP 130=J C/\AM.isAgg PP 131=J C/\AM.isAgg PP 132=J C/\AM.isAgg PP 30=J C/\AM.isAgg PP 343=J C/\AM.isAgg PP 373=J C/\AM.isAgg PP 288=J C:=by and_intros<;>kernel_rfl
theorem akn:AM.isAgg PP 70=J C/\AM.isAgg PP 230=J C/\AM.isAgg PP 122=J C:=by and_intros<;>kernel_rfl
theorem aJU:aZ PP 88=J 1/\aZ PP 90=J 5/\aZ PP 44=J 1/\aZ PP 164=J 4/\aZ PP 124=J 1/\aZ PP 167=J 2/\aZ PP 125=J 1/\aZ PP 127=J 3/\aZ PP 45=J 1/\aZ PP 47=J 4/\aZ PP 49=J 8/\aZ PP 27=J 1/\aZ PP 29=J 2/\aZ PP 34=J 1/\aZ PP 162=J 3/\aZ PP 153=J 1/\aZ PP 149=J 1/\aZ PP 242=J 1/\aZ PP 25=J 2/\aZ PP 23=J 1:=by and_intros<;>kernel_rfl
theorem aJV:aZ PP 95=J 1/\aZ PP 22=J 1/\aZ PP 340=J 2/\aZ PP 338=J 1/\aZ PP 345=J 24/\aZ PP 344=J 24/\aZ PP 359=J 5/\aZ PP 358=J 5/\aZ PP 357=J 1/\aZ PP 109=J 4/\aZ PP 108=J 4/\aZ PP 407=J 33/\aZ PP 406=J 33/\aZ PP 405=J 1/\aZ PP 130=J 1/\aZ PP 131=J 1/\aZ PP 132=J 1/\aZ PP 30=J 1/\aZ PP 343=J 1/\aZ PP 373=J 1:=by and_intros<;>kernel_rfl
theorem aJW:aZ PP 288=J 1/\aZ PP 70=J 1/\aZ PP 230=J 1/\aZ PP 122=J 1:=by and_intros<;>kernel_rfl
theorem awB:ey PP 43=J (3,32)/\ey PP 88=J (1,24)/\ey PP 90=J (5,56)/\ey PP 44=J (1,24)/\ey PP 164=J (4,32)/\ey PP 124=J (1,24)/\ey PP 167=J (2,16)/\ey PP 125=J (1,24)/\ey PP 127=J (3,56)/\ey PP 45=J (1,24)/\ey PP 47=J (4,80)/\ey PP 49=J (8,120)/\ey PP 27=J (1,24)/\ey PP 29=J (2,48)/\ey PP 34=J (1,24)/\ey PP 162=J (3,24)/\ey PP 31=J (1,8)/\ey PP 153=J (1,24)/\ey PP 149=J (1,24)/\ey PP 242=J (1,24):=by and_intros<;>kernel_rfl
theorem awC:ey PP 25=J (2,48)/\ey PP 63=J (18,240)/\ey PP 69=J (23,328)/\ey PP 23=J (1,24)/\ey PP 95=J (1,24)/\ey PP 22=J (1,24)/\ey PP 340=J (2,16)/\ey PP 338=J (1,8)/\ey PP 345=J (24,336)/\ey PP 344=J (24,336)/\ey PP 359=J (5,72)/\ey PP 358=J (5,72)/\ey PP 357=J (1,8)/\ey PP 109=J (4,96)/\ey PP 108=J (4,96)/\ey PP 407=J (33,464)/\ey PP 406=J (33,464)/\ey PP 405=J (1,8)/\ey PP 130=J (1,24)/\ey PP 131=J (1,4):=by and_intros<;>kernel_rfl
theorem awD:ey PP 132=J (1,24)/\ey PP 5=J (1,1)/\ey PP 30=J (1,8)/\ey PP 343=J (1,8)/\ey PP 373=J (1,8)/\ey PP 288=J (1,8)/\ey PP 70=J (1,8)/\ey PP 230=J (1,24)/\ey PP 122=J (1,8):=by and_intros<;>kernel_rfl
theorem aLm:cI PP 88=J (.nl)/\cI PP 90=J (.agg [.int .i64 0,.int .i64 0,.int .i64 0,.int .i64 0,.nl])/\cI PP 44=J (.nl)/\cI PP 164=J (.agg [.int .i64 0,.int .i64 0,.int .i64 0,.int .i64 0])/\cI PP 124=J (.nl)/\cI PP 167=J (.agg [.int .i64 0,.int .i64 0])/\cI PP 125=J (.nl)/\cI PP 127=J (.agg [.int .i64 0,.nl,.nl])/\cI PP 45=J (.nl)/\cI PP 47=J (.agg [.int .i64 0,.nl,.nl,.nl])/\cI PP 49=J (.agg [.int .i64 0,.int .i64 0,.int .i64 0,.str [],.int .i64 0,.nl,.nl,.nl])/\cI PP 27=J (.nl)/\cI PP 29=J (.agg [.nl,.nl])/\cI PP 34=J (.nl)/\cI PP 162=J (.agg [.int .i64 0,.int .i64 0,.int .i64 0])/\cI PP 153=J (.agg [.nl])/\cI PP 149=J (.nl)/\cI PP 242=J (.nl)/\cI PP 25=J (.agg [.nl,.nl])/\cI PP 63=J (.agg [.str [],.nl,.nl,.int .i64 0,.nl,.int .i64 0,.int .i64 0,.int .i64 0,.int .i64 0,.int .i64 0,.nl,.int .i64 0,.int .i64 0,.int .i64 0,.int .i64 0,.int .i64 0,.str [],.nl]):=by and_intros<;>kernel_rfl
theorem aLn:cI PP 69=J (.agg [.nl,.str [],.nl,.nl,.int .i64 0,.nl,.int .i64 0,.int .i64 0,.int .i64 0,.int .i64 0,.int .i64 0,.nl,.int .i64 0,.int .i64 0,.int .i64 0,.int .i64 0,.int .i64 0,.str [],.nl,.int .i64 0,.int .i64 0,.nl,.nl])/\cI PP 23=J (.nl)/\cI PP 95=J (.nl)/\cI PP 22=J (.nl)/\cI PP 340=J (.agg [.int .i64 0,.int .i64 0])/\cI PP 338=J (.fR)/\cI PP 345=J (.agg [.nl,.str [],.nl,.nl,.int .i64 0,.nl,.int .i64 0,.int .i64 0,.int .i64 0,.int .i64 0,.int .i64 0,.nl,.int .i64 0,.int .i64 0,.int .i64 0,.int .i64 0,.int .i64 0,.str [],.nl,.int .i64 0,.int .i64 0,.nl,.nl,.eN])/\cI PP 344=J (.agg [.nl,.str [],.nl,.nl,.int .i64 0,.nl,.int .i64 0,.int .i64 0,.int .i64 0,.int .i64 0,.int .i64 0,.nl,.int .i64 0,.int .i64 0,.int .i64 0,.int .i64 0,.int .i64 0,.str [],.nl,.int .i64 0,.int .i64 0,.nl,.nl,.eN])/\cI PP 359=J (.agg [.int .i64 0,.int .i64 0,.nl,.nl,.fR])/\cI PP 358=J (.agg [.int .i64 0,.int .i64 0,.nl,.nl,.fR])/\cI PP 357=J (.fR)/\cI PP 109=J (.agg [.nl,.nl,.nl,.nl])/\cI PP 108=J (.agg [.nl,.nl,.nl,.nl])/\cI PP 407=J (.agg [.nl,.str [],.nl,.nl,.int .i64 0,.nl,.int .i64 0,.int .i64 0,.int .i64 0,.int .i64 0,.int .i64 0,.nl,.int .i64 0,.int .i64 0,.int .i64 0,.int .i64 0,.int .i64 0,.str [],.nl,.int .i64 0,.int .i64 0,.nl,.nl,.int .i64 0,.nl,.nl,.int .i64 0,.nl,.fR,.int .i64 0,.int .i64 0,.str [],.bool C])/\cI PP 406=J (.agg [.nl,.str [],.nl,.nl,.int .i64 0,.nl,.int .i64 0,.int .i64 0,.int .i64 0,.int .i64 0,.int .i64 0,.nl,.int .i64 0,.int .i64 0,.int .i64 0,.int .i64 0,.int .i64 0,.str [],.nl,.int .i64 0,.int .i64 0,.nl,.nl,.int .i64 0,.nl,.nl,.int .i64 0,.nl,.fR,.int .i64 0,.int .i64 0,.str [],.bool C])/\cI PP 405=J (.fR)/\cI PP 130=J (.nl)/\cI PP 131=J (.int .u32 0)/\cI PP 132=J (.nl)/\cI PP 5=J (.int .u8 0):=by and_intros<;>kernel_rfl
theorem aLo:cI PP 30=J (.nilFunc)/\cI PP 343=J (.eN)/\cI PP 373=J (.eN)/\cI PP 288=J (.eN)/\cI PP 70=J (.eN)/\cI PP 230=J (.nl)/\cI PP 122=J (.nilFunc):=by and_intros<;>kernel_rfl
theorem asA:bN PP 90 0=J (3,0)/\bN PP 90 1=J (3,1)/\bN PP 90 2=J (3,2)/\bN PP 90 3=J (3,3)/\bN PP 90 4=J (88,4)/\bN PP 164 0=J (3,0)/\bN PP 164 1=J (162,1)/\bN PP 167 0=J (3,0)/\bN PP 167 1=J (3,1)/\bN PP 127 0=J (3,0)/\bN PP 127 1=J (124,1)/\bN PP 127 2=J (125,2)/\bN PP 47 0=J (3,0)/\bN PP 47 1=J (44,1)/\bN PP 47 2=J (45,2)/\bN PP 47 3=J (44,3)/\bN PP 49 0=J (3,0)/\bN PP 49 1=J (43,1)/\bN PP 49 2=J (47,4)/\bN PP 29 0=J (26,0):=by and_intros<;>kernel_rfl
theorem asB:bN PP 29 1=J (27,1)/\bN PP 162 0=J (3,0)/\bN PP 162 1=J (3,1)/\bN PP 162 2=J (3,2)/\bN PP 153 0=J (124,0)/\bN PP 25 0=J (22,0)/\bN PP 25 1=J (23,1)/\bN PP 340 0=J (3,0)/\bN PP 340 1=J (3,1)/\bN PP 345 0=J (69,0)/\bN PP 345 1=J (343,23)/\bN PP 344 0=J (69,0)/\bN PP 344 1=J (343,23)/\bN PP 359 0=J (67,0)/\bN PP 359 1=J (357,4)/\bN PP 358 0=J (67,0)/\bN PP 358 1=J (357,4)/\bN PP 109 0=J (22,0)/\bN PP 109 1=J (95,1)/\bN PP 109 2=J (29,2):=by and_intros<;>kernel_rfl
theorem asC:bN PP 108 0=J (22,0)/\bN PP 108 1=J (95,1)/\bN PP 108 2=J (29,2)/\bN PP 407 0=J (69,0)/\bN PP 407 1=J (127,23)/\bN PP 407 2=J (3,26)/\bN PP 407 3=J (44,27)/\bN PP 407 4=J (405,28)/\bN PP 407 5=J (43,29)/\bN PP 407 6=J (4,32)/\bN PP 406 0=J (69,0)/\bN PP 406 1=J (127,23)/\bN PP 406 2=J (3,26)/\bN PP 406 3=J (44,27)/\bN PP 406 4=J (405,28)/\bN PP 406 5=J (43,29)/\bN PP 406 6=J (4,32):=by and_intros<;>kernel_rfl
attribute[go_sem]aJG akl akm akn aJU aJV aJW awB awC awD aLm aLn aLo asA asB asC Proofs.Tryz.underlying88 Proofs.Tryz.underlying90 Proofs.Tryz.underlying44 Proofs.Tryz.underlying164 Proofs.Tryz.underlying124 Proofs.Tryz.underlying167 Proofs.Tryz.underlying125 Proofs.Tryz.underlying127 Proofs.Tryz.underlying45 Proofs.Tryz.underlying47 Proofs.Tryz.underlying49 Proofs.Tryz.underlying27 Proofs.Tryz.underlying29 Proofs.Tryz.underlying34 Proofs.Tryz.underlying162 Proofs.Tryz.underlying153 Proofs.Tryz.underlying149 Proofs.Tryz.underlying242 Proofs.Tryz.underlying25 Proofs.Tryz.underlying23 Proofs.Tryz.underlying95 Proofs.Tryz.underlying340 Proofs.Tryz.underlying338 Proofs.Tryz.underlying345 Proofs.Tryz.underlying344 Proofs.Tryz.underlying359 Proofs.Tryz.underlying358 Proofs.Tryz.underlying357 Proofs.Tryz.underlying109 Proofs.Tryz.underlying108 Proofs.Tryz.underlying407 Proofs.Tryz.underlying406 Proofs.Tryz.underlying405 Proofs.Tryz.underlying132 Proofs.Tryz.underlying30 Proofs.Tryz.underlying343 Proofs.Tryz.underlying373 Proofs.Tryz.underlying288 Proofs.Tryz.underlying70 Proofs.Tryz.underlying230 Proofs.Tryz.underlying122
set_option maxHeartbeats 1000000
structure ct where
 k:Int
 n:Int
 s:aD
structure aL where
 src:Int
 seq:Int
 ty:Int
 tm:Int
 j9:Sl ct
structure dU where
 v:Int
 a:Int
 b:Int
 c:Int
structure fA where
 sc:Int
 tm:Int
structure bp where
 st:Int
 bs:Sl dU
 ss:Sl fA
structure dy where
 mark:Int
 wait:Sl aL
 runs:Sl bp
 held:Sl aL
structure aE where
 q:Int
 key:ct
 e:dy
structure bK where
 marks:Sl Int
 keys:Sl aE
def ct.cells(v:ct):aq:=[iD v.k,iD v.n,.str v.s]
def ct.d(v:ct):DV:=.agg v.cells
def uJ(s:Sl ct):DV:=bP s.nl (s.l.map ct.d) 43 3
def aL.cells(e:aL):aq:=[iD e.src,iD e.seq,iD e.ty,iD e.tm,uJ e.j9]
def aL.d(e:aL):DV:=.agg e.cells
def cX(s:Sl aL):DV:=bP s.nl (s.l.map aL.d) 90 5
def dU.cells(b:dU):aq:=[iD b.v,iD b.a,iD b.b,iD b.c]
def dU.d(b:dU):DV:=.agg b.cells
def gX(s:Sl dU):DV:=bP s.nl (s.l.map dU.d) 164 4
def fA.cells(b:fA):aq:=[iD b.sc,iD b.tm]
def fA.d(b:fA):DV:=.agg b.cells
def jC(s:Sl fA):DV:=bP s.nl (s.l.map fA.d) 167 2
def bp.cells(c:bp):aq:=[iD c.st,gX c.bs,jC c.ss]
def bp.d(c:bp):DV:=.agg c.cells
def mc(s:Sl bp):DV:=bP s.nl (s.l.map bp.d) 127 3
def dy.cells(e:dy):aq:=[iD e.mark,cX e.wait,mc e.runs,cX e.held]
def dy.d(e:dy):DV:=.agg e.cells
def aE.cells(k:aE):aq:=[iD k.q,iD k.key.k,iD k.key.n,.str k.key.s,iD k.e.mark,cX k.e.wait,mc k.e.runs,cX k.e.held]
def aE.d(k:aE):DV:=.agg k.cells
def ki(s:Sl aE):DV:=bP s.nl (s.l.map aE.d) 49 8
def bK.cells(o:bK):aq:=[cL o.marks,ki o.keys]
def bK.d(o:bK):DV:=.agg o.cells
theorem ai8(s:Sl ct):(uJ s).pure=V:=pC (iB (λ_=>rfl) _)
theorem aL.pure(e:aL):e.d.pure=V:=by simp[aL.d,aL.cells,DV.pure,cA,ai8]
theorem Hj(s:Sl aL):(cX s).pure=V:=pC (iB aL.pure _)
theorem aay(s:Sl dU):(gX s).pure=V:=pC (iB (λ_=>rfl) _)
theorem aiB(s:Sl fA):(jC s).pure=V:=pC (iB (λ_=>rfl) _)
theorem bp.pure(c:bp):c.d.pure=V:=by simp[bp.d,bp.cells,DV.pure,cA,aay,aiB]
theorem JW(s:Sl bp):(mc s).pure=V:=pC (iB bp.pure _)
theorem dy.pure(e:dy):e.d.pure=V:=by simp[dy.d,dy.cells,DV.pure,cA,Hj,JW]
theorem aE.pure(e:aE):e.d.pure=V:=by simp[aE.d,aE.cells,DV.pure,cA,Hj,JW]
theorem afw(s:Sl aE):(ki s).pure=V:=pC (iB aE.pure _)
theorem bK.pure(e:bK):e.d.pure=V:=by simp[bK.d,bK.cells,DV.pure,cA,PA,afw]
theorem ct.tH(x:ct):x.d.aV=C:=rfl
theorem ct.rj(x:ct):x.d.flat=x.cells:=rfl
theorem ct.re(x:ct):x.cells.length=3:=rfl
theorem aL.tH(x:aL):x.d.aV=C:=rfl
theorem aL.rj(x:aL):x.d.flat=x.cells:=rfl
theorem aL.re(x:aL):x.cells.length=5:=rfl
theorem dU.tH(x:dU):x.d.aV=C:=rfl
theorem dU.rj(x:dU):x.d.flat=x.cells:=rfl
theorem dU.re(x:dU):x.cells.length=4:=rfl
theorem fA.tH(x:fA):x.d.aV=C:=rfl
theorem fA.rj(x:fA):x.d.flat=x.cells:=rfl
theorem fA.re(x:fA):x.cells.length=2:=rfl
theorem bp.tH(x:bp):x.d.aV=C:=rfl
theorem bp.rj(x:bp):x.d.flat=x.cells:=rfl
theorem bp.re(x:bp):x.cells.length=3:=rfl
theorem dy.tH(x:dy):x.d.aV=C:=rfl
theorem dy.rj(x:dy):x.d.flat=x.cells:=rfl
theorem dy.re(x:dy):x.cells.length=4:=rfl
theorem aE.tH(x:aE):x.d.aV=C:=rfl
theorem aE.rj(x:aE):x.d.flat=x.cells:=rfl
theorem aE.re(x:aE):x.cells.length=8:=rfl
theorem bK.tH(x:bK):x.d.aV=C:=rfl
theorem bK.rj(x:bK):x.d.flat=x.cells:=rfl
theorem bK.re(x:bK):x.cells.length=2:=rfl
attribute[go_sem]ct.tH ct.rj ct.re aL.tH aL.rj aL.re dU.tH dU.rj dU.re fA.tH fA.rj fA.re bp.tH bp.rj bp.re dy.tH dy.rj dy.re aE.tH aE.rj aE.re bK.tH bK.rj bK.re
attribute[go_sem]ai8 aL.pure Hj aay aiB bp.pure JW dy.pure aE.pure afw bK.pure
theorem FW{c:bR}(a:z=V)(h:jO P c rec A=r):(bif z then W P c rec A else W P c rec B)=r:=by subst a;exact h
theorem I'{c:bR}(a:z=C)(h:jO P c rec B=r):(bif z then W P c rec A else W P c rec B)=r:=by subst a;exact h
def ir(a b:Int):Int:=bif aA a b then-1 else bif aA b a then 1 else 0
def de(p:bh->Prop)(x:ah bh):Prop:=∃r,x=J r/\p r
section
variable{p:bh->Prop}
theorem de.mk{r:bh}{x:ah bh}(e:x=J r)(h:p r):de p x:=⟨r,e,h⟩
theorem bW{r:bh}:de p (J r)=p r:=propext ⟨λ⟨_,h,k⟩=>bt h▸k,λh=>⟨r,rfl,h⟩⟩
theorem de.mono{q:bh->Prop}{x:ah bh}(h:de p x)(k:∀r,p r->q r):de q x:=let⟨r,a,b⟩:=h;⟨r,a,k r b⟩
theorem dO{c:bR}(h:z=V->de p (jO P c rec A))(a:z=C->de p (jO P c rec B)):de p (bif z then W P c rec A else W P c rec B):=by
 cases z;.exact a rfl
 .exact h rfl
theorem ic{c:bR}{n:Nat}{d:Func}{i:bF}{e:List oy}{s:aq}(k:P.funcs[f]?=J d)(h:de p (exec P c (ev P c) Z i ⟨f,n,tX 0 ow s,[],g⟩ (BN P e)))(j:d.body=J i:=by rfl)(o:d.results=⟨e⟩:=by rfl)(t:d.ntmps=n:=by rfl)(m:c.iK f s=Z:=by rfl)(l:(yp (e.map vF)&&br s.length n&&!c.Ay f)=V:=by rfl):de p (ev P c (.call f s ow g)):=let⟨r,a,b⟩:=h;⟨r,aP k a j o t m l,b⟩
theorem pA{g:Type}{b:bF}{t:Tg b}{d:ah Nat}{k:eB->ah bh}{m:St}(c:List α)(j:g)(S:Nat->g->St)(I:Nat->List α->g->Prop)(A:c.length<9223372036854775807)(e:S 0 j=m)(z:I 0 c j)(o:∀s,I c.length [] s->de p ((exec PP cf (ev PP cf) d b (S c.length s) (mR PP cf (.mk b t) d)).bind (fF k)))(q:∀i x l s,(i<c.length)=True->c[i]?=J x->dI .i64 (jP (di i) 1)=di (i+1)->I i (x::l) s->(∀f,I (i+1) l f->de p ((kT (ev PP cf) (.mk b t) (S (i+1) f) d).bind (fF k)))->de p ((exec PP cf (ev PP cf) d b (S i s) (mR PP cf (.mk b t) d)).bind (fF k))):de p ((kT (ev PP cf) (.mk b t) m d).bind (fF k)):=by
 have y:∀(l:List α)(i:Nat)(s:g),i+l.length=c.length->c.drop i=l->I i l s->de p ((kT (ev PP cf) (.mk b t) (S i s) d).bind (fF k)):=by intro l;induction l with|nil=>intro i s u _ h;obtain rfl:i=c.length:=ab;obtain⟨r,a,b⟩:=o s h;grind[hZ]|cons x l w=>
  intro i s u hd h;have E:i<c.length:=ai;have v:c[i]?=J x:=by grind[GB]
  obtain⟨r,a,b⟩:=q i x l s (iT E) v (uL ab) h λf n=>w _ f ai (by grind[DO]) n;exact⟨r,hZ a,b⟩
 grind
theorem tx{b:bF}{t:Tg b}{r:ah Nat}{k:eB->ah bh}{s:St}(a:List α)(u:Nat->cT)(f:a.length<9223372036854775807)(e:fp s.sl (u 0)=s.sl)(h:de p ((exec PP cf (ev PP cf) r b ⟨s.fn,s.n,fp s.sl (u a.length),s.lb,s.g⟩ (mR PP cf (.mk b t) r)).bind (fF k)))(c:∀i x,(i<a.length)=True->a[i]?=J x->dI .i64 (jP (di i) 1)=di (i+1)->de p ((kT (ev PP cf) (.mk b t) ⟨s.fn,s.n,fp s.sl (u (i+1)),s.lb,s.g⟩ r).bind (fF k))->de p ((exec PP cf (ev PP cf) r b ⟨s.fn,s.n,fp s.sl (u i),s.lb,s.g⟩ (mR PP cf (.mk b t) r)).bind (fF k))):de p ((kT (ev PP cf) (.mk b t) s r).bind (fF k)):=pA a () (λi _=>⟨s.fn,s.n,fp s.sl (u i),s.lb,s.g⟩) (λ_ _ _=>True) f aT trivial (λ_ _=>h) λi x l _ d g w _ j=>c i x d g w (j () trivial)
theorem UT{b:bF}{t:Tg b}{r:ah Nat}{k:eB->ah bh}{s:St}(a:List α)(u:Nat->cT)(I:Nat->Prop)(j:a.length<9223372036854775807)(e:fp s.sl (u 0)=s.sl)(f:I 0)(c:I a.length->de p ((exec PP cf (ev PP cf) r b ⟨s.fn,s.n,fp s.sl (u a.length),s.lb,s.g⟩ (mR PP cf (.mk b t) r)).bind (fF k)))(d:∀i x,(i<a.length)=True->a[i]?=J x->dI .i64 (jP (di i) 1)=di (i+1)->I i->(I (i+1)->de p ((kT (ev PP cf) (.mk b t) ⟨s.fn,s.n,fp s.sl (u (i+1)),s.lb,s.g⟩ r).bind (fF k)))->de p ((exec PP cf (ev PP cf) r b ⟨s.fn,s.n,fp s.sl (u i),s.lb,s.g⟩ (mR PP cf (.mk b t) r)).bind (fF k))):de p ((kT (ev PP cf) (.mk b t) s r).bind (fF k)):=pA a () (λi _=>⟨s.fn,s.n,fp s.sl (u i),s.lb,s.g⟩) (λi _ _=>I i) j aT f (λ_ h=>c h) λi x l _ g m w h n=>d i x g m w h (λk=>n () k)
end
def Ip(r:bh):Prop:=∃n,r=vI n
def EP(r:bh):Prop:=∃b,r=vB b
theorem yg{n:Int}:Ip (vI n)=True:=iT ⟨n,rfl⟩
theorem vk{b:Bool}:EP (vB b)=True:=iT ⟨b,rfl⟩
section
variable{ao:Nat->ah aq}{O:St}{P:aG}{t:an}{a b c d:Nat}
theorem aDG:cR ao O (.const (.pointer Z))=J (.dv .eN .no):=rfl
theorem aHt:DV.eN.aV=V:=rfl
theorem ar9:(DV.map a).flat=[.map a]:=rfl
theorem ar5:(DV.cV a b c d t).flat=[.cV a b c d t]:=rfl
theorem aHp:(DV.cV a b c d t).aV=V:=rfl
theorem aHr:(DV.map a).aV=V:=rfl
theorem asd:DV.eN.flat=[.eN]:=rfl
end
attribute[go_sem]aDG aHt asd ar9 ar5 aHp aHr
section
variable{P:aG}{cf:bR}{rec:dR}{O:St}{gs cr:aD}{l:List aB}{d:ah Tmp}{ty t:an}{pos:String}{af:Array Go.Edge}{wh:ah (Nat×Bool)}{x k:aK}
def afR(P:aG)(s:St)(d:ah Tmp)(t:an):ah (Nat×kX)->ah St|some (_,e)=>aH s d (.tp [(e.2.1,.no),(.bool V,.no)])|none=>(cI P t).bind λz=>aH s d (.tp [(z,.no),(.bool C,.no)])
theorem ajO:dH P cf rec gs cr l O ⟨d,.lookup t x k V,ty,pos,af,wh⟩=(LM (P.underlying t)).bind λq=>(bj cf.ao (cY O (Op.lookup t x k V).operands.toList) x).bind λv=>(E4 v).bind λr=>(EY (cY O (Op.lookup t x k V).operands.toList).g r).bind λm=>(bj cf.ao (cY O (Op.lookup t x k V).operands.toList) k).bind λa=>bif sC P q.1 a then(findD P q.1 a m.1 0).bind (afR P (cY O (Op.lookup t x k V).operands.toList) d q.2)else Z:=by show(match P.underlying t,bj _ (cY O (Op.lookup t x k _).operands.toList) x with|some (.map b e),J (.map r)=>(match(cY O (Op.lookup t x k _).operands.toList).g.get r with|some (.map s _)=>(bj _ _ k).bind _|_=>Z)|_,_=>Z)=_;cases P.underlying t with|none=>rfl|some w=>cases w with
 |map b e=>cases bj _ _ x with|none=>rfl|some v=>cases v with
  |map r=>
  simp only[E4,EY,LM,cQ];rcases(cY O _).g.get r with _|o;.rfl
  cases o<;>rfl|_=>rfl
 |_=>rfl
end
attribute[go_sem↓]ajO
attribute[go_sem]afR
theorem Y0{p:bh->Prop}{c:bR}(a:z=V)(h:de p (jO P c rec A)):de p (bif z then W P c rec A else W P c rec B):=by subst a;exact h
theorem Ds{p:bh->Prop}{c:bR}(a:z=C)(h:de p (jO P c rec B)):de p (bif z then W P c rec A else W P c rec B):=by subst a;exact h
theorem ak9(s:Sl dU):(gX s).aV=V:=ME
theorem aIJ(s:Sl fA):(jC s).aV=V:=ME
theorem aqD(s:Sl aL):(cX s).aV=V:=ME
theorem aa8(s:Sl bp):(mc s).aV=V:=ME
theorem D8{a:Bool}{n:Nat}:(bP a l e n).flat=[bP a l e n]:=by
 unfold bP;split;.cases a<;>rfl
 rfl
theorem ak7(s:Sl dU):(gX s).flat=[gX s]:=D8
theorem aII(s:Sl fA):(jC s).flat=[jC s]:=D8
theorem aqC(s:Sl aL):(cX s).flat=[cX s]:=D8
theorem aa7(s:Sl bp):(mc s).flat=[mc s]:=D8
theorem aKK(s:Sl ct):(uJ s).flat=[uJ s]:=D8
attribute[go_sem]ak7 aII aqC aa7 aKK
attribute[go_sem]ak9 aIJ aqD aa8
theorem aEp{l:List aL}:cA (l.map aL.d)=V:=iB aL.pure _
theorem aEm{l:List dU}:cA (l.map dU.d)=V:=iB (λ_=>rfl) _
theorem aEv{l:List fA}:cA (l.map fA.d)=V:=iB (λ_=>rfl) _
theorem aEn{l:List bp}:cA (l.map bp.d)=V:=iB bp.pure _
theorem Qk{l:List aE}:cA (l.map aE.d)=V:=iB aE.pure _
theorem Ql{l:List bK}:cA (l.map bK.d)=V:=iB bK.pure _
attribute[go_sem]aEp aEm aEv aEn Qk Ql
set_option maxHeartbeats 4000000
theorem acs:∀e:ae,e.nn<100000000->CC 232 [.agg e.cells] (vT [iO (.ofNat e.nn),iO (.ofNat e.dep)])
 |.mk j g args t v c p o,n=>by
  simp only[ae.nn]at n;refine aP func232 ?_;have hd:=ae.A1 args 0;simp only[go_sem,f232,ae.cells,ae.dep,ae.nn];refine rC args ((1,0):Nat×Nat) (λi s=>[(13,iS i),(4,iS s.1),(5,iS s.2)]) (λ_ l s=>vT [iO (.ofNat (s.1+ae.bH l)),iO (.ofNat (ae.nj l s.2+1))]) (λ_ l s=>s.1+ae.bH l<100000000/\s.2+ae.bH l<100000000) (by have:=ae.mj args;omega) rfl (by simp only;omega) (by simp only[Nat.add_comm]) (λs h=>?_) (λi x l s b a w h d=>?_);.simp only[ae.bH]at h;simp only[go_sem,ae.nj,ae.bH,tQ,uL (show s.2+1<9223372036854775808 by omega)]
  .simp only[ae.bH]at h;have hr:=acs x ab;have f:=ae.D5 x;simp only[go_sem,b,a,w,hr,ae.nj,ae.bH,GN,vQ (show s.1+x.nn<9223372036854775808 by omega),<-xr];exact d (s.1+x.nn,max s.2 x.dep) (by simp only;omega)termination_by e=>oW e decreasing_by simp_wf;have:=oU (dw a);omega
abbrev N5:ae->aq:=λq=>[.agg q.cells]
section
variable{σ:Type}{n k:Nat}{ok:ae->σ->Prop}{rel:ah bF->σ->GH->Prop}{step:ae->σ->ah bF×σ}
def ZG(k:Nat)(g:GH)(e:ah bF->σ->GH->Prop)(r:ah bF×σ)(v:SV)(a:GH):Prop:=v=.dv (.bool r.1.isNone) .no/\e r.1 r.2 a/\Hi k g a
theorem aJO(U:B' N5 ok n k rel step)(j h r t e o p d)(Q:r.length<1100000)(s:σ)(u:∀q f,sU step (nodes (.mk j h r t e o p d)) s q f->ok q f)(W:∀x,x∈r->∀s g,(∀q f,sU step (nodes x) s q f->ok q f)->rel Z s g->k<=g.next->Sat (ev PP cf (.call 287 [.agg x.cells,.dT n] .no g)) (ZG k g rel (cO step (nodes x) s)))(g:GH)(L:rel Z s g)(K:k<=g.next):Sat (ev PP cf (.call 287 [.agg (ae.mk j h r t e o p d).cells,.dT n] .no g)) (ZG k g rel (cO step (nodes (.mk j h r t e o p d)) s)):=by obtain⟨g1,e1,r1,F⟩:=U.run _ s g (u _ _ ⟨[],eS r,by rfl,rfl⟩) L K;refine mV func287 ?_;have P:∀pre,cO step (.mk j h r t e o p d::pre) s=match(step (.mk j h r t e o p d) s).1 with|none=>cO step pre (step (.mk j h r t e o p d) s).2|some c=>(J c,(step (.mk j h r t e o p d) s).2):=λpre=>uS _ _ _ _;rw[nodes]at u|-;rw[uS];generalize step (.mk j h r t e o p d) s=z at*;simp only[N5,ae.cells,go_sem]at e1;obtain⟨c,m⟩:=z;cases c with|some c=>simp only[rT]at e1;simp only[go_sem,f287,ae.cells,e1];exact⟨rfl,r1,F⟩|none=>
 simp only[qU]at e1;simp only[go_sem,f287,ae.cells,e1];refine Ab r (m,g1) (λi _=>[(14,iS i)]) (λs=>s.2) (λ_ l f=>rel Z f.1 f.2/\Hi k g f.2/\cO step (eS l) f.1=cO step (eS r) m/\∃done,eS r=done++eS l/\cO step done m=(Z,f.1)) ab rfl rfl ⟨r1,F,rfl,[],rfl,rfl⟩ (λf I=>?_) (λi x l f H A M I N=>?_);.simp only[go_sem];obtain⟨a,b,c,_⟩:=I;rw[<-c];exact⟨rfl,a,b⟩
 . obtain⟨a,b,c,w,d1,d2⟩:=I;obtain⟨v,g2,e2,rfl,r2,G⟩:=W x (dw A) f.1 f.2 (by rintro q D⟨pre,post,R,S⟩;refine u q D ⟨.mk j h r t e o p d::(w++pre),post++eS l,?_,?_⟩;all_goals grind[eS,xT]) a (fX K b.1);rw[eS,xT]at c;have d3:cO step (w++nodes x) m=cO step (nodes x) f.1:=by grind[xT]
   generalize cO step (nodes x) f.1=y at*;obtain⟨E,O⟩:=y;cases E with|none=>have B:=N (O,g2) ⟨r2,b.trans G,c,w++nodes x,by grind[eS],d3⟩;simp only[qU]at e2;simp only[go_sem,H,A,M,e2]at B|-;omega|some E=>simp only[rT]at e2;simp only[go_sem,H,A,e2];rw[<-c];exact⟨rfl,r2,b.trans G⟩
theorem ae.LW:∀(l:bq)(x:ae),x∈l->∀q,q∈nodes x->q∈eS l
 |[],_,h,_,_=>by simp at h|y::l,x,h,q,a=>by
  rw[eS,AK];rcases List.mem_cons.1 h with rfl|h;.exact .inl a
  .exact .inr (ae.LW l x h q a)
theorem acx(U:B' N5 ok n k rel step):∀p:ae,p.nn<1100000->∀s g,(∀q a,sU step (nodes p) s q a->ok q a)->rel Z s g->k<=g.next->Sat (ev PP cf (.call 287 [.agg p.cells,.dT n] .no g)) (ZG k g rel (cO step (nodes p) s))|.mk i l args t v c b o,f,s,g,d,hr,e=>by simp only[ae.nn]at f;exact aJO U _ _ _ _ _ _ _ _ (by have:=ae.mj args;omega) s d (λx h=>acx U x (by have:=ae.rH args _ h;omega)) g hr e termination_by p=>oW p decreasing_by simp_wf;have:=oU h;omega
end
def aaP(g:GH)(b:Nat)(p:ae):Prop:=g.get b=J (.box ⟨p.cells,[]⟩)
theorem PE(b:Nat)(p:ae)(e:p.nn<1100000):vZ N5 286 [] [.ptr b 0] (aaP . b p) (nodes p):=by intro n k i r step s U j g hr d;have c:g.get b=J _:=j _ _ _ hr;obtain⟨v,g2,e2,rfl,r2,a⟩:=acx U p e s g (λq f h=>h) hr d;refine⟨g2,?_,r2,a⟩;refine aP func286 ?_;simp only[go_sem,f286,c,e2]
mutual
def Expr.same : Expr -> Expr -> Bool
  | .mk op _ args var e n k num str, .mk A _ x f K L u X M => aj op A && (aj var f && (aj e K && (aj n L && (Dp k num str u X M && Expr.An args x))))
def Expr.An : List Expr -> List Expr -> Bool
  | [], [] => V
  | x :: s, y :: a => x.same y && Expr.An s a
  | _, _ => C
end
theorem Expr.I6:∀s a:List Expr,Expr.An s a=kr Expr.same s a|[],[]=>rfl|x::s,y::a=>by simp only[Expr.An,kr,Expr.I6 s a];cases x.same y<;>rfl|[],_::_=>rfl|_::_,[]=>rfl
theorem Expr.rh:∀l:List Expr,Expr.bm l=l.map λe=>.agg e.cells|[]=>rfl|e::l=>by simp[Expr.bm,Expr.rh l]
theorem ae.rh:∀l:bq,ae.bm l=l.map λe=>.agg e.cells|[]=>rfl|e::l=>by simp[ae.bm,ae.rh l]
theorem aJI(o m a v f n k u s A U B q K L c X M)(r:a.length<1000000000)(W:∀x,x∈a->∀d:Expr,CC 282 [.agg x.cells,.agg d.cells] (vB (x.same d))):CC 282 [.agg (Expr.mk o m a v f n k u s).cells,.agg (Expr.mk A U B q K L c X M).cells] (vB ((Expr.mk o m a v f n k u s).same (.mk A U B q K L c X M))):=by
 refine aP func282 ?_;have hd:=aIO;simp only[bw,opsOf,f282,go_sem]at hd;by_cases e:a.length=B.length
 . simp only[go_sem,f282,Expr.cells,Expr.same,Expr.I6,JI _ _ e];repeat'(with_reducible apply sp<;>intro h<;>simp only[h,e,go_sem])
   refine gR (a.zip B) (λi=>[(51,iS i)]) (λi l=>vB (l.all λp=>p.1.same p.2)) ai rfl rfl ?_ (λi x l g b w j=>?_);.simp only[go_sem,DI e,nG,e]
   .obtain⟨b,y⟩:=Ru b;rw[DI e,e]at g;have hr:=W x.1 (dw b) x.2;simp only[go_sem,hd,g,b,y,hr,oT]at j|-;apply sp<;>intro h<;>simp only[h,w,j,go_sem]
 .simp only[go_sem,f282,Expr.cells,Expr.same,Expr.I6,JH _ _ e];repeat'(with_reducible apply sp<;>intro h<;>simp only[h,e,go_sem])
theorem D9:∀e d:Expr,e.nn<100000000->CC 282 [.agg e.cells,.agg d.cells] (vB (e.same d))|.mk o l args v a g k num str,.mk A U B f K L u X M,n=>by simp only[Expr.nn]at n;exact aJI _ _ _ _ _ _ _ _ _ _ _ _ _ _ _ _ _ _ (by have:=Expr.mj args;omega) λx h d=>D9 x d (by have:=Expr.rH args _ h;omega)termination_by e=>oW e decreasing_by simp_wf;have:=oU h;omega
set_option maxHeartbeats 1000000
def oL(o:Int):Bool:=aj o 5||aj o 9
def lT(o:Int):Bool:=aj o 0||oL o
def FV(o:Int):Bool:=aj o 6||aj o 10
def Ap(o:Int):Bool:=oL o||FV o
def Co(o:Int):Bool:=lT o||aj o 7
def PN(o:Int):Int:=bif aj o 0 then 0 else bif aj o 1||(aj o 2||(aj o 3||aj o 8))then 2 else 1
def P1(o:Int):Int:=bif aj o 0 then 0 else bif aj o 1||(aj o 2||aj o 3)then 64 else bif aj o 8 then 2 else 1
theorem atf:cf.ao 0=J Ky:=(rfl)
theorem atg:cf.ao 1=J Kz:=(rfl)
theorem azS(m:Nat):aA (.ofNat m) 0=C:=by rfl
theorem afY(m:Nat):aA (.negSucc m) 0=V:=rfl
theorem awt{s:St}{d:ah Tmp}{m:Nat}(h:aA (.ofNat m) 11=V):Bp PP s d (.global 1) m (J (.array 11 333)) (.ev (.agg Kz))=aH s d (.ev (.agg [iD (PN (.ofNat m)),iD (P1 (.ofNat m)),.bool (lT (.ofNat m)),.bool (Co (.ofNat m)),.bool (Ap (.ofNat m)),.bool (FV (.ofNat m))])):=by
 have:m<11:=by grind[fQ]
 match m,this with|0,_|1,_|2,_|3,_|4,_|5,_|6,_|7,_|8,_|9,_|10,_=>rfl
def keB(o:Int):Bool:=!(aj o 2||aj o 4)
def sM(o:Int):Bool:=aj o 0||(aj o 5||aj o 7)
theorem aws{s:St}{d:ah Tmp}{m:Nat}(h:aA (.ofNat m) 8=V):Bp PP s d (.global 0) m (J (.array 8 308)) (.ev (.agg Ky))=aH s d (.ev (.agg [.bool (keB (.ofNat m)),.bool (sM (.ofNat m))])):=by
 have:m<8:=by grind[fQ]
 match m,this with|0,_|1,_|2,_|3,_|4,_|5,_|6,_|7,_=>rfl
attribute[go_sem]atf atg awt aws azS afY Gs
def tu(u:Bool)(n m:Int):Bool:=bif u then !aA n 0&&!aA m n else V
theorem ap6(u:Bool)(n m:Int):CC 288 [.bool u,iD n,iD m] (vB (tu u n m)):=by refine aP func288 ?_;cases u<;>simp only[go_sem,f288,tu];repeat'(with_reducible apply sp<;>intro h<;>simp only[h,go_sem])
def yM(u:Bool)(n:Int):Bool:=bif u then V else aj n 0
theorem ap7(u:Bool)(n:Int):CC 289 [.bool u,iD n] (vB (yM u n)):=by refine aP func289 ?_;cases u<;>simp only[go_sem,f289,yM]
def Jt:Expr:=.mk 0 V [] 0 0 0 0 0 []
theorem aLg(c:Expr)(h:c.nn<100000000):CC 282 [.agg c.cells,.agg [iD 0,.nl,iD 0,iD 0,iD 0,iD 0,iD 0,.str []]] (vB (c.same Jt)):=D9 c Jt h
def Fu(o:Int)(n:Nat)(t v s p e:Int)(m:Bool):Int:=bif aA o 0||!aA o 11 then 1 else bif aA (.ofNat n) (PN o)||aA (P1 o) (.ofNat n)then 15 else bif tu (lT o) t 15&&(tu (lT o) v 15&&(tu (Ap o) s 63&&tu (FV o) p 1099511627776))then bif Co o&&!aj e 0 then e else bif(Co o||m)&&(yM (lT o) t&&(yM (lT o) v&&(yM (Ap o) s&&yM (FV o) p)))then 0 else 3 else 2
def ae.iJ:ae->Int|.mk op _ args ty var scope s cond=>Fu op args.length ty var scope s cond.ni (cond.same Jt)
theorem ap0(o n a t v s p)(c:Expr)(f:c.nn<1100000):CC 233 [.agg (ae.mk o n a t v s p c).cells] (vI (ae.mk o n a t v s p c).iJ):=by have d:=Hg c ab;have e:=aLg c ab;refine aP func233 ?_;cases o with|negSucc m=>simp only[go_sem,f233,ae.cells,ae.iJ,Fu]|ofNat m=>cases b:aA (.ofNat m) 11 with|false=>simp only[go_sem,f233,ae.cells,b,ae.iJ,Fu]|true=>simp only[go_sem,f233,ae.cells,b,ae.iJ,Fu];repeat'(with_reducible apply sp<;>intro h<;>simp only[h,d,e,ap6,ap7,go_sem])
def ae.cond:ae->Expr|.mk _ _ _ _ _ _ _ cond=>cond
def ae.op:ae->Int|.mk op _ _ _ _ _ _ _=>op
def ae.var:ae->Int|.mk _ _ _ _ var _ _ _=>var
def ae.scope:ae->Int|.mk _ _ _ _ _ scope _ _=>scope
structure lE(p:ae):Prop where
 a:p.nn<1100000
 b:∀q∈nodes p,q.cond.nn<1100000
def A8:bq->Int|[]=>0|q::l=>bif aj q.iJ 0 then A8 l else q.iJ
def ae.ua(p:ae):Int:=bif aA 64 (.ofNat p.nn)then 5 else bif aA 12 (.ofNat p.dep)then 12 else A8 (nodes p)
def Q7(q:ae)(s:Int):ah bF×Int:=bif aj q.iJ 0 then(Z,s)else(J .ret,q.iJ)
theorem Od(p:ae)(g:GH):ev PP cf (.call 230 [.agg p.cells] .no g)=J (.val (.dv (.func 286 [] [.ptr g.next 0]) .no) (g.alloc (.box ⟨p.cells,[]⟩))):=by refine aP func230 ?_;simp only[go_sem,f230]
theorem adj:∀(l:bq),cO Q7 l 0=(bif aj (A8 l) 0 then Z else J .ret,A8 l)|[]=>rfl|q::l=>by simp only[cO,Q7,A8];cases h:aj q.iJ 0 with|true=>simpa using adj l|false=>simp[h]
theorem ap1(q:ae)(h:q.cond.nn<1100000):CC 233 [.agg q.cells] (vI q.iJ):=by obtain⟨op,nl,args,ty,var,scope,s,cond⟩:=q;exact ap0 _ _ _ _ _ _ _ _ h
theorem Oc(p:ae)(b:lE p):Sat (ev PP cf (.call 183 [.agg p.cells] .no .empty)) λv _=>v=zS p.ua:=by
 refine mV func183 ?_;simp only[go_sem,f183,acs p (by have:=b.a;omega),ae.ua];apply gU<;>intro h<;>simp only[h,go_sem];apply gU<;>intro h<;>simp only[h,go_sem,Od];refine Al (PE 2 p b.a) Q7 (λc s g'=>g'.get 1=J (.box ⟨[iD s],[]⟩)/\g'.get 2=J _) 0 (λm=>rfl) rfl ⟨rfl,rfl⟩ (λc s g' h=>h.2) (λc s g1 g2 h l=>⟨(l.2 1 ai).trans h.1,(l.2 2 ai).trans h.2⟩) (λx s g1 d R hN L=>?_) (λg1 R hN=>?_);.refine Ao L rfl ?_;have a:=ap1 x (b.b x d.mem);simp only at hN L;have n:∀i,i<=3->(i=g1.next)=False:=λi h=>cF ab;have e:∀i,i<=3->(g1.next=i)=False:=λi h=>cF ab;simp only[go_sem,a,L,n,e,Q7];apply gU<;>intro h<;>simp only[h,go_sem,R.1,R.2,L,n]<;>exact⟨rfl,⟨trivial,trivial⟩,nQ,rfl⟩
 .rw[adj]at R|-;have a:=R.1;cases h:aj (A8 (nodes p)) 0<;>simp only[a,go_sem];rw[sY h]
def ae.Gc(p:ae):Int:=bif aj p.ua 0 then(bif(nodes p).any (λq=>!aA q.op 8)then 1 else 0)else p.ua
def Q8(q:ae)(s:Int):ah bF×Int:=bif aA q.op 8 then(Z,s)else(J .ret,1)
theorem adk:∀(l:bq),cO Q8 l 0=bif l.any (λq=>!aA q.op 8)then(J .ret,1)else(Z,0)|[]=>rfl|q::l=>by simp only[cO,Q8,y9];cases h:aA q.op 8 with|true=>simpa using adk l|false=>simp
theorem apS(p:ae)(b:lE p):Sat (ev PP cf (.call 222 [.agg p.cells] .no .empty)) λv _=>v=zS p.Gc:=by
 obtain⟨_,g0,e,rfl⟩:=Oc p b;refine mV func222 ?_;simp only[go_sem,f222,e,ae.Gc];apply gU<;>intro h<;>simp only[h,go_sem,Od];refine Al (PE 2 p b.a) Q8 (λc s g'=>g'.get 1=J (.box ⟨[iD s],[]⟩)/\g'.get 2=J _) 0 (λm=>rfl) rfl ⟨rfl,rfl⟩ (λc s g' h=>h.2) (λc s g1 g2 h l=>⟨(l.2 1 ai).trans h.1,(l.2 2 ai).trans h.2⟩) (λx s g1 g R hN L=>?_) (λg1 R hN=>?_);.refine Ao L rfl ?_;simp only at hN L;have n:∀i,i<=3->(i=g1.next)=False:=λi h=>cF ab;have f:∀i,i<=3->(g1.next=i)=False:=λi h=>cF ab;obtain⟨op,nl,args,ty,var,scope,d,cond⟩:=x;simp only[go_sem,L,n,f,Q8,ae.op,ae.cells];apply gU<;>intro h<;>simp only[h,go_sem,R.1,R.2,L,n]<;>exact⟨rfl,aT,nQ,rfl⟩
 .rw[adk]at R|-;have a:=R.1;cases h:(nodes p).any _<;>rw[h]at a<;>simp only[aR,bS]at a<;>simp only[a,go_sem]
def Nb(z:Int):Int:=dI .i64 (jP z 1)
def uQ(s:Int×Int×Bool)(q:ae):Int×Int×Bool:=let t:=bif lT q.op then(Nb s.1,s.2.1,s.2.2&&aj q.var s.1)else s
 bif Ap q.op then(t.1,Nb t.2.1,t.2.2&&aj q.scope t.2.1)else t
def zr(l:bq):Int×Int×Bool:=l.foldl uQ (0,0,V)
def Q6(q:ae)(s:Int×Int×Bool):ah bF×(Int×Int×Bool):=(Z,uQ s q)
theorem adi:∀(l:bq)(s:Int×Int×Bool),cO Q6 l s=(Z,l.foldl uQ s)|[],_=>rfl|q::l,s=>by simp only[cO,Q6,AI];exact adi l _
theorem Kn:∀{l:bq},A8 l=0->∀q∈l,q.iJ=0|a::l,h,q,m=>by simp only[A8]at h;cases b:aj a.iJ 0 with
 |true=>
 rw[b]at h;rcases List.mem_cons.1 m with rfl|m;.exact sY b
 .exact Kn h q m|false=>rw[b]at h;rw[show a.iJ=0 from h]at b;simp[aj]at b
theorem NT(h:p.ua=0):A8 (nodes p)=0/\p.nn<=64/\p.dep<=12:=by grind[ae.ua,fQ]
theorem agr{q:ae}(h:q.iJ=0):∃m:Nat,q.op=.ofNat m/\aA (.ofNat m) 11=V:=by obtain⟨op,nl,args,ty,var,scope,s,cond⟩:=q;simp only[ae.iJ,Fu]at h;cases a:aA op 0 with|true=>grind|false=>
 rcases b:aA op 11 with _|_;.grind
 simp only[fQ,qj,gZ]at a b;exact⟨op.toNat,by grind[ae.op],ai⟩
theorem acj(p:ae)(j:p.nn<1100000)(w:∀q∈nodes p,q.iJ=0):Sat (ev PP cf (.call 179 [.agg p.cells] .no .empty)) λv _=>v=.tp [iO (zr (nodes p)).1,iO (zr (nodes p)).2.1,bO (zr (nodes p)).2.2]:=by
 have hd:=aIP;simp only[bw,opsOf,f179,go_sem]at hd;refine mV func179 ?_;simp only[go_sem,f179,Od];refine Al (PE 4 p j) Q6 (λc s g'=>g'.get 1=J (.box ⟨[iD s.1],[]⟩)/\g'.get 2=J (.box ⟨[iD s.2.1],[]⟩)/\g'.get 3=J (.box ⟨[.bool s.2.2],[]⟩)/\g'.get 4=J (.box ⟨p.cells,[]⟩)) (0,0,V) (λm=>rfl) rfl ⟨rfl,rfl,rfl,rfl⟩ (λc s g' h=>h.2.2.2) (λc s g1 g2 h l=>⟨(l.2 1 aT).trans h.1,(l.2 2 aT).trans h.2.1,(l.2 3 aT).trans h.2.2.1,(l.2 4 aT).trans h.2.2.2⟩) (λx s g1 k R hN L=>?_) (λg1 R hN=>?_)
 . refine Ao L rfl ?_;simp only at hN L;have n:∀i,i<=5->(i=g1.next)=False:=λi h=>cF ab;have o:∀i,i<=5->(i=g1.next+1)=False:=λi h=>cF ab;have b:∀i,i<=5->(g1.next=i)=False:=λi h=>cF ab;have d:∀i,i<=5->(g1.next+1=i)=False:=λi h=>cF ab;have e:(g1.next+1=g1.next)=False:=cF ab;have t:(g1.next=g1.next+1)=False:=cF ab;obtain⟨m,a,l⟩:=agr (w x k.mem);obtain⟨op,nl,args,ty,var,scope,g,cond⟩:=x;obtain⟨z,y,u⟩:=s;obtain⟨r1,r2,r,f⟩:=R;simp only[ae.op]at a;subst a;simp only[go_sem,L,l,n,b,d,e,Q6,uQ,ae.op,ae.var,ae.scope,ae.cells];cases u<;>repeat'(with_reducible apply gU<;>intro h<;>simp only[h,go_sem,r1,r2,r,f,L,n,o,b,d,e,t,Nb])
   all_goals exact⟨rfl,⟨trivial,trivial,trivial,trivial⟩,nQ,rfl⟩
 .rw[adi]at R|-;obtain⟨r1,r2,r,f⟩:=R;simp only[r1,r2,r,hd,go_sem,zr]
def ae.jc(p:ae):Int:=bif aj p.Gc 0 then(bif(zr (nodes p)).2.2 then 0 else 14)else p.Gc
theorem Rk(h:p.Gc=0):p.ua=0/\((nodes p).any λq=>!aA q.op 8)=C:=by
 unfold ae.Gc at h;rcases a:aj p.ua 0 with _|_;.simp_all[aj]
 grind[sY]
theorem NS(h:p.jc=0):p.Gc=0:=by grind[ae.jc,sY]
theorem Oa(p:ae)(a:lE p):CC 176 [.agg p.cells] (vI p.jc):=by obtain⟨_,g0,b,rfl⟩:=apS p a;refine aP func176 ?_;simp only[go_sem,f176,b,ae.jc];apply sp<;>intro h<;>simp only[h,go_sem];obtain⟨_,g1,c,rfl⟩:=acj p a.a (Kn (NT (Rk (sY h)).1).1);simp only[go_sem,c];apply sp<;>intro h<;>simp only[h,go_sem]
def ku(p:ae):Int×Int×Int:=bif aj p.jc 0 then((zr (nodes p)).1,(zr (nodes p)).2.1,0)else(0,0,p.jc)
theorem ab8(p:ae)(a:lE p):CC 124 [.agg p.cells] (vT [iO (ku p).1,iO (ku p).2.1,iO (ku p).2.2]):=by have b:=Oa p a;refine aP func124 ?_;simp only[go_sem,f124,b,ku];apply sp<;>intro h<;>simp only[h,go_sem];obtain⟨_,g1,c,rfl⟩:=acj p a.a (Kn (NT (Rk (NS (sY h))).1).1);simp only[go_sem,c]
section
variable(op:Int)(nl:Bool)(U:bq)(ty var scope span:Int)(cond:Expr)
def tW(o:Int)(n:Nat):Bool:=bif aj o 0 then aj (.ofNat n) 0 else bif aj o 1||(aj o 2||aj o 3)then !aA (.ofNat n) 2 else bif aj o 8 then aj (.ofNat n) 2 else aj (.ofNat n) 1
theorem aao(o:Int)(n:Nat)(h:n<=64):(aA (.ofNat n) (PN o)||aA (P1 o) (.ofNat n))=!tW o n:=by grind[PN,P1,tW,fQ,jU]
end
end Go.VM
