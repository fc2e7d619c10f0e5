/- Proved: library functions, the fixed example, and a call of RescaleComposes in the model. -/
import Derived.Test.YtnjhghmdcoaceaaGreatDoorAk
import Derived.Test.YtnjhghmdcoaceaaGreatDoorAn
open Option renaming some->J,none->Z
open Bool renaming true->V,false->C
open Go renaming TypeId->an,Value->aD,Program->aH,World->aT,FuncId->bY
open Go.Lib renaming compact->tB
open Go.Proofs.Tryz renaming prog->eD
open Int renaming ofNat->du
open List renaming replicate->mr,range->qm
open Nat renaming beq->aw,ble->bz,blt->cw,mul->fA,add->iw
noncomputable section
set_option maxRecDepth 1000000
open Go.Proofs.Tryz
set_option linter.all false
namespace Go.AM
open Go Go.VM Proofs.Tryz
def E0:eI:=⟨[],jV (dL gl []),.bool V,[]⟩
def wc:Tr Nat:=(((((Tr.nil.ins 0 0).ins 1 1).ins 2 2).ins 3 3).ins 4 4).ins 5 5
def Re(a:ct):ct:=λf args H=>bif aw f 6 then(match args with|[]=>J (Cv 6 E0 [] H wc)|_=>J Z)else a f args H
def aHi{k:ct}(q:G9 PP 6 E0)(r:jQ PP k):jQ PP (Re k):=by
 intro f args H v p h o w e c s j l i n;unfold Re at h;rw[bQ]at h;by_cases g:f=6
 . subst g;simp only[dX,aR]at h;split at h;.obtain⟨t,fr,z,E,W,k1,k2,k3,k4,k5⟩:=q;have m:=bE h;rw[<-wP]at m;obtain⟨y,x,u,a,b,d⟩:=akt Ge k1 k2 k3 k4 k5 m o w e c s j l i n;exact⟨y,x,u,a,b,.inr d⟩
   .simp at h
 .simp only[g,lC,ch]at h;exact r f args H v p h o w e c s j l i n
def HL{E H:Heap}{a:Nat->ah Nat}{i r:Nat}{f:fS}{l:aJ}{e:an}(b:E.get i=J (.cells l i .ro e))(h:a i=J i)(g:H.get i=J (.cells l r f e))(v:(H.br r).1<=i)(m:cB (nT a 50) l=J l)(q:wK (yb 50) l l=V):uE E H a i=V:=by unfold uE;simp only[b,h,g,m,q,bQ,dp,v,dX,xz]
def amv{H:Heap}(h:∀(i:Nat)(x:aJ×an),gl[i]?=J x->∃r f,H.get i=J (.cells x.1 r f x.2)/\(H.br r).1<=i):Cv 6 E0 [] H wc=J (.bool V,H):=by
 have k:∀i,i<6->uE E0.H H (sg E0.H.next wc) i=V:=by intro i c;have n:E0.H.next=6:=aL;rw[n];match i,c with|0,_=>obtain⟨r,f,a,b⟩:=h 0 _ rfl;exact HL aL aL a b aL aL|1,_=>obtain⟨r,f,a,b⟩:=h 1 _ rfl;exact HL aL aL a b aL aL|2,_=>obtain⟨r,f,a,b⟩:=h 2 _ rfl;exact HL aL aL a b aL aL|3,_=>obtain⟨r,f,a,b⟩:=h 3 _ rfl;exact HL aL aL a b aL aL|4,_=>obtain⟨r,f,a,b⟩:=h 4 _ rfl;exact HL aL aL a b aL aL|5,_=>obtain⟨r,f,a,b⟩:=h 5 _ rfl;exact HL aL aL a b aL aL
 have d:CO (uE E0.H H (sg E0.H.next wc)) E0.H.next=V:=by have n:E0.H.next=6:=aL;rw[n]at k|-;show(bif uE E0.H H (sg 6 wc) 5 then(bif uE E0.H H (sg 6 wc) 4 then(bif uE E0.H H (sg 6 wc) 3 then(bif uE E0.H H (sg 6 wc) 2 then(bif uE E0.H H (sg 6 wc) 1 then(bif uE E0.H H (sg 6 wc) 0 then V else C)else C)else C)else C)else C)else C)=V;rw[k 0 ft,k 1 ft,k 2 ft,k 3 ft,k 4 ft,k 5 ft];rfl
 unfold Cv;rw[d,show Oy (sg E0.H.next wc) E0.args []=V from rfl,show UA (sg E0.H.next wc) 6=V from aL];rfl
def mN:ct:=Re (Ri (Rh (Gf 373 3 1 8 (Gf 389 59 8 88 (Gf 436 385 2 16 (Gf 230 86 5 56 mh))))))
def U1:mq PP 3=J [.int .i64 0]:=aL
def aN7:mq PP 59=J [.int .i64 0,.bH,.int .i64 0,.int .i64 0,.int .i64 0,.int .i64 0,.int .i64 0,.str []]:=aL
def aN6:mq PP 385=J [.int .i64 0,.int .i64 0]:=aL
def aN8:mq PP 86=J [.int .i64 0,.int .i64 0,.int .i64 0,.int .i64 0,.bH]:=aL
def aHq(h:G9 PP 6 E0):jQ PP mN:=aHi h (aHm (aHl (Rg (Rg (Rg (Rg wG avj aN8 rfl) avm aN6 rfl) avl aN7 rfl) avk U1 rfl)))
theorem VE:∀b a:aE,VM.rb b a=AM.rb b a|[],a=>by cases a<;>rfl|x::b,[]=>rfl|x::b,y::a=>by show(aw x y&&VM.rb b a)=bif aw x y then AM.rb b a else C;rw[VE b a];cases aw x y<;>rfl
theorem idx_eq(b:aE):∀(a:aE)(i:Nat),Dw b i a=BR b a i|[],i=>by show(bif VM.rb b []then J i else Z)=bif AM.rb b []then J i else Z;rw[VE]|x::a,i=>by show(bif VM.rb b (x::a)then J i else Dw b (i+1) a)=bif AM.rb b (x::a)then J i else BR b a (i+1);rw[VE,idx_eq b a]
end Go.AM
namespace Go.VM
open Go Go.AM Proofs.Tryz
variable{ax:AV}{H:Heap}{j I r s:Nat}{v:SV}{st' st1:St}{az:aJ}{ow:aN}{dst:ah Tmp}{e:an}{L:ao}{f:bY}{fl:fS}
section
variable{K:aY}{Y:cu}{B:aI}{H:Heap}{g:GH}
def Im(a:HR K Y B H [] g)(h:dB PP K (λ_=>Z) cf.aq)(i:Nat)(x:aJ×an)(b:gl[i]?=J x):∃r fl,H.get i=J (.cells x.1 r fl x.2)/\(H.br r).1<=i:=a.dy i x.1 x.2 (h.2 i x b)
def M1{a:AV}(i:HR K Y B H [] g)(h:mN f az H=J (J (a,H)))(r:j9 K Y B H v a):∃a c d e b,Ev PP mN f az H a c/\Nx K Y B H d e b c/\HR d e b c [] g/\j9 d e b c v a:=⟨a,H,K,Y,B,.inl h,a45 i,i,r⟩
theorem aHJ{d b:aE}(n:HR K Y B H [] g)(s:dB PP K (λ_=>Z) cf.aq)(o:pE K Y B H [.str d,.str b] ow az)(q:d.length<4294967281):∃x k l m j,Ev PP mN 313 az H x k/\Nx K Y B H l m j k/\HR l m j k [] g/\j9 l m j k (.dv (match Dw b 0 d with|some i=>goN i|none=>.int .i64 (-1)) .no) x:=by
 obtain⟨x,y,rfl,f,p⟩:=SS o;have f:x=.str d:=by cases ow with|no=>cases f;rfl|any=>obtain⟨h,_⟩:=f;simp at h|ty e=>cases f.1;rfl|full e=>cases f.1;rfl|ex e=>
   rcases f with⟨h,_⟩|⟨r,_,h⟩;.simp at h
   .obtain⟨t,u,id,I,c,cells,fl,k1,_⟩:=h.ex;simp at k1
 cases p;subst f;obtain⟨r,fl,k1,k2⟩:=Im n s 2 _ rfl;refine M1 n (a:=Qo (BR b d 0)) ?_ ?_
 . show(bif ET H 2&&cw (fg d) 4294967281 then J (J (Qo (BR b d 0),H))else J Z)=_;have:ET H 2=V:=by unfold ET;simp only[k1];rw[dp];exact mE k2
   rw[this,eP,dZ,mE q];rfl
 .rw[idx_eq];cases BR b d 0 with|none=>exact .int _ _|some i=>exact .int _ _
theorem aL5{d:aE}{x:AV}{p:Pk}(a:cQ K Y B H p (.str d) x ow):x=.str d:=by cases ow with|no=>cases a;rfl|any=>obtain⟨h,_⟩:=a;simp at h|ty e=>cases a.1;rfl|full e=>cases a.1;rfl|ex e=>
 rcases a with⟨h,_⟩|⟨r,_,h⟩;.simp at h
 .obtain⟨l,q,id,I,c,cells,fl,k1,_⟩:=h.ex;simp at k1
theorem aHH{f b:aE}(l:HR K Y B H [] g)(i:pE K Y B H [.str f,.str b] ow az):∃x d e h c,Ev PP mN 143 az H x d/\Nx K Y B H e h c d/\HR e h c d [] g/\j9 e h c d (.dv (.int .i64 (cmpL f b)) .no) x:=by obtain⟨x,y,rfl,j,k⟩:=SS i;obtain rfl:=aL5 j;cases k;exact M1 l (a:=.int .i64 (cmpL f b)) rfl (.int _ _)
theorem VQ(h:HR K Y B H [] g)(j:dB PP K (λ_=>Z) cf.aq)(f:pE K Y B H [] ow az):∃x c d e b,Ev PP mN 6 az H x c/\Nx K Y B H d e b c/\HR d e b c [] g/\j9 d e b c (.dv (.bool V) .no) x:=by have i:az=[]:=bf.1 f.1.symm;subst i;refine M1 h (a:=.bool V) ?_ (.bool _);show J (Cv 6 E0 [] H wc)=_;rw[amv (Im h j)]
theorem aGU{f e b n:Nat}(L:0<s)(k:∀H,mN f [.bH,.int .i64 (.ofNat n)] H=bif bz (n*b) bm&&bz n bm then(bif aw n 0 then J (J (.bH,H))else J (J (.sl H.next 0 0 Z s,H.cT [] .op e)))else J Z)(q:HR K Y B H [] g)(F:pE K Y B H [.nl,.int .i64 (.ofNat n)] ow az)(m:Da e s b [.nl,.int .i64 (.ofNat n)]=J v):∃x o t u l,Ev PP mN f az H x o/\Nx K Y B H t u l o/\HR t u l o [] g/\j9 t u l o v x:=by obtain⟨x,y,rfl,G,I⟩:=SS F;obtain rfl:=QZ G;cases I;have m:(bif bz (n*b) bm&&bz n bm then J (bif aw n 0 then SV.dv .nl .any else .dv (.ay [] e s) (.ex e))else Z)=J v:=m;have k:=k H;cases w:(bz (n*b) bm&&bz n bm)with|false=>rw[w]at m;simp at m|true=>rw[w]at m k;cases m;cases A:aw n 0 with|true=>rw[A]at k;exact M1 q k ⟨rfl,rfl⟩|false=>
 rw[A]at k;have z:bU (dO B) H (H.cT [] .op e):=kh H _ _;have D:(H.cT [] .op e).br H.next=(0,H.next):=Bv (H:=H) q.inv (bT _);refine⟨_,_,K,Y,_,.inl k,⟨a01 _,q.gi z,a00 _,z,λE r c h=>?_,rfl,λ_ h=>.inl h,λ_ h=>.inl h⟩,QU (p:=.sl 0) (v:=J V) q trivial,.inr ⟨H.next,a25 ..,[],s,H.next,0,Z,[],.op,rfl,rfl,mF H _,rfl,by rw[D];exact mw _,by rw[D],?_,.inl ⟨rfl,by rw[D],aP⟩⟩⟩
 . by_cases e:E=.sl 0;.subst e;rw[a25]at h;obtain⟨rfl,_⟩:=jf (bE h);exact .inr (bT _)
   .rw[a16 _ _ e]at h;exact .inl ⟨E,c,h⟩
 .exact⟨L,aP,λi x h=>by simp at h,λi x j d a h=>by simp at h⟩
theorem agw:∀zs:cG,I0 (zs.map (AV.int .i64))=J zs|[]=>rfl|z::zs=>by show(I0 (zs.map (AV.int .i64))).map (λt=>z::t)=_;rw[agw zs];rfl
theorem ajs{f:cG->cG}{i:Nat}{c:aJ}(g:H.get i=J (.cells c r fl e))(w:fl.wr=V)(h:(H.br r).1<=i)(b:(H.br r).2=i)(Q:gQ K Y L 1 I c)(j:L.all uV=V)(a:0<L.length)(n:L.length<1000000000)(d:(f (L.map oP)).length=L.length):rowP f H i I L.length=J (L.map oP,H.dM i r (.cells (fZ c I ((f (L.map oP)).map (AV.int .i64))) r fl e)):=by unfold rowP;have l:=Q.load g h;rw[Q.ints j,Nat.mul_one]at l;rw[eP,eP,mE a,mE n,l];simp only[xz,aR,cU,agw];rw[aLW g w h b (by rw[d];have:=Q.2.1;omega)];rfl
def Jg{t x:Nat}{l:aE}(h:x∈Heap.note t r l):x∈l\/(x=r/\r<t):=(vU h).imp_right λ⟨a,b⟩=>⟨a,a▸b⟩
theorem azy{i:Nat}{m m':aJ}(a:HR K Y B H [] g)(h:H.get i=J (.cells m r fl e))(b:(H.br r).2=i):bU (λx=>x=r) H (H.dM i r (.cells m' r fl e))/\bg (H.dM i r (.cells m' r fl e))/\pN (H.dM i r (.cells m' r fl e))/\(H.dM i r (.cells m' r fl e)).bA=H.bA/\(∀x,x∈(H.dM i r (.cells m' r fl e)).bX->x∈H.bX\/(x=r/\r<H.bA))/\∀x,x∈(H.dM i r (.cells m' r fl e)).cL->x∈H.cL\/(x=r/\r<H.bA):=by refine⟨yH h,Rp a.inv h b,GM a.hQ h,Cu ..,λx c=>?_,λx c=>by grind[yj]⟩;simp_all[xy,Jg]
theorem aoy{l:cG}(h:0<l.length):0<(tB l).length:=by
 rcases l with _|⟨x,l⟩;.grind
 have:x∈tB (x::l):=(Nm (x::l) x).2 (fU ..);grind
theorem aHI(m:HR K Y B H [] g)(s:pE K Y B H [.ay L 3 1] ow az)(y:vZ ow=V)(v:L.all uV=V)(t:0<L.length)(w:L.length<1000000000):∃x f d j b,Ev PP mN 266 az H x f/\Nx K Y B H d j b f/\HR d j b f [] g/\j9 d j b f (.dv (su (xX L) 3 1) .no) x:=by
 obtain⟨a,rfl,u⟩:=Tc s;obtain⟨r,id,I,c,cells,fl,G,rfl,n,M,p,o,q,N⟩:=WB u y;have i:=OI (L.map oP);rw[fO]at i;have z:(CY (L.map oP)).length=L.length:=by grind[CY]
 have hr:=ajs n M p o q v t w z;obtain⟨k1,k2,k3,k4,k5,k6⟩:=azy (m':=fZ cells I ((CY (L.map oP)).map (AV.int .i64))) m n o;have O:mN 266 [.sl id I L.length c 1] H=J (J (.sl id I (tB (L.map oP)).length c 1,H.dM id r (.cells (fZ cells I ((CY (L.map oP)).map (AV.int .i64))) r fl 3))):=by show J ((rowP CY H id I L.length).map λr=>(AV.sl id I (tB r.1).length c 1,r.2))=_;grind
 have Q:=adj (K:=K) (Y:=Y) (zs:=tB (L.map oP)) (ys:=mr ((L.map oP).length-(tB (L.map oP)).length) 0) (I:=I) (D:=cells) (by have:=q.2.1;grind);obtain⟨d,b,A,E,F⟩:=consume (l:=xX L) (c:=c) m G k1 k2 k3 k4 k5 k6 (oq ..) (K6 p o).1 Q (λk R=>by unfold xX;rw[fO];rcases N with⟨h,_⟩|h<;>grind);refine⟨_,_,d,Y,b,.inl O,A,E,?_⟩;have e:(xX L).length=(tB (L.map oP)).length:=by simp[xX]
 rw[e]at F;have S:su (xX L) 3 1=.ay (xX L) 3 1:=by
  have:=aoy (l:=L.map oP) ai;rcases P:xX L with _|_;.grind
  rfl
 grind
theorem gQ.cut{l:ao}{e:Nat}{c:aJ}(h:gQ K Y l e I c):gQ K Y l e 0 ((c.drop I).take (l.length*e))/\((c.drop I).take (l.length*e)).length=l.length*e:=by obtain⟨b,k,f,m⟩:=h;have g:((c.drop I).take (l.length*e)).length=l.length*e:=ai;refine⟨⟨b,ab,f,λi x j d a o hd n=>?_⟩,g⟩;grind
def azx{i:Nat}{m m':aJ}(h:HR K Y B H [] g)(b:H.get i=J (.cells m r fl e)):bU (λx=>x=r) H (H.gV r (H.br r).1 V m' e)/\bg (H.gV r (H.br r).1 V m' e)/\pN (H.gV r (H.br r).1 V m' e)/\(H.gV r (H.br r).1 V m' e).bA=H.bA/\(∀x,x∈(H.gV r (H.br r).1 V m' e).bX->x∈H.bX\/(x=r/\r<H.bA))/\∀x,x∈(H.gV r (H.br r).1 V m' e).cL->x∈H.cL\/(x=r/\r<H.bA):=⟨UB ..,Ij h.inv b _ _,ako h.inv h.hQ b _ _,rfl,λx a=>Jg a,λx a=>Jg a⟩
theorem aHK{y:DV}(i:HR K Y B H [] g)(t:pE K Y B H [.ay L 62 14,.int .i64 (.ofNat 0),.ay [y] 62 14] ow az)(D:vZ ow=V)(hn:L.length<1000000000):∃x f e m d,Ev PP mN 386 az H x f/\Nx K Y B H e m d f/\HR e m d f [] g/\j9 e m d f (.dv (.ay (y::L) 62 14) .no) x:=by obtain⟨a,b,T,rfl,u,z,A⟩:=SN t;obtain⟨r,id,I,c,cells,fl,o,rfl,n,o4,P,o6,p,Q⟩:=WB u D;cases z;cases A with|ay _ _ _ w j W O k1 k2 k3 k4 k5 k6=>
 obtain⟨rv,s,E,F⟩:=i.dy w O 62 k1;have v:gQ K Y [y] 14 j O:=⟨k2,k3,k5,k6⟩;have l1:=v.load E F;have l2:=p.load n P;obtain⟨e1,e2⟩:=p.cut;obtain⟨e3,e4⟩:=v.append e1 ab;have U:rootOf H w≠r:=i.clean _ _ _ _ o k1;have q:Md id I L.length c w j H=J (.sl H.next 0 (L.length+1) Z 14,H.gV r (H.br r).1 V ((O.drop j).take ([y].length*14)++(cells.drop I).take (L.length*14)) 62):=by
  unfold Md;have kg:CW L.length (fg cells) (I+L.length*14) c=V:=by rcases Q with⟨rfl,_,h⟩|rfl<;>simp_all[CW,dZ]
  grind[dp,bQ,eP]
 obtain⟨R,S,q3,q4,q5,q6⟩:=azx (m':=(O.drop j).take ([y].length*14)++(cells.drop I).take (L.length*14)) i n;obtain⟨e,d,G,M,N⟩:=consume (l:=y::L) (c:=Z) i o R S q3 q4 q5 q6 (yi ..) (by simp[zT]) e3 (λk X=>ai);refine⟨_,_,e,Y,d,.inl ?_,G,M,N⟩;show J (Md id I L.length c w j H)=_;grind
def KB(n k:Nat):ah Nat->ah Nat|none=>Z|some _=>J (n-k)
theorem aKC{d n i:Nat}{c:ah Nat}{e:aJ}(k:H.cellsOf d=J e)(h:I+n*14<=e.length)(a:c=Z\/c=J n)(b:i<=j)(f:j<=n)(g:n<=bm):AM.qb PP H 60 (.sl d I n c 14) (J (.int .i64 (.ofNat i))) (J (.int .i64 (.ofNat j))) (J (.int .i64 (.ofNat n)))=J (.sl d (I+i*14) (j-i) (J (n-i)) 14):=by
 unfold AM.qb AM.sliceB;rcases a with rfl|rfl;.simp only[underlying60,xn,cU,bQ,dX,aR,ff,mT,dp,b,f,g,k,dZ,show iw I (fA n 14)<=e.length from h,xz];rfl
 simp_all[xn,ff,mT,dp]
theorem aKD{d n i:Nat}{c:ah Nat}(h:c=Z\/c=J n)(a:i<=n)(b:n<=bm):AM.qb PP H 60 (.sl d I n c 14) Z (J (.int .i64 (.ofNat i))) Z=J (.sl d I i c 14):=by
 unfold AM.qb AM.sliceB;rcases h with rfl|rfl;.simp only[underlying60,xn,cU,bQ,dX,aR,ff,mT,dp,a,show i<=bm by omega,mw];grind
 simp_all[xn,ff,mT,dp]
theorem aKE{i n:Nat}{c:ah Nat}(a:c=Z\/c=J n)(h:j<=n):AM.qb PP H 60 (.sl i I n c 14) (J (.int .i64 (.ofNat j))) Z Z=J (.sl i (I+j*14) (n-j) (KB n j c) 14):=by
 unfold AM.qb AM.sliceB;rcases a with rfl|rfl;.simp only[underlying60,xn,cU,bQ,dX,aR,ff,mT,dp,h,bT];rfl
 .simp only[underlying60,xn,cU,bQ,dX,aR,ff,mT,dp,h,bT,xz];rfl
theorem aKF{i n m:Nat}{c:ah Nat}{e:aJ}(k:H.cellsOf i=J e)(b:I+n*14<=e.length)(a:c=Z\/c=J n)(h:m<n)(d:n<=bm):AM.qb PP H 60 (.sl i I m c 14) (J (.int .i64 (.ofNat m))) (J (.int .i64 (.ofNat n))) Z=J (.sl i (I+m*14) (n-m) (KB n m c) 14):=by
 unfold AM.qb AM.sliceB;rcases a with rfl|rfl;.simp only[underlying60,xn,cU,bQ,dX,aR,ff,mT,dp,d,Nat.le_of_lt h,show¬n<=m by omega,lC,ch,k,dZ,show iw I (fA n 14)<=e.length from b];rfl
 .simp only[underlying60,xn,cU,bQ,dX,aR,ff,mT,dp,Nat.le_of_lt h,bT,xz];rfl
theorem azw{c d:Heap}(a:bU (λx=>x=r) H c)(b:bU (λx=>x=r) c d):bU (λx=>x=r) H d where
 next:=gj a.next b.next
 get:=λid h n=>(b.get id (gE h a.next) (by rw[a.root id h];exact n)).trans (a.get id h n)
 dz:=λx h n=>(b.dz x (gE h a.next) n).trans (a.dz x h n)
 root:=λid h=>(b.root id (gE h a.next)).trans (a.root id h)
theorem apc{i:Nat}{c z:aJ}(h:gQ K Y L 14 I c)(s:i<j)(t:j<=L.length)(v:z.length=(L.length-(i+(L.length-j)))*14):(fZ c (I+i*14) ((c.drop (I+j*14)).take ((L.length-j)*14))).length=c.length/\(fZ (fZ c (I+i*14) ((c.drop (I+j*14)).take ((L.length-j)*14))) (I+(i+(L.length-j))*14) z).length=c.length/\gQ K Y (L.take i++L.drop j) 14 I (fZ (fZ c (I+i*14) ((c.drop (I+j*14)).take ((L.length-j)*14))) (I+(i+(L.length-j))*14) z):=by
 obtain⟨_,p,r,m⟩:=h;have n:((c.drop (I+j*14)).take ((L.length-j)*14)).length=(L.length-j)*14:=ai;generalize w:(c.drop (I+j*14)).take ((L.length-j)*14)=y at*;have e:I+i*14+y.length<=c.length:=ab;have l1:=yT c (I+i*14) y e;have f:I+(i+(L.length-j))*14+z.length<=(fZ c (I+i*14) y).length:=ab;have l2:=yT (fZ c (I+i*14) y) (I+(i+(L.length-j))*14) z f;have l:(L.take i++L.drop j).length=i+(L.length-j):=ai;refine⟨l1,l2.trans l1,ab,ab,λk x b=>?_,λk x q d a b hd g=>?_⟩;.grind
 . have o:=(am.1 b).1;rw[l]at o;have N:(L.take i).length=i:=ai;by_cases P:k<i;.grind[yS]
   .rw[ql ab,N,xI]at b;have u:q<14:=ai;rw[yS _ _ _ f,if_neg ab,yS _ _ _ e,if_pos ab,<-w,CG ab,xI]at g;exact m _ x q d a b hd (by rw[<-g];congr 1;omega)
def aIA{n:Nat}{z:aJ}:(jW n z).length=n*z.length:=Gp n z
theorem aHL{i:Nat}(e:HR K Y B H [] g)(gx:pE K Y B H [.ay L 62 14,.int .i64 (.ofNat i),.int .i64 (.ofNat j)] ow az)(f:vZ ow=V)(hn:L.length<1000000000)(D:i<j)(E:j<=L.length):∃x u m X d,Ev PP mN 388 az H x u/\Nx K Y B H m X d u/\HR m X d u [] g/\j9 m X d u (.dv (.ay (L.take i++L.drop j) 62 14) .no) x:=by
 obtain⟨a,b,c',rfl,h1,h2,h3⟩:=SN gx;obtain⟨r,id,I,c,cells,fl,o1,rfl,o3,o4,o5,o6,o7,o8⟩:=WB h1 f;cases h2;cases h3;have Q:L.length<=bm:=by grind[bm]
 have v:c=Z\/c=J L.length:=o8.imp (λh=>h.1) (λh=>h);have lM:∀n,(jW n [AV.int .i64 0,.bH,.int .i64 0,.int .i64 0,.int .i64 0,.int .i64 0,.int .i64 0,.bH,.int .i64 0,.int .i64 0,.int .i64 0,.int .i64 0,.int .i64 0,.str []]).length=n*14:=λn=>aIA;generalize O:jW (L.length-(i+(L.length-j))) [AV.int .i64 0,.bH,.int .i64 0,.int .i64 0,.int .i64 0,.int .i64 0,.int .i64 0,.bH,.int .i64 0,.int .i64 0,.int .i64 0,.int .i64 0,.int .i64 0,.str []]=T at*;have Vy:T.length=(L.length-(i+(L.length-j)))*14:=ai;obtain⟨d1,d2,d3⟩:=apc o7 D E Vy;have zX:=o7.2.1;generalize hcy:(cells.drop (I+j*14)).take ((L.length-j)*14)=y at*;have aOZ:y.length=(L.length-j)*14:=ai;have G:L.length-(i+(L.length-j))≠0:=ab;have W:H.fresh.get id=J (.cells cells r fl 62):=o3;have t:(H.fresh.br r).1<=id:=o5;have z:(H.fresh.br r).2=id:=o6;have A:H.cellsOf id=J cells:=by grind[Heap.cellsOf,dp]
 have hy:qT H.fresh 14 (L.length-j) (.sl id (I+j*14) (L.length-j) (KB L.length j c) 14)=J y:=by grind[qT,bQ,List.length_eq_zero_iff,Heap.load,Heap.cellsOf,dp,dZ,qg,qQ]
 obtain⟨q,ha,Vk,hq2,P5,s,S,P,M⟩:∃q,nE H.fresh 62 14 152 (.sl id I i c 14) y (L.length-j)=J (.sl id I (i+(L.length-j)) c 14,q)/\q.cL=[]/\(∀x,x∈q.bX->x=r)/\q.get id=J (.cells (fZ cells (I+i*14) y) r fl 62)/\((q.br r).1<=id/\(q.br r).2=id)/\bU (λx=>x=r) H q/\bg q/\pN q:=by
  have o:bg H.fresh:=⟨e.inv.get,e.inv.root,e.inv.oK,e.inv.dz,bT _⟩;have kV:(i+(L.length-j))*152<=bm:=by grind[bm]
  have jb:i+(L.length-j)<=bm:=ab;by_cases h0:L.length-j=0;.have aOY:y=[]:=bf.1 ab;refine⟨H.fresh,?_,rfl,λx h=>absurd h (lV),?_,⟨t,z⟩,⟨bT _,λ_ _ _=>rfl,λ_ _ _=>rfl,λ_ _=>rfl⟩,o,e.hQ⟩<;>simp_all[abp,D1]
  . have cA:H.fresh.store id (I+i*14) y=J (H.fresh.dM id r (.cells (fZ cells (I+i*14) y) r fl 62)):=by grind[Heap.store,dp,bQ,dZ]
    refine⟨H.fresh.dM id r (.cells (fZ cells (I+i*14) y) r fl 62),?_,yj ..,λx h=>?_,oq ..,K6 t z,(λk=>⟨k.next,k.get,k.dz,k.root⟩:bU (λx=>x=r) H.fresh (H.fresh.dM id r (.cells (fZ cells (I+i*14) y) r fl 62))->bU (λx=>x=r) H (H.fresh.dM id r (.cells (fZ cells (I+i*14) y) r fl 62))) (yH W),Rp o W z,GM (H:=H.fresh) e.hQ W⟩;.grind[nE,bQ,dp,dZ]
    . rw[xy]at h;rcases Jg h with h|h;.exact absurd h (lV)
      omega
 have N:(H.resume q).cellsOf id=J (fZ cells (I+i*14) y):=by have h1:(H.resume q).get id=J (.cells (fZ cells (I+i*14) y) r fl 62):=P5;have h2:((H.resume q).br r).1<=id:=s.1;grind[Heap.cellsOf,dp]
 have U:(H.resume q).get id=J (.cells (fZ cells (I+i*14) y) r fl 62):=P5;have w:((H.resume q).br r).1<=id/\((H.resume q).br r).2=id:=s;have h6:(H.resume q).store id (I+(i+(L.length-j))*14) T=J ((H.resume q).dM id r (.cells (fZ (fZ cells (I+i*14) y) (I+(i+(L.length-j))*14) T) r fl 62)):=by grind[Heap.store,dp,bQ,dZ]
 have uM:=apb mN H q _ id I L.length i j c c (KB L.length j c) (KB L.length (i+(L.length-j)) c) _ y _ lw rfl (by rfl) D (by rfl) (aKC A zX v (Nat.le_of_lt D) E Q) (λH=>aKD v ab Q) (λH=>aKE v E) (aKF N ab v ab Q) hy ha Vk G (by rw[O];omega);have R:bg (H.resume q):=⟨P.get,P.root,P.oK,P.dz,gj e.inv.bA S.next⟩;have F:bU (λx=>x=r) H (H.resume q):=⟨S.next,S.get,S.dz,S.root⟩;have p:(L.take i++L.drop j).length=i+(L.length-j):=ai;obtain⟨m,d,n1,n2,n3⟩:=consume (c:=c) e o1 (azw F (yH U)) (Rp R U w.2) (GM (H:=H.resume q) M U) (Cu ..) (λx f=>by
  rw[xy]at f;rcases Jg f with h|h;.rcases(Q4 _ _).1 (show x∈fV (λl r=>Heap.note H.bA r l) q.bX H.bX from h)with h|⟨h,k⟩<;>grind
  .exact .inr h) (λx f=>by rw[yj]at f;rcases(Q4 _ _).1 (show x∈fV (λl r=>Heap.note H.bA r l) q.cL H.cL from f)with h|⟨h,_⟩<;>grind) (oq ..) (K6 w.1 w.2).1 d3 (λk hk=>by grind);rw[p]at n3;exact⟨_,_,m,Y,d,uM.ev,n1,n2,n3⟩
end
theorem NM{n:Nat}(h:sH n=V):n<1000000000:=by unfold sH at h;rw[eP,jB]at h;exact h
theorem cnF{b:Bool}{x:ah SV}(h:(bif b then J x else J Z)=Z):False:=by cases b<;>cases h
theorem aHp{a:ao}(h:cf.iW f a=Z):f≠313/\f≠6/\f≠373/\f≠389/\f≠436/\f≠265/\f≠266/\f≠386/\f≠388/\f≠143/\f≠230:=by refine⟨?_,?_,?_,?_,?_,?_,?_,?_,?_,?_,?_⟩<;>(rintro rfl;dsimp only[cf]at h;simp only[aw,aR,ch]at h);all_goals first|(cases h;done)|(split at h<;>first|(cases h;done)|exact cnF h)
theorem aHn(h:f≠313/\f≠6/\f≠373/\f≠389/\f≠436/\f≠265/\f≠266/\f≠386/\f≠388/\f≠143/\f≠230):mN f az H=Z:=by obtain⟨b,c,d,e,g,i,j,k,l,I,a⟩:=h;unfold mN Re Ri Rh Gf mh Rf M0;simp only[bQ,b,c,d,e,g,i,j,k,I,a,lC,ch]
def hN:∀f args az H,cf.iW f args=Z->mN f az H=Z:=λ_ _ _ _ h=>aHn (aHp h)
theorem cS{b:Bool}{x:SV}(h:(bif b then J (J x)else J Z)=J (J v)):b=V/\x=v:=by cases b<;>simp at h|-;exact h
theorem aHo:Oi PP mN cf:=by
 intro f args v h ow d g K w y H az j p i;by_cases f1:f=313
 . subst f1;dsimp only[cf]at h;simp only[aw,aR,ch]at h;split at h;.obtain⟨c,rfl⟩:=cS h;rw[eP,jB]at c;exact aHJ j p i c
   .cases h
 by_cases f2:f=6
 . subst f2;dsimp only[cf]at h;simp only[aw,aR,ch]at h;split at h;.obtain rfl:=bE (bE h);exact VQ j p i
   .cases h
 have gr:∀{e s b:Nat},0<s->(∀n H,mN f [.bH,.int .i64 (.ofNat n)] H=bif bz (n*b) bm&&bz n bm then(bif aw n 0 then J (J (.bH,H))else J (J (.sl H.next 0 0 Z s,H.cT [] .op e)))else J Z)->J (Da e s b args)=J (J v)->∃x l m o k,Ev PP mN f az H x l/\Nx K w y H m o k l/\HR m o k l [] g/\j9 m o k l v x:=by
   intro e s b u t h;have h:=bE h;have q:=h;unfold Da at h;split at h;.exact aGU u (t _) j i q
   .cases h
 by_cases f3:f=373;.subst f3;dsimp only[cf]at h;simp only[aw,aR,ch]at h;exact gr ft (λn H=>rfl) h
 by_cases f4:f=389;.subst f4;dsimp only[cf]at h;simp only[aw,aR,ch]at h;exact gr ft (λn H=>rfl) h
 by_cases f5:f=436;.subst f5;dsimp only[cf]at h;simp only[aw,aR,ch]at h;exact gr ft (λn H=>rfl) h
 by_cases f6:f=265;.subst f6;dsimp only[cf]at h;simp only[aw,aR,ch]at h;cases h
 by_cases f7:f=266
 . subst f7;have d:=d aL;dsimp only[cf]at h;simp only[aw,aR,ch]at h;split at h;.obtain rfl:=bE (bE h);obtain⟨z,rfl,r⟩:=Tc i;obtain rfl:=QZ r;exact M1 j (a:=.bH) rfl .nl
   .obtain⟨c,rfl⟩:=cS h;rw[gD]at c;exact aHI j i d c.1 aP (NM c.2)
   .cases h
 by_cases f8:f=386
 . subst f8;have d:=d aL;dsimp only[cf]at h;simp only[aw,aR,ch]at h;split at h;.obtain⟨c,rfl⟩:=cS h;exact aHK j i d (NM c)
   .cases h
 by_cases f9:f=388
 . subst f9;have d:=d aL;dsimp only[cf]at h;simp only[aw,aR,ch]at h;split at h;.obtain⟨c,rfl⟩:=cS h;rw[gD,gD,eP,dp,jB,jB]at c;exact aHL j i d (NM c.1) c.2.1 c.2.2
   .cases h
 by_cases f10:f=143
 . subst f10;dsimp only[cf]at h;simp only[aw,aR,ch]at h;split at h;.obtain rfl:=bE (bE h);exact aHH j i
   .cases h
 by_cases f11:f=230;.subst f11;dsimp only[cf]at h;simp only[aw,aR,ch]at h;exact gr ft (λn H=>rfl) h
 .exfalso;dsimp only[cf]at h;simp only[bQ,f1,f2,f3,f4,f5,f6,f7,f8,f9,f10,f11,lC,ch]at h;cases h
section
variable{K:aY}{Y:cu}{B:aI}{H H':Heap}{g:GH}{O:St}{tm:Tr AV}
theorem ox{d:DV}{o:aN}{c:db}(h:cg K Y B H tm (put (cP c) s (.dv d o))):cg K Y B H tm (cP (put (ix c s) s (.dv d o))):=by
 intro t v l;have p:=h t;unfold cP at l p;rw[rf,me]at l;rw[me,rf]at p;by_cases e:t=s;.rw[if_pos e]at l p;cases l;exact p _ rfl
 . rw[if_neg e]at l p;unfold ix at l;rw[rf]at l;rcases f:look c t with _|N;.grind
   rw[f]at l p;cases l;obtain⟨a,b,g,j⟩:=p _ rfl;cases N with
   |sr x=>show∃a,tm.get t=J a/\(p7 (bif aw x s then .dd else .sr x)≠.dd->a≠.top)/\mB K Y B H tm t (p7 (bif aw x s then .dd else .sr x)) a;cases aw x s with|true=>exact⟨a,b,λh=>absurd rfl h,trivial⟩|false=>grind
   |se x i I=>show∃a,tm.get t=J a/\(p7 (bif aw x s then .dd else .se x i I)≠.dd->a≠.top)/\mB K Y B H tm t (p7 (bif aw x s then .dd else .se x i I)) a;cases aw x s with|true=>exact⟨a,b,λh=>absurd rfl h,trivial⟩|false=>grind
   |_=>exact⟨a,b,g,j⟩
def aKQ{s:db}(i:bg H)(h:cg K Y B H tm s):cg K Y B H tm (cP s):=xk (S:=λ_=>False) i h (a02 _ _) (a01 _) (a00 _) (λ_ _ _ _ h=>⟨h,id⟩) (λ_ _ _ h=>h)
theorem n5{a:AV}(p:HR K Y B H O.lb O.g)(o:Bb K Y H r (.ay L 3 1) a e)(f:L.all uV=V)(d:0<L.length)(n:L.length<1000000000):∃id cells fl I c m,a=.sl id I L.length c 1/\e=3/\H.get id=J (.cells cells r fl 3)/\(H.br r).2=id/\mN 265 [a] H=J (J (.cO [],H.dM id r (.cells m r fl 3)))/\Bb K Y (H.dM id r (.cells m r fl 3)) r (su (mj L) 3 1) a 3:=by
 obtain⟨q,s,id,I,c,cells,fl,k1,k2,k3,k4,k5,k6,k7,k8⟩:=o.ex;obtain⟨rfl,rfl,rfl⟩:=DV.ay.inj k1;subst k2;have z:(GF (L.map oP)).length=L.length:=by simp[GF]
 have hr:=ajs k3 k4 k5 k6 k7 f d n z;have X:I+(GF (L.map oP)++[]).length<=cells.length:=by rw[jY,z];have:=k7.2.1;omega
 have i:=adj (K:=K) (Y:=Y) (zs:=GF (L.map oP)) (ys:=[]) (I:=I) (D:=cells) X;rw[jY]at i X;have h:(mj L).length=L.length:=by simp[mj]
 have g:su (mj L) 3 1=.ay (mj L) 3 1:=by
   rcases l:mj L with _|_;.grind
   rfl
 obtain⟨f1,f2⟩:=K6 (ob:=.cells (fZ cells I ((GF (L.map oP)).map (AV.int .i64))) r fl 3) k5 k6;refine⟨id,cells,fl,I,c,_,rfl,rfl,k3,k6,?_,⟨mj L,1,id,I,c,_,fl,g,ai,oq ..,k4,f1,f2,i,?_⟩⟩;.show J ((rowP GF H id I L.length).map λr=>(AV.cO [],r.2))=_;grind
 . rw[h];rcases k8 with⟨b,j,k⟩|b;.exact .inl ⟨b,f2,by grind[yT]⟩
   .exact .inr b
theorem Hn{i:Nat}{o:cq}(h:dO B r):qK B H (H.dM i r o):=⟨Cu ..,λx c=>by rw[xy]at c;exact(Jg c).imp_right λ⟨a,b⟩=>a▸⟨b,h⟩,λx c=>by grind[yj]⟩
def Sw(K:aY)(g:cu)(h:aI)(H:Heap)(e s:St)(m:Tr AV)(x:AV)(d:ah Tmp)(t:St):Prop:=∃a H' c f b,Ev PP mN 265 [x] H a H'/\Nx K g h H c f b H'/\Ok c f b H' t (gX m d a)/\s.n=e.n/\s.fn=e.fn
theorem Qq(f:HR K Y B H O.lb O.g)(u:mN 265 [ax] H=J (J (.cO [],H')))(n:Nx K Y B H K Y B H')(d:HR K Y B H' st1.lb st1.g)(j:cg K Y B H' tm (cP st1.sl))(h:aG {st1 with sl:=cP st1.sl} dst (.tp [])=J st')(e:st1.n=O.n)(c:st1.fn=O.fn):Sw K Y B H O st1 tm ax dst st':=by obtain⟨b,i,a,g,ok⟩:=(CN (O:={st1 with sl:=cP st1.sl}) d j h).nx (a35 _ _);exact⟨.cO [],H',b,i,a,.inl u,n.trans f.inv g,ok,e,c⟩
theorem ayP{d:DV}{r:DV×SV}(o:Ok K Y B H O tm)(t:look O.sl s=J (.dv d (.ex e)))(D:tm.get s=J ax)(f:cf.qz 265 d []=J r)(A:st1={O with sl:=put (ix O.sl s) s (I4 r.1 e)})(h:aG {st1 with sl:=cP st1.sl} dst r.2=J st'):Sw K Y B H O st1 tm ax dst st':=by
 obtain⟨w,g1,g2,g3⟩:=o.sl s _ t;rw[D]at g1;cases g1;have y:=g2 aP;subst A;dsimp only[cf]at f;simp only[aw,aR]at f;split at f;.cases f;obtain rfl:=QZ (show cQ K Y B H (.sl s) .nl ax (.ex e)from g3);refine Qq (H':=H) o.hr rfl (a45 o.hr) o.hr (ox ?_) h rfl rfl;exact aad (S:=λ_=>False) o.hr.inv o.sl (a02 _ _) (a01 _) (a00 _) (λ_ _ _ _ _ _ h=>⟨h,id⟩) (λ_ _ _ h=>h) D (λ_=>y) (.inl ⟨rfl,rfl⟩)
 . rename_i x l _;rcases i:((x::l).all uV&&sH (x::l).length)with _|_;.grind
   rw[i]at f;cases f;rw[gD]at i;rcases g3 with⟨z,_⟩|⟨r,g,v⟩;.grind
   . obtain⟨id,cells,fl,I,c,u,rfl,rfl,k3,k4,k5,k6⟩:=n5 o.hr v i.1 aP (NM i.2);have k:=yH (m':=u) (fl':=fl) (e':=3) k3;have P:∀p a b,p≠.sl s->B p=J (a,b)->a≠r:=λp a b n j e=>n (o.hr.inj _ _ _ _ _ (e▸j) g);have q:I4 (su (mj (x::l)) 3 1) 3=.dv (su (mj (x::l)) 3 1) (.ex 3):=by cases mj (x::l)<;>rfl
     refine Qq o.hr k5 ⟨a01 _,o.hr.gi k,a00 _,k.xx o.hr.inv λa _ e=>⟨.sl s,V,e▸g⟩,λp a b h=>.inl ⟨p,b,h⟩,Hn ⟨.sl s,V,g⟩⟩ (o.hr.aiX g trivial k3 k4) ?_ h rfl rfl;show cg K Y B _ tm (cP (put (ix O.sl s) s (I4 (su (mj (x::l)) 3 1) 3)));rw[q];refine ox (aad (S:=λx=>x=r) o.hr.inv o.sl k (a01 _) (a00 _) (λp a b _ _ j m=>⟨m,P p a b j m⟩) (λ_ _ _ h=>h) D (λ_=>y) (.inr ⟨r,g,k6⟩))
 grind
theorem ayO{v:Nat}{b:LB}{d:DV}{r:DV×SV}(o:Ok K Y B H O tm)(hb:O.g.get v=J (.box b))(hd:b.cells[I]?=J d)(U:eB b I=.ex e)(BD:∃i m root fl e,Y v=J i/\H.get i=J (.cells m root fl e)/\m[I]?=J ax)(w:cf.qz 265 d []=J r)(cA:st1={O with g:=O.g.set v (.box {cells:=iJ b.cells I r.1,own:=(match r.1 with|.jk=>dg b.own I 1|_=>b.own)})})(h:aG {st1 with sl:=cP st1.sl} dst r.2=J st'):Sw K Y B H O st1 tm ax dst st':=by
 have rU:O.at (.g v)=J b:=by grind[St.at]
 obtain⟨i,t1,t2,t3⟩:=o.hr.at rU;obtain⟨i',m0,aPV,rS,e0,q1,q2,q3⟩:=BD;rw[t3 v rfl]at q1;cases q1;obtain⟨m,fl,eb,F,w2,w3,w4,w5,w6⟩:=t2;rw[F]at q2;obtain⟨rfl,_,_,_⟩:=cq.cells.inj (bE q2);obtain⟨iu,R⟩:=w6 I d ax hd q3;rw[U]at R;have IG:I<b.cells.length:=(am.1 hd).1;have IF:d≠.nl:=λe=>by grind[eB]
 subst cA;dsimp only[cf]at w;simp only[aw,aR]at w;split at w;.grind
 . rename_i a l _;rcases E:((a::l).all uV&&sH (a::l).length)with _|_;.grind
   rw[E]at w;cases w;rw[gD]at E;rcases R with⟨h0,_⟩|⟨r,D,o2⟩;.grind
   . obtain⟨id,cells,N,aFe,c,L,rfl,rfl,k3,k4,k5,k6⟩:=n5 o.hr o2 E.1 aP (NM E.2);have k:=yH (m':=L) (fl':=N) (e':=3) k3;have P:∀p f b,p≠.gc v I->B p=J (f,b)->f≠r:=λp f b X h2 e=>X (o.hr.inj _ _ _ _ _ (e▸h2) D);obtain⟨p1,p2,p3,p4,p5⟩:=Rs (m':=L) (fl':=N) (e':=3) o.hr D k3 k4 (src:=J) (λp q y X h2=>ai);have s:(su (mj (a::l)) 3 1).aV=V:=by cases mj (a::l)<;>rfl
     have G:(match su (mj (a::l)) 3 1 with|.jk=>dg b.own I 1|_=>b.own)=b.own:=by cases mj (a::l)<;>rfl
     have hms:∃z t,su (mj (a::l)) 3 1=.ay (z::t) 3 1:=by
      have:(mj (a::l)).length=(a::l).length:=by simp[mj]
      rcases hc:mj (a::l)with _|⟨z,t⟩;.grind
      exact⟨z,t,rfl⟩
     have hi:i≠r:=P (.g v) i V aP t1;have lL:pF K Y B (H.dM id r (.cells L r N 3)) (.gc v) ⟨iJ b.cells I (su (mj (a::l)) 3 1),b.own⟩ i:=by
      refine⟨m,fl,eb,?_,w2,by rw[k.dz i (o.hr.inv.get _ _ F) hi];omega,by rw[k.dz i (o.hr.inv.get _ _ F) hi];omega,by grind[Ny],λA T Q W M=>?_⟩;.rw[k.get i (o.hr.inv.get _ _ F) (by grind[lS])];omega
      . rw[RN IG]at W;have u:eB ⟨iJ b.cells I (su (mj (a::l)) 3 1),b.own⟩ A=eB b A:=by grind[eB,RN]
        by_cases e:A=I;.subst e;rw[if_pos rfl]at W;cases W;rw[q3]at M;cases M;rw[u,U];exact⟨s,.inr ⟨r,D,k6⟩⟩
        .rw[if_neg e]at W;obtain⟨s1,s2⟩:=w6 A T Q W M;rw[u];exact⟨s1,s2.keep (S:=λa=>a=r) o.hr.inv k (a01 _) (a00 _) λf n j=>⟨j,P _ f n (λy=>e (Pk.gc.inj y).2) j⟩⟩
     have eZ:=o.hr.Gy (x:=.g v) (b':=⟨iJ b.cells I (su (mj (a::l)) 3 1),b.own⟩) rU t1 (a01 _) k p1 (GM o.hr.hQ k3) p2 p3 p4 p5 (λ_=>rfl) (λ_=>rfl) (λy A T Q Jm hy hp=>hp.keep (S:=λa=>a=r) o.hr.inv k (a01 _) (a00 _) λf n j=>⟨j,P _ f n (λz=>by cases y<;>simp[Loc.pk]at z;grind) j⟩) (λp f n hp _ j=>P p f n (λz=>ai) j) lL;refine Qq o.hr k5 ⟨a01 _,o.hr.gi k,a00 _,k.xx o.hr.inv λf _ e=>⟨.gc v I,V,e▸D⟩,λp f b h=>.inl ⟨p,b,h⟩,Hn ⟨.gc v I,V,D⟩⟩ ?_ ?_ h rfl rfl;.simp only[G];exact eZ
     .exact xk (S:=λa=>a=r) o.hr.inv o.sl k (a01 _) (a00 _) (λp f b kO h3=>⟨h3,P p f b (λz=>by grind[Pk.slot]) h3⟩) (λ_ _ _ h=>h)
 grind
end
theorem ayQ:wy PP mN cf:=by
 intro st f x az st1 v h K w M H u y ok W R dst st' A;rw[ags]at h;obtain⟨sv,hx,h⟩:=aF h;obtain⟨ax,a1,a2,p⟩:=ri (P:=PP) (pS W) ok.sl hx;have k:∀d r,cf.qz f d az=J r->f=265/\az=[]/\y=[]:=λd r h=>by
   dsimp only[cf]at h;rcases L:aw f 265 with _|_;.grind
   rw[bQ,jB]at L;subst L;simp only[aw,aR]at h;have S:az=[]:=ai;subst S;exact⟨rfl,rfl,R.sB⟩
 have slot:∀s,u.get s=J ax->(look st.sl s).bind (Fw cf st f az s)=J (st1,v)->∃ax a j l o c,AM.bJ PP u x=J ax/\Ev PP mN f (ax::y) H a j/\Nx K w M H l o c j/\Ok l o c j st' (gX u dst a)/\st1.n=st.n/\st1.fn=st.fn:=λs Y h=>by
   obtain⟨GK,X,h⟩:=aF h;unfold Fw at h;split at h;.rename_i d e;obtain⟨r,hr,n⟩:=iK.1 h;obtain⟨rfl,rfl⟩:=jf n;obtain⟨rfl,rfl,rfl⟩:=k _ _ hr;obtain⟨a,j,l,o,c,z,B,D,E,F⟩:=ayP ok X Y hr rfl A;grind
   grind
 unfold IX at h;split at h
 . obtain⟨r,hr,n⟩:=iK.1 h;obtain⟨rfl,rfl⟩:=jf n;obtain⟨rfl,rfl,rfl⟩:=k _ _ hr;have N:ax=.bH:=by
     rcases p with⟨t,_,_,_,g⟩|⟨_,⟨d,e,g⟩|⟨d,G,_,e1,e2,_⟩|⟨_,_,_,_,e,_⟩⟩;.exact QZ (show cQ K w M H (.sl t) .nl ax _ from g)
     .obtain⟨rfl,_⟩:=SV.dv.inj e;cases g;rfl
     all_goals grind
   subst N;dsimp only[cf]at hr;simp only[aw,aR]at hr;cases hr;obtain⟨a,j,l,o,c,z,B,D,E,F⟩:=Qq (ax:=.bH) (st1:=st) (H':=H) ok.hr (show mN 265 [.bH] H=J (J (.cO [],H))from rfl) (a45 ok.hr) ok.hr (aKQ ok.hr.inv ok.sl) A rfl rfl;grind
 .grind
 . rename_i s;rcases p with⟨t,e,T,U,g⟩|⟨_,⟨d,e,_⟩|⟨d,G,_,e1,e2,_⟩|⟨_,_,_,_,e,_⟩⟩;.exact slot s g h
   all_goals grind
 . rename_i vx I;obtain⟨go,O,h⟩:=aF h;have q:∃i m root fl e,w vx=J i/\H.get i=J (.cells m root fl e)/\m[I]?=J ax:=by
     rcases p with⟨t,e,T,U,g⟩|⟨_,⟨d,e,_⟩|⟨d,G,_,e1,e2,_⟩|⟨_,_,_,_,e,_⟩⟩;.exact g
     all_goals grind
   unfold Qp at h;split at h
   . split at h;.rename_i b d e hd Q;obtain⟨r,hr,n⟩:=iK.1 h;obtain⟨rfl,rfl⟩:=jf n;obtain⟨rfl,rfl,rfl⟩:=k _ _ hr;obtain⟨a,j,l,o,c,z,B,D,E,F⟩:=ayO ok O hd Q q hr rfl A;grind
     grind
   grind
 grind
end Go.VM
namespace Go.AM
open Go
def i(n:Int):AV:=.int .i64 n
def z8:aJ:=[i 0,.bH,i 0,i 0,i 0,i 0,i 0,.str []]
def x0:aJ×an:=([i 0],3)
def x1:aJ×an:=([.bH,.bH],225)
def x2:aJ×an:=([i (.negSucc 0)],3)
def x3:aJ×an:=([.str [107],i 0],65)
def x4:aJ×an:=([i 0,.bH,.bH],186)
def x5:aJ×an:=([i 0,i 7,.str []],55)
def x6:aJ×an:=([.str [97],i 0,.str [98],i 0],70)
def x7:aJ×an:=([.str [65],.sl 7 0 1 (.some 1) 2],68)
def x8:aJ×an:=([i 0,i 0,i 0,i 1,.sl 17 0 1 .none 3],86)
def x9:aJ×an:=([i 0,.bH,i 0,i 0,i 0,i 1,i 1,.str []],59)
def Sg:AV:=.agg [.sl 6 0 1 (.some 1) 2,.sl 8 0 1 (.some 1) 18]
def N6:AV:=.agg ([i 1,.sl 6 0 2 (.some 2) 14,i 0,i 0,i 0,i 0]++z8)
def gp:aJ×an:=([i 0,i 0,i 7,.str [],i (.negSucc 0),.sl 16 0 1 .none 5,.sl 18 0 1 .none 3,.bH],114)
def gn:aJ×an:=([i 1,.sl 6 0 2 (.some 2) 14,i 0,i 0,i 0,i 0]++z8++[i 0,.bH,i 0,i 1,i 0,i 0,i 0,.bH,i 0,i 0,i 0,i 1,i 1,.str []],62)
def rC:aJ×an:=([i 0,.bH,i 0,i 0,i 0,i 0,i 0,.bH,i 0,i 0,i 0,i 1,i 1,.str [],i 0,.bH,i 0,i 1,i 0,i 0,i 0,.bH,i 0,i 0,i 0,i 1,i 1,.str []],62)
def Sh:aJ×an:=([.str [113],.sl 9 0 2 (.some 2) 2,.sl 10 0 1 (.some 1) 1,i 1,.sl 11 0 2 (.some 2) 14,i 0,i 0,i 0,i 0]++z8++[.sl 12 0 1 (.some 1) 8],73)
def D8:aJ×an:=([i 0,i 1,i 0,i 0,i 0,.bH,i 0,i 0,i 0,i 1,i 1,.str [],.bH,.bH,.bH,.bH,.bH,i 1,i (.negSucc 0),i 1,i 0,i 0,.bH,i 0,i 0,i 0,i 1,i 1,.str [],.bH,.bH,.bH,.bH,.bH],281)
def GU:AV:=.agg ([.sl 6 0 1 (.some 1) 2,.str [113],.sl 8 0 2 (.some 2) 2,.sl 9 0 1 (.some 1) 1,i 1,.sl 10 0 2 (.some 2) 14,i 0,i 0,i 0,i 0]++z8++[.sl 11 0 1 (.some 1) 8,i 2,i 0,.sl 12 0 2 .none 1,.sl 13 0 2 .none 17])
def e0:eI:=⟨[N6],jV (dL gl [rC]),.cO [i 2,i 0,i 0],[]⟩
def ec:Tr (List eI):=nD R6 103 e0
def g0:aE:=[]
def e1:eI:=⟨[N6],jV (dL gl [rC]),.cO [i 0,i 0],[]⟩
def ea:Tr (List eI):=nD ec 159 e1
def g1:aE:=[]
def e2:eI:=⟨[.sl 6 0 5 .none 1],jV (dL gl [([.func 148 [] [.ptr 7 0],.func 148 [] [.ptr 11 0],.func 148 [] [.ptr 14 0],.func 156 [] [.ptr 18 0,.ptr 17 0,.ptr 15 0],.func 158 [] [.ptr 15 0]],208),([.func 206 [] [.ptr 8 0]],160),([.sl 9 0 1 (.some 1) 2],22),([.str [65],.sl 10 0 1 (.some 1) 2],68),x3,([.func 207 [] [.ptr 8 0,.ptr 12 0]],160),([.sl 13 0 2 (.some 2) 2],71),x6,([.func 155 [] [.ptr 15 0,.ptr 17 0]],160),([i 1,.sl 16 0 2 (.some 2) 14,i 0,i 0,i 0,i 0]++z8,62),rC,([.sl 13 0 2 (.some 2) 2],71),([.sl 9 0 1 (.some 1) 2],22)]),.cO [i 0,i 0],[]⟩
def dx:Tr (List eI):=nD ea 91 e2
def g2:aE:=[]
def e3:eI:=⟨[N6,.sl 7 0 1 (.some 1) 8],jV (dL gl [rC,x9]),.cO [i 0,i 0],[]⟩
def dl:Tr (List eI):=nD dx 167 e3
def g3:aE:=[]
def e4:eI:=⟨[.sl 6 0 5 (.some 5) 1],jV (dL gl [([.func 148 [] [.ptr 7 0],.func 148 [] [.ptr 11 0],.func 96 [] [.ptr 8 0,.ptr 12 0],.func 148 [] [.ptr 17 0],.func 148 [] [.ptr 18 0]],208),([.func 93 [] [.ptr 8 0]],160),([.sl 9 0 1 (.some 1) 2],22),([.str [65],.sl 10 0 1 (.some 1) 2],68),x3,([.func 94 [] [.ptr 12 0]],160),([.str [113],.sl 13 0 2 (.some 2) 2,.sl 14 0 1 (.some 1) 1,i 1,.sl 15 0 2 (.some 2) 14,i 0,i 0,i 0,i 0]++z8++[.sl 16 0 1 (.some 1) 8],73),x6,x0,rC,x9,([.func 98 [] [.ptr 8 0,.ptr 12 0]],160),([.func 100 [] [.ptr 8 0,.ptr 12 0]],160)]),.cO [i 0,i 0],[]⟩
def df:Tr (List eI):=nD dl 91 e4
def g4:aE:=[]
def e5:eI:=⟨[N6],jV (dL gl [rC]),.cO [.sl 7 0 2 .none 14,i 0],[gn]⟩
def dc:Tr (List eI):=nD df 102 e5
def g5:aE:=[136]
def e6:eI:=⟨[N6],jV (dL gl [rC]),.cO [.agg [i 2,i 0,.sl 7 0 2 .none 1,.sl 8 0 2 .none 17],.sl 9 0 2 .none 14,i 0],[x1,D8,gn]⟩
def da:Tr (List eI):=nD dc 62 e6
def g6:aE:=[215,216,11]
def e7:eI:=⟨[GU,.bH,.agg [i 0,.bH,.bH],i (.negSucc 0),.bH],jV (dL gl [x7,x3,x6,x0,rC,x9,x1,D8]),i 18,[]⟩
def c9:Tr (List eI):=nD da 285 e7
def g7:aE:=[]
def e8:eI:=⟨[.agg [.sl 6 0 1 (.some 1) 2,.sl 8 0 2 .none 2],.sl 9 0 5 .none 8],jV (dL gl [x7,x3,([.str [],i 0,.str [],i 0],70),([i 7,.sl 10 0 2 (.some 2) 8,i 0,i 0,i 0,i 0,i 0,.str [],i 0,.bH,i 0,i 0,i 0,i 1,i 1,.str [],i 8,.sl 11 0 2 (.some 2) 8,i 0,i 0,i 0,i 0,i 0,.str [],i 9,.sl 12 0 2 (.some 2) 8,i 0,i 0,i 0,i 0,i 0,.str [],i 0,.bH,i 0,i 0,i 0,i 1,i 1,.str []],59),([i 0,.bH,i 0,i 0,i 0,i 0,i (.negSucc 0),.str [],i 2,.bH,i 0,i 0,i 0,i 0,i 0,.str []],59),([i 2,.bH,i 0,i 0,i 0,i 0,i 0,.str [],i 2,.bH,i 1,i 0,i 0,i 0,i 0,.str []],59),([i 1,.bH,i 1,i 0,i 0,i 0,i 0,.str [],i 1,.bH,i 0,i 0,i 0,i 0,i 0,.str []],59)]),i 0,[]⟩
def c8:Tr (List eI):=nD c9 393 e8
def g8:aE:=[]
def e9:eI:=⟨[GU,.bH,.sl 14 0 1 .none 3,i (.negSucc 0)],jV (dL gl [x7,x3,x6,x0,rC,x9,x1,D8,x4]),.cO [.sl 15 0 1 .none 3,i 0],[x4]⟩
def aak:Tr (List eI):=nD c8 244 e9
def g9:aE:=[628]
def C2:eI:=⟨[GU,.agg [i (.negSucc 0),.bH,.sl 14 0 1 (.some 1) 3,.bH],i (.negSucc 0)],jV (dL gl [x7,x3,x6,x0,rC,x9,x1,D8,x4]),.cO [.agg [i (.negSucc 0),.bH,.sl 15 0 1 .none 3,.bH],.bH,i 0],[x4]⟩
def aal:Tr (List eI):=nD aak 74 C2
def g10:aE:=[151]
def TH:eI:=⟨[GU,.agg [i 0,.bH,i 0,i 0,i 0,i 0,i 0,.bH,i 0,i 0,i 0,i 1,i 1,.str []],.agg [i 0,i 0,i 0,i 1,.sl 14 0 1 (.some 1) 3]],jV (dL gl [x7,x3,x6,x0,rC,x9,x1,D8,x5]),.agg [i 1,.sl 15 0 2 .none 5],[([i 0,i 0,i 0,i 0,.sl 16 0 1 .none 3,i 0,i 1,i 0,i 0,.sl 17 0 1 .none 3],86),([i 0,i 0,.str []],55),([i 0,i 0,.str []],55)]⟩
def aam:Tr (List eI):=nD aal 291 TH
def g11:aE:=[137,128,135]
def TI:eI:=⟨[GU,.agg [i 0,i 0,i 0,i 1,.sl 14 0 1 (.some 1) 3]],jV (dL gl [x7,x3,x6,x0,rC,x9,x1,D8,x5]),.cO [i 1,i 0],[]⟩
def aan:Tr (List eI):=nD aam 121 TI
def g12:aE:=[]
def TJ:eI:=⟨[GU,.agg [i (.negSucc 0),.bH,.sl 14 0 1 .none 3,.bH],.agg [i 0,i 0,i 0,i 1,.sl 15 0 1 (.some 1) 3]],jV (dL gl [x7,x3,x6,x0,rC,x9,x1,D8,x4,x5]),.cO [.agg [i (.negSucc 0),.sl 16 0 1 .none 5,.sl 18 0 1 .none 3,.bH],i 0],[x8,x5,x4]⟩
def aao:Tr (List eI):=nD aan 70 TJ
def g13:aE:=[117,115,111]
def TK:eI:=⟨[Sg,.agg [i 0,i 1],.agg [.sl 13 0 1 (.some 1) 1,.bH],i 0,.agg [i 0,i 0,i 0,i 0,i 1,.sl 14 0 1 (.some 1) 3,i 0]],jV (dL gl [x7,x3,Sh,x6,x0,rC,x9,x2,x5]),.cO [.agg [.sl 15 0 1 .none 1,.sl 16 0 1 .none 8],.bH,i 0],[x2,([i 0,i 0,i 7,.str [],i (.negSucc 0),.sl 17 0 1 .none 5,.sl 19 0 1 .none 3,.bH],114),([i 0,i 0,i 0,i 1,.sl 18 0 1 .none 3],86),x5,x4]⟩
def aap:Tr (List eI):=nD aao 19 TK
def g14:aE:=[124,122,114,115,116]
def TL:eI:=⟨[GU,.agg [i (.negSucc 0),.sl 14 0 1 .none 5,.sl 16 0 1 .none 3,.bH]],jV (dL gl [x7,x3,x6,x0,rC,x9,x1,D8,([i 0,i 0,i 0,i 1,.sl 15 0 1 .none 3],86),x5,x4]),i 0,[]⟩
def aaq:Tr (List eI):=nD aap 182 TL
def g15:aE:=[]
def TM:eI:=⟨[Sg,.agg [.sl 13 0 1 .none 1,.sl 14 0 1 .none 8],i 2],jV (dL gl [x7,x3,Sh,x6,x0,rC,x9,x2,([i 0,i 0,i 7,.str [],i (.negSucc 0),.sl 15 0 1 .none 5,.sl 17 0 1 .none 3,.bH],114),([i 0,i 0,i 0,i 1,.sl 16 0 1 .none 3],86),x5,x4]),.cO [.sl 18 0 2 (.some 2) 2,i 0],[([.sl 19 0 1 .none 1,.sl 20 0 1 .none 8,.sl 24 0 1 .none 1,.bH],76),x2,([i 0,i 0,i 7,.str [],i (.negSucc 0),.sl 21 0 1 .none 5,.sl 23 0 1 .none 3,.bH],114),([i 0,i 0,i 0,i 1,.sl 22 0 1 .none 3],86),x5,x4,x2]⟩
def aar:Tr (List eI):=nD aaq 22 TM
def g16:aE:=[82,84,120,114,116,118,86]
def TN:eI:=⟨[Sg,.sl 13 0 2 (.some 2) 2],jV (dL gl [x7,x3,Sh,x6,x0,rC,x9,([.sl 14 0 1 .none 1,.sl 15 0 1 .none 8,.sl 19 0 1 .none 1,.bH],76),x2,gp,x8,x5,x4,x2]),.cO [.agg [.sl 20 0 1 .none 1,.sl 21 0 1 .none 8],i 0],[x2,([i 0,i 0,i 7,.str [],i (.negSucc 0),.sl 22 0 1 .none 5,.sl 24 0 1 .none 3,.bH],114),([i 0,i 0,i 0,i 1,.sl 23 0 1 .none 3],86),x5,x4]⟩
def aat:Tr (List eI):=nD aar 23 TN
def g17:aE:=[152,168,159,161,163]
def TO:eI:=⟨[Sg,.sl 13 0 2 (.some 2) 2],jV (dL gl [x7,x3,Sh,x6,x0,rC,x9,([.sl 14 0 1 .none 1,.sl 15 0 1 .none 8,.sl 14 0 1 .none 1,.sl 15 0 1 .none 8],76),x2,gp,x8,x5,x4]),.cO [.agg [.bH,.bH],i 7],[]⟩
def aau:Tr (List eI):=nD aat 23 TO
def g18:aE:=[]
def OR:eI:=⟨[],jV (dL gl []),.bool V,[]⟩
def akb:Tr (List eI):=nD aau 6 OR
def g19:aE:=[]
def k0:entry PP (AM.run PP (mQ 6 3000 R6 mh) 1000000) 103 e0 g0=V:=aL
def k1:entry PP (AM.run PP (mQ 6 3000 ec mh) 1000000) 159 e1 g1=V:=aL
def k2:entry PP (AM.run PP (mQ 6 3000 ea mh) 1000000) 91 e2 g2=V:=aL
def k3:entry PP (AM.run PP (mQ 6 3000 dx mh) 1000000) 167 e3 g3=V:=aL
def k4:entry PP (AM.run PP (mQ 6 3000 dl mh) 1000000) 91 e4 g4=V:=aL
def k5:entry PP (AM.run PP (mQ 6 3000 df mh) 1000000) 102 e5 g5=V:=aL
theorem k6:entry PP (AM.run PP (mQ 6 3000 dc mh) 1000000) 62 e6 g6=V:=aL
def k7:entry PP (AM.run PP (mQ 6 3000 da mh) 1000000) 285 e7 g7=V:=aL
def k8:entry PP (AM.run PP (mQ 6 3000 c9 mh) 1000000) 393 e8 g8=V:=aL
def k9:entry PP (AM.run PP (mQ 6 3000 c8 mh) 1000000) 244 e9 g9=V:=aL
def VH:entry PP (AM.run PP (mQ 6 3000 aak mh) 1000000) 74 C2 g10=V:=aL
def k11:entry PP (AM.run PP (mQ 6 3000 aal mh) 1000000) 291 TH g11=V:=aL
def k12:entry PP (AM.run PP (mQ 6 3000 aam mh) 1000000) 121 TI g12=V:=aL
def k13:entry PP (AM.run PP (mQ 6 3000 aan mh) 1000000) 70 TJ g13=V:=aL
def k14:entry PP (AM.run PP (mQ 6 3000 aao mh) 1000000) 19 TK g14=V:=aL
def k15:entry PP (AM.run PP (mQ 6 3000 aap mh) 1000000) 182 TL g15=V:=aL
def k16:entry PP (AM.run PP (mQ 6 3000 aaq mh) 1000000) 22 TM g16=V:=aL
def k17:entry PP (AM.run PP (mQ 6 3000 aar mh) 1000000) 23 TN g17=V:=aL
def k18:entry PP (AM.run PP (mQ 6 3000 aat mh) 1000000) 23 TO g18=V:=aL
def k19:entry PP (AM.run PP (mQ 6 3000 aau mh) 1000000) 6 OR g19=V:=aL
def xc:mC ec:=qf WF k0 (by unfold e0;dsimp only;exact oG _)
def FZ:mC ea:=qf xc k1 (by unfold e1;dsimp only;exact oG _)
def DG:mC dx:=qf FZ k2 (by unfold e2;dsimp only;exact oG _)
def ML:mC dl:=qf DG k3 (by unfold e3;dsimp only;exact oG _)
def Wq:mC df:=qf ML k4 (by unfold e4;dsimp only;exact oG _)
def Wp:mC dc:=qf Wq k5 (by unfold e5;dsimp only;exact oG _)
def Wn:mC da:=qf Wp k6 (by unfold e6;dsimp only;exact oG _)
def V9:mC c9:=qf Wn k7 (by unfold e7;dsimp only;exact oG _)
def VU:mC c8:=qf V9 k8 (by unfold e8;dsimp only;exact oG _)
def aFg:mC aak:=qf VU k9 (by unfold e9;dsimp only;exact oG _)
def aFh:mC aal:=qf aFg VH (by unfold C2;dsimp only;exact oG _)
def aFi:mC aam:=qf aFh k11 (by unfold TH;dsimp only;exact oG _)
def aFj:mC aan:=qf aFi k12 (by unfold TI;dsimp only;exact oG _)
def aFk:mC aao:=qf aFj k13 (by unfold TJ;dsimp only;exact oG _)
def aFl:mC aap:=qf aFk k14 (by unfold TK;dsimp only;exact oG _)
def aFm:mC aaq:=qf aFl k15 (by unfold TL;dsimp only;exact oG _)
def aFn:mC aar:=qf aFm k16 (by unfold TM;dsimp only;exact oG _)
def aFo:mC aat:=qf aFn k17 (by unfold TN;dsimp only;exact oG _)
def aFp:mC aau:=qf aFo k18 (by unfold TO;dsimp only;exact oG _)
def aFq:mC akb:=qf aFp k19 (by unfold OR;dsimp only;exact oG _)
def amw:G9 PP 6 OR:=aFq 6 _ _ (by unfold akb nD;exact a17 _ _ _) fU
end Go.AM
namespace Go.VM
open Go Go.AM
open Go.Proofs.YtnjhghmdcoaceaaGreatDoor (Rows.rescaleComposesUptoRow)
open Go.Proofs.YtnjhghmdcoaceaaGreatDoor.Rows (uptoBulk uptoBulkAll)
variable{g:Nat}
def QM(g:Nat)(x:aJ×an):Lx:=⟨x.1,x.2,⟨g,0,x.1.length,x.1.length⟩⟩
def L0:List Lx:=(qm 6).map λg=>QM g ((gl[g]?).getD ([],0))
theorem UL:L0.length=6:=by rfl
theorem Sx{x:aJ×an}(h:gl[g]?=J x):L0[g]?=J (QM g x):=by grind[Ig,L0]
theorem akP{y:Lx}(h:L0[g]?=J y):∃x,gl[g]?=J x/\y=QM g x:=by
 have a:g<gl.length:=by grind[Ig,UL]
 simp_all[Sx]
section
variable{W:aT}
theorem avi(L:laidMetH PP Rows.rescaleComposesUptoRow.laid W)(S:W.ShapedOpen PP):Good W L0:=by
 refine⟨by simp[UL],λi y n=>?_⟩;obtain⟨x,m,rfl⟩:=akP n;obtain⟨s,e,f,b,d⟩:=glb L S i x m;obtain⟨h,g⟩:=d _;have l:x.1.length=s.size:=by rw[h.1,Array.length_toList]
 refine⟨rfl,⟨s,f,e,b,l.symm,?_,λj a k=>?_⟩,g⟩;.show 0+x.1.length<=x.1.length;omega
 .obtain⟨c,k1,k2⟩:=h.get k;exact⟨c,by show s[0+j]?=J c;grind,k2⟩
theorem io(M:List Lx){x:aJ×an}(h:gl[g]?=J x):lK (L0++M) g=J x:=by
 have:lK L0 g=J x:=by unfold lK;rw[Sx h];rfl
 exact QC _ _ _ _ this
theorem ds0:Bk ((gl[0]?).getD ([],0)).1=J Pv:=by rfl
theorem KO:Bk ((gl[1]?).getD ([],0)).1=J Pw:=by rfl
theorem au5(M:List Lx):dB PP (lK (L0++M)) (λ_=>Z) cf.aq:=by
 refine⟨λg l h=>?_,λg x h=>io M h⟩;have k:∀g,g<6->Bk ((gl[g]?).getD ([],0)).1=J l->g<PP.globals.size/\(∀y,y∈l->y.aV=V)/\∃cells e,lK (L0++M) g=J (cells,e)/\bF (lK (L0++M)) (λ_=>Z) l cells:=λg d a=>by have f:=dC (l:=gl) (i:=g) (by grind[Ig]);obtain⟨b,c⟩:=RK (K:=lK (L0++M)) (Y:=λ_=>Z) a;grind[UE,io]
 have h:(bif aw g 0 then J _ else bif aw g 1 then J _ else Z)=J l:=h;grind[bQ,ds0,KO]
theorem au6(M:List Lx):iZ PP (lP (L0++M)):=λg h=>by
 rw[UE]at h;obtain⟨x,a⟩:∃x,gl[g]?=J x:=⟨_,dC (by grind[Ig])⟩;have:lP L0 g=J (QM g x).p:=by grind[lP,Sx]
 exact⟨_,Mq _ M _ _ this,rfl,rfl⟩
def Oe(W a:aT):Prop:=a.os=W.os/\a.output=W.output/\W.heap.size<=a.heap.size/\∀b:Nat,b<W.heap.size->a.heap[b]?=W.heap[b]?
theorem azA{L:List Lx}{c:bc}{H:Heap}{a:aT}(k:Fr (lP L) (jV (lH L)) W c H a):Oe W a:=⟨k.os,k.output,k.size,λb h=>by rcases k.nF b h with e|⟨id,p,d,_,K,_⟩<;>grind[QB]⟩
theorem anX(T:laidMetH PP Rows.rescaleComposesUptoRow.laid W)(U:W.ShapedOpen PP)(p:cC)(o:dR)(n a:Nat)(Y:n<256)(X:a<256)(hp:p.mu<=1048576)(ho:o.mu<=1048576){f k:Array aD}(l:bR W p.cells f.toList)(q:bR W o.cells k.toList):Calls PP 3 #[.agg f,.agg k,.agg #[.int .u8 (.ofNat n),.int .u8 (.ofNat a)]] W λe A=>e=.returned (.bool V)/\Oe W A:=λS=>by
 obtain⟨M,x0,g1,g2,g3⟩:=l.2 L0 (avi T U);obtain⟨N,x1,k1,k2,k3⟩:=q.2 _ g1;rw[uu]at k1 k2 k3;have g2:bF (lK (L0++(M++N))) N0 p.cells x0:=by rw[<-uu];exact g2.mono (QC _ _) (a00 _)
 have g3:aZ (lP (L0++(M++N))) x0 f.toList:=by rw[<-uu];exact g3.mono (Mq _ _)
 generalize j:L0++(M++N)=L at*;have uN:dB PP (lK L) (λ_=>Z) cf.aq:=by rw[<-j];exact au5 _
 have qu:iZ PP (lP L):=by rw[<-j];exact au6 _
 obtain⟨_,uM,g,rfl⟩:=Vx p o n a Y X (amk hp ho);have s:=asu ayQ aHo hN;have t:DR (lK L) N0 (.agg p.cells) (.agg x0):=g2.agg l.1;have tN:DR (lK L) N0 (.agg o.cells) (.agg x1):=k2.agg q.1;have w:bF (lK L) N0 [.int .u8 (.ofNat n),.int .u8 (.ofNat a)] [.int .u8 (.ofNat n),.int .u8 (.ofNat a)]:=a06 (.int _ _) (a06 (.int _ _) a09);have x:aZ (lP L) [.int .u8 (.ofNat n),.int .u8 (.ofNat a)] [.int .u8 (.ofNat n),.int .u8 (.ofNat a)]:=a05 (.int _ _) (a05 (.int _ _) (a04 _));have mb:=w.agg λd hd=>by
  rcases CI.1 hd with rfl|hd;.rfl
  .rw[CJ.1 hd];rfl
 have z:bF (lK L) N0 [.agg p.cells,.agg o.cells,.agg [.int .u8 (.ofNat n),.int .u8 (.ofNat a)]] [.agg x0,.agg x1,.agg [.int .u8 (.ofNat n),.int .u8 (.ofNat a)]]:=a06 t (a06 tN (a06 mb a09));obtain⟨r,H',K,ψ,ω',e1,e2,_,_,e5⟩:=s 3 _ _ _ _ _ uM (lK L) N0 (λ_=>Z) (jV (lH L)) [.agg x0,.agg x1,.agg [.int .u8 (.ofNat n),.int .u8 (.ofNat a)]] (HR.start L) uN ⟨z.1,λi d b hx h=>by have:=z.2 i d b hx h;split<;>exact this⟩;have hr:r=.bool V:=by have e5:DR K ψ (.bool V) r:=e5;cases e5;rfl
 subst hr;have wV:=e2 rfl;rcases e1 with e1|⟨_,fr,e3,m,e4⟩;.rw[wV]at e1;cases e1
 have qX:aZ (lP L) [.agg x0,.agg x1,.agg [.int .u8 (.ofNat n),.int .u8 (.ofNat a)]] (#[.agg f,.agg k,.agg #[.int .u8 (.ofNat n),.int .u8 (.ofNat a)]]:Array aD).toList:=a05 (.agg x0 f (by rw[g3.1,Array.length_toList]) (λy h=>by obtain⟨d,d1,d2⟩:=g2.mem h;exact d2.aV (l.1 d d1)) λi y v h c=>g3.2 i y v h (by rw[Array.getElem?_toList];exact c)) (a05 (.agg x1 k (by rw[k3.1,Array.length_toList]) (λy h=>by obtain⟨d,d1,d2⟩:=k2.mem h;exact d2.aV (q.1 d d1)) λi y v h c=>k3.2 i y v h (by rw[Array.getElem?_toList];exact c)) (a05 (.agg _ _ rfl (λy h=>by
  rcases CI.1 h with rfl|h;.rfl
  .rw[CJ.1 h];rfl) λi y v h c=>x.2 i y v h (by rw[<-Array.getElem?_toList]at c;exact c)) (a04 _)));obtain⟨q1,q2,q3,_⟩:=KS e3 qX;have jo:=T8 (aHq amw) Ge MZ m fr _ _ e4 (lP L) W _ S (oG _) k1.AK qu q1;obtain⟨χ,w',u,B,D,E,_⟩:=jo;obtain⟨F,G,H,I,O,P,fn,Q,R⟩:=E q3;have hu:u=.bool V:=by cases D;rfl
 subst hu;exact⟨.returned (.bool V),w',F,⟨rfl,azA B.2.2⟩,G,H,I,O,by rw[P],fn,Q,R⟩
end
end Go.VM
namespace Go.Proofs.YtnjhghmdcoaceaaGreatDoor.tm
open Go.ChangeShapes Go.WideShapes Go.ChangeAt Go.RowKit Go.VM
variable{W':aT}
theorem own:ownKnob Tryz.prog.godebug=Z:=by rfl
theorem params3:f3.params=#[25,29,30]:=aL
theorem kids:Kids eD (.<Tryz.prog.types.size):=kids_rows l1 aL
theorem full:∀t e,t<Tryz.prog.types.size->Tryz.prog.underlying t=J (.slice e)->0<Tryz.prog.cellsOf e:=slices_full_of eD aL
theorem tsz:Tryz.prog.types.size>30:=ue aL
theorem Uw:Tryz.prog.funcs[3]?=J f3:=by rfl
theorem aHf{H:Type}{n:an×aD->H}{P:aH}{f:Func}{s:ChangeSpec}{a c h i:Bool}{W:aT}{g:Array aD}{v:aD}{d k:List (DataW H)}{e pa pv:List MemPlace}(l:DataW.Whole n P f.params.toList s.vars a W g.toList d k e)(m:∀(b:Nat)(sp:Nat->Bool)(hd:Bool),DataW.TrodAll n P W' b sp hd f.resultTypes.toList (v.resultList f.resultTypes.size) (s.fn H (d++k)).results [])(B:∀sp:Nat->Bool,(∀p∈e,sp p.block=V)->DataW.TrodAll n P W' 0 sp V f.params.toList g.toList (s.fn H (d++k)).args pa)(x:∀sp:Nat->Bool,(∀p∈e,sp p.block=V)->DataW.TrodVars n P W' sp s.vars (s.fn H (d++k)).vars pv)(O:e=pa++pv)(z:W.keptBut W' (.∈e))(U:∀b o,b<W.heap.size->W'.frozen? ⟨b,o,Z⟩=W.frozen? ⟨b,o,Z⟩)(y:∀(j:Nat)(t:an)(r:aD),f.resultTypes[j]?=J t->(v.resultList f.resultTypes.size)[j]?=J r->Value.okWide P W' .any 0 t r):s.post n P f a c h i W g v W':=by
 have w:=l.lt;refine⟨d,k,_,[],pa,pv,l,m _ _ _,aU,aU,World.keptBut_mono (λp u=>⟨u,?_⟩) z,λ_=>?_⟩;.grind
 . obtain⟨_,_,_,_,_,A,D⟩:=l;refine⟨y,_,_,_,⟨_,pv,trodAll_append (B _ aU) (m _ _ _),x _ aU,rfl,?_,?_⟩,?_⟩;.intro b o u;have q:MemPlace.cell b o∈e:=ai;rw[U b _ (w _ q)];exact A b _ q
   all_goals grind
theorem akj{H:Type}{c:an×aD->H}{P:aH}{w i:aT}{b:Nat}{g:Nat->Bool}:∀{t:List an}{v:List aD}{d:List (DataW H)}{s:List MemPlace},DataW.TrodAll c P w b g V t v d s->(∀p∈s,w.sameAt i p)->DataW.TrodAll c P i b g V t v d s|[],[],[],_,h,_=>h|_::_,_::_,_::_,_,⟨p,q,⟨n,j⟩,k,e⟩,f=>⟨p,q,⟨n,DataW.trod_carry n _ _ _ j λx a=>f x (by rw[e];exact Kg _ a)⟩,akj k (λx a=>f x (by rw[e];exact Sz _ a)),e⟩
theorem azz{W:aT}(k:Oe W W')(m:MemPlace->Prop):W.keptBut W' m:=by obtain⟨h,a,_,b⟩:=k;refine⟨h,a,λi c=>?_⟩;grind
theorem aJE{W:aT}(k:Oe W W'){p:MemPlace}(h:p.block<W.heap.size):W.sameAt W' p:=by
 rcases p with⟨b,o⟩|b;.show W'.cell? _=W.cell? _;unfold World.cell?;rw[k.2.2.2 b h]
 exact k.2.2.2 b h
theorem u5:Tryz.prog.underlying 5=J (.int .u8):=by rfl
theorem aM7{W:aT}{b:Nat}{z:Int}(h:Value.okWide eD W .any b 5 (.int .u8 z)):0<=z/\z<256:=by
 have a:IntKind.u8.min<=z/\z<=IntKind.u8.max:=h.2;have e1:IntKind.u8.min=0:=by rfl
 have e2:IntKind.u8.max=255:=by rfl
 omega
theorem U9:Tryz.prog.underlying 30=J (.array 2 5):=aL
theorem aoY:Tryz.prog.cellTypes Tryz.prog.depth 30=J [5,5]:=aL
theorem ao5:Tryz.prog.cellsOf 30=2:=aL
theorem aM8{W:aT}{b:Nat}{v:aD}(h:Value.okWide eD W .any b 30 v):∃s z:Nat,s<256/\z<256/\v=.agg #[.int .u8 (.ofNat s),.int .u8 (.ofNat z)]:=by
 unfold Value.okWide at h;rw[U9]at h;obtain⟨f,rfl,n,q,t,_,l⟩:=h;rw[ao5]at n;rw[aoY]at t;cases t;have k:∀i,i<2->∃s:Nat,s<256/\f[i]?=J (.int .u8 (.ofNat s)):=λi p=>by
  obtain⟨a,g⟩:∃a,f[i]?=J a:=⟨_,mS ab⟩;obtain⟨u,d,e⟩:=l i a g;have m:u=5:=by have:i=0\/i=1:=ab;rcases this with rfl|rfl<;>exact(bE d).symm
  subst m;have c:Value.okWide eD W .any b 5 a:=by unfold Value.okWide;rw[u5];exact e
  obtain⟨z,rfl⟩:=okWide_int u5 c;have o:=aM7 c;exact⟨z.toNat,ab,by rw[show du z.toNat=z from Int.toNat_of_nonneg o.1];exact g⟩
 obtain⟨s,d,e⟩:=k 0 ab;obtain⟨z,c,j⟩:=k 1 ab;refine⟨s,z,d,c,gT _ (Ob λi=>?_)⟩;match i with|0=>exact e|1=>exact j|i+2=>rw[Array.getElem?_eq_none ab,Array.getElem?_eq_none (by show 2<=i+2;omega)]
theorem aoN(H:Type)(n:an×aD->H)(W:aT)(d:Nat)(a:Array aD)(m G:List (DataW H))(f:List MemPlace)(l:∀(j:Nat)c v,f3.params[j]?=J c->a[j]?=J v->Value.okWide eD W .any d c v)(r:DataW.Whole n eD f3.params.toList Rows.rescaleComposesSpec.vars C W a.toList m G f)(B:Rows.uptoBulkAll (m++G)<=1048576)(L:laidMetH eD Rows.rescaleComposesUptoRow.laid W)(S:W.ShapedOpen eD):Calls eD 3 a W λe W'=>∃v,e=.returned v/\Rows.rescaleComposesSpec.post n eD f3 C V C C W a v W':=by
 have y:=r;have Q:=r.lt;obtain⟨p,q,A,hV,I,U3,qy⟩:=r;obtain⟨rfl,rfl⟩:=trodVars_none hV;have hA:DataW.TrodAll n eD W 0 (λ_=>V) V [25,29,30] a.toList m p:=by have:=A;rw[params3]at this;exact this
 rw[params3]at l;rw[jY]at I;subst I;obtain⟨v0,v1,v2,d0,d1,d2,p0,p1,p2,rfl,rfl,_,U,Y,h2⟩:=trodAll_three hA;have k:∀{c v},(lT c).isSome=V->Value.okWide eD W .any d c v->∃g:Array aD,v=.agg g:=λ{c v}i h=>by unfold lT at i;unfold Value.okWide at h;cases M:Tryz.prog.underlying c with|none=>rw[M]at i;cases i|some u=>rw[M]at i h;cases u with|struct fs=>obtain⟨g,rfl,_⟩:=h;exact⟨g,rfl⟩|_=>cases i
 obtain⟨R,rfl⟩:=k (by rw[Dv];rfl) (l 0 25 v0 rfl rfl);obtain⟨T,rfl⟩:=k (by rw[ahv];rfl) (l 1 29 v1 rfl rfl);obtain⟨n0,t0⟩:=U;obtain⟨n1,t1⟩:=Y;obtain⟨n2,t2⟩:=h2;have X:∃g e1 o,W.heap[0]?=J (.cells g e1 o):=by obtain⟨x,F⟩:∃x,AM.gl[0]?=J x:=⟨_,dC (by rw[Ig];decide)⟩;obtain⟨g,e,o,h,_⟩:=glb L S 0 x F;exact⟨g,e,o,h⟩
 obtain⟨pl,N,l0⟩:=aDz X _ _ _ t0;obtain⟨P,O,l1⟩:=aCE X _ _ _ t1;obtain⟨s,z,i,hz,rfl⟩:=aM8 (l 2 30 v2 rfl rfl);simp only[Rows.uptoBulkAll,jY]at B;dsimp only at N O;have w:=anX L S pl P s z i hz (gj N ab) (gj O ab) l0 l1;refine w.mono λe W'⟨he,D⟩=>?_;subst he;have kz:∀sp:Nat->Bool,(∀x∈f,sp x.block=V)->DataW.TrodAll n eD W' 0 sp V f3.params.toList (#[.agg R,.agg T,.agg #[.int .u8 (.ofNat s),.int .u8 (.ofNat z)]]:Array aD).toList [d0,d1,d2] f:=λsp E=>akj (DataW.TrodAll.respare kids full (λc K=>by
 rw[params3]at K;have:c=25\/c=29\/c=30:=by simpa using K
 have:=tsz;rcases‹c=25\/c=29\/c=30›with rfl|rfl|rfl<;>(show(_:Nat)<Tryz.prog.types.size;omega)) A E) λx F=>aJE D (Q x F);refine⟨_,rfl,aHf (pa:=f) (pv:=[]) y (λ_ _ _=>?_) kz (λ_ _=>rfl) aP (azz D _) (λb off B=>?_) (ok_one (t:=4) aL rfl (okWide_bool_mk Sa _))⟩;.rw[show f3.resultTypes=#[4]by kernel_rfl];exact trodAll_cons_mk (shut_bool Sa _) trodAll_mk0
 .unfold World.frozen?;rw[D.2.2.2 b B]
