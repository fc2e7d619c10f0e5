/- Proved: what library functions answer on the value machine (a part of the proof of FeasiblePlansUptoCardSaid, whose theorem stands in the last text). -/
import Derived.Test.YtilblajffdkccaaGreatDoorAl
open Option renaming some->J,none->Z
open Bool renaming true->V,false->C
open Bool renaming noConfusion->mK
open Go renaming TypeId->al,Value->aB,Oper->aC,Operand->aH,Program->aM,World->aT,Code->bz,FuncId->bS,Frame->cZ,lone->eT,IntKind->gZ,MapEntry->kZ
open Go.Builtin renaming zeroCells->nR,firstCells->oE,append_->s8,copy_->zF
open Go.Lib renaming compact->tb
open Go.Op renaming operands->eB,mapUpdate->rC
open Go.Proofs.Tryz renaming prog->eS
open Go.Region renaming binds->uq
open Go.stepG renaming exec->ug
open Int renaming ofNat->dI,sub->nS
open List renaming rec->kG,append->qA
open Nat renaming beq->aw,ble->bV,blt->cM,succ->eU,add->im,mul->jD
open SizeOf renaming sizeOf->kb
open UInt8 renaming toNat->nU
noncomputable section
set_option linter.all false
namespace Go.VM
open Go Go.AM Proofs.Tryz
set_option maxRecDepth 10000
variable{ax:AV}{H:Heap}{j D r s:Nat}{v:SV}{st' st1:St}{L:aA}{az:aD}{ow:aX}{dst:ah Tmp}{e:al}{f:bS}{fl:gS}
section
variable{K:aY}{O:bY}{ω:aG}{H:Heap}{g:GH}
theorem afk(a:HR K O ω H [] g)(h:dD PP K (λ_=>Z) cf.aq)(i:Nat)(x:aD×al)(b:gl[i]?=J x):∃r fl,H.get i=J (.cells x.1 r fl x.2)/\(H.bh r).1<=i:=a.di i x.1 x.2 (h.2 i x b)
theorem Q6{a:AV}(i:HR K O ω H [] g)(h:nj f az H=J (J (a,H)))(r:lF K O ω H v a):∃a c d e b,Ev PP nj f az H a c/\Nx K O ω H d e b c/\HR d e b c [] g/\lF d e b c v a:=⟨a,H,K,O,ω,.inl h,Nx.refl i,i,r⟩
theorem aEX{d b:an}(n:HR K O ω H [] g)(s:dD PP K (λ_=>Z) cf.aq)(o:pV K O ω H [.str d,.str b] ow az)(q:d.length<4294967281):∃x k l m j,Ev PP nj 315 az H x k/\Nx K O ω H l m j k/\HR l m j k [] g/\lF l m j k (.dv (match uO b 0 d with|some i=>goN i|none=>.int .i64 (-1)) .no) x:=by
 obtain⟨x,y,rfl,f,p⟩:=ab0 o;have f:x=.str d:=by cases ow with|no=>cases f;rfl|any=>obtain⟨h,_⟩:=f;simp at h|ty e=>cases f.1;rfl|full e=>cases f.1;rfl|ex e=>
   rcases f with⟨h,_⟩|⟨r,_,h⟩;.simp at h
   .obtain⟨t,L,id,D,c,cells,fl,k1,_⟩:=h.ex;simp at k1
 cases p;subst f;obtain⟨r,fl,k1,k2⟩:=afk n s 2 _ rfl;refine Q6 n (a:=Qj (B' b d 0)) ?_ ?_
 . show(bif E9 H 2&&cM (eL d) 4294967281 then J (J (Qj (B' b d 0),H))else J Z)=_;have:E9 H 2=V:=by unfold E9;simp only[k1];rw[du];exact lS k2
   rw[this,fB,ef,lS q];rfl
 .rw[idx_eq];cases B' b d 0 with|none=>exact .int _ _|some i=>exact .int _ _
theorem pv6(h:HR K O ω H [] g)(j:dD PP K (λ_=>Z) cf.aq)(f:pV K O ω H [] ow az):∃x c d e b,Ev PP nj 6 az H x c/\Nx K O ω H d e b c/\HR d e b c [] g/\lF d e b c (.dv (.bool V) .no) x:=by have i:az=[]:=List.length_eq_zero_iff.1 f.1.symm;subst i;refine Q6 h (a:=.bool V) ?_ (.bool _);show J (Cx 6 E0 [] H wo)=_;rw[amw (afk h j)]
theorem aD0{f e b n:Nat}(I:0<s)(k:∀H,nj f [.bc,.int .i64 (.ofNat n)] H=bif bV (n*b) bF&&bV n bF then(bif aw n 0 then J (J (.bc,H))else J (J (.sl H.next 0 0 Z s,H.cO [] .op e)))else J Z)(q:HR K O ω H [] g)(E:pV K O ω H [.nl,.int .i64 (.ofNat n)] ow az)(m:E5 e s b [.nl,.int .i64 (.ofNat n)]=J v):∃x o t u l,Ev PP nj f az H x o/\Nx K O ω H t u l o/\HR t u l o [] g/\lF t u l o v x:=by obtain⟨x,y,rfl,F,G⟩:=ab0 E;obtain rfl:=QM F;cases G;have m:(bif bV (n*b) bF&&bV n bF then J (bif aw n 0 then SV.dv .nl .any else .dv (.ay [] e s) (.ex e))else Z)=J v:=m;have k:=k H;cases w:(bV (n*b) bF&&bV n bF)with|false=>rw[w]at m;simp at m|true=>rw[w]at m k;cases m;cases A:aw n 0 with|true=>rw[A]at k;exact Q6 q k ⟨rfl,rfl⟩|false=>
 rw[A]at k;have z:bM (dH ω) H (H.cO [] .op e):=lx H _ _;have D:(H.cO [] .op e).bh H.next=(0,H.next):=BS (H:=H) q.inv (bo _);refine⟨_,_,K,O,_,.inl k,⟨bl.refl _,q.gN z,aU.refl _,z,λB r c h=>?_,rfl,λ_ h=>.inl h,λ_ h=>.inl h⟩,QI (p:=.sl 0) (v:=J V) q trivial,.inr ⟨H.next,aG.nQ ..,[],s,H.next,0,Z,[],.op,rfl,rfl,mS H _,rfl,by rw[D];exact kH _,by rw[D],?_,.inl ⟨rfl,by rw[D],aO⟩⟩⟩
 . by_cases e:B=.sl 0;.subst e;rw[aG.nQ]at h;obtain⟨rfl,_⟩:=j9 (br h);exact .inr (bo _)
   .rw[aG.lA _ _ e]at h;exact .inl ⟨B,c,h⟩
 .exact⟨I,aO,λi x h=>by simp at h,λi x j d a h=>by simp at h⟩
theorem ag2:∀zs:bT,II (zs.map (AV.int .i64))=J zs|[]=>rfl|z::zs=>by show(II (zs.map (AV.int .i64))).map (λt=>z::t)=_;rw[ag2 zs];rfl
theorem ajy{f:bT->bT}{i:Nat}{c:aD}(g:H.get i=J (.cells c r fl e))(w:fl.wr=V)(h:(H.bh r).1<=i)(b:(H.bh r).2=i)(j:ij K O L 1 D c)(k:L.all uQ=V)(a:0<L.length)(n:L.length<1000000000)(d:(f (L.map oC)).length=L.length):rowP f H i D L.length=J (L.map oC,H.dG i r (.cells (gG c D ((f (L.map oC)).map (AV.int .i64))) r fl e)):=by unfold rowP;have l:=j.load g h;rw[j.ints k,Nat.mul_one]at l;rw[fB,fB,lS a,lS n,l];simp only[zC,aL,cU,ag2];rw[aJS g w h b (by rw[d];have:=j.2.1;omega)];rfl
theorem I0{t x:Nat}{l:an}(h:x∈Heap.note t r l):x∈l\/(x=r/\r<t):=(vZ h).imp_right λ⟨a,b⟩=>⟨a,a▸b⟩
theorem ayT{i:Nat}{m m':aD}(a:HR K O ω H [] g)(h:H.get i=J (.cells m r fl e))(b:(H.bh r).2=i):bM (λx=>x=r) H (H.dG i r (.cells m' r fl e))/\ba (H.dG i r (.cells m' r fl e))/\po (H.dG i r (.cells m' r fl e))/\(H.dG i r (.cells m' r fl e)).bn=H.bn/\(∀x,x∈(H.dG i r (.cells m' r fl e)).bK->x∈H.bK\/(x=r/\r<H.bn))/\∀x,x∈(H.dG i r (.cells m' r fl e)).cK->x∈H.cK\/(x=r/\r<H.bn):=by refine⟨Ck h,Rb a.inv h b,JJ a.iJ h,Ea ..,λx c=>?_,λx c=>by grind[BW]⟩;simp_all[zq,I0]
theorem aoh{l:bT}(h:0<l.length):0<(tb l).length:=by
 rcases l with _|⟨x,l⟩;.grind
 have:x∈tb (x::l):=(ade (x::l) x).2 (eQ ..);grind
theorem aEW(m:HR K O ω H [] g)(s:pV K O ω H [.ay L 3 1] ow az)(y:v8 ow=V)(v:L.all uQ=V)(t:0<L.length)(w:L.length<1000000000):∃x f d j b,Ev PP nj 248 az H x f/\Nx K O ω H d j b f/\HR d j b f [] g/\lF d j b f (.dv (rV (yf L) 3 1) .no) x:=by
 obtain⟨a,rfl,u⟩:=abZ s;obtain⟨r,id,D,c,cells,fl,I,rfl,n,M,p,o,q,N⟩:=W0 u y;have i:=ac4 (L.map oC);rw[dU]at i;have z:(CT (L.map oC)).length=L.length:=by grind[CT]
 have hr:=ajy n M p o q v t w z;obtain⟨k1,k2,k3,k4,k5,k6⟩:=ayT (m':=gG cells D ((CT (L.map oC)).map (AV.int .i64))) m n o;have P:nj 248 [.sl id D L.length c 1] H=J (J (.sl id D (tb (L.map oC)).length c 1,H.dG id r (.cells (gG cells D ((CT (L.map oC)).map (AV.int .i64))) r fl 3))):=by show J ((rowP CT H id D L.length).map λr=>(AV.sl id D (tb r.1).length c 1,r.2))=_;grind
 have B:=adz (K:=K) (O:=O) (zs:=tb (L.map oC)) (ys:=List.replicate ((L.map oC).length-(tb (L.map oC)).length) 0) (D:=D) (A:=cells) (by have:=q.2.1;grind);obtain⟨d,b,E,F,G⟩:=consume (l:=yf L) (c:=c) m I k1 k2 k3 k4 k5 k6 (oO ..) (Lb p o).1 B (λk R=>by unfold yf;rw[dU];rcases N with⟨h,_⟩|h<;>grind);refine⟨_,_,d,O,b,.inl P,E,F,?_⟩;have e:(yf L).length=(tb (L.map oC)).length:=by simp[yf]
 rw[e]at G;have S:rV (yf L) 3 1=.ay (yf L) 3 1:=by
  have:=aoh (l:=L.map oC) aj;rcases Q:yf L with _|_;.grind
  rfl
 grind
theorem ij.cut{l:aA}{e:Nat}{c:aD}(h:ij K O l e D c):ij K O l e 0 ((c.drop D).take (l.length*e))/\((c.drop D).take (l.length*e)).length=l.length*e:=by obtain⟨b,k,f,m⟩:=h;have g:((c.drop D).take (l.length*e)).length=l.length*e:=aj;refine⟨⟨b,ae,f,λi x j d a o hd n=>?_⟩,g⟩;grind
theorem ayS{i:Nat}{m m':aD}(h:HR K O ω H [] g)(b:H.get i=J (.cells m r fl e)):bM (λx=>x=r) H (H.hQ r (H.bh r).1 V m' e)/\ba (H.hQ r (H.bh r).1 V m' e)/\po (H.hQ r (H.bh r).1 V m' e)/\(H.hQ r (H.bh r).1 V m' e).bn=H.bn/\(∀x,x∈(H.hQ r (H.bh r).1 V m' e).bK->x∈H.bK\/(x=r/\r<H.bn))/\∀x,x∈(H.hQ r (H.bh r).1 V m' e).cK->x∈H.cK\/(x=r/\r<H.bn):=⟨UZ ..,afm h.inv b _ _,akv h.inv h.iJ b _ _,rfl,λx a=>I0 a,λx a=>I0 a⟩
theorem aEY{y:DV}(i:HR K O ω H [] g)(t:pV K O ω H [.ay L 32 14,.int .i64 (.ofNat 0),.ay [y] 32 14] ow az)(A:v8 ow=V)(hn:L.length<1000000000):∃x f e n d,Ev PP nj 440 az H x f/\Nx K O ω H e n d f/\HR e n d f [] g/\lF e n d f (.dv (.ay (y::L) 32 14) .no) x:=by obtain⟨a,b,T,rfl,u,w,z⟩:=ab1 t;obtain⟨r,id,D,c,cells,fl,o,rfl,p,o4,P,o6,q,Q⟩:=W0 u A;cases w;cases z with|ay _ _ _ m j W G k1 k2 k3 k4 k5 k6=>
 obtain⟨rv,s,B,E⟩:=i.di m G 32 k1;have v:ij K O [y] 14 j G:=⟨k2,k3,k5,k6⟩;have l1:=v.load B E;have l2:=q.load p P;obtain⟨e1,e2⟩:=q.cut;obtain⟨e3,e4⟩:=v.append e1 ae;have U:rootOf H m≠r:=i.clean _ _ _ _ o k1;have M:Mc id D L.length c m j H=J (.sl H.next 0 (L.length+1) Z 14,H.hQ r (H.bh r).1 V ((G.drop j).take ([y].length*14)++(cells.drop D).take (L.length*14)) 32):=by
  unfold Mc;have X:CS L.length (eL cells) (D+L.length*14) c=V:=by rcases Q with⟨rfl,_,h⟩|rfl<;>simp_all[CS,ef]
  grind[du,bN,fB]
 obtain⟨R,S,q3,q4,q5,q6⟩:=ayS (m':=(G.drop j).take ([y].length*14)++(cells.drop D).take (L.length*14)) i p;obtain⟨e,d,F,I,N⟩:=consume (l:=y::L) (c:=Z) i o R S q3 q4 q5 q6 (yn ..) (by simp[An]) e3 (λk Y=>aj);refine⟨_,_,e,O,d,.inl ?_,F,I,N⟩;show J (Mc id D L.length c m j H)=_;grind
def KB(n k:Nat):ah Nat->ah Nat|none=>Z|some _=>J (n-k)
theorem aHK{d n i:Nat}{c:ah Nat}{e:aD}(q:H.cellsOf d=J e)(h:D+n*14<=e.length)(a:c=Z\/c=J n)(b:i<=j)(f:j<=n)(g:n<=bF):AM.pQ PP H 25 (.sl d D n c 14) (J (.int .i64 (.ofNat i))) (J (.int .i64 (.ofNat j))) (J (.int .i64 (.ofNat n)))=J (.sl d (D+i*14) (j-i) (J (n-i)) 14):=by
 unfold AM.pQ AM.sliceB;rcases a with rfl|rfl;.simp only[underlying25,wx,cU,bN,eu,aL,fc,mN,du,b,f,g,q,ef,show im D (jD n 14)<=e.length from h,zC];rfl
 simp_all[wx,fc,mN,du]
theorem aHL{d n i:Nat}{c:ah Nat}(h:c=Z\/c=J n)(a:i<=n)(b:n<=bF):AM.pQ PP H 25 (.sl d D n c 14) Z (J (.int .i64 (.ofNat i))) Z=J (.sl d D i c 14):=by
 unfold AM.pQ AM.sliceB;rcases h with rfl|rfl;.simp only[underlying25,wx,cU,bN,eu,aL,fc,mN,du,a,show i<=bF by omega,kH];grind
 simp_all[wx,fc,mN,du]
theorem aHM{i n:Nat}{c:ah Nat}(a:c=Z\/c=J n)(h:j<=n):AM.pQ PP H 25 (.sl i D n c 14) (J (.int .i64 (.ofNat j))) Z Z=J (.sl i (D+j*14) (n-j) (KB n j c) 14):=by
 unfold AM.pQ AM.sliceB;rcases a with rfl|rfl;.simp only[underlying25,wx,cU,bN,eu,aL,fc,mN,du,h,bo];rfl
 .simp only[underlying25,wx,cU,bN,eu,aL,fc,mN,du,h,bo,zC];rfl
theorem aHN{i n m:Nat}{c:ah Nat}{e:aD}(q:H.cellsOf i=J e)(b:D+n*14<=e.length)(a:c=Z\/c=J n)(h:m<n)(d:n<=bF):AM.pQ PP H 25 (.sl i D m c 14) (J (.int .i64 (.ofNat m))) (J (.int .i64 (.ofNat n))) Z=J (.sl i (D+m*14) (n-m) (KB n m c) 14):=by
 unfold AM.pQ AM.sliceB;rcases a with rfl|rfl;.simp only[underlying25,wx,cU,bN,eu,aL,fc,mN,du,d,Nat.le_of_lt h,show¬n<=m by omega,mO,bg,q,ef,show im D (jD n 14)<=e.length from b];rfl
 .simp only[underlying25,wx,cU,bN,eu,aL,fc,mN,du,Nat.le_of_lt h,bo,zC];rfl
theorem ayR{c d:Heap}(a:bM (λx=>x=r) H c)(b:bM (λx=>x=r) c d):bM (λx=>x=r) H d where
 next:=gv a.next b.next
 get:=λid h n=>(b.get id (fj h a.next) (by rw[a.root id h];exact n)).trans (a.get id h n)
 dh:=λx h n=>(b.dh x (fj h a.next) n).trans (a.dh x h n)
 root:=λid h=>(b.root id (fj h a.next)).trans (a.root id h)
theorem aoU{i:Nat}{c z:aD}(h:ij K O L 14 D c)(r:i<j)(s:j<=L.length)(u:z.length=(L.length-(i+(L.length-j)))*14):(gG c (D+i*14) ((c.drop (D+j*14)).take ((L.length-j)*14))).length=c.length/\(gG (gG c (D+i*14) ((c.drop (D+j*14)).take ((L.length-j)*14))) (D+(i+(L.length-j))*14) z).length=c.length/\ij K O (L.take i++L.drop j) 14 D (gG (gG c (D+i*14) ((c.drop (D+j*14)).take ((L.length-j)*14))) (D+(i+(L.length-j))*14) z):=by
 obtain⟨_,o,p,m⟩:=h;have B:((c.drop (D+j*14)).take ((L.length-j)*14)).length=(L.length-j)*14:=aj;generalize v:(c.drop (D+j*14)).take ((L.length-j)*14)=y at*;have e:D+i*14+y.length<=c.length:=ae;have l1:=Bf c (D+i*14) y e;have f:D+(i+(L.length-j))*14+z.length<=(gG c (D+i*14) y).length:=ae;have l2:=Bf (gG c (D+i*14) y) (D+(i+(L.length-j))*14) z f;have l:(L.take i++L.drop j).length=i+(L.length-j):=aj;refine⟨l1,l2.trans l1,ae,ae,λk x b=>?_,λk x q d a b hd g=>?_⟩;.grind
 . have n:=(List.getElem?_eq_some_iff.1 b).1;rw[l]at n;have I:(L.take i).length=i:=aj;by_cases P:k<i;.grind[Cu]
   .rw[oG ae,I,zO]at b;have t:q<14:=aj;rw[Cu _ _ _ f,if_neg ae,Cu _ _ _ e,if_pos ae,<-v,Ew ae,zO]at g;exact m _ x q d a b hd (by rw[<-g];congr 1;omega)
theorem aFP{n:Nat}{z:aD}:(kU n z).length=n*z.length:=Jh n z
theorem aEZ{i:Nat}(e:HR K O ω H [] g)(fo:pV K O ω H [.ay L 32 14,.int .i64 (.ofNat i),.int .i64 (.ofNat j)] ow az)(f:v8 ow=V)(hn:L.length<1000000000)(A:i<j)(B:j<=L.length):∃x v m X d,Ev PP nj 442 az H x v/\Nx K O ω H m X d v/\HR m X d v [] g/\lF m X d v (.dv (.ay (L.take i++L.drop j) 32 14) .no) x:=by
 obtain⟨a,b,c',rfl,h1,h2,h3⟩:=ab1 fo;obtain⟨r,id,D,c,cells,fl,o1,rfl,o3,o4,o5,o6,o7,o8⟩:=W0 h1 f;cases h2;cases h3;have S:L.length<=bF:=by grind[bF]
 have w:c=Z\/c=J L.length:=o8.imp (λh=>h.1) (λh=>h);have oo:∀n,(kU n [AV.int .i64 0,.bc,.int .i64 0,.int .i64 0,.int .i64 0,.int .i64 0,.int .i64 0,.bc,.int .i64 0,.int .i64 0,.int .i64 0,.int .i64 0,.int .i64 0,.str []]).length=n*14:=λn=>aFP;generalize Q:kU (L.length-(i+(L.length-j))) [AV.int .i64 0,.bc,.int .i64 0,.int .i64 0,.int .i64 0,.int .i64 0,.int .i64 0,.bc,.int .i64 0,.int .i64 0,.int .i64 0,.int .i64 0,.int .i64 0,.str []]=T at*;have VU:T.length=(L.length-(i+(L.length-j)))*14:=aj;obtain⟨d1,d2,d3⟩:=aoU o7 A B VU;have Aw:=o7.2.1;generalize BZ:(cells.drop (D+j*14)).take ((L.length-j)*14)=y at*;have aMK:y.length=(L.length-j)*14:=aj;have G:L.length-(i+(L.length-j))≠0:=ae;have W:H.fresh.get id=J (.cells cells r fl 32):=o3;have u:(H.fresh.bh r).1<=id:=o5;have N:(H.fresh.bh r).2=id:=o6;have E:H.cellsOf id=J cells:=by grind[Heap.cellsOf,du]
 have hy:qK H.fresh 14 (L.length-j) (.sl id (D+j*14) (L.length-j) (KB L.length j c) 14)=J y:=by grind[qK,bN,List.length_eq_zero_iff,Heap.load,Heap.cellsOf,du,ef,qx,qI]
 obtain⟨q,ha,VG,hq2,Y,t,o,P,I⟩:∃q,nz H.fresh 32 14 152 (.sl id D i c 14) y (L.length-j)=J (.sl id D (i+(L.length-j)) c 14,q)/\q.cK=[]/\(∀x,x∈q.bK->x=r)/\q.get id=J (.cells (gG cells (D+i*14) y) r fl 32)/\((q.bh r).1<=id/\(q.bh r).2=id)/\bM (λx=>x=r) H q/\ba q/\po q:=by
  have p:ba H.fresh:=⟨e.inv.get,e.inv.root,e.inv.oy,e.inv.dh,bo _⟩;have lV:(i+(L.length-j))*152<=bF:=by grind[bF]
  have iR:i+(L.length-j)<=bF:=ae;by_cases h0:L.length-j=0;.have aMJ:y=[]:=List.length_eq_zero_iff.1 ae;refine⟨H.fresh,?_,rfl,λx h=>absurd h (gT),?_,⟨u,N⟩,⟨bo _,λ_ _ _=>rfl,λ_ _ _=>rfl,λ_ _=>rfl⟩,p,e.iJ⟩<;>simp_all[abP,D3]
  . have bG:H.fresh.store id (D+i*14) y=J (H.fresh.dG id r (.cells (gG cells (D+i*14) y) r fl 32)):=by grind[Heap.store,du,bN,ef]
    refine⟨H.fresh.dG id r (.cells (gG cells (D+i*14) y) r fl 32),?_,BW ..,λx h=>?_,oO ..,Lb u N,(λk=>⟨k.next,k.get,k.dh,k.root⟩:bM (λx=>x=r) H.fresh (H.fresh.dG id r (.cells (gG cells (D+i*14) y) r fl 32))->bM (λx=>x=r) H (H.fresh.dG id r (.cells (gG cells (D+i*14) y) r fl 32))) (Ck W),Rb p W N,JJ (H:=H.fresh) e.iJ W⟩;.grind[nz,bN,du,ef]
    . rw[zq]at h;rcases I0 h with h|h;.exact absurd h (gT)
      omega
 have M:(H.resume q).cellsOf id=J (gG cells (D+i*14) y):=by have h1:(H.resume q).get id=J (.cells (gG cells (D+i*14) y) r fl 32):=Y;have h2:((H.resume q).bh r).1<=id:=t.1;grind[Heap.cellsOf,du]
 have U:(H.resume q).get id=J (.cells (gG cells (D+i*14) y) r fl 32):=Y;have z:((H.resume q).bh r).1<=id/\((H.resume q).bh r).2=id:=t;have h6:(H.resume q).store id (D+(i+(L.length-j))*14) T=J ((H.resume q).dG id r (.cells (gG (gG cells (D+i*14) y) (D+(i+(L.length-j))*14) T) r fl 32)):=by grind[Heap.store,du,bN,ef]
 have uI:=aoT nj H q _ id D L.length i j c c (KB L.length j c) (KB L.length (i+(L.length-j)) c) _ y _ akU rfl (by rfl) A (by rfl) (aHK E Aw w (Nat.le_of_lt A) B S) (λH=>aHL w ae S) (λH=>aHM w B) (aHN M ae w ae S) hy ha VG G (by rw[Q];omega);have R:ba (H.resume q):=⟨P.get,P.root,P.oy,P.dh,gv e.inv.bn o.next⟩;have F:bM (λx=>x=r) H (H.resume q):=⟨o.next,o.get,o.dh,o.root⟩;have s:(L.take i++L.drop j).length=i+(L.length-j):=aj;obtain⟨m,d,n1,n2,n3⟩:=consume (c:=c) e o1 (ayR F (Ck U)) (Rb R U z.2) (JJ (H:=H.resume q) I U) (Ea ..) (λx f=>by
  rw[zq]at f;rcases I0 f with h|h;.rcases(QQ _ _).1 (show x∈fV (λl r=>Heap.note H.bn r l) q.bK H.bK from h)with h|⟨h,k⟩<;>grind
  .exact .inr h) (λx f=>by rw[BW]at f;rcases(QQ _ _).1 (show x∈fV (λl r=>Heap.note H.bn r l) q.cK H.cK from f)with h|⟨h,_⟩<;>grind) (oO ..) (Lb z.1 z.2).1 d3 (λk hk=>by grind);rw[s]at n3;exact⟨_,_,m,O,d,uI.ev,n1,n2,n3⟩
end
theorem NC{n:Nat}(h:su n=V):n<1000000000:=by unfold su at h;rw[fB,mw]at h;exact h
theorem cnF{b:Bool}{x:ah SV}(h:(bif b then J x else J Z)=Z):False:=by cases b<;>cases h
theorem aEt{a:aA}(h:cf.ko f a=Z):f≠315/\f≠6/\f≠370/\f≠443/\f≠476/\f≠247/\f≠248/\f≠440/\f≠442:=by refine⟨?_,?_,?_,?_,?_,?_,?_,?_,?_⟩<;>(rintro rfl;dsimp only[cf]at h;simp only[aw,aL,bg]at h);all_goals first|(cases h;done)|(split at h<;>first|(cases h;done)|exact cnF h)
theorem aEr(h:f≠315/\f≠6/\f≠370/\f≠443/\f≠476/\f≠247/\f≠248/\f≠440/\f≠442):nj f az H=Z:=by obtain⟨a,b,c,d,e,g,i,j,k⟩:=h;unfold nj Q2 Q5 Q4 Ja gX Q3;simp only[bN,a,b,c,d,e,g,i,j,mO,bg]
theorem hN:∀f args az H,cf.ko f args=Z->nj f az H=Z:=λ_ _ _ _ h=>aEr (aEt h)
theorem cS{b:Bool}{x:SV}(h:(bif b then J (J x)else J Z)=J (J v)):b=V/\x=v:=by cases b<;>simp at h|-;exact h
theorem aEs:N7 PP nj cf:=by
 intro f args v h ow d g K w y H az i p o;by_cases f1:f=315
 . subst f1;dsimp only[cf]at h;simp only[aw,aL,bg]at h;split at h;.obtain⟨c,rfl⟩:=cS h;rw[fB,mw]at c;exact aEX i p o c
   .cases h
 by_cases f2:f=6
 . subst f2;dsimp only[cf]at h;simp only[aw,aL,bg]at h;split at h;.obtain rfl:=br (br h);exact pv6 i p o
   .cases h
 have gr:∀{e s b:Nat},0<s->(∀n H,nj f [.bc,.int .i64 (.ofNat n)] H=bif bV (n*b) bF&&bV n bF then(bif aw n 0 then J (J (.bc,H))else J (J (.sl H.next 0 0 Z s,H.cO [] .op e)))else J Z)->J (E5 e s b args)=J (J v)->∃x k l m j,Ev PP nj f az H x k/\Nx K w y H l m j k/\HR l m j k [] g/\lF l m j k v x:=by
   intro e s b u t h;have h:=br h;have q:=h;unfold E5 at h;split at h;.exact aD0 u (t _) i o q
   .cases h
 by_cases f3:f=370;.subst f3;dsimp only[cf]at h;simp only[aw,aL,bg]at h;exact gr gD (λn H=>rfl) h
 by_cases f4:f=443;.subst f4;dsimp only[cf]at h;simp only[aw,aL,bg]at h;exact gr gD (λn H=>rfl) h
 by_cases f5:f=476;.subst f5;dsimp only[cf]at h;simp only[aw,aL,bg]at h;exact gr gD (λn H=>rfl) h
 by_cases f6:f=247;.subst f6;dsimp only[cf]at h;simp only[aw,aL,bg]at h;cases h
 by_cases f7:f=248
 . subst f7;have d:=d aI;dsimp only[cf]at h;simp only[aw,aL,bg]at h;split at h;.obtain rfl:=br (br h);obtain⟨z,rfl,r⟩:=abZ o;obtain rfl:=QM r;exact Q6 i (a:=.bc) rfl .nl
   .obtain⟨c,rfl⟩:=cS h;rw[iC]at c;exact aEW i o d c.1 aO (NC c.2)
   .cases h
 by_cases f8:f=440
 . subst f8;have d:=d aI;dsimp only[cf]at h;simp only[aw,aL,bg]at h;split at h;.obtain⟨c,rfl⟩:=cS h;exact aEY i o d (NC c)
   .cases h
 by_cases f9:f=442
 . subst f9;have d:=d aI;dsimp only[cf]at h;simp only[aw,aL,bg]at h;split at h;.obtain⟨c,rfl⟩:=cS h;rw[iC,iC,fB,du,mw,mw]at c;exact aEZ i o d (NC c.1) c.2.1 c.2.2
   .cases h
 .exfalso;dsimp only[cf]at h;simp only[bN,f1,f2,f3,f4,f5,f6,f7,f8,f9,mO,bg]at h;cases h
section
variable{K:aY}{O:bY}{ω:aG}{H H':Heap}{g:GH}{M:St}{tm:Tr AV}
theorem ajX{d:DV}{o:aX}{c:cT}(h:ch K O ω H tm (put (cV c) s (.dv d o))):ch K O ω H tm (cV (put (iG c s) s (.dv d o))):=by
 intro t v l;have p:=h t;unfold cV at l p;rw[qT,mC]at l;rw[mC,qT]at p;by_cases e:t=s;.rw[if_pos e]at l p;cases l;exact p _ rfl
 . rw[if_neg e]at l p;unfold iG at l;rw[qT]at l;rcases f:look c t with _|A;.grind
   rw[f]at l p;cases l;obtain⟨a,b,g,j⟩:=p _ rfl;cases A with
   |sr x=>show∃a,tm.get t=J a/\(pI (bif aw x s then .dd else .sr x)≠.dd->a≠.top)/\mL K O ω H tm t (pI (bif aw x s then .dd else .sr x)) a;cases aw x s with|true=>exact⟨a,b,λh=>absurd rfl h,trivial⟩|false=>grind
   |se x i D=>show∃a,tm.get t=J a/\(pI (bif aw x s then .dd else .se x i D)≠.dd->a≠.top)/\mL K O ω H tm t (pI (bif aw x s then .dd else .se x i D)) a;cases aw x s with|true=>exact⟨a,b,λh=>absurd rfl h,trivial⟩|false=>grind
   |_=>exact⟨a,b,g,j⟩
theorem aHZ{s:cT}(i:ba H)(h:ch K O ω H tm s):ch K O ω H tm (cV s):=Ct (S:=λ_=>False) i h (bM.refl _ _) (bl.refl _) (aU.refl _) (λ_ _ _ _ h=>⟨h,id⟩) (λ_ _ _ h=>h)
theorem ajZ{a:AV}(p:HR K O ω H M.lb M.g)(o:BA K O H r (.ay L 3 1) a e)(i:L.all uQ=V)(d:0<L.length)(n:L.length<1000000000):∃id cells fl D c m,a=.sl id D L.length c 1/\e=3/\H.get id=J (.cells cells r fl 3)/\(H.bh r).2=id/\nj 247 [a] H=J (J (.cw [],H.dG id r (.cells m r fl 3)))/\BA K O (H.dG id r (.cells m r fl 3)) r (rV (mg L) 3 1) a 3:=by
 obtain⟨q,s,id,D,c,cells,fl,k1,k2,k3,k4,k5,k6,k7,k8⟩:=o.ex;obtain⟨rfl,rfl,rfl⟩:=DV.ay.inj k1;subst k2;have z:(Gy (L.map oC)).length=L.length:=by simp[Gy]
 have hr:=ajy k3 k4 k5 k6 k7 i d n z;have w:D+(Gy (L.map oC)++[]).length<=cells.length:=by rw[fy,z];have:=k7.2.1;omega
 have j:=adz (K:=K) (O:=O) (zs:=Gy (L.map oC)) (ys:=[]) (D:=D) (A:=cells) w;rw[fy]at j w;have h:(mg L).length=L.length:=by simp[mg]
 have f:rV (mg L) 3 1=.ay (mg L) 3 1:=by
   rcases l:mg L with _|_;.grind
   rfl
 obtain⟨f1,f2⟩:=Lb (ob:=.cells (gG cells D ((Gy (L.map oC)).map (AV.int .i64))) r fl 3) k5 k6;refine⟨id,cells,fl,D,c,_,rfl,rfl,k3,k6,?_,⟨mg L,1,id,D,c,_,fl,f,aj,oO ..,k4,f1,f2,j,?_⟩⟩;.show J ((rowP Gy H id D L.length).map λr=>(AV.cw [],r.2))=_;grind
 . rw[h];rcases k8 with⟨b,g,k⟩|b;.exact .inl ⟨b,f2,by grind[Bf]⟩
   .exact .inr b
theorem ahw{i:Nat}{o:bQ}(h:dH ω r):rz ω H (H.dG i r o):=⟨Ea ..,λx c=>by rw[zq]at c;exact(I0 c).imp_right λ⟨a,b⟩=>a▸⟨b,h⟩,λx c=>by grind[BW]⟩
def Sv(K:aY)(g:bY)(h:aG)(H:Heap)(e s:St)(m:Tr AV)(x:AV)(d:ah Tmp)(t:St):Prop:=∃a H' c f b,Ev PP nj 247 [x] H a H'/\Nx K g h H c f b H'/\Ok c f b H' t (iz m d a)/\s.n=e.n/\s.fn=e.fn
theorem Ql(d:HR K O ω H M.lb M.g)(u:nj 247 [ax] H=J (J (.cw [],H')))(n:Nx K O ω H K O ω H')(g:HR K O ω H' st1.lb st1.g)(k:ch K O ω H' tm (cV st1.sl))(h:aJ {st1 with sl:=cV st1.sl} dst (.tp [])=J st')(e:st1.n=M.n)(c:st1.fn=M.fn):Sv K O ω H M st1 tm ax dst st':=by obtain⟨b,i,a,f,ok⟩:=(Km (M:={st1 with sl:=cV st1.sl}) g k h).nx (rz.refl _ _);exact⟨.cw [],H',b,i,a,.inl u,n.trans d.inv f,ok,e,c⟩
theorem axX{d:DV}{r:DV×SV}(o:Ok K O ω H M tm)(t:look M.sl s=J (.dv d (.ex e)))(B:tm.get s=J ax)(f:cf.qh 247 d []=J r)(G:st1={M with sl:=put (iG M.sl s) s (IJ r.1 e)})(h:aJ {st1 with sl:=cV st1.sl} dst r.2=J st'):Sv K O ω H M st1 tm ax dst st':=by
 obtain⟨w,g1,g2,g3⟩:=o.sl s _ t;rw[B]at g1;cases g1;have y:=g2 aO;subst G;dsimp only[cf]at f;simp only[aw,aL]at f;split at f;.cases f;obtain rfl:=QM (show cJ K O ω H (.sl s) .nl ax (.ex e)from g3);refine Ql (H':=H) o.hr rfl (Nx.refl o.hr) o.hr (ajX ?_) h rfl rfl;exact Z7 (S:=λ_=>False) o.hr.inv o.sl (bM.refl _ _) (bl.refl _) (aU.refl _) (λ_ _ _ _ _ _ h=>⟨h,id⟩) (λ_ _ _ h=>h) B (λ_=>y) (.inl ⟨rfl,rfl⟩)
 . rename_i x l _;rcases i:((x::l).all uQ&&su (x::l).length)with _|_;.grind
   rw[i]at f;cases f;rw[iC]at i;rcases g3 with⟨z,_⟩|⟨r,g,v⟩;.grind
   . obtain⟨id,cells,fl,D,c,u,rfl,rfl,k3,k4,k5,k6⟩:=ajZ o.hr v i.1 aO (NC i.2);have k:=Ck (m':=u) (fl':=fl) (e':=3) k3;have Q:∀p a b,p≠.sl s->ω p=J (a,b)->a≠r:=λp a b n j e=>n (o.hr.inj _ _ _ _ _ (e▸j) g);have q:IJ (rV (mg (x::l)) 3 1) 3=.dv (rV (mg (x::l)) 3 1) (.ex 3):=by cases mg (x::l)<;>rfl
     refine Ql o.hr k5 ⟨bl.refl _,o.hr.gN k,aU.refl _,k.zo o.hr.inv λa _ e=>⟨.sl s,V,e▸g⟩,λp a b h=>.inl ⟨p,b,h⟩,ahw ⟨.sl s,V,g⟩⟩ (o.hr.ai5 g trivial k3 k4) ?_ h rfl rfl;show ch K O ω _ tm (cV (put (iG M.sl s) s (IJ (rV (mg (x::l)) 3 1) 3)));rw[q];refine ajX (Z7 (S:=λx=>x=r) o.hr.inv o.sl k (bl.refl _) (aU.refl _) (λp a b _ _ j m=>⟨m,Q p a b j m⟩) (λ_ _ _ h=>h) B (λ_=>y) (.inr ⟨r,g,k6⟩))
 grind
theorem axW{v:Nat}{b:LB}{d:DV}{r:DV×SV}(o:Ok K O ω H M tm)(hb:M.g.get v=J (.box b))(hd:b.cells[D]?=J d)(jf:fg b D=.ex e)(BY:∃i m root fl e,O v=J i/\H.get i=J (.cells m root fl e)/\m[D]?=J ax)(w:cf.qh 247 d []=J r)(bG:st1={M with g:=M.g.set v (.box {cells:=jo b.cells D r.1,own:=(match r.1 with|.jk=>dB b.own D 1|_=>b.own)})})(h:aJ {st1 with sl:=cV st1.sl} dst r.2=J st'):Sv K O ω H M st1 tm ax dst st':=by
 have uC:M.at (.g v)=J b:=by grind[St.at]
 obtain⟨i,t1,t2,t3⟩:=o.hr.at uC;obtain⟨i',m0,aOd,rM,e0,q1,q2,q3⟩:=BY;rw[t3 v rfl]at q1;cases q1;obtain⟨m,fl,eb,F,w2,w3,w4,w5,w6⟩:=t2;rw[F]at q2;obtain⟨rfl,_,_,_⟩:=bQ.cells.inj (br q2);obtain⟨jg,U⟩:=w6 D d ax hd q3;rw[jf]at U;have Ir:D<b.cells.length:=(List.getElem?_eq_some_iff.1 hd).1;have yC:d≠.nl:=λe=>by grind[fg]
 subst bG;dsimp only[cf]at w;simp only[aw,aL]at w;split at w;.grind
 . rename_i a l _;rcases P:((a::l).all uQ&&su (a::l).length)with _|_;.grind
   rw[P]at w;cases w;rw[iC]at P;rcases U with⟨h0,_⟩|⟨r,E,o2⟩;.grind
   . obtain⟨id,cells,G,aCh,c,N,rfl,rfl,k3,k4,k5,k6⟩:=ajZ o.hr o2 P.1 aO (NC P.2);have k:=Ck (m':=N) (fl':=G) (e':=3) k3;have Q:∀p f b,p≠.gc v D->ω p=J (f,b)->f≠r:=λp f b W X e=>W (o.hr.inj _ _ _ _ _ (e▸X) E);obtain⟨p1,p2,p3,p4,p5⟩:=Xf (m':=N) (fl':=G) (e':=3) o.hr E k3 k4 (src:=J) (λp q y W X=>aj);have s:(rV (mg (a::l)) 3 1).bj=V:=by cases mg (a::l)<;>rfl
     have L:(match rV (mg (a::l)) 3 1 with|.jk=>dB b.own D 1|_=>b.own)=b.own:=by cases mg (a::l)<;>rfl
     have hms:∃z t,rV (mg (a::l)) 3 1=.ay (z::t) 3 1:=by
      have:(mg (a::l)).length=(a::l).length:=by simp[mg]
      rcases hc:mg (a::l)with _|⟨z,t⟩;.grind
      exact⟨z,t,rfl⟩
     have hi:i≠r:=Q (.g v) i V aO t1;have lh:pW K O ω (H.dG id r (.cells N r G 3)) (.gc v) ⟨jo b.cells D (rV (mg (a::l)) 3 1),b.own⟩ i:=by
      refine⟨m,fl,eb,?_,w2,by rw[k.dh i (o.hr.inv.get _ _ F) hi];omega,by rw[k.dh i (o.hr.inv.get _ _ F) hi];omega,by grind[Nt],λB T R A I=>?_⟩;.rw[k.get i (o.hr.inv.get _ _ F) (by grind[mF])];omega
      . rw[RA Ir]at A;have u:fg ⟨jo b.cells D (rV (mg (a::l)) 3 1),b.own⟩ B=fg b B:=by grind[fg,RA]
        by_cases e:B=D;.subst e;rw[if_pos rfl]at A;cases A;rw[q3]at I;cases I;rw[u,jf];exact⟨s,.inr ⟨r,E,k6⟩⟩
        .rw[if_neg e]at A;obtain⟨s1,s2⟩:=w6 B T R A I;rw[u];exact⟨s1,s2.keep (S:=λa=>a=r) o.hr.inv k (bl.refl _) (aU.refl _) λf n j=>⟨j,Q _ f n (λy=>e (Pk.gc.inj y).2) j⟩⟩
     have gj:=o.hr.Jt (x:=.g v) (b':=⟨jo b.cells D (rV (mg (a::l)) 3 1),b.own⟩) uC t1 (bl.refl _) k p1 (JJ o.hr.iJ k3) p2 p3 p4 p5 (λ_=>rfl) (λ_=>rfl) (λy B T R ow' hy hp=>hp.keep (S:=λa=>a=r) o.hr.inv k (bl.refl _) (aU.refl _) λf n j=>⟨j,Q _ f n (λz=>by cases y<;>simp[Loc.pk]at z;grind) j⟩) (λp f n hp _ j=>Q p f n (λz=>aj) j) lh;refine Ql o.hr k5 ⟨bl.refl _,o.hr.gN k,aU.refl _,k.zo o.hr.inv λf _ e=>⟨.gc v D,V,e▸E⟩,λp f b h=>.inl ⟨p,b,h⟩,ahw ⟨.gc v D,V,E⟩⟩ ?_ ?_ h rfl rfl;.simp only[L];exact gj
     .exact Ct (S:=λa=>a=r) o.hr.inv o.sl k (bl.refl _) (aU.refl _) (λp f b jS Y=>⟨Y,Q p f b (λz=>by grind[Pk.slot]) Y⟩) (λ_ _ _ h=>h)
 grind
end
theorem axY:wG PP nj cf:=by
 intro st f x az st1 v h K w M H u y ok T O dst st' G;rw[agZ]at h;obtain⟨sv,X,h⟩:=aE h;obtain⟨ax,a1,a2,p⟩:=qV (P:=PP) (qb T) ok.sl X;have k:∀d r,cf.qh f d az=J r->f=247/\az=[]/\y=[]:=λd r h=>by
   dsimp only[cf]at h;rcases L:aw f 247 with _|_;.grind
   rw[bN,mw]at L;subst L;simp only[aw,aL]at h;have Q:az=[]:=aj;subst Q;exact⟨rfl,rfl,O.sT⟩
 have slot:∀s,u.get s=J ax->(look st.sl s).bind (FG cf st f az s)=J (st1,v)->∃ax a j l o c,AM.bu PP u x=J ax/\Ev PP nj f (ax::y) H a j/\Nx K w M H l o c j/\Ok l o c j st' (iz u dst a)/\st1.n=st.n/\st1.fn=st.fn:=λs W h=>by
   obtain⟨GD,U,h⟩:=aE h;unfold FG at h;split at h;.rename_i d e;obtain⟨r,hr,n⟩:=Option.map_eq_some_iff.1 h;obtain⟨rfl,rfl⟩:=j9 n;obtain⟨rfl,rfl,rfl⟩:=k _ _ hr;obtain⟨a,j,l,o,c,z,A,B,E,F⟩:=axX ok U W hr rfl G;grind
   grind
 unfold IF at h;split at h
 . obtain⟨r,hr,n⟩:=Option.map_eq_some_iff.1 h;obtain⟨rfl,rfl⟩:=j9 n;obtain⟨rfl,rfl,rfl⟩:=k _ _ hr;have Y:ax=.bc:=by
     rcases p with⟨t,_,_,_,g⟩|⟨_,⟨d,e,g⟩|⟨d,I,_,e1,e2,_⟩|⟨_,_,_,_,e,_⟩⟩;.exact QM (show cJ K w M H (.sl t) .nl ax _ from g)
     .obtain⟨rfl,_⟩:=SV.dv.inj e;cases g;rfl
     all_goals grind
   subst Y;dsimp only[cf]at hr;simp only[aw,aL]at hr;cases hr;obtain⟨a,j,l,o,c,z,A,B,E,F⟩:=Ql (ax:=.bc) (st1:=st) (H':=H) ok.hr (show nj 247 [.bc] H=J (J (.cw [],H))from rfl) (Nx.refl ok.hr) ok.hr (aHZ ok.hr.inv ok.sl) G rfl rfl;grind
 .grind
 . rename_i s;rcases p with⟨t,e,R,S,g⟩|⟨_,⟨d,e,_⟩|⟨d,I,_,e1,e2,_⟩|⟨_,_,_,_,e,_⟩⟩;.exact slot s g h
   all_goals grind
 . rename_i vx D;obtain⟨go,N,h⟩:=aE h;have q:∃i m root fl e,w vx=J i/\H.get i=J (.cells m root fl e)/\m[D]?=J ax:=by
     rcases p with⟨t,e,R,S,g⟩|⟨_,⟨d,e,_⟩|⟨d,I,_,e1,e2,_⟩|⟨_,_,_,_,e,_⟩⟩;.exact g
     all_goals grind
   unfold Qk at h;split at h
   . split at h;.rename_i b d e hd jf;obtain⟨r,hr,n⟩:=Option.map_eq_some_iff.1 h;obtain⟨rfl,rfl⟩:=j9 n;obtain⟨rfl,rfl,rfl⟩:=k _ _ hr;obtain⟨a,j,l,o,c,z,A,B,E,F⟩:=axW ok N hd jf q hr rfl G;grind
     grind
   grind
 grind
end Go.VM
