/- Proved: library functions, and a part of the fixed example. -/
import Derived.Test.YtlpehfnaibndgaaGreatDoorAk
open Option renaming some->J,none->Z
open Bool renaming true->V,false->C
open Go renaming TypeId->an,FuncId->bW
open Nat renaming beq->aw,ble->bt,mul->ft,add->im
noncomputable section
set_option linter.all false
namespace Go.VM
open Go Go.AM Proofs.Tryz
set_option maxRecDepth 10000
variable{ax:AV}{H:Heap}{j I r:Nat}{st' st1:St}{dst:ah Tmp}{e:an}{L:ao}
section
variable{K:aY}{Y:cm}{B:aJ}{H:Heap}{g:GH}
def Kp(n k:Nat):ah Nat->ah Nat|none=>Z|some _=>J (n-k)
theorem aJs{d n i:Nat}{c:ah Nat}{e:aI}(k:H.cellsOf d=J e)(h:I+n*14<=e.length)(a:c=Z\/c=J n)(b:i<=j)(f:j<=n)(g:n<=bm):AM.pR PP H 73 (.sl d I n c 14) (J (.int .i64 (.ofNat i))) (J (.int .i64 (.ofNat j))) (J (.int .i64 (.ofNat n)))=J (.sl d (I+i*14) (j-i) (J (n-i)) 14):=by
 unfold AM.pR AM.sliceB;rcases a with rfl|rfl;.simp only[underlying73,xl,cR,bR,eB,aR,eZ,mP,dj,b,f,g,k,dT,show im I (ft n 14)<=e.length from h,xx];rfl
 simp_all[xl,eZ,mP,dj]
theorem aJt{d n i:Nat}{c:ah Nat}(h:c=Z\/c=J n)(a:i<=n)(b:n<=bm):AM.pR PP H 73 (.sl d I n c 14) Z (J (.int .i64 (.ofNat i))) Z=J (.sl d I i c 14):=by
 unfold AM.pR AM.sliceB;rcases h with rfl|rfl;.simp only[underlying73,xl,cR,bR,eB,aR,eZ,mP,dj,a,show i<=bm by omega,mn];grind
 simp_all[xl,eZ,mP,dj]
theorem aJu{i n:Nat}{c:ah Nat}(a:c=Z\/c=J n)(h:j<=n):AM.pR PP H 73 (.sl i I n c 14) (J (.int .i64 (.ofNat j))) Z Z=J (.sl i (I+j*14) (n-j) (Kp n j c) 14):=by
 unfold AM.pR AM.sliceB;rcases a with rfl|rfl;.simp only[underlying73,xl,cR,bR,eB,aR,eZ,mP,dj,h,bS];rfl
 .simp only[underlying73,xl,cR,bR,eB,aR,eZ,mP,dj,h,bS,xx];rfl
theorem aJv{i n m:Nat}{c:ah Nat}{e:aI}(k:H.cellsOf i=J e)(b:I+n*14<=e.length)(a:c=Z\/c=J n)(h:m<n)(d:n<=bm):AM.pR PP H 73 (.sl i I m c 14) (J (.int .i64 (.ofNat m))) (J (.int .i64 (.ofNat n))) Z=J (.sl i (I+m*14) (n-m) (Kp n m c) 14):=by
 unfold AM.pR AM.sliceB;rcases a with rfl|rfl;.simp only[underlying73,xl,cR,bR,eB,aR,eZ,mP,dj,d,Nat.le_of_lt h,show¬n<=m by omega,lA,bX,k,dT,show im I (ft n 14)<=e.length from b];rfl
 .simp only[underlying73,xl,cR,bR,eB,aR,eZ,mP,dj,Nat.le_of_lt h,bS,xx];rfl
theorem ayN{c d:Heap}(a:bT (λx=>x=r) H c)(b:bT (λx=>x=r) c d):bT (λx=>x=r) H d where
 next:=gw a.next b.next
 get:=λid h n=>(b.get id (gx h a.next) (by rw[a.root id h];exact n)).trans (a.get id h n)
 dp:=λx h n=>(b.dp x (gx h a.next) n).trans (a.dp x h n)
 root:=λid h=>(b.root id (gx h a.next)).trans (a.root id h)
theorem aoK{i:Nat}{c z:aI}(h:gN K Y L 14 I c)(t:i<j)(u:j<=L.length)(A:z.length=(L.length-(i+(L.length-j)))*14):(fV c (I+i*14) ((c.drop (I+j*14)).take ((L.length-j)*14))).length=c.length/\(fV (fV c (I+i*14) ((c.drop (I+j*14)).take ((L.length-j)*14))) (I+(i+(L.length-j))*14) z).length=c.length/\gN K Y (L.take i++L.drop j) 14 I (fV (fV c (I+i*14) ((c.drop (I+j*14)).take ((L.length-j)*14))) (I+(i+(L.length-j))*14) z):=by
 obtain⟨_,r,s,n⟩:=h;have o:((c.drop (I+j*14)).take ((L.length-j)*14)).length=(L.length-j)*14:=ai;generalize v:(c.drop (I+j*14)).take ((L.length-j)*14)=y at*;have e:I+i*14+y.length<=c.length:=ab;have l1:=yO c (I+i*14) y e;have f:I+(i+(L.length-j))*14+z.length<=(fV c (I+i*14) y).length:=ab;have l2:=yO (fV c (I+i*14) y) (I+(i+(L.length-j))*14) z f;have l:(L.take i++L.drop j).length=i+(L.length-j):=ai;refine⟨l1,l2.trans l1,ab,ab,λk x b=>?_,λk x q d a b hd g=>?_⟩;.grind
 . have p:=(am.1 b).1;rw[l]at p;have m:(L.take i).length=i:=ai;by_cases P:k<i;.grind[yN]
   .rw[pY ab,m,xD]at b;have w:q<14:=ai;rw[yN _ _ _ f,if_neg ab,yN _ _ _ e,if_pos ab,<-v,Cm ab,xD]at g;exact n _ x q d a b hd (by rw[<-g];congr 1;omega)
def aHv{n:Nat}{z:aI}:(jP n z).length=n*z.length:=Ga n z
theorem aGO{i:Nat}{az:aI}{ow:aM}(e:HR K Y B H [] g)(gj:pj K Y B H [.ay L 75 14,.int .i64 (.ofNat i),.int .i64 (.ofNat j)] ow az)(m:vU ow=V)(hn:L.length<1000000000)(G:i<j)(M:j<=L.length):∃x w o ψ d,Ev PP mL 349 az H x w/\Nx K Y B H o ψ d w/\HR o ψ d w [] g/\jS o ψ d w (.dv (.ay (L.take i++L.drop j) 75 14) .no) x:=by
 obtain⟨a,b,c',rfl,h1,h2,h3⟩:=abj gj;obtain⟨r,id,I,c,cells,f,o1,rfl,o3,o4,o5,o6,o7,o8⟩:=Wg h1 m;cases h2;cases h3;have W:L.length<=bm:=by grind[bm]
 have z:c=Z\/c=J L.length:=o8.imp (λh=>h.1) (λh=>h);have mc:∀n,(jP n [AV.int .i64 0,.bu,.int .i64 0,.int .i64 0,.int .i64 0,.int .i64 0,.int .i64 0,.bu,.int .i64 0,.int .i64 0,.int .i64 0,.int .i64 0,.int .i64 0,.str []]).length=n*14:=λn=>aHv;generalize T:jP (L.length-(i+(L.length-j))) [AV.int .i64 0,.bu,.int .i64 0,.int .i64 0,.int .i64 0,.int .i64 0,.int .i64 0,.bu,.int .i64 0,.int .i64 0,.int .i64 0,.int .i64 0,.int .i64 0,.str []]=X at*;have Vf:X.length=(L.length-(i+(L.length-j)))*14:=ai;obtain⟨d1,d2,d3⟩:=aoK o7 G M Vf;have zU:=o7.2.1;generalize hcy:(cells.drop (I+j*14)).take ((L.length-j)*14)=y at*;have aNQ:y.length=(L.length-j)*14:=ai;have O:L.length-(i+(L.length-j))≠0:=ab;have D:H.fresh.get id=J (.cells cells r f 75):=o3;have v:(H.fresh.bp r).1<=id:=o5;have E:(H.fresh.bp r).2=id:=o6;have F:H.cellsOf id=J cells:=by grind[Heap.cellsOf,dj]
 have hy:qG H.fresh 14 (L.length-j) (.sl id (I+j*14) (L.length-j) (Kp L.length j c) 14)=J y:=by grind[qG,bR,List.length_eq_zero_iff,Heap.load,Heap.cellsOf,dj,dT,pV,qD]
 obtain⟨q,ha,U2,hq2,PQ,u,p,P,Q⟩:∃q,nA H.fresh 75 14 152 (.sl id I i c 14) y (L.length-j)=J (.sl id I (i+(L.length-j)) c 14,q)/\q.cI=[]/\(∀x,x∈q.bV->x=r)/\q.get id=J (.cells (fV cells (I+i*14) y) r f 75)/\((q.bp r).1<=id/\(q.bp r).2=id)/\bT (λx=>x=r) H q/\bg q/\pC q:=by
  have s:bg H.fresh:=⟨e.inv.get,e.inv.root,e.inv.oB,e.inv.dp,bS _⟩;have kV:(i+(L.length-j))*152<=bm:=by grind[bm]
  have ji:i+(L.length-j)<=bm:=ab;by_cases h0:L.length-j=0;.have aNP:y=[]:=bf.1 ab;refine⟨H.fresh,?_,rfl,λx h=>absurd h (mO),?_,⟨v,E⟩,⟨bS _,λ_ _ _=>rfl,λ_ _ _=>rfl,λ_ _=>rfl⟩,s,e.gW⟩<;>simp_all[aa2,DK]
  . have cq:H.fresh.store id (I+i*14) y=J (H.fresh.dI id r (.cells (fV cells (I+i*14) y) r f 75)):=by grind[Heap.store,dj,bR,dT]
    refine⟨H.fresh.dI id r (.cells (fV cells (I+i*14) y) r f 75),?_,yb ..,λx h=>?_,n7 ..,KS v E,(λk=>⟨k.next,k.get,k.dp,k.root⟩:bT (λx=>x=r) H.fresh (H.fresh.dI id r (.cells (fV cells (I+i*14) y) r f 75))->bT (λx=>x=r) H (H.fresh.dI id r (.cells (fV cells (I+i*14) y) r f 75))) (yA D),Q' s D E,Gw (H:=H.fresh) e.gW D⟩;.grind[nA,bR,dj,dT]
    . rw[xw]at h;rcases I3 h with h|h;.exact absurd h (mO)
      omega
 have S:(H.resume q).cellsOf id=J (fV cells (I+i*14) y):=by have h1:(H.resume q).get id=J (.cells (fV cells (I+i*14) y) r f 75):=PQ;have h2:((H.resume q).bp r).1<=id:=u.1;grind[Heap.cellsOf,dj]
 have U:(H.resume q).get id=J (.cells (fV cells (I+i*14) y) r f 75):=PQ;have A:((H.resume q).bp r).1<=id/\((H.resume q).bp r).2=id:=u;have h6:(H.resume q).store id (I+(i+(L.length-j))*14) X=J ((H.resume q).dI id r (.cells (fV (fV cells (I+i*14) y) (I+(i+(L.length-j))*14) X) r f 75)):=by grind[Heap.store,dj,bR,dT]
 have uF:=aoJ mL H q _ id I L.length i j c c (Kp L.length j c) (Kp L.length (i+(L.length-j)) c) _ y _ akn rfl (by rfl) G (by rfl) (aJs F zU z (Nat.le_of_lt G) M W) (λH=>aJt z ab W) (λH=>aJu z M) (aJv S ab z ab W) hy ha U2 O (by rw[T];omega);have R:bg (H.resume q):=⟨P.get,P.root,P.oB,P.dp,gw e.inv.bA p.next⟩;have N:bT (λx=>x=r) H (H.resume q):=⟨p.next,p.get,p.dp,p.root⟩;have t:(L.take i++L.drop j).length=i+(L.length-j):=ai;obtain⟨o,d,n1,n2,n3⟩:=consume (c:=c) e o1 (ayN N (yA U)) (Q' R U A.2) (Gw (H:=H.resume q) Q U) (Cc ..) (λx m=>by
  rw[xw]at m;rcases I3 m with h|h;.rcases(QP _ _).1 (show x∈fS (λl r=>Heap.note H.bA r l) q.bV H.bV from h)with h|⟨h,k⟩<;>grind
  .exact .inr h) (λx m=>by rw[yb]at m;rcases(QP _ _).1 (show x∈fS (λl r=>Heap.note H.bA r l) q.cI H.cI from m)with h|⟨h,_⟩<;>grind) (n7 ..) (KS A.1 A.2).1 d3 (λk hk=>by grind);rw[t]at n3;exact⟨_,_,o,Y,d,uF.ev,n1,n2,n3⟩
end
theorem Nw{n:Nat}(h:sw n=V):n<1000000000:=by unfold sw at h;rw[eQ,jV]at h;exact h
theorem cnF{b:Bool}{x:ah SV}(h:(bif b then J x else J Z)=Z):False:=by cases b<;>cases h
theorem aGs{f:bW}{a:ao}(h:cf.iU f a=Z):f≠282/\f≠4/\f≠334/\f≠350/\f≠400/\f≠248/\f≠249/\f≠347/\f≠349/\f≠111/\f≠263:=by refine⟨?_,?_,?_,?_,?_,?_,?_,?_,?_,?_,?_⟩<;>(rintro rfl;dsimp only[cf]at h;simp only[aw,aR,bX]at h);all_goals first|(cases h;done)|(split at h<;>first|(cases h;done)|exact cnF h)
theorem aGq{f:bW}{z:aI}(h:f≠282/\f≠4/\f≠334/\f≠350/\f≠400/\f≠248/\f≠249/\f≠347/\f≠349/\f≠111/\f≠263):mL f z H=Z:=by obtain⟨b,c,d,e,g,i,j,k,l,T,a⟩:=h;unfold mL QZ Q3 Q2 FY kO Q0 MO;simp only[bR,b,c,d,e,g,i,j,k,T,a,lA,bX]
def hN:∀f args a H,cf.iU f args=Z->mL f a H=Z:=λ_ _ _ _ h=>aGq (aGs h)
theorem cS{b:Bool}{x v:SV}(h:(bif b then J (J x)else J Z)=J (J v)):b=V/\x=v:=by cases b<;>simp at h|-;exact h
theorem aGr:N5 PP mL cf:=by
 intro f args v h B d g K w y H z i p j;by_cases f1:f=282
 . subst f1;dsimp only[cf]at h;simp only[aw,aR,bX]at h;split at h;.obtain⟨c,rfl⟩:=cS h;rw[eQ,jV]at c;exact aGM i p j c
   .cases h
 by_cases f2:f=4
 . subst f2;dsimp only[cf]at h;simp only[aw,aR,bX]at h;split at h;.obtain rfl:=bE (bE h);exact pv6 i p j
   .cases h
 have gr:∀{e s b:Nat},0<s->(∀n H,mL f [.bu,.int .i64 (.ofNat n)] H=bif bt (n*b) bm&&bt n bm then(bif aw n 0 then J (J (.bu,H))else J (J (.sl H.next 0 0 Z s,H.cQ [] .op e)))else J Z)->J (CU e s b args)=J (J v)->∃x l m o k,Ev PP mL f z H x l/\Nx K w y H m o k l/\HR m o k l [] g/\jS m o k l v x:=by
   intro e s b u t h;have h:=bE h;have q:=h;unfold CU at h;split at h;.exact aFX u (t _) i j q
   .cases h
 by_cases f3:f=334;.subst f3;dsimp only[cf]at h;simp only[aw,aR,bX]at h;exact gr fD (λn H=>rfl) h
 by_cases f4:f=350;.subst f4;dsimp only[cf]at h;simp only[aw,aR,bX]at h;exact gr fD (λn H=>rfl) h
 by_cases f5:f=400;.subst f5;dsimp only[cf]at h;simp only[aw,aR,bX]at h;exact gr fD (λn H=>rfl) h
 by_cases f6:f=248;.subst f6;dsimp only[cf]at h;simp only[aw,aR,bX]at h;cases h
 by_cases f7:f=249
 . subst f7;have d:=d aL;dsimp only[cf]at h;simp only[aw,aR,bX]at h;split at h;.obtain rfl:=bE (bE h);obtain⟨A,rfl,r⟩:=abi j;obtain rfl:=QK r;exact MP i (a:=.bu) rfl .nl
   .obtain⟨c,rfl⟩:=cS h;rw[gu]at c;exact aGL i j d c.1 aP (Nw c.2)
   .cases h
 by_cases f8:f=347
 . subst f8;have d:=d aL;dsimp only[cf]at h;simp only[aw,aR,bX]at h;split at h;.obtain⟨c,rfl⟩:=cS h;exact aGN i j d (Nw c)
   .cases h
 by_cases f9:f=349
 . subst f9;have d:=d aL;dsimp only[cf]at h;simp only[aw,aR,bX]at h;split at h;.obtain⟨c,rfl⟩:=cS h;rw[gu,gu,eQ,dj,jV,jV]at c;exact aGO i j d (Nw c.1) c.2.1 c.2.2
   .cases h
 by_cases f10:f=111
 . subst f10;dsimp only[cf]at h;simp only[aw,aR,bX]at h;split at h;.obtain rfl:=bE (bE h);exact aGK i j
   .cases h
 by_cases f11:f=263;.subst f11;dsimp only[cf]at h;simp only[aw,aR,bX]at h;exact gr fD (λn H=>rfl) h
 .exfalso;dsimp only[cf]at h;simp only[bR,f1,f2,f3,f4,f5,f6,f7,f8,f9,f10,f11,lA,bX]at h;cases h
section
variable{K:aY}{Y:cm}{B:aJ}{H H':Heap}{g:GH}{O:St}{tm:Tr AV}
theorem ajn{s:Nat}{d:DV}{o:aM}{c:cX}(h:bZ K Y B H tm (put (cN c) s (.dv d o))):bZ K Y B H tm (cN (put (iu c s) s (.dv d o))):=by
 intro t v l;have p:=h t;unfold cN at l p;rw[qQ,me]at l;rw[me,qQ]at p;by_cases e:t=s;.rw[if_pos e]at l p;cases l;exact p _ rfl
 . rw[if_neg e]at l p;unfold iu at l;rw[qQ]at l;rcases f:look c t with _|E;.grind
   rw[f]at l p;cases l;obtain⟨a,b,g,j⟩:=p _ rfl;cases E with
   |sr x=>show∃a,tm.get t=J a/\(pO (bif aw x s then .dd else .sr x)≠.dd->a≠.top)/\my K Y B H tm t (pO (bif aw x s then .dd else .sr x)) a;cases aw x s with|true=>exact⟨a,b,λh=>absurd rfl h,trivial⟩|false=>grind
   |se x i I=>show∃a,tm.get t=J a/\(pO (bif aw x s then .dd else .se x i I)≠.dd->a≠.top)/\my K Y B H tm t (pO (bif aw x s then .dd else .se x i I)) a;cases aw x s with|true=>exact⟨a,b,λh=>absurd rfl h,trivial⟩|false=>grind
   |_=>exact⟨a,b,g,j⟩
def aJG{s:cX}(i:bg H)(h:bZ K Y B H tm s):bZ K Y B H tm (cN s):=xi (S:=λ_=>False) i h (bT.refl _ _) (bo.refl _) (aX.refl _) (λ_ _ _ _ h=>⟨h,id⟩) (λ_ _ _ h=>h)
theorem ajq{a:AV}(q:HR K Y B H O.lb O.g)(o:A0 K Y H r (.ay L 3 1) a e)(g:L.all uO=V)(d:0<L.length)(n:L.length<1000000000):∃id cells f I c m,a=.sl id I L.length c 1/\e=3/\H.get id=J (.cells cells r f 3)/\(H.bp r).2=id/\mL 248 [a] H=J (J (.cL [],H.dI id r (.cells m r f 3)))/\A0 K Y (H.dI id r (.cells m r f 3)) r (rR (mh L) 3 1) a 3:=by
 obtain⟨t,s,id,I,c,cells,f,k1,k2,k3,k4,k5,k6,k7,k8⟩:=o.ex;obtain⟨rfl,rfl,rfl⟩:=DV.ay.inj k1;subst k2;have z:(Gq (L.map oG)).length=L.length:=by simp[Gq]
 have hr:=ai1 k3 k4 k5 k6 k7 g d n z;have U:I+(Gq (L.map oG)++[]).length<=cells.length:=by rw[kD,z];have:=k7.2.1;omega
 have i:=acT (K:=K) (Y:=Y) (zs:=Gq (L.map oG)) (ys:=[]) (I:=I) (D:=cells) U;rw[kD]at i U;have h:(mh L).length=L.length:=by simp[mh]
 have j:rR (mh L) 3 1=.ay (mh L) 3 1:=by
   rcases p:mh L with _|_;.grind
   rfl
 obtain⟨f1,f2⟩:=KS (ob:=.cells (fV cells I ((Gq (L.map oG)).map (AV.int .i64))) r f 3) k5 k6;refine⟨id,cells,f,I,c,_,rfl,rfl,k3,k6,?_,⟨mh L,1,id,I,c,_,f,j,ai,n7 ..,k4,f1,f2,i,?_⟩⟩;.show J ((rowP Gq H id I L.length).map λr=>(AV.cL [],r.2))=_;grind
 . rw[h];rcases k8 with⟨b,k,l⟩|b;.exact .inl ⟨b,f2,by grind[yO]⟩
   .exact .inr b
theorem agH{i:Nat}{o:ch}(h:dK B r):qy B H (H.dI i r o):=⟨Cc ..,λx c=>by rw[xw]at c;exact(I3 c).imp_right λ⟨a,b⟩=>a▸⟨b,h⟩,λx c=>by grind[yb]⟩
def Sd(K:aY)(g:cm)(h:aJ)(H:Heap)(e s:St)(m:Tr AV)(x:AV)(d:ah Tmp)(t:St):Prop:=∃a H' c f b,Ev PP mL 248 [x] H a H'/\Nx K g h H c f b H'/\Ok c f b H' t (gR m d a)/\s.n=e.n/\s.fn=e.fn
theorem Qa(d:HR K Y B H O.lb O.g)(u:mL 248 [ax] H=J (J (.cL [],H')))(n:Nx K Y B H K Y B H')(X:HR K Y B H' st1.lb st1.g)(j:bZ K Y B H' tm (cN st1.sl))(h:aG {st1 with sl:=cN st1.sl} dst (.tp [])=J st')(e:st1.n=O.n)(c:st1.fn=O.fn):Sd K Y B H O st1 tm ax dst st':=by obtain⟨b,g,a,f,ok⟩:=(Cv (O:={st1 with sl:=cN st1.sl}) X j h).nx (qy.refl _ _);exact⟨.cL [],H',b,g,a,.inl u,n.trans d.inv f,ok,e,c⟩
theorem ax4{s:Nat}{d:DV}{r:DV×SV}(o:Ok K Y B H O tm)(w:look O.sl s=J (.dv d (.ex e)))(j:tm.get s=J ax)(f:cf.qh 248 d []=J r)(q:st1={O with sl:=put (iu O.sl s) s (IK r.1 e)})(h:aG {st1 with sl:=cN st1.sl} dst r.2=J st'):Sd K Y B H O st1 tm ax dst st':=by
 obtain⟨D,g1,g2,g3⟩:=o.sl s _ w;rw[j]at g1;cases g1;have y:=g2 aP;subst q;dsimp only[cf]at f;simp only[aw,aR]at f;split at f;.cases f;obtain rfl:=QK (show cO K Y B H (.sl s) .nl ax (.ex e)from g3);refine Qa (H':=H) o.hr rfl (Nx.refl o.hr) o.hr (ajn ?_) h rfl rfl;exact ZK (S:=λ_=>False) o.hr.inv o.sl (bT.refl _ _) (bo.refl _) (aX.refl _) (λ_ _ _ _ _ _ h=>⟨h,id⟩) (λ_ _ _ h=>h) j (λ_=>y) (.inl ⟨rfl,rfl⟩)
 . rename_i x l _;rcases i:((x::l).all uO&&sw (x::l).length)with _|_;.grind
   rw[i]at f;cases f;rw[gu]at i;rcases g3 with⟨E,_⟩|⟨r,g,A⟩;.grind
   . obtain⟨id,cells,t,I,c,z,rfl,rfl,k3,k4,k5,k6⟩:=ajq o.hr A i.1 aP (Nw i.2);have m:=yA (m':=z) (fl':=t) (e':=3) k3;have N:∀p a b,p≠.sl s->B p=J (a,b)->a≠r:=λp a b u k e=>u (o.hr.inj _ _ _ _ _ (e▸k) g);have v:IK (rR (mh (x::l)) 3 1) 3=.dv (rR (mh (x::l)) 3 1) (.ex 3):=by cases mh (x::l)<;>rfl
     refine Qa o.hr k5 ⟨bo.refl _,o.hr.fX m,aX.refl _,m.xu o.hr.inv λa _ e=>⟨.sl s,V,e▸g⟩,λp a b h=>.inl ⟨p,b,h⟩,agH ⟨.sl s,V,g⟩⟩ (o.hr.aiy g trivial k3 k4) ?_ h rfl rfl;show bZ K Y B _ tm (cN (put (iu O.sl s) s (IK (rR (mh (x::l)) 3 1) 3)));rw[v];refine ajn (ZK (S:=λx=>x=r) o.hr.inv o.sl m (bo.refl _) (aX.refl _) (λp a b _ _ k n=>⟨n,N p a b k n⟩) (λ_ _ _ h=>h) j (λ_=>y) (.inr ⟨r,g,k6⟩))
 grind
theorem ax3{v:Nat}{b:LB}{d:DV}{r:DV×SV}(o:Ok K Y B H O tm)(hb:O.g.get v=J (.box b))(hd:b.cells[I]?=J d)(W:eu b I=.ex e)(Br:∃i m root M e,Y v=J i/\H.get i=J (.cells m root M e)/\m[I]?=J ax)(w:cf.qh 248 d []=J r)(cq:st1={O with g:=O.g.set v (.box {cells:=iH b.cells I r.1,own:=(match r.1 with|.jk=>cY b.own I 1|_=>b.own)})})(h:aG {st1 with sl:=cN st1.sl} dst r.2=J st'):Sd K Y B H O st1 tm ax dst st':=by
 have rK:O.at (.g v)=J b:=by grind[St.at]
 obtain⟨i,t1,t2,t3⟩:=o.hr.at rK;obtain⟨i',m0,aON,rI,e0,q1,q2,q3⟩:=Br;rw[t3 v rfl]at q1;cases q1;obtain⟨m,M,eb,G,w2,w3,w4,w5,w6⟩:=t2;rw[G]at q2;obtain⟨rfl,_,_,_⟩:=ch.cells.inj (bE q2);obtain⟨il,T⟩:=w6 I d ax hd q3;rw[W]at T;have Iq:I<b.cells.length:=(am.1 hd).1;have Ip:d≠.nl:=λe=>by grind[eu]
 subst cq;dsimp only[cf]at w;simp only[aw,aR]at w;split at w;.grind
 . rename_i a l _;rcases F:((a::l).all uO&&sw (a::l).length)with _|_;.grind
   rw[F]at w;cases w;rw[gu]at F;rcases T with⟨h0,_⟩|⟨r,E,o2⟩;.grind
   . obtain⟨id,cells,X,aEg,c,P,rfl,rfl,k3,k4,k5,k6⟩:=ajq o.hr o2 F.1 aP (Nw F.2);have k:=yA (m':=P) (fl':=X) (e':=3) k3;have N:∀p f b,p≠.gc v I->B p=J (f,b)->f≠r:=λp f b h1 h2 e=>h1 (o.hr.inj _ _ _ _ _ (e▸h2) E);obtain⟨p1,p2,p3,p4,p5⟩:=Rc (m':=P) (fl':=X) (e':=3) o.hr E k3 k4 (src:=J) (λp q y h1 h2=>ai);have s:(rR (mh (a::l)) 3 1).aU=V:=by cases mh (a::l)<;>rfl
     have L:(match rR (mh (a::l)) 3 1 with|.jk=>cY b.own I 1|_=>b.own)=b.own:=by cases mh (a::l)<;>rfl
     have hms:∃z t,rR (mh (a::l)) 3 1=.ay (z::t) 3 1:=by
      have:(mh (a::l)).length=(a::l).length:=by simp[mh]
      rcases hc:mh (a::l)with _|⟨z,t⟩;.grind
      exact⟨z,t,rfl⟩
     have hi:i≠r:=N (.g v) i V aP t1;have lI:po K Y B (H.dI id r (.cells P r X 3)) (.gc v) ⟨iH b.cells I (rR (mh (a::l)) 3 1),b.own⟩ i:=by
      refine⟨m,M,eb,?_,w2,by rw[k.dp i (o.hr.inv.get _ _ G) hi];omega,by rw[k.dp i (o.hr.inv.get _ _ G) hi];omega,by grind[Ni],λD U R A Q=>?_⟩;.rw[k.get i (o.hr.inv.get _ _ G) (by grind[lN])];omega
      . rw[Rw Iq]at A;have u:eu ⟨iH b.cells I (rR (mh (a::l)) 3 1),b.own⟩ D=eu b D:=by grind[eu,Rw]
        by_cases e:D=I;.subst e;rw[if_pos rfl]at A;cases A;rw[q3]at Q;cases Q;rw[u,W];exact⟨s,.inr ⟨r,E,k6⟩⟩
        .rw[if_neg e]at A;obtain⟨s1,s2⟩:=w6 D U R A Q;rw[u];exact⟨s1,s2.keep (S:=λa=>a=r) o.hr.inv k (bo.refl _) (aX.refl _) λf n j=>⟨j,N _ f n (λy=>e (Pk.gc.inj y).2) j⟩⟩
     have eX:=o.hr.Gj (x:=.g v) (b':=⟨iH b.cells I (rR (mh (a::l)) 3 1),b.own⟩) rK t1 (bo.refl _) k p1 (Gw o.hr.gW k3) p2 p3 p4 p5 (λ_=>rfl) (λ_=>rfl) (λy D U R I9 hy hp=>hp.keep (S:=λa=>a=r) o.hr.inv k (bo.refl _) (aX.refl _) λf n j=>⟨j,N _ f n (λz=>by cases y<;>simp[Loc.pk]at z;grind) j⟩) (λp f n hp _ j=>N p f n (λz=>ai) j) lI;refine Qa o.hr k5 ⟨bo.refl _,o.hr.fX k,aX.refl _,k.xu o.hr.inv λf _ e=>⟨.gc v I,V,e▸E⟩,λp f b h=>.inl ⟨p,b,h⟩,agH ⟨.gc v I,V,E⟩⟩ ?_ ?_ h rfl rfl;.simp only[L];exact eX
     .exact xi (S:=λa=>a=r) o.hr.inv o.sl k (bo.refl _) (aX.refl _) (λp f b kM h3=>⟨h3,N p f b (λz=>by grind[Pk.slot]) h3⟩) (λ_ _ _ h=>h)
 grind
end
theorem ax5:wq PP mL cf:=by
 intro st f x z st1 v h K y N H w A ok Y T dst st' q;rw[af2]at h;obtain⟨sv,hx,h⟩:=aE h;obtain⟨ax,a1,a2,p⟩:=qU (P:=PP) (pG Y) ok.sl hx;have k:∀d r,cf.qh f d z=J r->f=248/\z=[]/\A=[]:=λd r h=>by
   dsimp only[cf]at h;rcases M:aw f 248 with _|_;.grind
   rw[bR,jV]at M;subst M;simp only[aw,aR]at h;have U:z=[]:=ai;subst U;exact⟨rfl,rfl,T.rU⟩
 have slot:∀s,w.get s=J ax->(look st.sl s).bind (Fc cf st f z s)=J (st1,v)->∃ax a j l o c,AM.bJ PP w x=J ax/\Ev PP mL f (ax::A) H a j/\Nx K y N H l o c j/\Ok l o c j st' (gR w dst a)/\st1.n=st.n/\st1.fn=st.fn:=λs hs h=>by
   obtain⟨Gu,hl,h⟩:=aE h;unfold Fc at h;split at h;.rename_i d e;obtain⟨r,hr,n⟩:=iI.1 h;obtain⟨rfl,rfl⟩:=jd n;obtain⟨rfl,rfl,rfl⟩:=k _ _ hr;obtain⟨a,j,l,o,c,B,D,E,F,G⟩:=ax4 ok hl hs hr rfl q;grind
   grind
 unfold IF at h;split at h
 . obtain⟨r,hr,n⟩:=iI.1 h;obtain⟨rfl,rfl⟩:=jd n;obtain⟨rfl,rfl,rfl⟩:=k _ _ hr;have O:ax=.bu:=by
     rcases p with⟨t,_,_,_,g⟩|⟨_,⟨d,e,g⟩|⟨d,L,_,e1,e2,_⟩|⟨_,_,_,_,e,_⟩⟩;.exact QK (show cO K y N H (.sl t) .nl ax _ from g)
     .obtain⟨rfl,_⟩:=SV.dv.inj e;cases g;rfl
     all_goals grind
   subst O;dsimp only[cf]at hr;simp only[aw,aR]at hr;cases hr;obtain⟨a,j,l,o,c,B,D,E,F,G⟩:=Qa (ax:=.bu) (st1:=st) (H':=H) ok.hr (show mL 248 [.bu] H=J (J (.cL [],H))from rfl) (Nx.refl ok.hr) ok.hr (aJG ok.hr.inv ok.sl) q rfl rfl;grind
 .grind
 . rename_i s;rcases p with⟨t,e,W,X,g⟩|⟨_,⟨d,e,_⟩|⟨d,L,_,e1,e2,_⟩|⟨_,_,_,_,e,_⟩⟩;.exact slot s g h
   all_goals grind
 . rename_i vn I;obtain⟨go,Q,h⟩:=aE h;have u:∃i m root R e,y vn=J i/\H.get i=J (.cells m root R e)/\m[I]?=J ax:=by
     rcases p with⟨t,e,W,X,g⟩|⟨_,⟨d,e,_⟩|⟨d,L,_,e1,e2,_⟩|⟨_,_,_,_,e,_⟩⟩;.exact g
     all_goals grind
   unfold P' at h;split at h
   . split at h;.rename_i b d e hd S;obtain⟨r,hr,n⟩:=iI.1 h;obtain⟨rfl,rfl⟩:=jd n;obtain⟨rfl,rfl,rfl⟩:=k _ _ hr;obtain⟨a,j,l,o,c,B,D,E,F,G⟩:=ax3 ok Q hd S u hr rfl q;grind
     grind
   grind
 grind
end Go.VM
namespace Go.AM
open Go
set_option maxRecDepth 1000000
def i(n:Int):AV:=.int .i64 n
def z8:aI:=[i 0,.bu,i 0,i 0,i 0,i 0,i 0,.str []]
def x0:aI×an:=([i 0],3)
def x1:aI×an:=([.bu,.bu],227)
def x2:aI×an:=([.str [120],i 0],66)
def x3:aI×an:=([i 0,.bu,.bu],178)
def x4:aI×an:=([i 0,i 7,.str []],46)
def x5:aI×an:=([i 0,i 1,i 0,i 1],184)
def x6:aI×an:=([i 0,i 2,i 0,i 2],184)
def x7:aI×an:=([.str [97],i 0,.str [98],i 0],71)
def x8:aI×an:=([.str [65],.sl 7 0 1 (.some 1) 2],69)
def x9:aI×an:=([i 0,i 1,i 0,i 1,i 1,i 2,i 0,i 2],184)
def wj:aI×an:=([i 0,.bu,i 0,i 0,i 0,i 1,i 1,.str []],64)
def x11:AV:=.agg [.sl 6 0 1 (.some 1) 2,.sl 8 0 1 (.some 1) 18]
def x12:aI×an:=([i 0,i 0,i 7,.str [],i 3,.bu,.sl 21 0 3 .none 3,.sl 24 0 2 .none 5],52)
def RX:aI×an:=([i 0,i 1,i 0,i 1,.sl 15 0 1 .none 3,i 0,i 2,i 0,i 2,.sl 16 0 1 .none 3],80)
def RY:aI×an:=([i 0,i 1,i 0,i 1,.sl 16 0 1 .none 3,i 0,i 2,i 0,i 2,.sl 17 0 1 .none 3],80)
def x15:aI×an:=([i 0,.bu,.bu,i 1,.sl 18 0 1 .none 4,.bu,i 1,.sl 19 0 1 .none 4,.bu],178)
def x16:aI×an:=([i 0,.bu,.bu,i 1,.sl 22 0 1 .none 4,.bu,i 1,.sl 23 0 1 .none 4,.bu],178)
def x17:aI×an:=([i 2,.bu,i 0,i 0,i 0,i 0,i 0,.str [],i 2,.bu,i 1,i 0,i 0,i 0,i 0,.str []],64)
def x18:aI×an:=([i 1,.bu,i 1,i 0,i 0,i 0,i 0,.str [],i 1,.bu,i 0,i 0,i 0,i 0,i 0,.str []],64)
def x19:aI×an:=([i 0,.bu,i 0,i 0,i 0,i 0,i 3,.str [],i 2,.bu,i 0,i 0,i 0,i 0,i 0,.str []],64)
def x20:aI×an:=([i 0,i 0,i 7,.str [],i (.negSucc 0),.sl 15 0 2 .none 5,.sl 18 0 1 .none 3,.bu],52)
def vj:aI×an:=([i 0,.bu,i 0,i 0,i 0,i 0,i 0,.bu,i 0,i 0,i 0,i 1,i 1,.str [],i 0,.bu,i 0,i 1,i 0,i 0,i 0,.bu,i 0,i 0,i 0,i 1,i 1,.str []],75)
def JR:aI×an:=([.str [113],.sl 9 0 2 (.some 2) 2,.sl 10 0 1 (.some 1) 1,i 1,.sl 11 0 2 (.some 2) 14,i 0,i 0,i 0,i 0]++z8++[.sl 12 0 1 (.some 1) 8],77)
def AL:aI×an:=([i 0,i 1,i 0,i 0,i 0,.bu,i 0,i 0,i 0,i 1,i 1,.str [],.bu,.bu,.bu,.bu,.bu,i 1,i (.negSucc 0),i 1,i 0,i 0,.bu,i 0,i 0,i 0,i 1,i 1,.str [],.bu,.bu,.bu,.bu,.bu],257)
def AN:AV:=.agg ([.sl 6 0 1 (.some 1) 2,.str [113],.sl 8 0 2 (.some 2) 2,.sl 9 0 1 (.some 1) 1,i 1,.sl 10 0 2 (.some 2) 14,i 0,i 0,i 0,i 0]++z8++[.sl 11 0 1 (.some 1) 8,i 2,i 0,.sl 12 0 2 .none 1,.sl 13 0 2 .none 17])
def x25:aI×an:=([i 7,.sl 10 0 2 (.some 2) 8,i 0,i 0,i 0,i 0,i 0,.str [],i 0,.bu,i 0,i 0,i 0,i 1,i 1,.str [],i 8,.sl 11 0 2 (.some 2) 8,i 0,i 0,i 0,i 0,i 0,.str [],i 9,.sl 12 0 2 (.some 2) 8,i 0,i 0,i 0,i 0,i 0,.str [],i 0,.bu,i 0,i 0,i 0,i 1,i 1,.str []],64)
def e0:dO:=⟨[.sl 6 0 5 .none 1],jo (dy gl [([.func 132 [] [.ptr 7 0],.func 132 [] [.ptr 11 0],.func 132 [] [.ptr 14 0],.func 140 [] [.ptr 18 0,.ptr 17 0,.ptr 15 0],.func 142 [] [.ptr 15 0]],209),([.func 198 [] [.ptr 8 0]],211),([.sl 9 0 1 (.some 1) 2],22),([.str [65],.sl 10 0 1 (.some 1) 2],69),x2,([.func 199 [] [.ptr 8 0,.ptr 12 0]],211),([.sl 13 0 2 (.some 2) 2],72),x7,([.func 139 [] [.ptr 15 0,.ptr 17 0]],211),([i 1,.sl 16 0 2 (.some 2) 14,i 0,i 0,i 0,i 0]++z8,75),vj,([.sl 13 0 2 (.some 2) 2],72),([.sl 9 0 1 (.some 1) 2],22)]),.cL [i 0,i 0],[]⟩
def ZQ:Tr (List dO):=lY RN 89 e0
def g0:aC:=[]
def e1:dO:=⟨[.sl 6 0 5 (.some 5) 1],jo (dy gl [([.func 132 [] [.ptr 7 0],.func 132 [] [.ptr 11 0],.func 94 [] [.ptr 8 0,.ptr 12 0],.func 132 [] [.ptr 17 0],.func 132 [] [.ptr 18 0]],209),([.func 91 [] [.ptr 8 0]],211),([.sl 9 0 1 (.some 1) 2],22),([.str [65],.sl 10 0 1 (.some 1) 2],69),x2,([.func 92 [] [.ptr 12 0]],211),([.str [113],.sl 13 0 2 (.some 2) 2,.sl 14 0 1 (.some 1) 1,i 1,.sl 15 0 2 (.some 2) 14,i 0,i 0,i 0,i 0]++z8++[.sl 16 0 1 (.some 1) 8],77),x7,x0,vj,wj,([.func 96 [] [.ptr 8 0,.ptr 12 0]],211),([.func 98 [] [.ptr 8 0,.ptr 12 0]],211)]),.cL [i 0,i 0],[]⟩
def Z1:Tr (List dO):=lY ZQ 89 e1
def g1:aC:=[]
def e2:dO:=⟨[.agg ([i 1,.sl 6 0 2 (.some 2) 14,i 0,i 0,i 0,i 0]++z8)],jo (dy gl [vj]),.cL [.agg [i 2,i 0,.sl 7 0 2 .none 1,.sl 8 0 2 .none 17],.sl 9 0 2 .none 14,i 0],[x1,AL,([i 1,.sl 6 0 2 (.some 2) 14,i 0,i 0,i 0,i 0]++z8++[i 0,.bu,i 0,i 1,i 0,i 0,i 0,.bu,i 0,i 0,i 0,i 1,i 1,.str []],75)]⟩
def Z5:Tr (List dO):=lY Z1 65 e2
def g2:aC:=[448,449,140]
def e3:dO:=⟨[.agg [.sl 6 0 1 (.some 1) 2,.sl 8 0 2 .none 2],.sl 9 0 5 .none 8],jo (dy gl [x8,x2,([.str [],i 0,.str [],i 0],71),x25,([i 0,.bu,i 0,i 0,i 0,i 0,i (.negSucc 0),.str [],i 2,.bu,i 0,i 0,i 0,i 0,i 0,.str []],64),x17,x18]),i 0,[]⟩
def Z6:Tr (List dO):=lY Z5 403 e3
def g3:aC:=[]
def e4:dO:=⟨[.agg [i 5,.sl 6 0 12 .none 3]],jo (dy gl [([i 1,i 0,i 1099511627776,i 0,i 1,i 0,i 2,i 0,i 1099511627776,i 0,i 2,i 0,i 3,i 0,i 1099511627776,i 0,i 3,i 1099511627776,i 4,i 0,i 1099511627776,i 0,i 4,i 1099511627776,i 0,i 1,i 0,i 1,i 2,i 0,i 3,i 4,i 0,i 4,i 3,i 0],646)]),.cL [.bool V,.sl 7 0 5 (.some 5) 1,.bu,i 0],[([i 0,i 0,i 0,i 0,i 0],3)]⟩
def Z7:Tr (List dO):=lY Z6 495 e4
def g4:aC:=[34]
def e5:dO:=⟨[AN,.bu,.sl 14 0 1 .none 3,i (.negSucc 0)],jo (dy gl [x8,x2,x7,x0,vj,wj,x1,AL,x3]),.cL [.sl 15 0 1 .none 3,i 0],[x3]⟩
def Z8:Tr (List dO):=lY Z7 277 e5
def g5:aC:=[585]
def e6:dO:=⟨[AN,.agg [i (.negSucc 0),.bu,.sl 14 0 1 (.some 1) 3,.bu],i (.negSucc 0)],jo (dy gl [x8,x2,x7,x0,vj,wj,x1,AL,x3]),.cL [.agg [i (.negSucc 0),.bu,.sl 15 0 1 .none 3,.bu],.bu,i 0],[x3]⟩
def Z9:Tr (List dO):=lY Z8 121 e6
def g6:aC:=[325]
def e7:dO:=⟨[.agg [.sl 6 0 1 (.some 1) 2,.sl 8 0 2 (.some 2) 2],.sl 9 0 1 (.some 1) 8],jo (dy gl [x8,x2,x7,wj]),i 0,[]⟩
def Z':Tr (List dO):=lY Z9 403 e7
def g7:aC:=[]
def e8:dO:=⟨[AN,.agg [i (.negSucc 0),.bu,.sl 14 0 1 .none 3,.bu],.agg [i 0,i 1,i 0,i 1,.sl 15 0 1 (.some 1) 3]],jo (dy gl [x8,x2,x7,x0,vj,wj,x1,AL,x3,x4]),.cL [.agg [i (.negSucc 0),.sl 16 0 1 .none 5,.sl 18 0 1 .none 3,.bu],i 0],[([i 0,i 1,i 0,i 1,.sl 17 0 1 .none 3],80),x4,x3]⟩
def tb9:Tr (List dO):=lY Z' 117 e8
def g8:aC:=[399,397,198]
def e9:dO:=⟨[.ptr 6 0,.agg [i 0,i 0,i 7,.str [],i (.negSucc 0),.sl 18 0 1 .none 5,.sl 20 0 1 .none 3,.bu]],jo (dy gl [([.sl 7 0 1 (.some 1) 2,.sl 9 0 1 .none 23,.sl 16 0 1 .none 1,.sl 17 0 1 .none 8],197),([.str [65],.sl 8 0 1 (.some 1) 2],69),x2,([.sl 7 0 1 (.some 1) 2,.str [113],.sl 10 0 2 (.some 2) 2,.sl 11 0 1 (.some 1) 1,i 1,.sl 12 0 2 (.some 2) 14,i 0,i 0,i 0,i 0]++z8++[.sl 13 0 1 (.some 1) 8,i 2,i 0,.sl 14 0 2 .none 1,.sl 15 0 2 .none 17],105),x7,x0,vj,wj,x1,AL,([i (.negSucc 0)],3),([i 0,i 0,i 7,.str [],i (.negSucc 0),.sl 18 0 1 .none 5,.sl 20 0 1 .none 3,.bu],52),([i 0,i 1,i 0,i 1,.sl 19 0 1 .none 3],80),x4,x3]),i 0,[]⟩
def ZR:Tr (List dO):=lY tb9 165 e9
def g9:aC:=[]
def Em:dO:=⟨[AN,.agg [i (.negSucc 0),.sl 14 0 1 .none 5,.sl 16 0 1 .none 3,.bu],.agg [i 0,i 2,i 0,i 2,.sl 17 0 1 (.some 1) 3]],jo (dy gl [x8,x2,x7,x0,vj,wj,x1,AL,([i 0,i 1,i 0,i 1,.sl 15 0 1 .none 3],80),x4,x3,x4]),.cL [.agg [i (.negSucc 0),.sl 18 0 2 .none 5,.sl 20 0 1 .none 3,.bu],i 0],[([i 0,i 1,i 0,i 1,.sl 15 0 1 .none 3,i 0,i 2,i 0,i 2,.sl 19 0 1 .none 3],80),x4,x3]⟩
def ZS:Tr (List dO):=lY ZR 117 Em
def g10:aC:=[464,462,256]
def En:dO:=⟨[AN,.agg [i (.negSucc 0),.sl 14 0 2 .none 5,.sl 17 0 1 .none 3,.bu]],jo (dy gl [x8,x2,x7,x0,vj,wj,x1,AL,RX,x4,x4,x3]),i 0,[]⟩
def ZT:Tr (List dO):=lY ZS 226 En
def g11:aC:=[]
def CL:dO:=⟨[.agg [i 2,i 0,.sl 6 0 2 .none 1,.sl 7 0 2 .none 17],.sl 8 0 1 .none 5,.sl 10 0 2 .none 3,.agg [i 0,i 2,i 0,i 2,.sl 12 0 1 .none 3]],jo (dy gl [x1,AL,([i 0,i 1,i 0,i 1,.sl 9 0 1 .none 3],80),x4,([i 0,.bu,.bu,i 1,.sl 11 0 1 .none 4,.bu],178),x5,x4]),.cL [.sl 13 0 3 .none 3,.sl 15 0 1 .none 1,i 0],[([i 0,.bu,.bu,i 1,.sl 11 0 1 .none 4,.bu,i 1,.sl 14 0 1 .none 4,.bu],178),x6,([.sl 16 0 2 .none 4],96),x9]⟩
def ZU:Tr (List dO):=lY ZT 237 CL
def g12:aC:=[155,134,204,200]
def To:dO:=⟨[AN,.agg [i 3,.sl 14 10 0 .none 5,.sl 17 0 3 .none 3,.sl 20 0 2 .none 5]],jo (dy gl [x8,x2,x7,x0,vj,wj,x1,AL,RX,x4,x4,x15,x5,x6,RX]),i 0,[]⟩
def ZV:Tr (List dO):=lY ZU 226 To
def g13:aC:=[]
def Tp:dO:=⟨[.agg [.sl 6 0 1 (.some 1) 2,.sl 8 0 2 .none 2],.sl 9 0 5 .none 8],jo (dy gl [x8,x2,([.str [],i 0,.str [],i 0],71),x25,x19,x17,x18]),i 0,[]⟩
def ZW:Tr (List dO):=lY ZV 403 Tp
def g14:aC:=[]
def Tq:dO:=⟨[.agg [i 5,.sl 6 0 12 .none 3]],jo (dy gl [([i 1,i 0,i 1099511627776,i 0,i 1,i 0,i 2,i 0,i 1099511627776,i 0,i 2,i 0,i 3,i 0,i 1099511627776,i 0,i 3,i 1099511627776,i 4,i 0,i 1099511627776,i 0,i 4,i 1099511627776,i 0,i 1,i (.negSucc 3),i 1,i 2,i 0,i 3,i 4,i 0,i 4,i 3,i 0],646)]),.cL [.bool V,.sl 7 0 5 (.some 5) 1,.bu,i 0],[([i 0,i 4,i 4,i 4,i 4],3)]⟩
def ZX:Tr (List dO):=lY ZW 495 Tq
def g15:aC:=[34]
def Bg:dO:=⟨[.agg [.sl 6 0 1 (.some 1) 2,.sl 8 0 1 .none 2],.sl 9 0 3 .none 8],jo (dy gl [x8,x2,([.str [],i 0],71),([i 7,.sl 10 0 2 (.some 2) 8,i 0,i 0,i 0,i 0,i 0,.str [],i 9,.sl 11 0 2 (.some 2) 8,i 0,i 0,i 0,i 0,i 0,.str [],i 0,.bu,i 0,i 0,i 0,i 1,i 1,.str []],64),x19,([i 1,.bu,i 0,i 0,i 0,i 0,i 0,.str [],i 0,.bu,i 0,i 0,i 0,i 0,i 7,.str []],64)]),i 0,[]⟩
def ZY:Tr (List dO):=lY ZX 403 Bg
def g16:aC:=[]
def Ts:dO:=⟨[.agg [i 3,.sl 6 0 7 .none 3]],jo (dy gl [([i 1,i 0,i 1099511627776,i 0,i 1,i 0,i 2,i 0,i 1099511627776,i 0,i 2,i 1099511627776,i 0,i 1,i (.negSucc 3),i 2,i 0,i 7,i 0,i 2,i (.negSucc 6)],646)]),.cL [.bool V,.sl 7 0 3 (.some 3) 1,.bu,i 0],[([i 0,i 7,i 7],3)]⟩
def ZZ:Tr (List dO):=lY ZY 495 Ts
def g17:aC:=[24]
def Tt:dO:=⟨[AN,.sl 14 0 2 .none 5,.sl 17 0 3 .none 3,i 3],jo (dy gl [x8,x2,x7,x0,vj,wj,x1,AL,RX,x4,x4,x15,x5,x6]),.cL [.sl 20 0 3 .none 3,i 0],[x15]⟩
def Z0:Tr (List dO):=lY ZZ 277 Tt
def g18:aC:=[1480]
def Tu:dO:=⟨[x11,.agg [i 0,i 1],.agg [.sl 13 0 1 .none 1,.sl 14 0 1 .none 8],i 0,.agg [i 1,i 0,i 0,i 0,i 0,.bu,i 3]],jo (dy gl [x8,x2,JR,x7,x0,vj,wj,([i (.negSucc 0)],3),x20,RY,x4,x4,x3]),.cL [.agg [.sl 19 0 1 .none 1,.sl 20 0 1 .none 8],.sl 25 0 1 .none 3,i 0],[([i 3],3),x12,x16,x5,x6,RY,([i 1,i 0,.sl 26 0 2 .none 4],98),x9]⟩
def Z2:Tr (List dO):=lY Z0 56 Tu
def g19:aC:=[306,304,255,215,242,295,299,244]
def Tv:dO:=⟨[x11,.agg [i 0,i 2],.agg [.sl 13 0 1 .none 1,.sl 14 0 1 .none 8],i 0,.agg [i 1,i 0,i 0,i 0,i 0,.bu,i 3]],jo (dy gl [x8,x2,JR,x7,x0,vj,wj,([i (.negSucc 0)],3),x20,RY,x4,x4,x3]),.cL [.agg [.sl 19 0 1 .none 1,.sl 20 0 1 .none 8],.sl 25 0 1 .none 3,i 0],[([i 3],3),x12,x16,x5,x6,RY,([i 1,i 0,.sl 26 0 2 .none 4],98),x9]⟩
def Z3:Tr (List dO):=lY Z2 56 Tv
def g20:aC:=[306,304,255,215,242,295,299,244]
def Hw:dO:=⟨[x11,i 1,.agg [.sl 13 0 1 (.some 1) 10,.sl 15 0 2 (.some 2) 10],.agg [i 1,i 2]],jo (dy gl [x8,x2,JR,x7,x0,vj,wj,([i 0,i 0,i 0,i 0,i 0,i 1,i 0,i 1,.sl 14 0 1 (.some 1) 3,i 0],87),x4,([i 0,i 0,i 0,i 0,i 0,i 2,i 0,i 2,.sl 16 0 1 (.some 1) 3,i 0,i 0,i 0,i 0,i 1,i 0,i 0,i 0,i 0,.bu,i 3],87),x4]),.cL [.sl 17 0 1 .none 3,.bool V],[([i 1,i 0,.sl 18 0 2 .none 4],98),x9]⟩
def Z4:Tr (List dO):=lY Z3 19 Hw
def g21:aC:=[920,870]
def Ep:dO:=⟨[],jo (dy gl []),.bool V,[]⟩
def ajK:Tr (List dO):=lY Z4 4 Ep
def g22:aC:=[]
def k13:entry PP (AM.run PP (lj 6 3000 ZU kO) 1000000) 226 To g13=V:=aL
def k14:entry PP (AM.run PP (lj 6 3000 ZV kO) 1000000) 403 Tp g14=V:=aL
def k15:entry PP (AM.run PP (lj 6 3000 ZW kO) 1000000) 495 Tq g15=V:=aL
def k16:entry PP (AM.run PP (lj 6 3000 ZX kO) 1000000) 403 Bg g16=V:=aL
def k17:entry PP (AM.run PP (lj 6 3000 ZY kO) 1000000) 495 Ts g17=V:=aL
end Go.AM
