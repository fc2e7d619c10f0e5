/- Proved: what functions of the program answer, within the sizes that each theorem names. -/
import Derived.Test.YtlpehfnaibndgaaGreatDoorAh
open Option renaming some->J,none->Z
open Bool renaming true->V,false->C
open Go renaming TypeId->an,Oper->aB,Program->aH,Operand->aK,Code->bM,ResultVar->oK
open Int renaming ofNat->dk
open List renaming replicate->lT
open Nat renaming beq->aw,ble->bt
open Option renaming bind->sD
open SizeOf renaming sizeOf->pB
noncomputable section
set_option linter.all false
namespace Go.VM
open Go Go.AM Proofs.Tryz
variable{v:DV}{g:GH}{s:Int}{e k:Nat}{P:aH}{p:ae}{l:ao}
attribute[local congr]bB bC
set_option maxRecDepth 100000
set_option maxHeartbeats 1000000
def aN.sq(e:aN):DV:=.agg [iD e.src,iD e.seq]
def su(a b:aN):Bool:=bif aj a.src b.src then aj a.seq b.seq else C
theorem TD{a b:aN}:gF PP 50 415 a.sq b.sq=J (su a b):=by unfold aN.sq su;rw[HC underlying415 aT];simp only[go_sem,Bi,String.reduceBEq];grind
def HB(l:List aN)(i:Nat):List lq:=(l.zipIdx i).map λx=>(x.1.sq,.bool V,x.2)
theorem ap8{l:List aN}{e:aN}:HB (l++[e]) 0=HB l 0++[(e.sq,.bool V,l.length)]:=by grind[HB]
theorem adW{e:aN}:∀(l:List aN)(i j:Nat),(l.any λm=>su e m)=C->findD PP 415 e.sq (HB l i) j=J Z|[],_,_,_=>rfl|m::l,i,j,h=>by rw[zm,JV]at h;show(gF PP 50 415 e.sq m.sq).bind _=_;rw[TD,h.1];exact adW l (i+1) (j+1) h.2
theorem adX{e:aN}:∀(l:List aN)(i j:Nat),(l.any λm=>su e m)=V->∃k c m,findD PP 415 e.sq (HB l i) j=J (J (k,m,.bool V,c))|[],_,_,h=>by simp at h|m::l,i,j,h=>by rw[zm]at h;cases a:su e m with|true=>exact⟨j,i,m.sq,by show(gF PP 50 415 e.sq m.sq).bind _=_;rw[TD,a];rfl⟩|false=>rw[a,y7]at h;obtain⟨k,c,d,b⟩:=adX l (i+1) (j+1) h;exact⟨k,c,d,by show(gF PP 50 415 e.sq m.sq).bind _=_;rw[TD,a];exact b⟩
theorem ayV{e:aN}:sU PP 415 e.sq=V:=by rfl
theorem sub_succ(i:Nat)(h:i<9223372036854775807):dN .i64 (Int.sub (dk (i+1)) 1)=dk i:=by grind[AK]
def Ee(l:List aN):Prop:=∀(i j:Nat)(a b:aN),l[i]?=J a->l[j]?=J b->su a b=V->i=j
def Qf(l:List aN)(r:bh):Prop:=∃n g,r=.val (.dv (iD n) .no) g/\(n=0->Ee l)
theorem aJP{a b:aN}:su a b=su b a:=by grind[su,iZ]
theorem alG{b:List aN}{x:aN}(h:Ee b)(g:(b.any λm=>su x m)=C):Ee (b++[x]):=by
 intro i j c d a hd s;by_cases e:i<b.length
 . rw[nV e]at a;by_cases f:j<b.length;.rw[nV f]at hd;exact h i j c d a hd s
   grind[aJP]
 grind
theorem V0(v:Sl aN)(G:v.l.length<1000000000):cW (Qf v.l) (ev PP cf (.call 265 [de v] .no .empty)):=by
 have r:∀{n:Int}{g:GH},n≠0->Qf v.l (.val (.dv (iD n) .no) g):=λh=>⟨_,_,rfl,λk=>absurd k h⟩;have hd:=aoY;simp only[bH,opsOf,f265,go_sem]at hd;refine fY func265 ?_;simp only[go_sem,f265,de];apply cV<;>intro h;.simp only[h,go_sem,bz];exact r fD
 simp only[h,go_sem];refine ni v.l ([]:List aN) (λi b=>⟨265,43,[(12,iS i),(3,.dv (.map 0) .no),(0,.dv (de v) .no),(10,.dv (de v) .no),(11,iS v.l.length)],[],⟨1,[(0,.map (HB b 0) b.length)]⟩⟩) (λi _ b=>b=v.l.take i/\Ee b) ab rfl ⟨rfl,λi j a b h=>by simp at h⟩ (λb I=>?_) (λi x l b u w A I d=>?_);.obtain⟨rfl,I⟩:=I;rw[D6]at I;simp only[go_sem,bz];exact⟨0,_,rfl,λ_=>I⟩
 . obtain⟨t,I⟩:=I;have F:=mI u;have U:b.length=i:=by rw[t,uj];omega
   have d:=d (b++[x]);simp only[ap8,ib,dH,gX,de,go_sem]at d;obtain⟨K,e0,t0⟩:=aDn x;obtain⟨H,rfl⟩:=t0;have o:=aDo x;have q:=ayV (e:=x);simp only[aN.d,aN.cells]at e0 o;simp only[go_sem,u,w,de,aN.d,aN.cells,e0];apply cV<;>intro g;rotate_left;.simp only[g,go_sem,bz];exact r fD
   simp only[g,go_sem];have step:(b.any λm=>su x m)=C->b++[x]=v.l.take (i+1)/\Ee (b++[x]):=λf=>by refine⟨by rw[List.take_succ,w,t];rfl,alG I f⟩
   have p:=λh=>adX (e:=x) b 0 0 h;have fn:=λh=>adW (e:=x) b 0 0 h;simp only[aN.sq,iD]at d q p fn;rcases i with _|i
   . have z:aA 0 (dk 0)=C:=rfl;have E:aA 0 0=C:=rfl;simp only[go_sem,hd];try rw[E,bX]
     try show cW _ (kg PP cf (ev PP cf) _)
     simp only[go_sem,o];cases f:b.any λm=>su x m with|true=>obtain⟨k,c,m,e⟩:=p f;simp only[go_sem,q,e,bz];exact r fD|false=>have e:=fn f;simp only[go_sem,q,e,o];exact d (step f)
   . have z:aA 0 (dk (i+1))=V:=by rw[gL,jV];exact Int.ofNat_lt.2 (Nat.succ_pos i)
     obtain⟨y,B⟩:∃y,v.l[i]?=J y:=⟨_,dA ab⟩;have D:=sub_succ i ab;have s:=aEb y x;simp only[aN.d,aN.cells]at s;simp only[go_sem,hd,z,D,B,s,aN.d,aN.cells];apply cV<;>intro g;rotate_left;.simp only[g,go_sem,bz];exact r fD
     simp only[g,go_sem,o];cases f:b.any λm=>su x m with|true=>obtain⟨k,c,m,e⟩:=p f;simp only[go_sem,q,e,bz];exact r fD|false=>have e:=fn f;simp only[go_sem,q,e,o,A];exact d (step f)
def CM(l:List aN)(i:Nat):List lq:=(l.zipIdx i).map λx=>(x.1.ref,x.1.d,x.2)
theorem ap9{l:List aN}{e:aN}:CM (l++[e]) 0=CM l 0++[(e.ref,e.d,l.length)]:=by grind[CM]
theorem TW{t s q:Int}:∀(l:List aN)(i j:Nat),(l.any λm=>oQ t s q m.tm m.src m.seq)=C->findD PP 182 (ke t s q) (CM l i) j=J Z|[],_,_,_=>rfl|m::l,i,j,h=>by rw[zm,JV]at h;show(gF PP 50 182 (ke t s q) m.ref).bind _=_;rw[show gF PP 50 182 (ke t s q) m.ref=_ from KJ,h.1];exact TW l (i+1) (j+1) h.2
theorem adY{t s q:Int}:∀(l:List aN)(i j:Nat),(l.any λm=>oQ t s q m.tm m.src m.seq)=V->∃k c m e,findD PP 182 (ke t s q) (CM l i) j=J (J (k,m,aN.d e,c))|[],_,_,h=>by simp at h|m::l,i,j,h=>by rw[zm]at h;cases a:oQ t s q m.tm m.src m.seq with|true=>exact⟨j,i,m.ref,m,by show(gF PP 50 182 (ke t s q) m.ref).bind _=_;rw[show gF PP 50 182 (ke t s q) m.ref=_ from KJ,a];rfl⟩|false=>rw[a,y7]at h;obtain⟨k,c,f,b,d⟩:=adY l (i+1) (j+1) h;exact⟨k,c,f,b,by show(gF PP 50 182 (ke t s q) m.ref).bind _=_;rw[show gF PP 50 182 (ke t s q) m.ref=_ from KJ,a];exact d⟩
theorem agk{t q:Int}:sU PP 182 (ke t s q)=V:=by rfl
theorem alJ{l:List aN}(h:Ee l){i:Nat}{x:aN}(f:l[i]?=J x):((l.take i).any λm=>oQ x.tm x.src x.seq m.tm m.src m.seq)=C:=by rw[List.any_eq_false];intro m d b;obtain⟨j,c,e⟩:=List.mem_iff_getElem.1 d;rw[uj]at c;have a:l[j]?=J m:=ai;obtain⟨_,g,k⟩:=acX b;have:=h i j x m f a (by grind[su,iZ]);omega
def isB(a:dJ)(v:Sl aN)(r:bh):Prop:=(∃n g,aj n 0=C/\r=.val (.tp [(.eN,.no),iO n]) g)\/(Ee v.l/\r=.val (.tp [(.ptr 1 0,.no),iO 0]) ⟨2,[(0,.map (CM v.l 0) v.l.length),(1,.box ⟨a.cells++[.map 0],[]⟩)]⟩)
theorem aDh(a:dJ)(v:Sl aN)(o:ri a)(u:v.l.length<1000000000):cW (isB a v) (ev PP cf (.call 273 [.agg a.cells,de v] .no .empty)):=by
 have e:=aqR a o;obtain⟨r,f,n,g,rfl,m⟩:=V0 v u;have hd:=ao0;simp only[bH,opsOf,f273,go_sem]at hd;refine fY func273 ?_;simp only[dJ.cells,AH,zI,de]at e f;simp only[go_sem,f273,dJ.cells,de,e];apply cV<;>intro h;rotate_left;.simp only[h,go_sem,bz];exact .inl ⟨_,_,h,rfl⟩
 simp only[h,go_sem,f];apply cV<;>intro h;rotate_left;.simp only[h,go_sem,bz];exact .inl ⟨_,_,h,rfl⟩
 have j:=m (by grind[iZ]);simp only[h,go_sem];refine ni v.l () (λi _=>⟨_,40,[(27,iS i),(8,.dv _ _),(25,.dv _ _),(26,iS _)],[],⟨2,[(0,.map (CM (v.l.take i) 0) i),(1,.box _)]⟩⟩) (λ_ _ _=>True) ab (by rfl) trivial (λ_ _=>?_) (λi x l _ p b y _ c=>?_);.simp only[go_sem,bz,D6];exact .inr ⟨j,rfl⟩
 .have c:=c () trivial;have d:=aDw x;have k:=agk (t:=x.tm) (s:=x.src) (q:=x.seq);have fn:=TW _ 0 0 (alJ j b);simp only[aN.d,aN.cells,aN.ref,ke]at d k fn;have w:min i v.l.length=i:=ai;simp only[go_sem,G2,b,Option.toList,ap9,uj,de,aN.d,aN.cells,aN.ref,ke,w]at c;simp only[go_sem,p,b,hd,aN.d,aN.cells,de,d,k,fn,y];omega
def eD.EE(a:dJ)(v:List aN)(b:eD):Prop:=0<=b.v/\b.v<a.vars/\(v.any λm=>oQ b.a b.b b.c m.tm m.src m.seq)=V
def LY(a:dJ)(v:List aN)(c:br)(r:bh):Prop:=∃n g,r=.val (.dv (iD n) .no) g/\(aj n 0=V->∀b∈c.bs.l,b.EE a v)
def UE(a:dJ)(v:List aN):GH:=⟨2,[(0,.map (CM v 0) v.length),(1,.box ⟨a.cells++[.map 0],[]⟩)]⟩
theorem aDi(a:dJ)(v:List aN)(c:br)(M:c.bs.l.length<1000000000)(N:c.ss.l.length<1000000000):cW (LY a v c) (ev PP cf (.call 274 [.ptr 1 0,c.d] .no (UE a v))):=by
 have r:∀{n:Int}{g:GH},aj n 0=C->LY a v c (.val (.dv (iD n) .no) g):=λh=>⟨_,_,rfl,λk=>aT⟩;have d1:=ao1;have d8:=ao5;have d9:=ao6;have d11:=ao2;have d19:=ao3;have d21:=ao4;simp only[bH,opsOf,f274,go_sem]at d1 d8 d9 d11 d19 d21;refine fY func274 ?_;simp only[go_sem,f274,UE,dJ.cells,AH,zI,br.d,br.cells,ij,jQ,d1];apply cV<;>intro h;.simp only[h,go_sem,bz];exact r rfl
 simp only[h,go_sem];apply cV<;>intro g;rotate_left;.simp only[g,go_sem,bz];exact r rfl
 simp only[g,go_sem];apply cV<;>intro g;rotate_left;.simp only[g,go_sem,bz];exact r rfl
 simp only[g,go_sem];refine Ml c.bs.l (λi=>[(34,iS i)]) (λi=>∀j b,j<i->c.bs.l[j]?=J b->b.EE a v) ab rfl (λj b z=>absurd z (N3 _)) (λI=>?_) (λi x o p D I d=>?_)
 . have ok:LY a v c=LY a v c:=rfl;simp only[go_sem];refine tX c.ss.l (λi=>[(86,iS i)]) ab rfl ?_ (λi x o p D d=>?_);.simp only[go_sem,bz];exact⟨0,_,rfl,λ_ b l=>by obtain⟨j,z,e⟩:=List.mem_iff_getElem.1 l;exact I j b z aT⟩
   . simp only[go_sem]at d;simp only[go_sem,o,p,fK.d,fK.cells,d19];rcases i with _|i
     . have F:aA 0 (dk 0)=C:=rfl;have A:aA 0 0=C:=rfl;repeat'(with_reducible apply cV<;>intro h<;>simp only[h,d21,A,go_sem,bz])
       all_goals first|exact r rfl|grind
     . have F:aA 0 (dk (i+1))=V:=by rfl
       obtain⟨y,u⟩:∃y,c.ss.l[i]?=J y:=⟨_,dA ai⟩;have w:=sub_succ i ai;repeat'(with_reducible apply cV<;>intro h<;>simp only[h,D,d,u,w,d21,F,fK.d,fK.cells,go_sem,bz])
       all_goals first|exact r rfl|exact d
 . simp only[go_sem]at d;have E:=agk (t:=x.a) (s:=x.b) (q:=x.c);simp only[ke]at E;have EE:(v.any λm=>oQ x.a x.b x.c m.tm m.src m.seq)=V->aA x.v 0=C->aA x.v a.vars=V->∀j b,j<i+1->c.bs.l[j]?=J b->b.EE a v:=λg1 g2 g3 j b z l=>by
     by_cases e:j=i;.subst e;rw[p]at l;cases l;rw[gL,CJ]at g2;rw[gL,jV]at g3;exact⟨ab,g3,g1⟩
     .exact I j b ab l
   have L:=mI o;have F:aA 0 (dk 0)=C:=rfl;have A:aA 0 0=C:=rfl;have zs:∀i,aA 0 (dk (i+1))=V:=λi=>by rfl
   cases B:v.any λm=>oQ x.a x.b x.c m.tm m.src m.seq with
   |false=>
     have fn:=TW v 0 0 B;simp only[ke]at fn;simp only[go_sem,o,p,eD.d,eD.cells,d8,d9,E,fn];rcases i with _|i
     . repeat'(with_reducible apply cV<;>intro h<;>simp only[h,d11,A,go_sem,bz])
       all_goals exact r rfl
     . obtain⟨y,u⟩:∃y,c.bs.l[i]?=J y:=⟨_,dA ab⟩;have w:=sub_succ i ab;have G:=zs i;have f:=ahC y.a y.b y.c x.a x.b x.c;simp only[ke]at f;repeat'(with_reducible apply cV<;>intro h<;>simp only[h,u,w,f,d11,G,eD.d,eD.cells,go_sem,bz])
       all_goals exact r rfl|true=>
     have EE:=EE B;obtain⟨k,H,m,K,fn⟩:=adY v 0 0 B;simp only[ke]at fn;simp only[go_sem,o,p,eD.d,eD.cells,d8,d9,E,fn,aN.d,aN.cells];rcases i with _|i
     . repeat'(with_reducible apply cV<;>intro h<;>simp only[h,d11,A,go_sem,bz])
       all_goals first|exact r rfl|simp_all
     . obtain⟨y,u⟩:∃y,c.bs.l[i]?=J y:=⟨_,dA ab⟩;have w:=sub_succ i ab;have G:=zs i;have f:=ahC y.a y.b y.c x.a x.b x.c;simp only[ke]at f;repeat'(with_reducible apply cV<;>intro h<;>simp only[h,D,u,w,f,d11,G,eD.d,eD.cells,go_sem,bz])
       all_goals first|exact r rfl|exact d (EE ‹_› ‹_›)
theorem aDL(a:dJ)(v:Sl aN)(c:br)(d:ri a)(l:v.l.length<1000000000)(h:c.bs.l.length<1000000000)(b:c.ss.l.length<1000000000):cW (LY a v.l c) (ev PP cf (.call 384 [.agg a.cells,de v,c.d] .no .empty)):=by
 obtain⟨r,e1,hr⟩:=aDh a v d l;refine fY func384 ?_;rcases hr with⟨n,g,e,rfl⟩|⟨q,rfl⟩;.simp only[dJ.cells,AH,zI,de]at e1;simp only[go_sem,f384,dJ.cells,AH,zI,de,br.d,br.cells,ij,jQ,e1,e,bz];exact⟨_,_,rfl,λk=>ai⟩
 .obtain⟨r,e2,n,g,rfl,k⟩:=aDi a v.l c h b;simp only[dJ.cells,AH,zI,de,UE,br.d,br.cells,ij,jQ,lS,jJ]at e1 e2;simp only[go_sem,f384,dJ.cells,AH,zI,de,br.d,br.cells,ij,jQ,e1,e2,bz];exact⟨_,_,rfl,k⟩
attribute[local go_sem]cw1 cw2 cl0 cl1 cl2
theorem aD8{j:Type}{d:j->DV}{p c m r:Nat}(i:(p,e,c,m,k,r)=(223,80,5,56,263,47))(E:∀x,(d x).flat.length=c)(a f:List j)(t u:Bool)(h:a.length+f.length<1000000000):CC p [.ay [bw t (a.map d) e c,bw u (f.map d) e c] r 1] (.val (fP ((a++f).map d) e c) .empty):=by
 obtain⟨B,D⟩:=ajE h;have o:∀l:List j,((l.map d).all λy=>decide (y.flat.length=c))=V:=λl=>ai;have l1:∀{e c},nd (bw t (a.map d) e c)=J a.length:=by simp[Mf]
 have l2:∀{e c},nd (bw u (f.map d) e c)=J f.length:=by simp[Mf]
 have x0:aA (.ofNat a.length) 0=C:=rfl;have x1:aA (.ofNat (a.length+f.length)) 0=C:=rfl;have q:c≠0/\a.length+f.length<=bm/\(a.length+f.length)*m<=bm:=by grind[bm]
 have v:fu e c m (.ay [] e c) (.ex e) (a.map d)=J (.ay (a.map d) e c,.ex e):=by grind[p8]
 have w:fu e c m (.ay (a.map d) e c) (.ex e) (f.map d)=J (.ay ((a.map d)++(f.map d)) e c,.ex e):=by grind[p8]
 have z:=λh=>@aa8 e c m .any h;have g:ev PP cf (.call k [.nl,.int .i64 (.ofNat (a.length+f.length))] .no .empty)=_:=aew (e:=e) (s:=c) (b:=m) (n:=a.length+f.length) (by cases i<;>rfl) (by cases i<;>rfl) h ai;cases i;refine aO func223 ?_;all_goals
 simp only[go_sem,f223];refine ik ?_;simp only[go_sem,l1,B,x0];refine ik ?_;simp only[go_sem,l2,D,x1];refine ik ?_;by_cases i:a.length+f.length=0;.obtain rfl:a=[]:=bf.1 ab;obtain rfl:f=[]:=bf.1 ab;replace g:ev PP cf (.call _ [.nl,.int _ 0] _ _)=J _:=g;simp only[go_sem,g,gX];refine ik ?_;simp only[go_sem,z _];refine ik ?_;simp only[go_sem,z _];refine ik ?_;simp only[go_sem]
 . rw[kS i]at g;simp only[go_sem,g];refine ik ?_;simp only[go_sem,v,o];refine ik ?_;simp only[go_sem,w,o];refine ik ?_;simp only[go_sem];rw[pZ];have A:((a.map d)++(f.map d)).length=a.length+f.length:=ai;generalize(a.map d)++(f.map d)=L at A;rcases L with _|⟨x,l⟩;.grind
   rfl
def ahN(a b:Sl aN)(h:a.l.length+b.l.length<1000000000):CC 223 [.ay [de a,de b] 47 1] (.val (fP ((a.l++b.l).map aN.d) 80 5) .empty):=aD8 (d:=aN.d) rfl (λ_=>rfl) a.l b.l a.nl b.nl h
theorem aDR(e:aN)(t s q:Int)(b:Nat)(g:GH)(a:g.get b=J (.box ⟨[iD t,iD s,iD q],[]⟩)):ev PP cf (.call 424 [e.d,.ptr b 0] .no g)=J (.val (.dv (.bool (oQ e.tm e.src e.seq t s q)) .no) g):=by have h:=VZ e;have hd:=apt;simp only[bH,opsOf,f424,go_sem]at hd;simp only[aN.d,aN.cells,aN.ref,ke]at h;refine aO func424 ?_;simp only[go_sem,f424,hd,aN.d,aN.cells,h,a,abu]
theorem ad2:cf.fk 424=0/\(cf.iw 424||cf.nZ 424)=C:=⟨by rfl,by rfl⟩
theorem afY{b:Type}{q:b->Bool}:∀(l:List b)(i:Nat),l.any q=V->∃k x,gk q l i=.ofNat (i+k)/\l[k]?=J x/\q x=V|[],_,h=>by simp at h|x::l,i,h=>by rw[zm]at h;unfold gk;cases a:q x with|true=>exact⟨0,x,rfl,rfl,a⟩|false=>rw[a,y7]at h;obtain⟨k,y,e1,e2,e3⟩:=afY l (i+1) h;exact⟨k+1,y,by rw[bX,e1];congr 1;omega,e2,e3⟩
theorem aDN(v:Sl aN)(t s q:Int)(l:v.l.length<1000000000)(h:(v.l.any λm=>oQ t s q m.tm m.src m.seq)=V):cW (λr=>∃e g,e∈v.l/\r=.val (.dv e.d .no) g) (ev PP cf (.call 386 [de v,ke t s q] .no .empty)):=by
 have i:=KP (d:=aN.d) _ [] _ ⟨1,[(0,.box _)]⟩ v.nl _ l (λe _=>.inl ⟨ad2.1,ad2.2,aDR e t s q 0 _ rfl⟩) (.inr (.inr (.inr (.inr (.inr (.inr rfl)))))) (λ_=>⟨rfl,rfl⟩);have a:(v.l.any λe=>oQ e.tm e.src e.seq t s q)=V:=by grind[oQ,iZ]
 obtain⟨k,e,e1,e2,_⟩:=afY _ 0 a;rw[e1,kE]at i;refine fY func386 ?_;simp only[go_sem,f386,ke,de,i,e2,aN.d,aN.cells,bz];grind
set_option maxHeartbeats 2000000
def Qc(s:List lq):Prop:=∀e∈s,∃n,e.1=.int .i64 n
theorem adU{k:Int}:∀(s:List lq)(j:Nat),Qc s->∃r,findD PP 3 (.int .i64 k) s j=J r/\∀i e,r=J (i,e)->∃n,e.1=.int .i64 n|[],_,_=>⟨Z,rfl,λ_ _ h=>by cases h⟩|e::s,j,h=>by obtain⟨n,a⟩:=h e gv;obtain⟨r,d,f⟩:=adU (k:=k) s (j+1) λx g=>h x (jR _ g);have e0:findD PP 3 (.int .i64 k) (e::s) j=(gF PP 50 3 (.int .i64 k) e.1).bind λb=>bif b then J (J (j,e))else findD PP 3 (.int .i64 k) s (j+1):=rfl;rw[e0,a,Bi];show∃r,(bif aj k n then J (J (j,e))else _)=J r/\_;cases aj k n with|true=>exact⟨_,rfl,λi l c=>by cases c;exact⟨n,a⟩⟩|false=>exact⟨r,d,f⟩
theorem aBf{k:Int}{x:DV}{b:List lq}{ck:Nat}(h:Qc b):∃s c,(∀st d i,(findD PP 3 (.int .i64 k) b 0).bind (VG st d i b ck (.int .i64 k) x)=aG {st with sl:=cN st.sl,g:=st.g.set i (.map s c)} d (.tp []))/\Qc s:=by
 obtain⟨r,j,l⟩:=adU b 0 h;rcases r with _|⟨i,e⟩;.exact⟨_,_,λ_ _ _=>by rw[j];rfl,λe a=>by
 rcases Co.1 a with a|a;.exact h e a
 grind⟩
 .exact⟨_,ck,λ_ _ _=>by rw[j];rfl,λf a=>by
 rcases Co.1 a with a|a;.exact h f ai
 . rcases Cp.1 a with rfl|a;.grind
   .exact h f ai⟩
def QW(c:ao)(t:Int)(s:Sl eD)(f:Sl fK)(m:Int)(b:DV)(k:cM)(d:Bool)(o:List (Nat×aM))(e:List lq)(a:Nat):GH:=⟨2,[(0,.map e a),(1,.box ⟨c++[iD t,ij s,jQ f,iD m,b,.map 0,iD k.k,iD k.n,.str k.s,.bool d],o⟩)]⟩
def amJ(l:List aN)(b:DV)(o:List (Nat×aM)):Prop:=l=[]/\b=.nl/\o=[]\/l≠[]/\b=.ay (l.map aN.d) 80 5/\(o=[(27,.ex 80)]\/o=[(27,.ty 80)])
def Ja(c:ao)(t:Int)(b:Sl eD)(s:Sl fK)(m:Int)(n:Nat)(g:GH):Prop:=∃l bd k kd o e a,l.length<=n/\amJ l bd o/\Qc e/\g=QW c t b s m bd k kd o e a
def JD:iK->DV->aM|.take,.nl=>.any|_,_=>.no
theorem aLL:JD .ref v=.no:=rfl
theorem aLI:JD .copy v=.no:=rfl
theorem aLJ:JD .len v=.no:=rfl
theorem aLK:JD .take .nl=.any:=rfl
theorem agu{t:an}{u:iK}{a n:Nat}{b:cX}{l:dV}{d:ah Tmp}{i f:Nat}{c:ao}{o:Nat×aM}{s:List (Nat×aM)}(h:AM.isAgg P t=J C)(k:look (o::s) f=Z):rQ P t u ⟨a,n,b,l,g⟩ d i f (.box ⟨c,o::s⟩)=(c[f]?).bind λv=>aG ⟨a,n,b,l,g.set i (.box ⟨c,o::s⟩)⟩ d (.dv v (JD u v)):=by
 have e:eu ⟨c,o::s⟩ f=BV (c[f]?) Z:=by grind[ah8]
 have e2:rQ P t u ⟨a,n,b,l,g⟩ d i f (.box ⟨c,o::s⟩)=(fF P u t ⟨c,o::s⟩ f).bind λr=>aG ⟨a,n,b,l,g.set i (.box r.2)⟩ d r.1:=by
  show(match u,eu _ _,AM.isAgg P t with|.ref,.ex _,J C=>_|_,_,_=>_)=_;rw[e];rcases c[f]? with _|v;.cases u<;>rfl
  cases v<;>cases u<;>rfl
 rw[e2,agC h,e];rcases j:c[f]? with _|v;.rfl
 cases v<;>cases u<;>rfl
attribute[go_sem]agu aLL aLI aLJ aLK
theorem aDM(p:eJ)(H:Int)(o:Sl eD)(F:Sl fK)(D:Int)(n:Nat)(g:GH)(b:eD)(e:aN)(ht:lX p.types)(hk:p.query.key.l.length<1000000000)(X:e.lR.l.length<1000000000)(hv:∃k v,b.v=dk k/\p.query.vars.l[k]?=J v)(hn:n<1100000)(Y:Ja p.cells H o F D n g):cW (λr=>∃m i,r=.val (.dv (iD m) .no) i/\(aj m 0=V->Ja p.cells H o F D (n+1) i)) (ev PP cf (.call 385 [.ptr 1 0,b.d,e.d] .no g)):=by
 obtain⟨l,bd,A,kd,ow,es,P,hl,W,pH,rfl⟩:=Y;obtain⟨k,vb,w,y⟩:=hv;obtain⟨r,N,v,z,m,rfl⟩:=V3 p.types p.query.key e ht hk X;have d1:=apl;have d3:=apn;have d5:=apo;have d6:=apq;have d9:=apr;have d10:=apm;simp only[bH,opsOf,f385,go_sem]at d1 d3 d5 d6 d9 d10;obtain⟨I,⟨E,K,B,pat,G⟩,u⟩:=p;have cells:eJ.cells ⟨I,⟨E,K,B,pat,G⟩,u⟩=cB I::.str E::kB K::cE B::(pat.cells++[uB G]++u.cells):=rfl;rw[cells];generalize kM:pat.cells++[uB G]++u.cells=s;have T:s.length=19:=by grind[ae.dE,dJ.cells]
 simp only[aN.d,aN.cells,cB,cE]at N;have g22:∀m:ao,(s++m)[22]?=m[3]?:=λm=>wB (j:=3) T;have q:∀m:ao,(s++m)[23]?=m[4]?:=λm=>wB (j:=4) T;have t:∀m:ao,(s++m)[24]?=m[5]?:=λm=>wB (j:=5) T;have U:∀m:ao,(s++m)[28]?=m[9]?:=λm=>wB (j:=9) T;have t23:∀m:ao,(s++m).take 23=s++m.take 4:=λm=>by simp_all[Sk,G4]
 have t25:∀m:ao,(s++m).take 25=s++m.take 6:=λm=>by simp_all[Sk,G4]
 have t28:∀m:ao,(s++m).take 28=s++m.take 9:=λm=>by simp_all[Sk,G4]
 have d24:∀m:ao,(s++m).drop 24=m.drop 5:=λm=>by simp_all[zn]
 have d25:∀m:ao,(s++m).drop 25=m.drop 6:=λm=>by simp_all[zn]
 have d28:∀m:ao,(s++m).drop 28=m.drop 9:=λm=>by simp_all[zn]
 have d29:∀m:ao,(s++m).drop 29=m.drop 10:=λm=>by simp_all[zn]
 obtain⟨R,Q,f1,d⟩:=aBf (k:=dk k) (x:=e.d) (ck:=P) pH;have kI:sU PP 3 (.int .i64 (.ofNat k))=V:=rfl;have a:∀{m:Int}{i:GH},aj m 0=C->∃O f,bh.val (.dv (iD m) .no) i=.val (.dv (iD O) .no) f/\(aj O 0=V->Ja (cB I::.str E::kB K::cE B::s) H o F D (n+1) f):=λh=>⟨_,_,rfl,λk=>ai⟩;simp only[aN.d,aN.cells]at f1;refine fY func385 ?_;have L:fu 80 5 56 (.ay (l.map aN.d) 80 5) (.ex 80) [e.d]=J (.ay (l.map aN.d++[e.d]) 80 5,.ex 80):=p8 ab (by grind[bm]) (by grind[bm]);have M:fu 80 5 56 (.ay (l.map aN.d) 80 5) (.ty 80) [e.d]=J (.ay (l.map aN.d++[e.d]) 80 5,.ty 80):=aa9 ab (by grind[bm]) (by grind[bm]);simp only[aN.d,aN.cells]at L M;have w0:∀c:aM,cY [(27,c)] 27 1=[]:=λ_=>rfl;have w1:∀c:aM,cY [(27,c)] 29 3=[(27,c)]:=λ_=>rfl;have w2:∀c:aM,cY [(27,c)] 32 1=[(27,c)]:=λ_=>rfl;rcases W with⟨S,rfl,rfl⟩|⟨S,rfl,rfl|rfl⟩;all_goals
 simp only[go_sem,f385,QW,d1,eD.d,eD.cells,aN.d,aN.cells,w,y,eA.d,kB,lS];apply cV<;>intro h;rotate_left;.simp only[h,go_sem,bz];exact a rfl
 simp only[h,go_sem,d3,g22];apply cV<;>intro h;.simp only[h,go_sem,bz];exact a rfl
 simp only[h,go_sem,d5,d6,q,t,t23,d24,T,f1,kI,L,M,w0];apply cV<;>intro h;.simp only[h,go_sem,bz];exact⟨_,_,rfl,λ_=>⟨l++[e],_,A,_,_,_,_,aT,.inr ⟨aP,by grind[aN.d,aN.cells],aT⟩,d,rfl⟩⟩
 simp only[h,go_sem,d9,N,cM.d,cM.cells,d10];repeat'(with_reducible apply cV<;>intro h<;>simp only[h,go_sem,U,d25,t25,d28,t28,d29,T,w1,w2,bz])
 all_goals first|exact a rfl|exact⟨_,_,rfl,λ_=>⟨l++[e],_,⟨_,_,_⟩,_,_,_,_,aT,.inr ⟨aP,by grind[aN.d,aN.cells],aT⟩,d,rfl⟩⟩
set_option maxHeartbeats 1000000
def rC:bq->bq->bq|[],o=>o|r::l,o=>bif aA (gk r.same o 0) 0 then rC l (o++[r])else rC l o
theorem N9:∀(l o:bq),(∀q∈l,GP q)->(∀q∈o,GP q)->(∀q∈rC l o,GP q)/\(rC l o).length<=o.length+l.length/\o.length<=(rC l o).length|[],o,_,h=>⟨h,bS _,bS _⟩|r::l,o,e,f=>by rw[rC];have k:∀q∈l,GP q:=λq d=>e q (jR _ d);cases aA (gk r.same o 0) 0 with
 |true=>obtain⟨a,b,c⟩:=N9 l (o++[r]) k (λq d=>by
 rcases Co.1 d with d|d;.exact f q d
 .rw[Cq.1 d];exact e r gv);simp only[ib,dH,gX]at b c;simp only[dH,aR];exact⟨a,ab,ab⟩|false=>obtain⟨a,b,c⟩:=N9 l o k f;simp only[dH,bX];exact⟨a,ab,ab⟩
def xg:Nat->Nat->bq->ah bq|0,_,_=>Z|f+1,i,o=>match o[i]? with|none=>J o|some q=>bif aj (fx q).1 0 then(bif aA 256 (.ofNat (rC (fx q).2.2 o).length)then Z else xg f (i+1) (rC (fx q).2.2 o))else Z
theorem El(h:GP p):(∀q∈(fx p).2.2,GP q)/\(fx p).2.2.length<=4096/\(fx p).2.1.length<=4096:=by have b:=T8 _ ([],[]) (λx a=>(Jb p h.a x a).pat (by have:=h.n;omega) (by have:=h.c;omega)) aT;have l:=(Q4 p).1;have s:=qz h.n h.n;grind[fx]
theorem aoN(p:ae):(fx p).1=0\/fx p=(17,[],[]):=by grind[fx]
theorem aqB(p:ae)(O:lV p):CC 100 [.agg p.cells] (bif aj p.jx 0 then Jm (xg 258 0 [p])else .val (.tp [(.nl,.any),iO p.jx]) .empty):=by have e1:=OM p O;refine aO func100 ?_;simp only[f100];cases A:aj p.jx 0 with|false=>simp only[go_sem,e1,A]|true=>
 have g:=S4 O (nY A);simp only[go_sem,e1,A];refine sV (lT 258 ()) [p] (λi o=>[(6,iS i),(5,fP (ae.bn o) 75 14)]) (λi l o=>Jm (xg l.length i o)) (λi l o=>o≠[]/\i<=o.length/\o.length<=256/\l.length+i=258/\∀q∈o,GP q) aT rfl ⟨aP,aP,aP,by rfl,λq u=>aT⟩ (by rfl) (λo I=>?_) (λi x m o hi f Q I k=>?_);.grind
 . obtain⟨n,a,b,c,N⟩:=I;simp only[dH,xg];by_cases y:i<o.length
   . obtain⟨q,u⟩:∃q,o[i]?=J q:=⟨_,dA y⟩;have K:=N q (du u);obtain⟨_,g2,e2,oe,qJ,rfl⟩:=adh q K;have H:=aoN q;obtain⟨d1,d2,d3⟩:=El K;have P:(i<o.length)=True:=ir y;simp only[u];generalize fx q=D at*;obtain⟨e,G,v⟩:=D;simp only at e2 d1 d2 d3 H|-;have Y:cg (G.map Edge.d)=V:=gT Edge.pure _;have p2:cg (ae.bn v)=V:=ae.uX v;rcases H with H|H;rotate_left 1;.cases H;have F4:aj 17 0=C:=rfl;simp only[ae.bn,Hb,zw]at e2;simp only[go_sem,zt n,P,u,e2,F4];rfl
     . have q0:aj 0 0=V:=rfl;subst H;rcases pq (G=[])with r|r<;>rcases pq (v=[])with hr|hr;case' inl.inl=>simp only[r,hr,ae.bn,Hb,zw]at e2
       case' inl.inr=>simp only[r,Hb,zu hr]at e2
       case' inr.inl=>simp only[hr,ae.bn,zw,A1 r]at e2
       case' inr.inr=>simp only[zu hr,A1 r]at e2
       all_goals rcases qJ with rfl|rfl;all_goals simp only[go_sem,zt n,P,u,e2,Y,p2,q0];rw[CA]
       all_goals
       refine sV v o (λj s=>[(39,iS j),(5,fP (ae.bn s) 75 14)]) (λ_ t s=>Jm (bif aA 256 (.ofNat (rC t s).length)then Z else xg m.length (i+1) (rC t s))) (λ_ t s=>s≠[]/\(∀q∈s,GP q)/\o.length<=s.length/\s.length+t.length<=4500) ab (by first|rfl|(rw[zt n];rfl)) ⟨n,N,bS _,ab⟩ rfl (λs I=>?_) (λj z t s U B X I R=>?_)
       . obtain⟨d,w,S,T⟩:=I;have k:=λh=>k s ⟨d,ab,h,ai,w⟩;rw[zt d]at k;simp only[go_sem]at k;have M:aA 256 (.ofNat s.length)=C->s.length<=256:=λh=>by grind[gL]
         first
         | simp only[go_sem,zt d,rC];apply sp<;>intro h;.simp only[h,go_sem];rfl
           .simp only[h,k (M h),Q,go_sem]
         | simp only[hr,go_sem,zt d,rC,gX];apply sp<;>intro h;.simp only[h,go_sem];rfl
           .simp only[h,k (M h),Q,go_sem]
       .first|(rw[hr]at B;simp_all)|obtain⟨d,w,S,T⟩:=I;simp only[dH]at T;have L:=d1 z (du B);obtain⟨gy,e3⟩:=adi V s z ab (by have:=L.c;omega);rw[agQ d]at e3;have E:=R (s++[z]) ⟨aP,λx f=>by
           rcases Co.1 f with f|f;.exact w x f
           .rw[Cq.1 f];exact L,by simp only[ib];omega,by simp only[ib,dH,gX];omega⟩;have F:=R s ⟨d,w,S,ab⟩;rw[zt aP]at E;rw[zt d]at F;have W:(s.length<1200000)=True:=ir ab;simp only[ae.Bh,ae.bn,go_sem]at E F;simp only[go_sem,zt d,U,B,e3,rC];apply sp<;>intro h<;>simp only[h,X,E,F,W,ae.qF,go_sem]
   .have e0:o[i]?=Z:=ce ab;have P:(i<o.length)=False:=cH y;simp only[e0];simp only[go_sem,zt n,P,Jm,zu n]
theorem aho(e:Nat):∀a b:ao,jq e (a++b)=(jq e a&&jq e b)|[],b=>by simp[jq]|x::a,b=>by simp only[lS,jq,aho e a b,Bool.and_assoc]
theorem QN{b:Type}{f:b->DV}{e:Nat}(h:∀a,(f a).gS e=V):∀l:List b,jq e (l.map f)=V|[]=>rfl|a::l=>by simp[jq,h a,QN h l]
theorem Mw{a:Bool}{n:Nat}(h:aw k e=C)(b:jq e l=V):(bw a l k n).gS e=V:=by cases l<;>grind[bw,DV.gS]
mutual
theorem Expr.gS {k : Nat} (h : aw 64 k = C) : ∀ e : Expr, jq k e.cells = V
  | .mk o l args v M n i num str => by
    simp only [Expr.cells, jq, DV.gS, zd, wm]
    exact Mw h (Expr.FH h args)
theorem Expr.FH {k : Nat} (h : aw 64 k = C) : ∀ l : List Expr, jq k (Expr.bn l) = V
  | [] => rfl
  | e :: l => by
    simp only [Expr.bn, jq, DV.gS, Expr.gS h e, Expr.FH h l, zd]
end
def ayb(s:Sl Int):(cE s).gS 257=V:=Mw rfl (QN (λ_=>rfl) _)
theorem Edge.gS(x:Edge):x.d.gS 257=V:=by show jq 257 _=V;simp only[Edge.cells,aho,jq,DV.gS,zd,wm,Expr.gS (k:=257) rfl,ayb,uB,Dl];rw[Mw rfl (Expr.FH rfl _),Mw rfl (QN (λ_=>rfl) _)];rfl
mutual
theorem ae.gS : ∀ p : ae, jq 257 p.cells = V
  | .mk o n args t v s a c => by
    simp only [ae.cells, lS, jJ, jq, DV.gS, zd, wm, Expr.gS (k := 257) rfl]
    exact Mw rfl (ae.FH args)
theorem ae.FH : ∀ l : bq, jq 257 (ae.bn l) = V
  | [] => rfl
  | e :: l => by
    simp only [ae.bn, jq, DV.gS, ae.gS e, ae.FH l, zd]
end
theorem ak7(r:bq):(tz (ae.bn r) 75 14).1.gS 257=V:=by
 rcases r with _|⟨a,l⟩;.rfl
 show(!(aw 75 257)&&jq 257 (ae.bn (a::l)))=V;rw[ae.FH];rfl
theorem aLz(e:gh)(r:bq)(k:Int)(o:aM)(d:o=.ex 257\/o=.ty 257):rf V (.tp [xH e o,tz (ae.bn r) 75 14,iO k])=.tp [xH e (.ex 257),tz (ae.bn r) 75 14,iO k]:=by
 have b:∀l j,xm l j (tz (ae.bn r) 75 14)=tz (ae.bn r) 75 14:=by intro l j;cases r<;>rfl
 have h:xm [xH e o,tz (ae.bn r) 75 14,iO k] 0 (xH e o)=xH e (.ex 257):=by
  rcases e with _|⟨a,l⟩;.rfl
  rcases d with rfl|rfl;.rfl
  . have c:([xH (a::l) (.ty 257),tz (ae.bn r) 75 14,iO k].zipIdx.all λy=>aw y.2 0||y.1.1.gS 257)=V:=by simp[ak7,DV.gS]
    show(bif aw 257 257&&(jq 257 _&&([xH _ _,tz _ 75 14,iO k].zipIdx.all _))then _ else _)=_;rw[c,QN Edge.gS];rfl
 show SV.tp [xm _ 0 _,xm _ 1 _,xm _ 2 _]=_;rw[h,b];rfl
theorem aqP(p:ae)(g:GP p):∃o,(o=.ex 257\/o=.ty 257)/\CC 157 [.agg p.cells] (.val (.tp [xH (fx p).2.1 o,tz (ae.bn (fx p).2.2) 75 14,iO (fx p).1]) .empty):=by
 obtain⟨_,g1,e1,rfl⟩:=OO p g.o;obtain⟨_,g2,e2,a,q,rfl⟩:=adh p g;generalize fx p=D at*;obtain⟨e,s,r⟩:=D;have q0:aj 0 0=V:=rfl;refine⟨a,q,aO func157 ?_⟩;simp only at e2|-;have b:cg (s.map Edge.d)=V:=gT Edge.pure _;have c:cg (ae.bn r)=V:=ae.uX r;simp only[f157];rcases pq (s=[])with h|h<;>rcases pq (r=[])with hr|hr;case' inl.inl=>simp only[h,hr,ae.bn,Hb,zw]at e2|-
 case' inl.inr=>simp only[h,Hb,zu hr]at e2|-
 case' inr.inl=>simp only[hr,ae.bn,zw,A1 h]at e2|-
 case' inr.inr=>simp only[zu hr,A1 h]at e2|-
 all_goals rcases q with rfl|rfl<;>simp only[go_sem,e1,g.r,q0,e2,b,c]
set_option maxHeartbeats 4000000
theorem aGw(b:Bool)(f:bq)(a:ae)(l:bq)(k:Nat)(h:eK a≠[]):nk b f (a::l) k≠[]:=by simp_all[nk]
theorem aEF(p:ae)(x:Pr):BU p x≠[]:=by obtain⟨op,nl,args,ty,var,scope,s,cond⟩:=p;grind[BU,u6,aEI]
theorem ain:∀p:ae,zy p->eK p≠[]|.mk o f args t v s n c,d=>by have i:∀a∈args,eK a≠[]:=λa b=>ain a (d.IM b);have g:=d.ar;rw[eK];cases e:aj o 0 with|true=>rw[aR];simp|false=>rw[bX];cases args with|nil=>exact absurd g (λh=>SE e h)|cons a l=>have x:=i a gv;cases aj o 2||aj o 3 with|true=>rw[aR];exact aGw _ _ _ _ _ x|false=>rw[bX,BZ];cases q:eK a with|nil=>exact absurd q x|cons y m=>rw[GZ];exactλh=>aEF _ y (List.append_eq_nil_iff.1 h).1 termination_by p=>pB p decreasing_by simp_wf;have:=pr b;omega
theorem aKR(x:Pr)(s:gh×bq)(h:(gM x s).1=Z):(gM x s).2.1≠[]:=by grind[uC,gM]
theorem aei:∀(l:List Pr)(s:gh×bq),(cP gM l s).1=Z->l≠[]->(cP gM l s).2.1≠[]|[x],s,h,_=>by rw[Bn]at h|-;exact aKR x s h|x::y::l,s,h,_=>by rw[vu]at h|-;cases a:(gM x s).1 with|none=>rw[a]at h;exact aei (y::l) _ h aP|some c=>rw[a]at h;cases h
theorem acI(h:GP p)(a:(fx p).1=0):(fx p).2.1≠[]:=by
 revert a;unfold fx;rcases b:(cP _ _ _).1 with _|c;.intro _;exact aei _ _ b (ain p h.a)
 grind
theorem af0{a:Type}(f:a->Bool):∀(l:List a)(i:Nat),aA (gk f l i) 0=C->∃n:Nat,gk f l i=.ofNat n/\i<=n/\n<i+l.length|[],_,h=>by simp[gk,gL]at h|q::l,i,h=>by rw[gk]at h|-;cases c:f q with|true=>exact⟨i,by rw[aR],bS _,by simp only[dH];omega⟩|false=>rw[c,bX]at h;obtain⟨n,b,d,e⟩:=af0 f l (i+1) h;exact⟨n,by rw[bX,b],ab,by simp only[dH];omega⟩
theorem aKQ(x:Pr)(s:gh×bq)(h:∀y∈s.1,aA y.dst 0=C->y.dst.toNat<s.2.length):∀y∈(gM x s).2.1,aA y.dst 0=C->y.dst.toNat<(gM x s).2.2.length:=by grind[uC,gM,js,gL,af0]
theorem aeh:∀(l:List Pr)(s:gh×bq),(∀y∈s.1,aA y.dst 0=C->y.dst.toNat<s.2.length)->∀y∈(cP gM l s).2.1,aA y.dst 0=C->y.dst.toNat<(cP gM l s).2.2.length|[],_,h=>h|x::l,s,h=>by rw[vu];have:=aKQ x s h;cases(gM x s).1 with|none=>exact aeh l _ this|some c=>exact this
theorem aoM(p:ae):∀y∈(fx p).2.1,aA y.dst 0=C->y.dst.toNat<(fx p).2.2.length:=by unfold fx;cases(cP _ _ _).1<;>simp_all[aeh]
theorem afX(p:ae):∀(l:bq)(i:Nat),P8 p l i=gk (λq=>q.same p) l i|[],_=>rfl|q::l,i=>by rw[P8,gk,afX p l (i+1)]
theorem aBB{s:St}{x:aK}{d a b c:Nat}{u:iK}:vP s x d u (.se a b c)=aG s (J d) (.se a b c):=(rfl)
theorem aCh{s:St}{d:ah Tmp}{a b c:Nat}:VS s d (.se a b c)=aG s d (.se a b c):=(rfl)
attribute[go_sem]aBB aCh
def pU(f:bq):bq->Nat->List (Nat×gh)|[],_=>[]|q::l,i=>(i,(fx q).2.1.map (sM f i (fx q).2.2))::pU f l (i+1)
abbrev acW:Nat×gh->ao:=λx=>[iD (.ofNat x.1),.ay (x.2.map Edge.d) 257 17]
def abH(g:GH)(b:Nat)(l:bq):Prop:=g.get b=J (.box ⟨[.ay (ae.bn l) 75 14],[]⟩)/\b<g.next
structure StI{σ:Type}(k:Nat)(g0:GH)(rel:ah bM->σ->GH->Prop)(step:Nat×gh->σ->ah bM×σ)(s0:σ)(X φ:List (Nat×gh))(s:σ×GH):Prop where
 r:rel Z s.1 s.2
 h:Hi k g0 s.2
 n:k<=s.2.next
 f:cP step φ s.1=cP step X s0
 d:∃dn,X=dn++φ/\cP step dn s0=(Z,s.1)
theorem ayr(u:bq)(b:Nat)(hl:u.length<=256)(hg:∀q∈u,GP q/\(fx q).1=0):wu acW 156 [] [.ptr b 0] (λg=>abH g b u) (pU u u 0):=by
 intro n k σ F step s U jX g hr hk;suffices hS:Sat (ev PP cf (.call 156 ([]++[.dU n]++[.ptr b 0]) .no g)) λv N=>v=.tp []/\F (cP step (pU u u 0) s).1 (cP step (pU u u 0) s).2 N/\Hi k g N by obtain⟨v,N,e,rfl,r,h⟩:=hS;simp_all
 obtain⟨kV,nI⟩:=jX _ _ _ hr;have d1:=aJ9;simp only[bH,opsOf,f156,go_sem]at d1;refine np func156 ?_;simp only[f156];simp only[go_sem,kV];refine Aj u (s,g) (λi _=>[(12,iS i)]) (λs=>s.2) (λi l p=>StI k g F step s (pU u u 0) (pU u l i) p) ab rfl rfl ⟨hr,Hi.refl,hk,rfl,[],rfl,rfl⟩ (λp D=>?_) (λi q l p hi hx hw D K=>?_);.obtain⟨r,h2,_,f,_⟩:=D;rw[pU]at f;rw[<-f];simp only[go_sem];exact⟨trivial,r,h2⟩
 . obtain⟨S,g1⟩:=p;obtain⟨R,X,yh,H,w,G,I⟩:=D;simp only at R X yh H I;obtain⟨O,dq⟩:=hg q (du hx);obtain⟨oe,qJ,e2⟩:=aqP q O;obtain⟨ji,oS⟩:=jX _ _ _ R;have pH:=acI O dq;have t:=aLz (fx q).2.1 (fx q).2.2 (fx q).1 oe qJ;obtain⟨d3,d4,d5⟩:=El O;have p1:cg ((fx q).2.1.map Edge.d)=V:=gT Edge.pure _;have p2:cg (ae.bn (fx q).2.2)=V:=ae.uX _;simp only[A1 pH]at e2 t;rw[dq]at e2 t;have M:∀x∈(fx q).2.1,aA x.dst 0=C->x.dst.toNat<(fx q).2.2.length:=aoM q;rw[pU]at H G;generalize(fx q).2.1=a at*;generalize(fx q).2.2=c at*;have iN:aM.yp .no=V:=rfl;simp only[rf,ctt]at t;rcases pq (c=[])with hr|hr;case' inl=>simp only[hr,ae.bn,zw]at e2 t
   case' inr=>simp only[zu hr]at e2 t
   all_goals
   simp only[go_sem,iN,hi,hx,e2,t,p1,p2];rw[CA];refine Aj a () (λj _=>[(25,iS j),(5,.dv (.ay (((a.take j).map (sM u i c)++a.drop j).map Edge.d) 257 17) (.ex 257))]) (λ_=>g1) (λj r _=>r=a.drop j) ab rfl rfl rfl (λ_ D=>?_) (λj x r _ Q hy hv D o=>?_);.have wQ:((a.take a.length).map (sM u i c)++a.drop a.length).map Edge.d=(a.map (sM u i c)).map Edge.d:=aP;obtain⟨g3,e3,r3,P⟩:=U.run (i,a.map (sM u i c)) S g1 ⟨w,pU u l (i+1),G,I⟩ R yh;simp only[acW]at e3;rw[wQ];rw[vu]at H;have Lj:∀p,(step (i,a.map (sM u i c)) S)=(Z,p)->∃w,pU u u 0=w++pU u l (i+1)/\cP step w s=(Z,p):=λp h=>⟨w++[(i,a.map (sM u i c))],ai,by grind[xZ,Bn]⟩;generalize step (i,a.map (sM u i c)) S=z at*;obtain⟨Y,sz⟩:=z;cases Y with|none=>have K:=K (sz,g3) ⟨r3,X.trans P,by have:=P.1;grind,H,Lj _ rfl⟩;simp only[rz]at e3;simp only[go_sem]at K;simp only[go_sem,e3,hw,K]|some Y=>simp only[sE]at e3;simp only[go_sem,e3];rw[<-H];exact⟨trivial,r3,X.trans P⟩
   . have L:∃A B:ao,A.length=j/\((a.take j).map (sM u i c)++a.drop j).map Edge.d=A++x.d::B/\((a.take (j+1)).map (sM u i c)++a.drop (j+1)).map Edge.d=A++(sM u i c x).d::B:=by have Ig:=mI Q;obtain⟨_,hxj⟩:=am.1 hy;refine⟨((a.take j).map (sM u i c)).map Edge.d,(a.drop (j+1)).map Edge.d,ai,?_,?_⟩;all_goals simp_all[D3,List.take_succ_eq_append_getElem]
     obtain⟨A,B,hA,iE,jW⟩:=L;have o:=o () (by grind[D5]);simp only at o;rw[jW]at o;simp only[iE];have W:∀y:DV,(A++y::B)[j]?=J y:=λy=>aT;have E:∀y:DV,List.take j (A++y::B)=A:=λy=>List.take_left' hA;have gQ:∀y:DV,List.drop (j+1) (A++y::B)=B:=λy=>by simp_all[zn]
     have T:(j<A.length+(B.length+1))=True:=ir ab;have kY:=du hy;obtain⟨src,d,var,ty,⟨o1,o2,o3,o4,o5,o6,o7,o8,o9⟩,ops,cls,uz,uR,ins⟩:=x;have G:=M _ kY;simp only at G;simp only[sM,Edge.d,Edge.cells,Expr.cells]at o|-;cases hd:aA d 0 with|true=>simp only[hd,aR,go_sem]at o;simp only[go_sem,Q,W,E,gQ,T,hd,hv,o]|false=>
     have I:=G hd;have hd0:¬d<0:=by rw[gL]at hd;exact of_decide_eq_false hd
     obtain⟨m,rfl⟩:∃m:Nat,d=.ofNat m:=⟨d.toNat,by simp only[JZ];omega⟩;first
     |(rw[hr]at I;exact absurd I aP)
     | obtain⟨z,hz⟩:∃z,c[m]?=J z:=⟨_,dA I⟩;have dW:c.getD (dk m).toNat zP=z:=by show c.getD m zP=z;rw[List.getD_eq_getElem?_getD,hz];rfl
       obtain⟨gz,e6⟩:=aqQ C u z ab (λq hq=>by have:=(hg q hq).1.c;omega);rw[OF,<-afX]at e6;have Ip:(m<c.length)=True:=ir I;simp only[hd,dW,bX,go_sem]at o;simp only[go_sem,Q,W,E,gQ,T,hd,hv,o,hz,Ip,e6,ji,d1]
set_option maxHeartbeats 1000000
abbrev zA:dJ:=⟨0,0,⟨V,[]⟩,⟨V,[]⟩⟩
theorem aK2(q R r E v p t d)(X:ae.bN r<=89)(gj:ur q r.length=V)(M:∀x∈r,CC 160 [.agg x.cells] (.val (fP ((ju x).map Guard.d) 305 11) .empty)):CC 160 [.agg (ae.mk q R r E v p t d).cells] (.val (fP ((ju (.mk q R r E v p t d)).map Guard.d) 305 11) .empty):=by
 have K:=ae.mH r;have D:aj q 0=C->∃a l,r=a::l:=λh0=>by cases r<;>grind[SE]
 have H:∀k:Int,aj k 0=C->aj q k=V->aj q 0=C:=λk hk h=>by grind[nY]
 refine aO func160 ?_;simp only[f160];simp only[go_sem,ae.cells,ju];have L:∀a l,r=a::l->(ju a=[]/\CC 160 [.agg a.cells] (.val (.dv .nl .any) .empty))\/(ju a≠[]/\CC 160 [.agg a.cells] (.val (.dv (.ay ((ju a).map Guard.d) 305 11) (.ex 305)) .empty)):=by
  intro a l h;have:=M a aT;rcases pq (ju a=[])with c|c;.rw[c]at this;exact .inl ⟨c,this⟩
  grind[uq]
 cases G:aj q 9 with|true=>
  obtain rfl:=nY G;obtain⟨a,l,rfl⟩:=D rfl;have N:aj 9 1=C:=rfl;have O:aj 9 8=C:=rfl;have P:aj 9 3=C:=rfl;have Q:aj 9 9=V:=rfl;have W:=He a;simp only[ae.bN]at X;have m:fu 305 11 112 (.ay [Guard.d ⟨p,E,v,d⟩] 305 11) (.ex 305) ((ju a).map Guard.d)=J (.ay ([Guard.d ⟨p,E,v,d⟩]++(ju a).map Guard.d) 305 11,.ex 305):=aa4 ai;have w:(((ju a).map Guard.d).all λy=>decide (y.flat.length=11))=V:=flG _;simp only[go_sem]at m;rcases L a l rfl with⟨c,e1⟩|⟨c,e1⟩;.rw[c]at m;simp only[eG,go_sem]at m;simp only[go_sem,N,O,P,Q,ae.bn,e1,sI,c]
  .simp only[go_sem,N,O,P,Q,ae.bn,e1,m,w,Bp,sI]|false=>
  apply sp<;>intro h<;>simp only[h,go_sem]
  . obtain⟨a,l,rfl⟩:=D (H 1 rfl h);rcases L a l rfl with⟨c,e1⟩|⟨c,e1⟩;.simp only[go_sem,ae.bn,e1,sI,c,eG]
    .simp only[go_sem,ae.bn,e1,sI,Bp,uq c]
  apply sp<;>intro F<;>simp only[F,go_sem]
  . obtain⟨a,l,rfl⟩:=D (H 8 rfl F);rcases L a l rfl with⟨c,e1⟩|⟨c,e1⟩;.simp only[go_sem,ae.bn,e1,sI,c,eG]
    .simp only[go_sem,ae.bn,e1,sI,Bp,uq c]
  apply sp<;>intro U<;>simp only[U,G,go_sem]
  . have T:aj q 10=C:=by grind[nY]
    have z:aj q 7=C:=by grind[nY]
    simp only[T,z,go_sem];refine sV r ([]:List Guard) (λi s=>[(21,iS i),(3,fP (s.map Guard.d) 305 11)]) (λi l s=>.val (fP ((s++A2 l).map Guard.d) 305 11) .empty) (λi l s=>s.length+ae.bN l<=400) ab rfl ai rfl (λs I=>?_) (λi x l s A u B I g=>?_)
    . simp only[A2,kD];rcases pq (s=[])with j|j;.subst j;simp only[go_sem]
      .simp only[go_sem,uq j]
    . have e1:=M x (du u);have g:=g (s++ju x) (by grind[He,ae.bN]);have W:=He x;simp only[ae.bN]at I;simp only[A2];rw[<-wv];have m:s≠[]->fu 305 11 112 (.ay (s.map Guard.d) 305 11) (.ex 305) ((ju x).map Guard.d)=J (.ay (s.map Guard.d++(ju x).map Guard.d) 305 11,.ex 305):=λ_=>aa4 ai;have w:(((ju x).map Guard.d).all λy=>decide (y.flat.length=11))=V:=flG _;have Y:=λ(h:ju x≠[])(o:aM)=>aa5 (f:=Guard.d) (e:=305) (n:=11) (b:=112) (o:=o) ab ab h ab;rcases pq (s=[])with j|j<;>rcases pq (ju x=[])with c|c;.subst j;rw[c]at e1 g|-;simp only[kD,eG,go_sem]at g e1;simp only[go_sem,A,u,B,e1,g,alK,kD,jJ]
      .subst j;simp only[jJ,uq c,go_sem]at g e1;simp only[go_sem,A,u,B,e1,w,g,Y c,Bp,jJ]
      .rw[c]at e1 g m|-;simp only[kD,eG,uq j,go_sem]at g e1 m;simp only[go_sem,A,u,B,e1,g,m j,uq j,kD]
      .have S:s++ju x≠[]:=aT;rw[uq S]at g;simp only[uq c,pZ,go_sem]at g e1;simp only[go_sem,A,u,B,e1,w,g,m j,Bp,uq j,pZ,wv]
  apply sp<;>intro T<;>simp only[T,go_sem]
  . obtain⟨a,l,rfl⟩:=D (H 10 rfl T);rcases L a l rfl with⟨c,e1⟩|⟨c,e1⟩;.simp only[go_sem,ae.bn,e1,sI,c,eG]
    .simp only[go_sem,ae.bn,e1,sI,Bp,uq c]
  apply sp<;>intro z<;>simp only[z,go_sem]
  . obtain⟨a,l,rfl⟩:=D (H 7 rfl z);rcases L a l rfl with⟨c,e1⟩|⟨c,e1⟩;.simp only[go_sem,ae.bn,e1,sI,c,eG]
    .simp only[go_sem,ae.bn,e1,sI,Bp,uq c]
theorem adj:∀p:ae,zy p->p.nn<=90->CC 160 [.agg p.cells] (.val (fP ((ju p).map Guard.d) 305 11) .empty)|.mk o l args t v s a c,b,n=>by have hr:∀x∈args,CC 160 [.agg x.cells] (.val (fP ((ju x).map Guard.d) 305 11) .empty):=λx h=>adj x (b.IM h) (by have:=ae.rV args x h;simp only[ae.nn]at n;omega);exact aK2 o l args t v s a c (by simp only[ae.nn]at n;omega) b.ar hr termination_by p=>pB p decreasing_by simp_wf;have:=pr h;omega
theorem aqD(p:ae)(b:lV p):CC 103 [.agg p.cells] (.val (.tp [tz ((bif aj p.uy 0 then ju p else[]).map Guard.d) 305 11,iO p.uy]) .empty):=by
 obtain⟨_,g0,a,rfl⟩:=OO p b;refine aO func103 ?_;rcases c:aj _ 0 with _|_;.simp only[go_sem,f103,a,c,eG,zw]
 have g:=S5 b (nY c);have e1:=adj p g.a (by have:=g.n;omega);have z:=nY c;rcases pq (ju p=[])with h|h;.rw[h]at e1|-;simp only[go_sem,f103,a,e1,eG,zw,z]
 .rw[uq h]at e1;simp only[go_sem,f103,a,e1,Bp,Sv h,z]
set_option maxHeartbeats 4000000
section
variable{P:aH}{t fn n id I e a m:Nat}{sl:cX}{lb:dV}{g:GH}{d:ah Tmp}{b:LB}{dd:DV}{l:ao}
theorem aAb:rQ P t .ref ⟨fn,n,sl,lb,g⟩ d id 0 (.box ⟨[.ay l a m],[(0,.ty e)]⟩)=(fF P .ref t ⟨[.ay l a m],[(0,.ty e)]⟩ 0).bind λr=>aG ⟨fn,n,sl,lb,g.set id (.box r.2)⟩ d r.1:=by rfl
theorem aHp:pg .ref b I dd (.ty e)=(.dv dd .no,b):=rfl
end
attribute[go_sem]aAb aHp
theorem aqC(l:bq)(g:GH):ev PP cf (.call 102 [.ay (ae.bn l) 75 14] .no g)=J (.val (.dv (.func 156 [] [.ptr g.next 0]) .no) (g.alloc (.box ⟨[.ay (ae.bn l) 75 14],[]⟩))):=by refine aO func102 ?_;simp only[go_sem,f102]
def uh(f:bq)(x:Nat×gh)(s:List Stat×gh):ah bM×(List Stat×gh):=(Z,(s.1++[⟨⟨V,ju (f.getD x.1 zP)⟩⟩],s.2++x.2))
def rD(f:bq):bq->Nat->List Stat×gh->List Stat×gh|[],_,s=>s|q::l,i,(a,e)=>rD f l (i+1) (a++[⟨⟨V,ju q⟩⟩],e++(fx q).2.1.map (sM f i (fx q).2.2))
theorem T9(f:bq):∀(l:bq)(i:Nat)(s:List Stat×gh),f.drop i=l->cP (uh f) (pU f l i) s=(Z,rD f l i s)
 |[],_,_,_=>rfl|q::l,i,s,h=>by
  have k:f[i]?=J q:=by rw[<-G1,h];rfl
  rw[pU,vu];show cP (uh f) (pU f l (i+1)) (uh f _ s).2=_;rw[T9 f l (i+1) _ (by rw[<-D5,h];rfl)];obtain⟨a,e⟩:=s;simp only[uh,rD,List.getD_eq_getElem?_getD,k,D9]
theorem RL(f:bq):∀(l:bq)(i:Nat),f.drop i=l->∀x∈pU f l i,∃q,f[x.1]?=J q/\x.2=(fx q).2.1.map (sM f x.1 (fx q).2.2)
 |[],_,_,x,h=>by rw[pU]at h;exact absurd h mO|q::l,i,h,x,a=>by
  have k:f[i]?=J q:=by rw[<-G1,h];rfl
  rw[pU]at a;rcases Cp.1 a with rfl|a;.exact⟨q,k,rfl⟩
  .exact RL f l (i+1) (by rw[<-D5,h];rfl) x a
def SR(v s:Int)(x:List Stat×gh):GO:=match x.1 with|[]=>.box ⟨[iD v,iD s,.nl,.nl],[]⟩|_=>.box ⟨[iD v,iD s,.ay (x.1.map Stat.d) 227 1,.ay (x.2.map Edge.d) 257 17],[(3,.ex 257),(2,.ex 227)]⟩
structure R59(v s:Int)(full:bq)(x:List Stat×gh)(g:GH):Prop where
 a:g.get 1=J (.box ⟨[iD 0,iD 0,.nl,.nl],[]⟩)b:g.get 2=J (.box ⟨[.nl],[]⟩)d:g.get 3=J (.box ⟨[iD 0],[]⟩)l:g.get 4=J (.box ⟨[.ay (ae.bn full) 75 14],[(0,.ty 75)]⟩)m:g.get 5=J (SR v s x)c:abH g 6 full
 n:(x.1=[]->x.2=[])/\(x.1≠[]->x.2≠[])
theorem T'(f:bq):∀(l:List (Nat×gh))(s:List Stat×gh),(∀x∈l,x.2.length<=4096)->(cP (uh f) l s).2.1.length=s.1.length+l.length/\(cP (uh f) l s).2.2.length<=s.2.length+l.length*4096|[],_,_=>⟨rfl,Nat.le_add_right _ _⟩|x::l,s,h=>by rw[vu];obtain⟨a,b⟩:=T' f l (uh f x s).2 (λy c=>h y (jR _ c));have:=h x gv;show(cP (uh f) l (uh f x s).2).2.1.length=_/\(cP (uh f) l (uh f x s).2).2.2.length<=_;simp only[uh,ib,dH,gX]at a b|-;exact⟨ab,ab⟩
theorem ZO(f:bq):∀(l:bq)(i:Nat),(pU f l i).length=l.length|[],_=>rfl|q::l,i=>by rw[pU,dH,dH,ZO f l (i+1)]
theorem Oi{v:Int}{a:List Stat}{e:gh}(h:a≠[]):SR v s (a,e)=.box ⟨[iD v,iD s,.ay (a.map Stat.d) 227 1,.ay (e.map Edge.d) 257 17],[(3,.ex 257),(2,.ex 227)]⟩:=by
 cases a;.grind
 rfl
def abM{v:Int}{e:gh}:SR v s ([],e)=.box ⟨[iD v,iD s,.nl,.nl],[]⟩:=rfl
theorem ata(l:gh):((l.map Edge.d).all λy=>decide (y.flat.length=17))=V:=by simp[DV.flat,Edge.d,Edge.dE]
theorem aK5(p:ae)(hp:lV p)(u:bq)(hn:u≠[])(d:u.length<=256)(A:∀q∈u,GP q/\(fx q).1=0)(hc:aj p.jx 0=V)(e1:CC 100 [.agg p.cells] (.val (.tp [(.ay (ae.bn u) 75 14,.ex 75),iO 0]) .empty)):Sat (ev PP cf (.call 65 [.agg p.cells] .no .empty)) λv _=>∃w:DV×aM,w.1.pure=V/\v=.tp [(.agg (bif aA 2048 (.ofNat (rD u u 0 ([],[])).2.length)then zA else⟨(kG p).1,(kG p).2.1,⟨V,(rD u u 0 ([],[])).1⟩,⟨V,(rD u u 0 ([],[])).2⟩⟩).cells,.no),w,iO (bif aA 2048 (.ofNat (rD u u 0 ([],[])).2.length)then 17 else 0)]:=by
 have e2:=ac3 p hp;have e3:=aqC u;have q0:aj 0 0=V:=rfl;have hz:(kG p).2.2=0:=by unfold kG;rw[hc];rfl
 rw[hz]at e2;have p2:cg (ae.bn u)=V:=ae.uX u;refine np func65 ?_;simp only[f65,List.append];have Y:cY [(0,.ex 75)] 0 1=[]:=rfl;simp only[go_sem,e1,e2,p2,q0,Y,e3];refine Av (ayr u 6 d A) (uh u) (λ_ x g=>R59 (kG p).1 (kG p).2.1 u x g) ([],[]) (λm=>rfl) rfl ⟨rfl,rfl,rfl,rfl,rfl,⟨rfl,by show 6<7;decide⟩,λ_=>rfl,λh=>absurd rfl h⟩ (λc s g' h=>h.c) (λc s g3 g4 h d=>⟨(d.2 1 (by show 1<7;decide)).trans h.a,(d.2 2 (by show 2<7;decide)).trans h.b,(d.2 3 (by show 3<7;decide)).trans h.d,(d.2 4 (by show 4<7;decide)).trans h.l,(d.2 5 (by show 5<7;decide)).trans h.m,⟨(d.2 6 (by show 6<7;decide)).trans h.c.1,gx h.c.2 d.1⟩,h.n⟩) (λx s g2 hx R hN W=>?_) (λg2 R hN=>?_)
 . obtain⟨r1,r2,I,K,r,⟨r6,r7⟩,r8,D⟩:=R;refine Ay W rfl ?_;simp only at hN W;obtain⟨t,E⟩:=s;obtain⟨j,i⟩:=x;have pN:=hx.mem;have hj:=RL u u 0 (xC) _ pN;simp only at hj;obtain⟨q,B,pH⟩:=hj;have G:=(A q (du B)).1;have e4:=aqD q G.o;rw[G.r,show aj 0 0=V from rfl,aR]at e4;have d1:=aKk;simp only[bH,opsOf,f65,List.append,go_sem]at d1;have qf:(j<u.length)=True:=ir (am.1 B).1;have hb:=El G;have U:i≠[]:=by rw[pH];have:=acI G (A q (du B)).2;simpa using this
   have aNV:i.length<=4096:=by rw[pH,fZ];exact hb.2.2
   have hlen:t.length<=256/\E.length<=256*4096:=by obtain⟨pre,post,z,Q⟩:=hx;have:=T' u pre ([],[]) (λy a=>by obtain⟨X,k1,k2⟩:=RL u u 0 (xC) y (by rw[z];exact J3 _ a);rw[k2,fZ];exact(El (A X (du k1)).1).2.2);rw[Q]at this;have jY:=gY List.length z;rw[ib,ZO]at jY;simp only[gX]at this;have:pre.length*4096<=256*4096:=qz ab (bS _);omega
   have ES:(t.length<1200000)=True:=ir ab;have P:=aa5 (f:=Edge.d) (e:=257) (n:=17) (b:=240) (l:=i) (o:=.any) fD fD U ab;have S:fu 257 17 240 (.ay (E.map Edge.d) 257 17) (.ex 257) (i.map Edge.d)=J (.ay (E.map Edge.d++i.map Edge.d) 257 17,.ex 257):=p8 fD (by rw[fZ,fZ];unfold bm;omega) (by rw[fZ,fZ];unfold bm;omega);have T:=ata i;have uG:u.getD j zP=q:=by rw[List.getD_eq_getElem?_getD,B];rfl
   have L:cY [(2,.ex 227)] 3 1=[(2,.ex 227)]:=rfl;have M:cY [(3,.ex 257),(2,.ex 227)] 2 1=[(3,.ex 257)]:=rfl;have N:cY [(3,.ex 257)] 3 1=[]:=rfl;have dd4:cY [(3,.ex 257)] 2 1=[(3,.ex 257)]:=rfl;have dd5:cY [(2,.ex 227)] 2 1=[]:=rfl;have dd6:cY [(3,.ex 257),(2,.ex 227)] 3 1=[(2,.ex 227)]:=rfl;have dd7:cY [] 3 1=[]:=rfl;have O:cY [] 2 1=[]:=rfl;simp only at r8 D;rcases pq (t=[])with k|k<;>rcases pq (ju q=[])with a|a;case' inl.inl=>rw[k,abM]at r
   case' inl.inr=>rw[k,abM]at r
   case' inr.inl=>rw[Oi k]at r
   case' inr.inr=>rw[Oi k]at r
   case' inl.inl=>simp only[a,eG,zw]at e4
   case' inr.inl=>simp only[a,eG,zw]at e4
   case' inl.inr=>simp only[Sv a]at e4
   case' inr.inr=>simp only[Sv a]at e4
   all_goals simp only[go_sem,W,K,r,B,e4,d1,Bp,P,S,T,ES,fZ,L,M,N,O]
   all_goals
   have cq:(uh u (j,i) (t,E)).2=(t++[⟨⟨V,ju q⟩⟩],E++i):=by unfold uh;simp only[uG]
   rw[cq];refine⟨rfl,⟨?_,?_,?_,?_,?_,⟨?_,?_⟩,λh=>absurd h aP,λ_=>by simp[U]⟩,oo,rfl⟩;.simp only[go_sem,r1]
   .simp only[go_sem,r2]
   .simp only[go_sem,I]
   .simp only[go_sem,K]
   . rw[Oi aP];first|have hG:=Fs (f:=Guard.d) (e:=305) (n:=11) a|have hG:bw V ((ju q).map Guard.d) 305 11=.nl:=by rw[a];rfl
     first|have H:=r8 k|have H:=U
     simp only[go_sem,r,pZ,fO,eG,Stat.d,CW,hG,k,H]
   .simp only[go_sem,r6]
   .simp only[gO];exact r7
 . rw[T9 u u 0 _ (xC)]at R|-;obtain⟨r1,r2,I,K,r,⟨r6,r7⟩,r8,D⟩:=R;have F:(rD u u 0 ([],[])).1≠[]:=by have z:=T' u (pU u u 0) ([],[]) (λy a=>by obtain⟨X,k1,k2⟩:=RL u u 0 (xC) y a;rw[k2,fZ];exact(El (A X (du k1)).1).2.2);rw[T9 u u 0 _ (xC)]at z;intro h0;have Q:=z.1;simp only[h0,gX,ZO]at Q;exact hn (List.eq_nil_of_length_eq_zero ab)
   simp only at r D;generalize rD u u 0 ([],[])=x at*;obtain⟨t,E⟩:=x;simp only at F D;have H:=D F;rw[Oi F]at r;have b1:=aIB;have b2:=aIQ;simp only[bH,opsOf,f65,List.append,go_sem]at b1 b2;simp only[go_sem,r];apply gV<;>intro h<;>simp only[h,go_sem,r1,r2,I];.exact⟨(.nl,.any),rfl,rfl⟩
   .refine Rr [()] [] b2 b1 rfl ?_;simp only[go_sem,r1,r2,I,K,r];exact⟨(.ay (ae.bn u) 75 14,.ty 75),p2,by rw[Fs F,Fs H]⟩
theorem Sy:∀(l o:bq),∃s,rC l o=o++s|[],o=>⟨[],(kD o).symm⟩|r::l,o=>by rw[rC];cases aA (gk r.same o 0) 0 with|true=>obtain⟨s,h⟩:=Sy l (o++[r]);exact⟨r::s,by rw[aR,h];simp⟩|false=>exact Sy l o
theorem Zw:∀(f i:Nat)(o l:bq),xg f i o=J l->(∀q∈o,GP q)->i<=o.length->(∀j q,j<i->o[j]?=J q->(fx q).1=0)->∀q∈l,GP q/\(fx q).1=0|0,_,_,_,h,_,_,_=>by cases h|f+1,i,o,l,h,g,u,hd=>by rw[xg]at h;cases a:o[i]? with|none=>rw[a]at h;cases h;intro q m;refine⟨g q m,?_⟩;obtain⟨j,d,rfl⟩:=List.getElem_of_mem m;have:=List.getElem?_eq_none_iff.1 a;exact hd j _ ab (dA d)|some q=>rw[a]at h;simp only at h;have p:=g q (du a);cases e:aj (fx q).1 0 with|false=>rw[e]at h;cases h|true=>rw[e,aR]at h;cases k:aA 256 (.ofNat (rC (fx q).2.2 o).length)with|true=>rw[k]at h;cases h|false=>
 rw[k,bX]at h;obtain⟨d1,_,_⟩:=El p;obtain⟨n,_,t⟩:=N9 _ o d1 g;obtain⟨s,r⟩:=Sy (fx q).2.2 o;have I:=(am.1 a).1;refine Zw f (i+1) _ l h n ab (λj z d b=>?_);rw[r,nV ab]at b;by_cases c:j<i;.exact hd j z c b
 .have:j=i:=ab;subst this;rw[a]at b;cases b;exact nY e
theorem Zv:∀(f i:Nat)(o l:bq),xg f i o=J l->(∀q∈o,GP q)->o≠[]->o.length<=256->l≠[]/\l.length<=256|0,_,_,_,h,_,_,_=>by cases h|f+1,i,o,l,h,g,n,k=>by rw[xg]at h;cases a:o[i]? with|none=>rw[a]at h;cases h;exact⟨n,k⟩|some q=>rw[a]at h;simp only at h;cases e:aj (fx q).1 0 with|false=>rw[e]at h;cases h|true=>rw[e,aR]at h;cases j:aA 256 (.ofNat (rC (fx q).2.2 o).length)with|true=>rw[j]at h;cases h|false=>rw[j,bX]at h;obtain⟨d1,_,_⟩:=El (g q (du a));obtain⟨c,_,b⟩:=N9 _ o d1 g;refine Zv f (i+1) _ l h c (λd=>n (List.eq_nil_of_length_eq_zero (by rw[d]at b;simpa using b))) ?_;rw[gL]at j;have:=of_decide_eq_false j;simp only[JZ]at this;omega
def mS(p:ae):dJ×Int:=bif aj p.jx 0 then(match xg 258 0 [p]with|none=>(zA,17)|some l=>bif aA 2048 (.ofNat (rD l l 0 ([],[])).2.length)then(zA,17)else(⟨(kG p).1,(kG p).2.1,⟨V,(rD l l 0 ([],[])).1⟩,⟨V,(rD l l 0 ([],[])).2⟩⟩,0))else(zA,p.jx)
theorem ars(p:ae)(b:lV p):Sat (ev PP cf (.call 65 [.agg p.cells] .no .empty)) λv _=>∃w:DV×aM,w.1.pure=V/\v=.tp [(.agg (mS p).1.cells,.no),w,iO (mS p).2]:=by
 have e1:=aqB p b;unfold mS;rcases h:aj p.jx 0 with _|_;.rw[h,bX]at e1;refine np func65 ?_;simp only[f65,List.append];simp only[go_sem,e1,h];exact⟨(.nl,.any),rfl,rfl⟩
 rw[h,aR]at e1;have g:=S4 b (nY h);have d:∀q∈[p],GP q:=λq n=>ai;rw[aR];rcases a:xg 258 0 [p]with _|l;.rw[a]at e1;simp only[Jm]at e1;have F4:aj 17 0=C:=rfl;refine np func65 ?_;simp only[f65,List.append];simp only[go_sem,e1,F4];exact⟨(.nl,.any),rfl,rfl⟩
 rw[a]at e1;obtain⟨c,i⟩:=Zv _ _ _ _ a d aP aP;simp only[Jm,zu c]at e1;obtain⟨v,f,e,w,k,rfl⟩:=aK5 p b l c i (Zw _ _ _ _ a d (mn _) (λj q m=>ab)) h e1;refine⟨_,f,e,w,k,?_⟩;grind
theorem adp(p:ae)(h:lV p):Sat (ev PP cf (.call 46 [.agg p.cells] .no .empty)) λv _=>v=.tp [(.agg (mS p).1.cells,.no),iO (mS p).2]:=by obtain⟨_,g1,e1,w,a,rfl⟩:=ars p h;refine np func46 ?_;simp only[f46];simp only[go_sem,e1,a,dJ.cells]
theorem aKP(Q:Edge->Prop)(x:Pr)(s:gh×bq)(a:∀d,Q (js x.cJ d))(h:∀e∈s.1,Q e):∀e∈(gM x s).2.1,Q e:=by grind[uC,gM]
theorem aef(Q:Edge->Prop):∀(l:List Pr)(s:gh×bq),(∀x∈l,∀d,Q (js x.cJ d))->(∀e∈s.1,Q e)->∀e∈(cP gM l s).2.1,Q e|[],_,_,h=>h|x::l,s,a,h=>by rw[vu];have:=aKP Q x s (a x gv) h;cases(gM x s).1 with|none=>exact aef Q l _ (λy b=>a y (jR _ b)) this|some c=>exact this
theorem aoO(h:GP p):∀e∈(fx p).2.1,xA e:=by
 unfold fx;cases(cP gM _ _).1;.refine aef _ _ _ (λx c d=>?_) aP;have b:=Jb p h.a x c;have f:=h.n;have g:=h.c;exact⟨by have:=b.c;show x.cJ.cond.nn<_;omega,by have:=b.k;show x.cJ.jN.l.length<_;omega,λe a=>by have:=b.e e a;omega,by have:=b.o;show x.cJ.opens.l.length<_;omega,by have:=b.p;show x.cJ.ma.l.length<_;omega,by have:=b.i;show x.cJ.inside.l.length<_;omega,by have:=b.l;show x.cJ.ka.l.length<_;omega⟩
 .simp
mutual
theorem Sx : ∀ p : ae, ∀ g ∈ ju p, g.cond.nn <= p.cn
  | .mk o l args t v s e n, g, h => by
    have d := ak9 args
    have f := aaN args
    rw [ju] at h
    rw [ae.cn]
    cases a : aj o 9 <;> rw [a] at h
    · cases b : (aj o 1 || (aj o 8 || (aj o 10 || aj o 7))) <;> rw [b] at h
      · cases c : aj o 3 <;> rw [c] at h
        · exact absurd h mO
        · have := f g h; omega
      · have := d g h; omega
    · rcases Cp.1 h with rfl | h
      · show n.nn <= _; omega
      · have := d g h; omega
theorem ak9 : ∀ l : bq, ∀ g ∈ sI l, g.cond.nn <= ae.gi l
  | [], _, h => absurd h mO
  | a :: l, g, h => by
    rw [sI] at h
    have := Sx a g h
    rw [ae.gi]; omega
theorem aaN : ∀ l : bq, ∀ g ∈ A2 l, g.cond.nn <= ae.gi l
  | [], _, h => absurd h mO
  | a :: l, g, h => by
    rw [A2] at h
    rw [ae.gi]
    rcases Co.1 h with h | h
    · have := Sx a g h; omega
    · have := aaN l g h; omega
end
theorem abA(f:bq):∀(l:bq)(i:Nat)(s:List Stat×gh),(∀q∈l,GP q)->(∀x∈s.1,x.guards.l.length<=64/\∀g∈x.guards.l,g.cond.nn<=4160)->(∀e∈s.2,xA e)->(rD f l i s).1.length=s.1.length+l.length/\(∀x∈(rD f l i s).1,x.guards.l.length<=64/\∀g∈x.guards.l,g.cond.nn<=4160)/\∀e∈(rD f l i s).2,xA e
 |[],_,_,_,j,k=>⟨rfl,j,k⟩|q::l,i,(t,n),m,j,k=>by have d:=m q gv;obtain⟨a,b⟩:=abA f l (i+1) (t++[⟨⟨V,ju q⟩⟩],n++(fx q).2.1.map (sM f i (fx q).2.2)) (λr hr=>m r (jR _ hr)) (λx c=>by
 rcases Co.1 c with c|c;.exact j x c
 .rw[Cq.1 c];exact⟨gw (He q) d.n,λg o=>gw (Sx q g o) d.c⟩) (λe h=>by
 rcases Co.1 h with h|h;.exact k e h
 .obtain⟨y,p,rfl⟩:=au.1 h;have:=aoO d y p;exact⟨this.c,this.k,this.e,this.o,this.p,this.i,this.l⟩);rw[rD];refine⟨by rw[a];simp only[ib,dH,gX];omega,b⟩
theorem aA6{n:Nat}:aA 2048 (.ofNat n)=V↔2048<n:=by grind[gL]
theorem aaw:ri zA:=⟨ai,ai,λ_ h=>absurd h mO,λ_ h=>absurd h mO⟩
theorem acu(p:ae)(k:lV p):ri (mS p).1:=by
 unfold mS;cases f:aj _ 0;.exact aaw
 . have l:=S4 k (nY f);have g1:∀q∈[p],GP q:=λq e=>ai;rcases d:xg _ 0 _ with _|m;.exact aaw
   have k2:=Zw 258 0 [p] m d g1 (mn _) (λj q i _=>absurd i (N3 _));have k3:=Zv _ 0 _ m d g1 aP aP;obtain⟨a,b,c⟩:=abA m m 0 ([],[]) (λq e=>(k2 q e).1) (λx h=>absurd h mO) (λx h=>absurd h mO);show ri (bif aA _ _ then(zA,(17:Int))else _).1;cases r:aA _ _
   . have:¬2048<(rD m m 0 ([],[])).2.length:=λn=>by grind[aA6]
     exact⟨ai,ai,λs t=>⟨ai,λg o=>ai⟩,c⟩
   simp[aaw]
set_option maxHeartbeats 1000000
abbrev iN(j:Nat):DV:=.int .i64 (.ofNat j)
abbrev Rec:=Int->aC->Int->List aC
section
variable{E:gh}{f:Rec}{s:Int}{p:aC}{lim:Int}{x:Edge}{l:gh}{i:Nat}{o:List aC}
end
set_option maxHeartbeats 4000000
structure HW(a:dJ)(b c y f n mR:Nat)(g:GH):Prop where
 ga:g.get b=J (.box ⟨a.cells,[]⟩)gc:g.get c=J (.box ⟨[iN mR],[]⟩)gy:g.get y=J (.box ⟨[.dU n],[]⟩)gf:g.get f=J (.box ⟨[.func 476 [] [.ptr b 0,.ptr c 0,.ptr y 0,.ptr f 0]],[]⟩)nb:b<g.next
 nc:c<g.next
 ny:y<g.next
 nf:f<g.next
def Hc(k c:Nat)(g a:GH):Prop:=g.next<=a.next/\∀i,k<=i->i<g.next->i≠c->a.get i=g.get i
def Hc.trans{c:Nat}{a b d:GH}(h:Hc k c a b)(e:Hc k c b d):Hc k c a d:=⟨gw h.1 e.1,λj f g i=>(e.2 j f (gx g h.1) i).trans (h.2 j f g i)⟩
section
variable{σ:Type}{n k:Nat}{ok:aC->σ->Prop}{rel:ah bM->σ->GH->Prop}{step:aC->σ->ah bM×σ}
end
set_option maxHeartbeats 1000000
def Kt(f:ae->dJ×Int)(t:Sl b9)(q:cA)(a:dJ):Int:=bif aj (wF t q) 0 then(bif aj (f q.pat).2 0 then(bif(f q.pat).1.same a then 0 else 22)else(f q.pat).2)else wF t q
theorem ev9(t:Sl b9)(q:cA)(a:dJ)(f:lX t)(c:mw q)(A:ri (mS q.pat).1):∃g,CC 264 [.agg (eJ.cells ⟨t,q,a⟩)] (.val (.dv (iD (Kt mS t q a)) .no) g):=by
 suffices S:Sat (ev PP cf (.call 264 [.agg (eJ.cells ⟨t,q,a⟩)] .no .empty)) λv _=>v=.dv (iD (Kt mS t q a)) .no by obtain⟨v,r,e,rfl⟩:=S;grind
 obtain⟨g1,e1⟩:=ado t q f c;obtain⟨_,g2,e2,rfl⟩:=adp _ c.p;have e3:=aq7 _ a A;obtain⟨u,w,y,pat,G⟩:=q;simp only[Kt];obtain⟨op,nl,args,ty,var,scope,s,cond⟩:=pat;obtain⟨i,j,c3,k,l,m,n,o,p⟩:=cond;simp only[cA.cells,ae.cells,Expr.cells,dJ.cells,go_sem,lS,jJ]at e1 e2 e3;refine np func264 ?_;simp only[go_sem,f264,eJ.cells,cA.cells,ae.cells,Expr.cells,dJ.cells,lS,jJ,e1];apply gV<;>intro h
 . simp only[h,go_sem,e2];apply gV<;>intro b;.simp only[b,go_sem,e3];apply gV<;>intro d<;>simp only[d,go_sem]
   .simp only[b,go_sem]
 .simp only[h,go_sem]
set_option maxHeartbeats 2000000
structure p7(p:eJ):Prop where
 t:lX p.types
 k:p.query.key.l.length<1000000000
 a:ri p.xK
 v:p.xK.vars<=.ofNat p.query.vars.l.length
def Qd(p:eJ)(c:br)(m:Int)(r:bh):Prop:=(∃n g,aj n 0=C/\r=.val (.tp [(.eN,.no),iO n]) g)\/∃k g,Ja p.cells c.st c.bs c.ss m k g/\r=.val (.tp [(.ptr 1 0,.no),iO 0]) g
theorem aDz(p:eJ)(v:Sl aN)(c:br)(a:Int)(d:p7 p)(f:Gv v)(O:c.bs.l.length<1100000)(E:c.ss.l.length<1000000000):cW (Qd p c a) (ev PP cf (.call 325 [.agg p.cells,de v,c.d,iD a] .no .empty)):=by
 obtain⟨r,e1,n,g,rfl,U⟩:=aDL p.xK v c d.a f.1 ab E;have b:∀{n:Int}{g:GH},aj n 0=C->Qd p c a (.val (.tp [(.eN,.no),iO n]) g):=λh=>.inl ⟨_,_,h,rfl⟩;have d17:=apg;simp only[bH,opsOf,f325,go_sem]at d17;have B:p.cells[0]?=J (cB p.types):=rfl;have D:(p.cells.drop 19).take 4=p.xK.cells:=by have:p.cells=(cB p.types::p.query.cells)++p.xK.cells:=rfl;grind[cA.dE,dJ.cells]
 have P:cg p.cells=V:=eJ.pure p;have A:p.cells.length=23:=p.dE;have K:p.cells=p.cells:=rfl;generalize z:p.cells=s at*;have H:s.take 23=s:=ai;have t23:∀m:ao,(s++m).take 23=s:=λm=>ai;have t26:∀m:ao,(s++m).take 26=s++m.take 3:=λm=>by simp_all[Sk,G4]
 have t28:∀m:ao,(s++m).take 28=s++m.take 5:=λm=>by grind[List.take_append,List.take_of_length_le]
 have t:∀m:ao,(s++m).drop 26=m.drop 3:=λm=>by simp_all[zn]
 have u:∀m:ao,(s++m).drop 27=m.drop 4:=λm=>by simp_all[zn]
 have y:∀m:ao,(s++m).drop 29=m.drop 6:=λm=>by simp_all[zn]
 simp only[dJ.cells,AH,zI,de,br.d,br.cells,ij,jQ]at e1;refine fY func325 ?_;simp only[go_sem,f325,de,br.d,br.cells,ij,jQ,A,D,e1];apply cV<;>intro h;rotate_left;.simp only[h,go_sem,bz];grind
 have U:=U h;simp only[h,go_sem];repeat'(with_reducible apply cV<;>intro h<;>simp only[h,go_sem,bz])
 .exact b rfl
 .exact b rfl
 refine tX v.l (λi=>[(34,iS i)]) (by have:=f.1;omega) rfl ?_ (λi x o j w q=>?_);rotate_left
 . obtain⟨r,e2,m,rfl,_⟩:=V2 p.types x d.t (f.2 x (du j));simp only[cB,aN.d,aN.cells]at e2;simp only[go_sem]at q;simp only[go_sem,o,j,aN.d,aN.cells,B,cB,e2];apply cV<;>intro h;.simp only[h,go_sem,w,q]
   .simp only[h,go_sem,bz];grind
 simp only[go_sem,A,H,t23,t26,t28,t,u,y];refine ni c.bs.l (QW s c.st c.bs c.ss a .nl ⟨0,0,[]⟩ C [] [] 0) (λi g=>⟨325,71,[(55,iS i),(1,.dv (de v) .no),(14,.dv (.ptr 1 0) .no),(53,.dv (ij c.bs) .no),(54,iS c.bs.l.length)],[],g⟩) (λi _ g=>Ja s c.st c.bs c.ss a i g) ab rfl ⟨[],_,_,_,_,[],_,bS _,.inl ⟨rfl,rfl,rfl⟩,λe h=>absurd h mO,rfl⟩ (λg I=>?_) (λi x l g o j w I q=>?_);.simp only[go_sem,bz];exact .inr ⟨_,_,by rw[z];omega,rfl⟩
 . have N:=mI o;obtain⟨g1,g2,g3⟩:=U x (du j);obtain⟨r,e3,e,g0,F,rfl⟩:=aDN v x.a x.b x.c f.1 g3;obtain⟨k,G⟩:∃k:Nat,x.v=dk k:=⟨x.v.toNat,(Se g1).symm⟩;have L:k<p.query.vars.l.length:=by have:=d.v;grind
   obtain⟨r,e4,m,M,rfl,k4⟩:=aDM p c.st c.bs c.ss a i g x e d.t d.k (f.2 e F) ⟨k,_,G,dA L⟩ ab ai;rw[z]at k4;simp only[de,ke,eD.d,eD.cells,aN.d,aN.cells]at e3 e4;simp only[go_sem,de,ij]at q;simp only[go_sem,o,j,eD.d,eD.cells,de,ij,d17,e3,e4];apply cV<;>intro h;.simp only[h,go_sem,w];grind
   .simp only[h,go_sem,bz];grind
theorem aDB(p:eJ)(v:Sl aN)(c:br)(m:Int)(a:p7 p)(q:mw p.query)(A:ri (mS p.query.pat).1)(i:Gv v)(b:c.bs.l.length<1100000)(d:c.ss.l.length<1000000000):cW (Qd p c m) (ev PP cf (.call 358 [.agg p.cells,de v,c.d,iD m] .no .empty)):=by
 obtain⟨g,e0⟩:=ev9 _ _ _ a.t q A;obtain⟨r,e1,hr⟩:=aDz p v c m a i b d;have e:∀{n:Int}{g:GH},aj n 0=C->Qd p c m (.val _ g):=λh=>.inl ⟨_,_,h,rfl⟩;have j:=eJ.pure p;have l:=p.dE;generalize o:p.cells=s at*;have t:s.take 23=s:=ai;simp only[de,br.d,br.cells,ij,jQ]at e1;refine fY func358 ?_;simp only[go_sem,f358,de,br.d,br.cells,ij,jQ,l,t,j,e0];apply cV<;>intro h;rotate_left;.simp only[h,go_sem,bz];grind
 rcases hr with⟨n,g,u,rfl⟩|⟨k,g,f,rfl⟩;.simp only[h,go_sem,l,t,e1,bz];grind
 .simp only[h,go_sem,l,t,e1,bz];exact .inr ⟨k,g,f,rfl⟩
def IJ(r:bh):Prop:=∃n g,r=.val (.dv (iD n) .no) g
def rP{n:Int}:IJ (.val (.dv (.int .i64 n) .no) g)=True:=ir ⟨n,g,rfl⟩
theorem aHC{p:bh->Prop}{c:bU}{d:dR}{l:ah Nat}{i:Nat}{o:List aB}{s:St}{k:eF->ah bh}(a b:List Unit)(h:nE c st0 o=V)(g:AG c o=[(a.length,a.length+1+b.length)])(j:Dq o (a.length+1+(b.length+1))=V)(f:cW p (Jd P c d (c.tH s.fn) (c.zF s.fn) (.mk o (.mk o)) b a (.mk o (.mk o)) (FA (c.keep s.fn i) k) s)):cW p (exec P c d l (.region i ⟨o⟩ V) s k):=by obtain⟨r,e,q⟩:=f;exact⟨r,TR a b h g j e,q⟩
theorem aDC(p:eJ)(v:Sl aN)(t:Int)(d:Sl eD)(q:Sl fK)(o:Int)(k:Nat)(g:GH)(n:Ja p.cells t d q o k g):cW (λr=>∃e,r=.val (.dv (iD 0) .no) e) (ev PP cf (.call 359 [.ptr 1 0,de v,.nl] .no g)):=by
 obtain⟨l,bd,y,kd,F,w,u,A,f,H,rfl⟩:=n;have T:p.cells.length=23:=p.dE;generalize p.cells=s at*;have a:∀m:ao,(s++m)[32]?=m[9]?:=λm=>wB (j:=9) T;have d29:∀m:ao,(s++m).drop 29=m.drop 6:=λm=>by simp_all[zn]
 have b:=aIz;have c:=aIO;simp only[bH,opsOf,f359,go_sem]at b c;refine fY func359 ?_;rcases f with⟨h,rfl,rfl⟩|⟨h,rfl,rfl|rfl⟩;all_goals
 simp only[go_sem,f359,QW,de];refine aHC [(),(),(),(),(),(),()] [()] c b rfl ?_;simp only[go_sem,T,a,d29];refine tX ([]:List aN) (λi=>[(26,iS i)]) ai rfl ?_ (λi x z D B E=>?_);.simp only[go_sem,bz];grind
 grind
theorem aDs(p:eJ)(v:Sl aN)(c:br)(m:Int)(f:p7 p)(q:mw p.query)(A:ri (mS p.query.pat).1)(j:Gv v)(a:c.bs.l.length<1100000)(b:c.ss.l.length<1000000000):cW IJ (ev PP cf (.call 304 [.agg p.cells,de v,c.d,iD m,.nl] .no .empty)):=by
 obtain⟨r,e1,hr⟩:=aDB p v c m f q A j a b;have e2:=λk g h=>aDC p v c.st c.bs c.ss m k g h;have B:cg p.cells=V:=eJ.pure p;have l:p.cells.length=23:=p.dE;generalize d:p.cells=s at*;have t:s.take 23=s:=ai;simp only[de,br.d,br.cells,ij,jQ]at e1;simp only[de]at e2;refine fY func304 ?_;rcases hr with⟨n,g,e,rfl⟩|⟨k,g,h,rfl⟩;.simp only[go_sem,f304,de,br.d,br.cells,ij,jQ,l,t,e1,e,bz,rP]
 . rw[d]at h;obtain⟨r,e3,o,rfl⟩:=e2 k g h;simp only[go_sem,f304,de,br.d,br.cells,ij,jQ,l,t,e1];refine DJ rfl ?_;simp only[go_sem,e3];refine tX ([]:List aN) (λi=>[(46,iS i)]) ai rfl ?_ (λi x u y w z=>?_);.simp only[go_sem,bz,rP]
   grind
theorem aDf(p:eJ)(e:ew)(c:br)(f:p7 p)(q:mw p.query)(A:ri (mS p.query.pat).1)(d:e.sz)(a:c.bs.l.length<1100000)(b:c.ss.l.length<1000000000):cW IJ (ev PP cf (.call 267 [.agg p.cells,e.d,c.d] .no .empty)):=by obtain⟨r,e1,n,g,rfl⟩:=aDs p _ c e.mark f q A d.2.1 a b;have m:=eJ.pure p;have l:=p.dE;generalize i:p.cells=s at*;have t:s.take 23=s:=ai;simp only[de,br.d,br.cells,ij,jQ]at e1;refine fY func267 ?_;simp only[go_sem,f267,ew.d,ew.cells,de,br.d,br.cells,ij,jQ,l,t,m,e1];repeat'(with_reducible apply cV<;>intro h<;>simp only[h,go_sem,bz,rP])
theorem aDq(a x:aN)(b:Nat)(g:GH)(c:g.get b=J (.box ⟨a.cells,[]⟩)):ev PP cf (.call 303 [x.d,.ptr b 0] .no g)=J (.val (.dv (.bool (su a x)) .no) g):=by have h:=aEa a x;simp only[aN.d,aN.cells]at h c;refine aO func303 ?_;simp only[go_sem,f303,aN.d,aN.cells,h,c,su]
theorem ad0:cf.fk 303=0/\(cf.iw 303||cf.nZ 303)=C:=⟨by rfl,by rfl⟩
def kH(c:ao)(g:GH):Prop:=0<g.next/\∃f,g.get 0=J (.box ⟨c++[f],[]⟩)/\(f=.eN\/∃i v,f=.ptr i 0/\0<i/\i<g.next/\g.get i=J (.box ⟨cM.cells v,[]⟩))
theorem aDp(p:eJ)(g:GH)(e:aN)(I:lX p.types)(G:p.query.key.l.length<1000000000)(B:e.lR.l.length<1000000000)(E:kH p.cells g):cW (λr=>∃m l,r=.val (.dv (iD m) .no) l/\kH p.cells l/\g.next<=l.next/\∀d,0<d->d<g.next->l.get d=g.get d) (ev PP cf (.call 302 [.ptr 0 0,e.d] .no g)):=by
 obtain⟨r,u,v,z,m,rfl⟩:=V3 p.types p.query.key e I G B;obtain⟨H,f,n,x⟩:=E;have d1:=ao8;have d2:=ao9;simp only[bH,opsOf,f302,go_sem]at d1 d2;have y:p.cells[0]?=J (cB p.types):=rfl;have c3:p.cells[3]?=J (cE p.query.key):=rfl;have q:p.cells.length=23:=p.dE;generalize Q:p.cells=s at*;have g0:∀m:ao,(s++m)[0]?=s[0]?:=λm=>nV ab;have g3:∀m:ao,(s++m)[3]?=s[3]?:=λm=>nV ab;have k:∀m:ao,(s++m)[23]?=m[0]?:=λm=>wB (j:=0) q;have t23:∀m:ao,(s++m).take 23=s:=λm=>ai;have AN:∀m:ao,(s++m).drop 24=m.drop 1:=λm=>by simp_all[zn]
 have D:(0=g.next)=False:=cH ab;simp only[aN.d,aN.cells,cB,cE]at u;refine fY func302 ?_;simp only[go_sem,f302,aN.d,aN.cells,n,d1,d2,g0,g3,y,c3,cB,cE,u,cM.d,cM.cells,km];have P:∀a b:GO,((g.alloc a).set g.next b).next=g.next+1:=λ_ _=>rfl;have k1:kH s ((g.alloc (.box ⟨[iD 0,iD 0,.str []],[]⟩)).set g.next (.box ⟨[iD v.k,iD v.n,.str v.s],[]⟩))/\g.next<=((g.alloc (.box ⟨[iD 0,iD 0,.str []],[]⟩)).set g.next (.box ⟨[iD v.k,iD v.n,.str v.s],[]⟩)).next/\∀d,0<d->d<g.next->((g.alloc (.box ⟨[iD 0,iD 0,.str []],[]⟩)).set g.next (.box ⟨[iD v.k,iD v.n,.str v.s],[]⟩)).get d=g.get d:=by
   refine⟨⟨ai,f,by grind[kU,km],?_⟩,ai,λd _ F=>by rw[kU,if_neg ab,km,if_neg ab]⟩;rcases x with rfl|⟨i,w,rfl,t,A,o⟩;.grind
   .exact .inr ⟨i,w,rfl,t,ai,by rw[kU,if_neg ab,km,if_neg ab];omega⟩
 have k2:kH s (((g.alloc (.box ⟨[iD 0,iD 0,.str []],[]⟩)).set g.next (.box ⟨[iD v.k,iD v.n,.str v.s],[]⟩)).set 0 (.box ⟨s++[.ptr g.next 0],[]⟩))/\g.next<=(((g.alloc (.box ⟨[iD 0,iD 0,.str []],[]⟩)).set g.next (.box ⟨[iD v.k,iD v.n,.str v.s],[]⟩)).set 0 (.box ⟨s++[.ptr g.next 0],[]⟩)).next/\∀d,0<d->d<g.next->(((g.alloc (.box ⟨[iD 0,iD 0,.str []],[]⟩)).set g.next (.box ⟨[iD v.k,iD v.n,.str v.s],[]⟩)).set 0 (.box ⟨s++[.ptr g.next 0],[]⟩)).get d=g.get d:=by have O:∀a b c:GO,(((g.alloc a).set g.next b).set 0 c).next=g.next+1:=λ_ _ _=>rfl;refine⟨⟨ai,.ptr g.next 0,by simp[kU],.inr ⟨g.next,v,rfl,H,ai,?_⟩⟩,ai,λd h F=>by rw[kU,if_neg ab,kU,if_neg ab,km,if_neg ab]⟩;rw[kU,if_neg ab,kU,if_pos rfl];rfl
 have K:gb PP .neq 418 .eN .eN=J (.bool C):=rfl;have L:∀i,gb PP .neq 418 (.ptr i 0) .eN=J (.bool V):=λ_=>rfl;rcases x with rfl|⟨i,w,rfl,t,A,o⟩
 . repeat'(with_reducible apply cV<;>intro h<;>simp only[h,go_sem,km,kU,D,n,k,K,q,t23,AN,bz])
   all_goals first|exact⟨_,_,rfl,k1⟩|exact⟨_,_,rfl,k2⟩
 . have M:(i=g.next)=False:=cH ab;have N:(i=0)=False:=cH ab;simp only[cM.cells]at o;repeat'(with_reducible apply cV<;>intro h<;>simp only[h,go_sem,km,kU,D,M,n,o,k,L,q,t23,AN,bz])
   all_goals first|exact⟨_,_,rfl,k1⟩|exact⟨_,_,rfl,k2⟩
theorem aJA{t n i:Nat}(a:PP.underlying t=J (.slice e))(z:aW PP e=J n)(h:i<=l.length)(r:i<=bm):oD PP t (.ay l e n) Z (J (.int .i64 (.ofNat i))) Z=J (.ay (l.take i) e n,.no):=by simp_all[oD,nW,nw]
theorem Ty{n:Nat}:bw C l e n=.ay l e n:=by cases l<;>rfl
theorem kH.al{c:ao}{a b:GO}(h:kH c g):kH c ((g.alloc a).set g.next b):=by obtain⟨n,f,e,d⟩:=h;have t:((g.alloc a).set g.next b).next=g.next+1:=rfl;refine⟨ab,f,by grind[kU,km],?_⟩;rcases d with rfl|⟨i,w,rfl,j,k,l⟩<;>grind[kU,km]
theorem aDe(p:eJ)(e:ew)(z:lX p.types)(P:p.query.key.l.length<1000000000)(u:e.sz)(S:e.held.l.length+e.wait.l.length<1100000):cW IJ (ev PP cf (.call 266 [.agg p.cells,e.d] .no .empty)):=by
 have H:=ahN e.held e.wait ab;have M:p.cells[0]?=J (cB p.types):=rfl;have w:p.cells.length=23:=p.dE;have U:cg p.cells=V:=eJ.pure p;generalize F:p.cells=s at*;have E:s.take 23=s:=ai;simp only[de]at H;refine fY func266 ?_;obtain⟨L,o⟩:∃L,e.held.l++e.wait.l=L:=⟨_,rfl⟩;have N:L.length<1100000:=ai;have v:∀x∈L,x.lR.l.length<1000000000:=λx c=>by
   rw[<-o]at c;rcases Co.1 c with h|h;.exact u.2.1.2 x h
   .exact u.1.2 x h
 rw[o]at H;rcases O:L with _|⟨f,t⟩
 . simp only[O,eG,xG]at H;simp only[go_sem,f266,ew.d,ew.cells,de,w,E,H];refine tX ([]:List aN) (λi=>[(22,iS i)]) ai rfl ?_ (λi x n c A j=>?_);.simp only[go_sem,bz,rP]
   grind
 have Q:fP (L.map aN.d) 80 5=.dv (.ay (L.map aN.d) 80 5) (.ex 80):=uq ai;rw[Q]at H;simp only[go_sem,f266,ew.d,ew.cells,de,w,E,H];refine ni L (⟨1,[(0,.box ⟨s++[.eN],[]⟩)]⟩:GH) (λi g=>⟨266,57,[(22,iS i),(6,.dv (.ay (L.map aN.d) 80 5) (.ty 80)),(5,.dv (.ptr 0 0) .no),(3,.lp 3 0),(2,.lp 2 0),(20,.dv (.ay (L.map aN.d) 80 5) .no),(21,iS L.length)],[(3,⟨e.cells,[]⟩),(2,⟨s,[]⟩)],g⟩) (λ_ _ g=>kH s g) ab rfl ⟨Nat.zero_lt_one,.eN,rfl,.inl rfl⟩ (λg I=>?_) (λi x l g n c A I j=>?_);.simp only[go_sem,bz,rP]
 . have R:=mI n;have D:=v x (du c);obtain⟨r,e1,m,rfl,_⟩:=V2 p.types x z D;have X:=I.al (a:=.box ⟨[iD 0,iD 0,iD 0,iD 0,.nl],[]⟩) (b:=.box ⟨x.cells,[]⟩);obtain⟨r,e2,T,g2,rfl,B,W,G⟩:=aDp p _ x z P D (by rw[F];omega);rw[F]at B;have k:g2.get g.next=J (.box ⟨x.cells,[]⟩):=by rw[G g.next I.1 (by show g.next<g.next+1;omega),kU,if_pos rfl]
   have dY:oD PP 47 (.ay (L.map aN.d) 80 5) Z (J (.int .i64 (.ofNat i))) Z=J (.ay ((L.map aN.d).take i) 80 5,.no):=aJA underlying47 (by rfl) ai (by grind[bm]);have e3:=Eu (d:=aN.d) (q:=λy=>su x y) 303 [] [.ptr g.next 0] g2 C (L.take i) ai (λy _=>.inl ⟨ad0.1,ad0.2,aDq x y g.next g2 k⟩) (.inr (.inr (.inr (.inr (.inr rfl))))) (λ_=>⟨rfl,rfl⟩);have K:∀f b:Bool,gb PP .neq 4 (.bool f) (.bool b)=J (.bool (!(f==b))):=λf b=>rfl;have j:=j g2 B;simp only[go_sem,ew.cells,de]at j;simp only[cB,aN.d,aN.cells]at e1 e2;simp only[go_sem,n,c,aN.d,aN.cells,ew.cells,de,M,cB,e1,km,kU];apply cV<;>intro h;rotate_left;.simp only[h,go_sem,bz,rP]
   simp only[h,go_sem,km,kU,K];apply cV<;>intro h;rotate_left;.simp only[h,go_sem,bz,rP]
   simp only[h,go_sem,km,kU,e2];apply cV<;>intro h;rotate_left;.simp only[h,go_sem,bz,rP]
   rw[Ty,List.map_take]at e3;simp only[h,go_sem,dY,e3];apply cV<;>intro h;.simp only[h,go_sem,bz,rP]
   .simp only[h,go_sem,A];omega
theorem aFa{f:bh->ah bh}{k:eF->ah bh}{x:ah bh}:x.bind (fI λo=>(k o).bind f)=(x.bind (fI k)).bind f:=by
 rcases x with _|r;.rfl
 cases r<;>rfl
theorem asn{cf:bU}{rec:dR}{rd:ah Nat}{f:bh->ah bh}:∀(c:bM)(st:St)(k:eF->ah bh),exec P cf rec rd c st (λo=>(k o).bind f)=(exec P cf rec rd c st k).bind f:=by intro c;induction c with
 |seq a b i d=>intro st k;show exec P cf rec rd a st _=(exec P cf rec rd a st _).bind f;rw[<-i];congr 1;funext o;cases o<;>simp_all|block id b e=>intro st k;show exec P cf rec rd b st _=(exec P cf rec rd b st _).bind f;rw[<-e];congr 1;funext o;cases o<;>grind|cond c a b i d=>
  intro st k;show(match bj cf.aq st c with|some (.bool x)=>_|_=>Z)=sD (match bj cf.aq st c with|some (.bool x)=>_|_=>Z) f;rcases bj cf.aq st c with _|v;.rfl
  cases v<;>grind|loop b e=>intro st k;exact aFa|scope b e=>intro st k;exact e st k|region id j dr=>intro st k;show cond _ _ _=sD (cond _ _ _) f;grind|rangeFunc g l K b i d=>
  intro st k;show(match bj cf.aq st g with|some (.func h a c)=>_|_=>Z)=sD (match bj cf.aq st g with|some (.func h a c)=>_|_=>Z) f;rcases bj cf.aq st g with _|v;.rfl
  cases v with
  |func h a c=>show cond _ _ _=sD (cond _ _ _) f;cases((cf.iU h (a++[.dU st.g.next]++c)).isSome||!(Au rd st.g))with|true=>rfl|false=>show sD _ _=(sD _ _).bind f;rw[um];congr 1;funext r;cases r with|out o=>rfl|val v g=>
   show(match g.get st.g.next with|some (.loop r)=>_|_=>Z)=sD (match g.get st.g.next with|some (.loop r)=>_|_=>Z) f;rcases g.get st.g.next with _|o;.rfl
   cases o with
   |loop r=>show(match r.state with|.busy=>Z|_=>_)=sD (match r.state with|.busy=>Z|_=>_) f;rcases r with⟨s,p,_,_,_,_,_,_⟩;cases s<;>first|rfl|(rcases p with _|p;rfl;(cases p<;>rfl))
   |_=>rfl
  |_=>rfl
 |_=>intro st k;rfl
theorem arH{c:bU}{b n:Nat}{d:Func}{k:bM}{j:List oK}{a:ao}{w:aM}{q r:bh}(x:P.funcs[b]?=J d)(v:d.body=J k)(A:d.results=⟨j⟩)(B:d.ntmps=n)(z:c.iU b a=Z)(p:(yx (j.map vY)&&bt a.length n&&c.AI b)=V)(h:exec P c (ev P c) Z k ⟨b,n,uu 0 w a,[],g⟩ (B6 P j)=J q)(D:AJ P q=J r):ev P c (.call b a w g)=J r:=by
 apply KQ;rw[gu,gu]at p;obtain⟨⟨t,u⟩,m⟩:=p;subst B;show(match c.iU b _ with|some r=>_|none=>_)=_;rw[z];rw[x];show d.body.bind _=_;rw[v];rw[u];show exec P c _ _ k _ _=_;have e:=asn (P:=P) (cf:=c) (rec:=ev P c) (rd:=Z) (f:=AJ P) k ⟨b,d.ntmps,uu 0 w a,[],g⟩ (B6 P j);rw[h]at e;rw[<-D];refine Eq.trans ?_ e;congr 1;funext o;have l:∀st,xW P d st=(tG P j st).bind _:=λst=>by show cond _ _ _=_;rw[A];rw[t];rcases tG P j st with _|y<;>rfl
 rcases o with s|⟨i,s⟩|s;.show cond _ _ _=_;rw[m];rw[l];rfl
 .rfl
 show cond _ _ _=_;rw[m];rw[l];rfl
def iL(L:ao):ao:=L.flatMap DV.flat
def as9(L:ao):L.flatMap DV.flat=iL L:=(rfl)
theorem O4{n:Nat}{L:ao}(h:∀x∈L,x.flat.length=n):(iL L).length=n*L.length:=by induction L<;>grind[iL]
theorem S9{k:Type}{d:k->DV}{f t e n b:Nat}(a:(f,t,e,n,b)=(70,48,178,3,56)\/(f,t,e,n,b)=(27,26,120,6,80))(v:∀x,(d x).flat.length=n)(L:List k)(g:GH)(u:L≠[])(w:L.length<1100000):ev PP cf (.call f [.ay (L.map d) e n] .no g)=J (.val (.dv (.dY g.next 0 L.length e n) .no) (g.alloc (.box ⟨iL (L.map d),[(n*L.length,.full e)]⟩))):=by
 have r:b<=80:=ai;have c:bt ((0+(L.map d).length)*b) bm=V:=nw (gw (qz (by grind:_<=1100000) r) fD);have i:bt (0+(L.map d).length) bm=V:=nw (by grind[bm]);have o:(L.map d).all (λy=>decide (y.flat.length=n))=V:=ai;have e2:(iL (L.map d)).length=n*L.length:=by grind[O4]
 have q:(L.map d).length=L.length:=fZ _;obtain⟨x,M,j⟩:∃x M,L.map d=x::M:=by cases L<;>simp_all
 have p:fu e n b (.ay [] e n) (.full e) (L.map d)=J (.ay (L.map d) e n,.ex e):=by rw[j]at c i|-;rcases a with h|h<;>cases h<;>(show cond (aw _ _&&aw _ _&&(bt ((0+(x::M).length)*_) _&&bt (0+(x::M).length) _)) _ _=_;rw[c,i];rfl)
 have s:rb [5,7] (J 7) (.ay [] e n) (.full e) (L.map d)=V:=by rw[j];rfl
 have m:∀l,gb PP .eql t (.ay l e n) .nl=J (.bool C):=λl=>by rcases a with h|h<;>cases h<;>rfl
 rcases a with h|h<;>cases h<;>first|refine aO func70 ?_|refine aO func27 ?_
 all_goals simp only[go_sem,f70,f27,m,p,s,o,as9,e2,q]
set_option maxHeartbeats 1000000
theorem aDu(a b:Sl eD)(j:a.l.length<1000000000)(k:b.l.length<1000000000):cW Di (ev PP cf (.call 306 [ij a,ij b] .no .empty)):=by
 have hd:=apa;simp only[bH,opsOf,f306,go_sem]at hd;refine fY func306 ?_;simp only[go_sem,f306,ij];apply cV<;>intro h
 . simp only[h,go_sem];refine tX a.l (λi=>[(13,iS i)]) ab rfl ?_ (λi x d e w c=>?_);.simp only[go_sem,bz,uP]
   .obtain⟨y,f⟩:∃y,b.l[i]?=J y:=⟨_,dA ai⟩;simp only[go_sem]at c;simp only[go_sem,d,e,f,hd,eD.d,eD.cells];apply cV<;>intro g<;>simp only[g,go_sem,w,c,bz,uP]
 .simp only[h,go_sem,bz,uP]
theorem aDv(a b:Sl fK)(j:a.l.length<1000000000)(k:b.l.length<1000000000):cW Di (ev PP cf (.call 307 [jQ a,jQ b] .no .empty)):=by
 have hd:=apb;simp only[bH,opsOf,f307,go_sem]at hd;refine fY func307 ?_;simp only[go_sem,f307,jQ];apply cV<;>intro h
 . simp only[h,go_sem];refine tX a.l (λi=>[(13,iS i)]) ab rfl ?_ (λi x d e w c=>?_);.simp only[go_sem,bz,uP]
   .obtain⟨y,f⟩:∃y,b.l[i]?=J y:=⟨_,dA ai⟩;simp only[go_sem]at c;simp only[go_sem,d,e,f,hd,fK.d,fK.cells];apply cV<;>intro g<;>simp only[g,go_sem,w,c,bz,uP]
 .simp only[h,go_sem,bz,uP]
theorem aDK(t s q c b a:Int):CC 383 [ke t s q,ke c b a] (vI (CG t s q c b a)):=by have h:=FK [iB t c,iB s b,iB q a] C ai;simp only[zJ,fO,eG]at h;have hd:=apk;simp only[bH,opsOf,f383,go_sem]at hd;refine aO func383 ?_;simp only[go_sem,f383,hd,ke,An,h,CG]
def eD.cmp(a b:eD):Int:=Aq [CG a.a a.b a.c b.a b.b b.c,iB a.v b.v]
theorem aDJ(a b:eD):CC 382 [a.d,b.d] (vI (a.cmp b)):=by have h:=FK [CG a.a a.b a.c b.a b.b b.c,iB a.v b.v] C ai;have c:=aDK a.a a.b a.c b.a b.b b.c;simp only[zJ,fO,eG]at h;simp only[ke]at c;have hd:=apj;simp only[bH,opsOf,f382,go_sem]at hd;refine aO func382 ?_;simp only[go_sem,f382,hd,eD.d,eD.cells,An,c,h,eD.cmp]
def fK.cmp(a b:fK):Int:=Aq [iB a.sc b.sc,iB a.tm b.tm]
theorem aDH(a b:fK):CC 377 [a.d,b.d] (vI (a.cmp b)):=by have h:=FK [iB a.sc b.sc,iB a.tm b.tm] C ai;simp only[zJ,fO,eG]at h;have hd:=api;simp only[bH,opsOf,f377,go_sem]at hd;refine aO func377 ?_;simp only[go_sem,f377,hd,fK.d,fK.cells,An,h,fK.cmp]
theorem aDI(a b:Sl eD)(k:a.l.length<1000000000):cW BI (ev PP cf (.call 381 [ij a,ij b,.func 382 [] []] .no .empty)):=by
 refine fY func381 ?_;simp only[go_sem,f381,ij];refine tX a.l (λi=>[(13,iS i)]) ab rfl ?_ (λi x d e w f=>?_)
 . simp only[go_sem];by_cases h:a.l.length<b.l.length;.simp only[h,go_sem];simp[qN,cW]
   .simp only[h,go_sem];simp[qN,cW]
 . simp only[go_sem]at f;by_cases h:i<b.l.length;.obtain⟨y,j⟩:∃y,b.l[i]?=J y:=⟨_,dA h⟩;have c:=aDJ x y;simp only[eD.d,eD.cells]at c;simp only[go_sem,d,e,j,h,eD.d,eD.cells,c];apply cV<;>intro g<;>simp only[g,go_sem,w,f,bz,qN]
   .simp only[go_sem,d,e,h,eD.d,eD.cells,bz,qN]
theorem aDG(a b:Sl fK)(k:a.l.length<1000000000):cW BI (ev PP cf (.call 376 [jQ a,jQ b,.func 377 [] []] .no .empty)):=by
 refine fY func376 ?_;simp only[go_sem,f376,jQ];refine tX a.l (λi=>[(13,iS i)]) ab rfl ?_ (λi x d e w f=>?_)
 . simp only[go_sem];by_cases h:a.l.length<b.l.length;.simp only[h,go_sem];simp[qN,cW]
   .simp only[h,go_sem];simp[qN,cW]
 . simp only[go_sem]at f;by_cases h:i<b.l.length;.obtain⟨y,j⟩:∃y,b.l[i]?=J y:=⟨_,dA h⟩;have c:=aDH x y;simp only[fK.d,fK.cells]at c;simp only[go_sem,d,e,j,h,fK.d,fK.cells,c];apply cV<;>intro g<;>simp only[g,go_sem,w,f,bz,qN]
   .simp only[go_sem,d,e,h,fK.d,fK.cells,bz,qN]
theorem aDy(a b:Sl eD)(c:a.l.length<1000000000):cW BI (ev PP cf (.call 324 [.agg [ij a],.agg [ij b]] .no .empty)):=by obtain⟨r,h,n,rfl⟩:=aDI a b c;refine fY func324 ?_;simp only[go_sem,f324,h,bz,qN]
theorem acV{a:Bool}{n:Nat}:(bw a l e n).flat=[bw a l e n]:=by
 unfold bw;split;.cases a<;>rfl
 rfl
def al9(s:Sl eD):(ij s).flat=[ij s]:=acV
theorem ahD(a b:br)(c:a.bs.l.length<1000000000)(d:a.ss.l.length<1000000000):cW BI (ev PP cf (.call 322 [a.d,b.d] .no .empty)):=by obtain⟨r,e1,n,rfl⟩:=aDy _ b.bs c;obtain⟨r,e2,m,rfl⟩:=aDG _ b.ss d;have h:=FK [iB a.st b.st,n,m] C ai;simp only[zJ,fO,eG]at h;have hd:=apf;simp only[bH,opsOf,f322,go_sem]at hd;refine fY func322 ?_;simp only[go_sem,f322,hd,br.d,br.cells,al9,dH,gX,List.drop_succ_cons,xC,lS,jJ,An,e1,e2,h,bz,qN]
end Go.VM
