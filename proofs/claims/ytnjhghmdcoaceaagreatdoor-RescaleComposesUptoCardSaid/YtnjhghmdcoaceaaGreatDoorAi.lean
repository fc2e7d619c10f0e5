/- Proved: what functions of the program answer, within the sizes that each theorem names. -/
import Derived.Test.YtnjhghmdcoaceaaGreatDoorAh
open Option renaming some->J,none->Z
open Bool renaming true->V,false->C
open Go renaming TypeId->an,Oper->aB,Program->aH,Operand->aK,Code->bM,ResultVar->oS
open Int renaming ofNat->du
open List renaming replicate->mr
open Nat renaming beq->aw,ble->bz
open Option renaming bind->sM
open SizeOf renaming sizeOf->pM
noncomputable section
set_option maxRecDepth 100000
set_option maxHeartbeats 4000000
set_option linter.all false
namespace Go.VM
open Go Go.AM Proofs.Tryz
variable{v:DV}{g:GH}{s:Int}{l:List aM}{e k:Nat}{P:aH}{p:ae}
attribute[local congr]bB bC
theorem Wl(t:Sl b9)(e:aM)(a:lY t)(d:e.kR.l.length<1000000000):cV (Qu t e) (ev PP cf (.call 67 [cm t,e.d] .no .empty)):=by
 obtain⟨g,b⟩:=KY t a.a a.b;have f:=a.b;obtain⟨r,c,k3⟩:=aE6 t e ab d;obtain⟨n,rfl,k4⟩:=k3;refine fM func67 ?_;simp only[aM.d,aM.cells,cm]at c b;simp only[go_sem,f67,aM.d,aM.cells,cm,b];apply cX<;>intro h;.simp only[h,go_sem,c,bw];exact⟨n,rfl,k4⟩
 .simp only[h,go_sem,bw];exact⟨_,rfl,λk=>by rw[k]at h;cases h⟩
def iR(r:bh):Prop:=∃(v:cH)(b:Bool)(n:Int),r=.val (.tp [(v.d,.no),(.bool b,.no),iO n]) .empty
def azF(t:Sl b9)(e:Sl Int)(i:Nat):Prop:=∀j k,j<i->e.l[j]?=J k->∃s,t.l[j]?=J s/\aA k (.ofNat s.fields.l.length)=V
theorem Wm(t:Sl b9)(y:Sl Int)(e:aM)(B:lY t)(a:y.l.length<1000000000)(q:e.kR.l.length<1000000000):cV iR (ev PP cf (.call 68 [cm t,bW y,e.d] .no .empty)):=by
 obtain⟨r,f,k3⟩:=Wl t e B q;obtain⟨n,rfl,k4⟩:=k3;have z:∀n:Int,iR (.val (.tp [(.agg [iD 0,iD 0,.str []],.no),(.bool C,.no),iO n]) .empty):=λn=>⟨⟨0,0,[]⟩,C,n,rfl⟩;refine fM func68 ?_;simp only[aM.d,aM.cells,cm]at f;simp only[go_sem,f68,aM.d,aM.cells,cm,bW,f];apply cX<;>intro h;rotate_left;.simp only[h,go_sem,bw];grind
 have w:n=0:=by grind[jl]
 obtain⟨m,s,b,p,o⟩:=k4 w;simp only[h,go_sem];apply cX<;>intro h;.simp only[h,go_sem,bw];exact⟨⟨0,0,[]⟩,V,0,rfl⟩
 simp only[h,go_sem];apply cX<;>intro h;rotate_left;.simp only[h,go_sem,bw];grind
 have K:y.l.length=t.l.length:=ue h;simp only[h,go_sem];refine Ja y.l (λi=>[(32,iS i)]) (azF t y) ab rfl (λj k l=>absurd l (Hs _)) (λI=>?_) (λi x u F E I c=>?_)
 . have L:m<t.l.length:=(am.1 p).1;obtain⟨k,a⟩:∃k,y.l[m]?=J k:=⟨_,dC ab⟩;obtain⟨H,e1,e2⟩:=I m k ab a;rw[p]at e1;cases e1;rcases k with k|k
   . have d:aA (du k) 0=C:=rfl;have A:k<e.kR.l.length:=by grind[fX]
     obtain⟨v,D⟩:∃v,e.kR.l[k]?=J v:=⟨_,dC A⟩;simp only[go_sem,b,a,d,vl,D,cH.d,cH.cells,bw];exact⟨v,V,0,rfl⟩
   .have d:aA (Int.negSucc k) 0=V:=rfl;simp only[go_sem,b,a,d,bw];simp_all
 . have N:i<t.l.length:=aU;obtain⟨H,G⟩:∃s,t.l[i]?=J s:=⟨_,dC N⟩;simp only[go_sem]at c;simp only[go_sem,u,F];apply cX<;>intro g;.simp only[g,go_sem,bw];simp_all
   . simp only[g,go_sem,G,b9.d,C7];apply cX<;>intro g2
     . have c:=c λj k l a=>by
        by_cases e:j=i;.simp_all
        .exact I j k ab a
       simp only[g2,go_sem,E,c]
     .simp only[g2,go_sem,bw];simp_all
def aM.sq(e:aM):DV:=.agg [iD e.src,iD e.seq]
def sG(a b:aM):Bool:=bif aj a.src b.src then aj a.seq b.seq else C
theorem TX{a b:aM}:gw PP 50 393 a.sq b.sq=J (sG a b):=by unfold aM.sq sG;rw[EE underlying393 aU];simp only[go_sem,zO,String.reduceBEq];grind
def HS(l:List aM)(i:Nat):List lr:=(l.zipIdx i).map λx=>(x.1.sq,.bool V,x.2)
theorem aqM{e:aM}:HS (l++[e]) 0=HS l 0++[(e.sq,.bool V,l.length)]:=by grind[HS]
theorem aek{e:aM}:∀(l:List aM)(i j:Nat),(l.any λm=>sG e m)=C->findD PP 393 e.sq (HS l i) j=J Z|[],_,_,_=>rfl|m::l,i,j,h=>by rw[zo,J8]at h;show(gw PP 50 393 e.sq m.sq).bind _=_;rw[TX,h.1];exact aek l (i+1) (j+1) h.2
theorem ael{e:aM}:∀(l:List aM)(i j:Nat),(l.any λm=>sG e m)=V->∃k c m,findD PP 393 e.sq (HS l i) j=J (J (k,m,.bool V,c))|[],_,_,h=>by simp at h|m::l,i,j,h=>by rw[zo]at h;cases a:sG e m with|true=>exact⟨j,i,m.sq,by show(gw PP 50 393 e.sq m.sq).bind _=_;rw[TX,a];rfl⟩|false=>rw[a,xB]at h;obtain⟨k,c,d,b⟩:=ael l (i+1) (j+1) h;exact⟨k,c,d,by show(gw PP 50 393 e.sq m.sq).bind _=_;rw[TX,a];exact b⟩
theorem azC{e:aM}:ta PP 393 e.sq=V:=by rfl
theorem sub_succ(i:Nat)(h:i<9223372036854775807):dQ .i64 (Int.sub (du (i+1)) 1)=du i:=by grind[AS]
def Ew(l:List aM):Prop:=∀(i j:Nat)(a b:aM),l[i]?=J a->l[j]?=J b->sG a b=V->i=j
def Qv(l:List aM)(r:bh):Prop:=∃n g,r=.val (.dv (iD n) .no) g/\(n=0->Ew l)
theorem aKZ{a b:aM}:sG a b=sG b a:=by grind[sG,jl]
theorem al5{b:List aM}{x:aM}(h:Ew b)(g:(b.any λm=>sG x m)=C):Ew (b++[x]):=by
 intro i j c d a hd s;by_cases e:i<b.length
 . rw[nZ e]at a;by_cases f:j<b.length;.rw[nZ f]at hd;exact h i j c d a hd s
   grind[aKZ]
 grind
theorem Wj(v:Sl aM)(F:v.l.length<1000000000):cV (Qv v.l) (ev PP cf (.call 232 [de v] .no .empty)):=by
 have r:∀{n:Int}{g:GH},n≠0->Qv v.l (.val (.dv (iD n) .no) g):=λh=>⟨_,_,rfl,λk=>absurd k h⟩;have hd:=apt;simp only[bp,opsOf,f232,go_sem]at hd;refine fM func232 ?_;simp only[go_sem,f232,de];apply cX<;>intro h;.simp only[h,go_sem,bw];exact r ft
 simp only[h,go_sem];refine oF v.l ([]:List aM) (λi b=>⟨232,43,[(12,iS i),(3,.dv (.map 0) .no),(0,.dv (de v) .no),(10,.dv (de v) .no),(11,iS v.l.length)],[],⟨1,[(0,.map (HS b 0) b.length)]⟩⟩) (λi _ b=>b=v.l.take i/\Ew b) ab rfl ⟨rfl,λi j a b h=>by simp at h⟩ (λb I=>?_) (λi x l b u w A I d=>?_);.obtain⟨rfl,I⟩:=I;rw[A8]at I;simp only[go_sem,bw];exact⟨0,_,rfl,λ_=>I⟩
 . obtain⟨t,I⟩:=I;have N:=nr u;have U:b.length=i:=by rw[t,sL];omega
   have d:=d (b++[x]);simp only[aqM,gR,dD,gL,de,go_sem]at d;obtain⟨H,e0,t0⟩:=aEc x;obtain⟨G,rfl⟩:=t0;have o:=aEd x;have q:=azC (e:=x);simp only[aM.d,aM.cells]at e0 o;simp only[go_sem,u,w,de,aM.d,aM.cells,e0];apply cX<;>intro g;rotate_left;.simp only[g,go_sem,bw];exact r ft
   simp only[g,go_sem];have step:(b.any λm=>sG x m)=C->b++[x]=v.l.take (i+1)/\Ew (b++[x]):=λf=>by refine⟨by rw[List.take_succ,w,t];rfl,al5 I f⟩
   have p:=λh=>ael (e:=x) b 0 0 h;have fn:=λh=>aek (e:=x) b 0 0 h;simp only[aM.sq,iD]at d q p fn;rcases i with _|i
   . have z:aA 0 (du 0)=C:=rfl;have E:aA 0 0=C:=rfl;simp only[go_sem,hd];try rw[E,ch]
     try show cV _ (kn PP cf (ev PP cf) _)
     simp only[go_sem,o];cases f:b.any λm=>sG x m with|true=>obtain⟨k,c,m,e⟩:=p f;simp only[go_sem,q,e,bw];exact r ft|false=>have e:=fn f;simp only[go_sem,q,e,o];exact d (step f)
   . have z:aA 0 (du (i+1))=V:=by rw[fX,jB];exact Int.ofNat_lt.2 (Nat.succ_pos i)
     obtain⟨y,B⟩:∃y,v.l[i]?=J y:=⟨_,dC ab⟩;have D:=sub_succ i ab;have s:=aE9 y x;simp only[aM.d,aM.cells]at s;simp only[go_sem,hd,z,D,B,s,aM.d,aM.cells];apply cX<;>intro g;rotate_left;.simp only[g,go_sem,bw];exact r ft
     simp only[g,go_sem,o];cases f:b.any λm=>sG x m with|true=>obtain⟨k,c,m,e⟩:=p f;simp only[go_sem,q,e,bw];exact r ft|false=>have e:=fn f;simp only[go_sem,q,e,o,A];exact d (step f)
def C3(l:List aM)(i:Nat):List lr:=(l.zipIdx i).map λx=>(x.1.ref,x.1.d,x.2)
theorem aqN{e:aM}:C3 (l++[e]) 0=C3 l 0++[(e.ref,e.d,l.length)]:=by grind[C3]
theorem Uf{t s q:Int}:∀(l:List aM)(i j:Nat),(l.any λm=>pP t s q m.tm m.src m.seq)=C->findD PP 194 (jK t s q) (C3 l i) j=J Z|[],_,_,_=>rfl|m::l,i,j,h=>by rw[zo,J8]at h;show(gw PP 50 194 (jK t s q) m.ref).bind _=_;rw[show gw PP 50 194 (jK t s q) m.ref=_ from KU,h.1];exact Uf l (i+1) (j+1) h.2
theorem aem{t s q:Int}:∀(l:List aM)(i j:Nat),(l.any λm=>pP t s q m.tm m.src m.seq)=V->∃k c m e,findD PP 194 (jK t s q) (C3 l i) j=J (J (k,m,aM.d e,c))|[],_,_,h=>by simp at h|m::l,i,j,h=>by rw[zo]at h;cases a:pP t s q m.tm m.src m.seq with|true=>exact⟨j,i,m.ref,m,by show(gw PP 50 194 (jK t s q) m.ref).bind _=_;rw[show gw PP 50 194 (jK t s q) m.ref=_ from KU,a];rfl⟩|false=>rw[a,xB]at h;obtain⟨k,c,f,b,d⟩:=aem l (i+1) (j+1) h;exact⟨k,c,f,b,by show(gw PP 50 194 (jK t s q) m.ref).bind _=_;rw[show gw PP 50 194 (jK t s q) m.ref=_ from KU,a];exact d⟩
theorem Fs{t q:Int}:ta PP 194 (jK t s q)=V:=by rfl
theorem al8(h:Ew l){i:Nat}{x:aM}(f:l[i]?=J x):((l.take i).any λm=>pP x.tm x.src x.seq m.tm m.src m.seq)=C:=by rw[List.any_eq_false];intro m d b;obtain⟨j,c,e⟩:=List.mem_iff_getElem.1 d;rw[sL]at c;have a:l[j]?=J m:=ai;obtain⟨_,g,k⟩:=ado b;have:=h i j x m f a (by grind[sG,jl]);omega
def isB(a:dN)(v:Sl aM)(r:bh):Prop:=(∃n g,aj n 0=C/\r=.val (.tp [(.eS,.no),iO n]) g)\/(Ew v.l/\r=.val (.tp [(.ptr 1 0,.no),iO 0]) ⟨2,[(0,.map (C3 v.l 0) v.l.length),(1,.box ⟨a.cells++[.map 0],[]⟩)]⟩)
theorem aD6(a:dN)(v:Sl aM)(o:rD a)(u:v.l.length<1000000000):cV (isB a v) (ev PP cf (.call 240 [.agg a.cells,de v] .no .empty)):=by
 have e:=arC a o;obtain⟨r,f,n,g,rfl,m⟩:=Wj v u;have hd:=apv;simp only[bp,opsOf,f240,go_sem]at hd;refine fM func240 ?_;simp only[dN.cells,AP,zL,de]at e f;simp only[go_sem,f240,dN.cells,de,e];apply cX<;>intro h;rotate_left;.simp only[h,go_sem,bw];exact .inl ⟨_,_,h,rfl⟩
 simp only[h,go_sem,f];apply cX<;>intro h;rotate_left;.simp only[h,go_sem,bw];exact .inl ⟨_,_,h,rfl⟩
 have j:=m (by grind[jl]);simp only[h,go_sem];refine oF v.l () (λi _=>⟨_,40,[(27,iS i),(8,.dv _ _),(25,.dv _ _),(26,iS _)],[],⟨2,[(0,.map (C3 (v.l.take i) 0) i),(1,.box _)]⟩⟩) (λ_ _ _=>True) ab (by rfl) trivial (λ_ _=>?_) (λi x l _ p b y _ c=>?_);.simp only[go_sem,bw,A8];exact .inr ⟨j,rfl⟩
 .have c:=c () trivial;have d:=aEm x;have k:=Fs (t:=x.tm) (s:=x.src) (q:=x.seq);have fn:=Uf _ 0 0 (al8 j b);simp only[aM.d,aM.cells,aM.ref,jK]at d k fn;have w:min i v.l.length=i:=ai;simp only[go_sem,Kh,b,Option.toList,aqN,sL,de,aM.d,aM.cells,aM.ref,jK,w]at c;simp only[go_sem,p,b,hd,aM.d,aM.cells,de,d,k,fn,y];omega
def eC.ER(a:dN)(v:List aM)(b:eC):Prop:=0<=b.v/\b.v<a.vars/\(v.any λm=>pP b.a b.b b.c m.tm m.src m.seq)=V
def Mf(a:dN)(v:List aM)(c:bu)(r:bh):Prop:=∃n g,r=.val (.dv (iD n) .no) g/\(aj n 0=V->∀b∈c.bs.l,b.ER a v)
def U0(a:dN)(v:List aM):GH:=⟨2,[(0,.map (C3 v 0) v.length),(1,.box ⟨a.cells++[.map 0],[]⟩)]⟩
theorem aD7(a:dN)(v:List aM)(c:bu)(L:c.bs.l.length<1000000000)(M:c.ss.l.length<1000000000):cV (Mf a v c) (ev PP cf (.call 241 [.ptr 1 0,c.d] .no (U0 a v))):=by
 have r:∀{n:Int}{g:GH},aj n 0=C->Mf a v c (.val (.dv (iD n) .no) g):=λh=>⟨_,_,rfl,λk=>aU⟩;have d1:=apw;have d8:=apA;have d9:=apB;have d11:=apx;have d19:=apy;have d21:=apz;simp only[bp,opsOf,f241,go_sem]at d1 d8 d9 d11 d19 d21;refine fM func241 ?_;simp only[go_sem,f241,U0,dN.cells,AP,zL,bu.d,bu.cells,hZ,jM,d1];apply cX<;>intro h;.simp only[h,go_sem,bw];exact r rfl
 simp only[h,go_sem];apply cX<;>intro g;rotate_left;.simp only[g,go_sem,bw];exact r rfl
 simp only[g,go_sem];apply cX<;>intro g;rotate_left;.simp only[g,go_sem,bw];exact r rfl
 simp only[g,go_sem];refine Ja c.bs.l (λi=>[(34,iS i)]) (λi=>∀j b,j<i->c.bs.l[j]?=J b->b.ER a v) ab rfl (λj b z=>absurd z (Hs _)) (λI=>?_) (λi x o p D I d=>?_)
 . have ok:Mf a v c=Mf a v c:=rfl;simp only[go_sem];refine ub c.ss.l (λi=>[(86,iS i)]) ab rfl ?_ (λi x o p D d=>?_);.simp only[go_sem,bw];exact⟨0,_,rfl,λ_ b l=>by obtain⟨j,z,e⟩:=List.mem_iff_getElem.1 l;exact I j b z aU⟩
   . simp only[go_sem]at d;simp only[go_sem,o,p,fG.d,fG.cells,d19];rcases i with _|i
     . have F:aA 0 (du 0)=C:=rfl;have A:aA 0 0=C:=rfl;repeat'(with_reducible apply cX<;>intro h<;>simp only[h,d21,A,go_sem,bw])
       all_goals first|exact r rfl|grind
     . have F:aA 0 (du (i+1))=V:=by rfl
       obtain⟨y,u⟩:∃y,c.ss.l[i]?=J y:=⟨_,dC ai⟩;have w:=sub_succ i ai;repeat'(with_reducible apply cX<;>intro h<;>simp only[h,D,d,u,w,d21,F,fG.d,fG.cells,go_sem,bw])
       all_goals first|exact r rfl|exact d
 . simp only[go_sem]at d;have E:=Fs (t:=x.a) (s:=x.b) (q:=x.c);simp only[jK]at E;have ER:(v.any λm=>pP x.a x.b x.c m.tm m.src m.seq)=V->aA x.v 0=C->aA x.v a.vars=V->∀j b,j<i+1->c.bs.l[j]?=J b->b.ER a v:=λg1 g2 g3 j b z l=>by
     by_cases e:j=i;.subst e;rw[p]at l;cases l;rw[fX,C0]at g2;rw[fX,jB]at g3;exact⟨ab,g3,g1⟩
     .exact I j b ab l
   have N:=nr o;have F:aA 0 (du 0)=C:=rfl;have A:aA 0 0=C:=rfl;have zs:∀i,aA 0 (du (i+1))=V:=λi=>by rfl
   cases B:v.any λm=>pP x.a x.b x.c m.tm m.src m.seq with
   |false=>
     have fn:=Uf v 0 0 B;simp only[jK]at fn;simp only[go_sem,o,p,eC.d,eC.cells,d8,d9,E,fn];rcases i with _|i
     . repeat'(with_reducible apply cX<;>intro h<;>simp only[h,d11,A,go_sem,bw])
       all_goals exact r rfl
     . obtain⟨y,u⟩:∃y,c.bs.l[i]?=J y:=⟨_,dC ab⟩;have w:=sub_succ i ab;have G:=zs i;have f:=Dq y.a y.b y.c x.a x.b x.c;simp only[jK]at f;repeat'(with_reducible apply cX<;>intro h<;>simp only[h,u,w,f,d11,G,eC.d,eC.cells,go_sem,bw])
       all_goals exact r rfl|true=>
     have ER:=ER B;obtain⟨k,H,m,K,fn⟩:=aem v 0 0 B;simp only[jK]at fn;simp only[go_sem,o,p,eC.d,eC.cells,d8,d9,E,fn,aM.d,aM.cells];rcases i with _|i
     . repeat'(with_reducible apply cX<;>intro h<;>simp only[h,d11,A,go_sem,bw])
       all_goals first|exact r rfl|simp_all
     . obtain⟨y,u⟩:∃y,c.bs.l[i]?=J y:=⟨_,dC ab⟩;have w:=sub_succ i ab;have G:=zs i;have f:=Dq y.a y.b y.c x.a x.b x.c;simp only[jK]at f;repeat'(with_reducible apply cX<;>intro h<;>simp only[h,D,u,w,f,d11,G,eC.d,eC.cells,go_sem,bw])
       all_goals first|exact r rfl|exact d (ER ‹_› ‹_›)
theorem aEF(a:dN)(v:Sl aM)(c:bu)(d:rD a)(l:v.l.length<1000000000)(h:c.bs.l.length<1000000000)(b:c.ss.l.length<1000000000):cV (Mf a v.l c) (ev PP cf (.call 362 [.agg a.cells,de v,c.d] .no .empty)):=by
 obtain⟨r,e1,hr⟩:=aD6 a v d l;refine fM func362 ?_;rcases hr with⟨n,g,e,rfl⟩|⟨q,rfl⟩;.simp only[dN.cells,AP,zL,de]at e1;simp only[go_sem,f362,dN.cells,AP,zL,de,bu.d,bu.cells,hZ,jM,e1,e,bw];exact⟨_,_,rfl,λk=>ai⟩
 .obtain⟨r,e2,n,g,rfl,k⟩:=aD7 a v.l c h b;simp only[dN.cells,AP,zL,de,U0,bu.d,bu.cells,hZ,jM,lU,jO]at e1 e2;simp only[go_sem,f362,dN.cells,AP,zL,de,bu.d,bu.cells,hZ,jM,e1,e2,bw];exact⟨_,_,rfl,k⟩
attribute[local go_sem]jp jn ks kq jw
theorem aE5{j:Type}{d:j->DV}{p c m r:Nat}(i:(p,e,c,m,k,r)=(180,86,5,56,230,109))(E:∀x,(d x).flat.length=c)(a f:List j)(t u:Bool)(h:a.length+f.length<1000000000):CC p [.ay [bK t (a.map d) e c,bK u (f.map d) e c] r 1] (.val (gh ((a++f).map d) e c) .empty):=by
 obtain⟨B,D⟩:=tt h;have o:∀l:List j,((l.map d).all λy=>decide (y.flat.length=c))=V:=λl=>ai;have l1:∀{e c},ni (bK t (a.map d) e c)=J a.length:=by simp[Mt]
 have l2:∀{e c},ni (bK u (f.map d) e c)=J f.length:=by simp[Mt]
 have x0:aA (.ofNat a.length) 0=C:=rfl;have x1:aA (.ofNat (a.length+f.length)) 0=C:=rfl;have q:c≠0/\a.length+f.length<=bm/\(a.length+f.length)*m<=bm:=by grind[bm]
 have v:fE e c m (.ay [] e c) (.ex e) (a.map d)=J (.ay (a.map d) e c,.ex e):=by grind[qO]
 have w:fE e c m (.ay (a.map d) e c) (.ex e) (f.map d)=J (.ay ((a.map d)++(f.map d)) e c,.ex e):=by grind[qO]
 have z:=λh=>@abw e c m .any h;have g:ev PP cf (.call k [.nl,.int .i64 (.ofNat (a.length+f.length))] .no .empty)=_:=Ii (e:=e) (s:=c) (b:=m) (n:=a.length+f.length) (by cases i<;>rfl) (by cases i<;>rfl) h ai;cases i;refine aO func180 ?_;all_goals
 simp only[go_sem,f180];refine im ?_;simp only[go_sem,l1,B,x0];refine im ?_;simp only[go_sem,l2,D,x1];refine im ?_;by_cases i:a.length+f.length=0;.obtain rfl:a=[]:=bf.1 ab;obtain rfl:f=[]:=bf.1 ab;replace g:ev PP cf (.call _ [.nl,.int _ 0] _ _)=J _:=g;simp only[go_sem,g,gL];refine im ?_;simp only[go_sem,z _];refine im ?_;simp only[go_sem,z _];refine im ?_;simp only[go_sem]
 . rw[kT i]at g;simp only[go_sem,g];refine im ?_;simp only[go_sem,v,o];refine im ?_;simp only[go_sem,w,o];refine im ?_;simp only[go_sem];rw[qJ];have A:((a.map d)++(f.map d)).length=a.length+f.length:=ai;generalize(a.map d)++(f.map d)=L at A;rcases L with _|⟨x,l⟩;.grind
   rfl
def aic(a b:Sl aM)(h:a.l.length+b.l.length<1000000000):CC 180 [.ay [de a,de b] 109 1] (.val (gh ((a.l++b.l).map aM.d) 86 5) .empty):=aE5 (d:=aM.d) rfl (λ_=>rfl) a.l b.l a.nl b.nl h
theorem aEL(e:aM)(t s q:Int)(b:Nat)(g:GH)(a:g.get b=J (.box ⟨[iD t,iD s,iD q],[]⟩)):ev PP cf (.call 414 [e.d,.ptr b 0] .no g)=J (.val (.dv (.bool (pP e.tm e.src e.seq t s q)) .no) g):=by have h:=Wi e;have hd:=apZ;simp only[bp,opsOf,f414,go_sem]at hd;simp only[aM.d,aM.cells,aM.ref,jK]at h;refine aO func414 ?_;simp only[go_sem,f414,hd,aM.d,aM.cells,h,a,Qk]
theorem aeq:cf.fk 414=0/\(cf.iz 414||cf.oo 424)=C:=⟨by rfl,by rfl⟩
theorem agp{b:Type}{q:b->Bool}:∀(l:List b)(i:Nat),l.any q=V->∃k x,iU q l i=.ofNat (i+k)/\l[k]?=J x/\q x=V|[],_,h=>by simp at h|x::l,i,h=>by rw[zo]at h;unfold iU;cases a:q x with|true=>exact⟨0,x,rfl,rfl,a⟩|false=>rw[a,xB]at h;obtain⟨k,y,e1,e2,e3⟩:=agp l (i+1) h;exact⟨k+1,y,by rw[ch,e1];congr 1;omega,e2,e3⟩
theorem aEH(v:Sl aM)(t s q:Int)(l:v.l.length<1000000000)(h:(v.l.any λm=>pP t s q m.tm m.src m.seq)=V):cV (λr=>∃e g,e∈v.l/\r=.val (.dv e.d .no) g) (ev PP cf (.call 364 [de v,jK t s q] .no .empty)):=by
 have i:=Pc (d:=aM.d) _ [] _ ⟨1,[(0,.box _)]⟩ v.nl _ l (λe _=>.inl ⟨aeq.1,aeq.2,aEL e t s q 0 _ rfl⟩) (.inr (.inr (.inr (.inr (.inr (.inr rfl)))))) (λ_=>⟨rfl,rfl⟩);have a:(v.l.any λe=>pP e.tm e.src e.seq t s q)=V:=by grind[pP,jl]
 obtain⟨k,e,e1,e2,_⟩:=agp _ 0 a;rw[e1,kG]at i;refine fM func364 ?_;simp only[go_sem,f364,jK,de,i,e2,aM.d,aM.cells,bw];grind
def Qs(s:List lr):Prop:=∀e∈s,∃n,e.1=.int .i64 n
theorem aei{k:Int}:∀(s:List lr)(j:Nat),Qs s->∃r,findD PP 3 (.int .i64 k) s j=J r/\∀i e,r=J (i,e)->∃n,e.1=.int .i64 n|[],_,_=>⟨Z,rfl,λ_ _ h=>by cases h⟩|e::s,j,h=>by obtain⟨n,a⟩:=h e fU;obtain⟨r,d,f⟩:=aei (k:=k) s (j+1) λx g=>h x (jy _ g);have e0:findD PP 3 (.int .i64 k) (e::s) j=(gw PP 50 3 (.int .i64 k) e.1).bind λb=>bif b then J (J (j,e))else findD PP 3 (.int .i64 k) s (j+1):=rfl;rw[e0,a,zO];show∃r,(bif aj k n then J (J (j,e))else _)=J r/\_;cases aj k n with|true=>exact⟨_,rfl,λi l c=>by cases c;exact⟨n,a⟩⟩|false=>exact⟨r,d,f⟩
theorem aB5{k:Int}{x:DV}{b:List lr}{ck:Nat}(h:Qs b):∃s c,(∀st d i,(findD PP 3 (.int .i64 k) b 0).bind (V1 st d i b ck (.int .i64 k) x)=aG {st with sl:=cP st.sl,g:=st.g.set i (.map s c)} d (.tp []))/\Qs s:=by
 obtain⟨r,j,l⟩:=aei b 0 h;rcases r with _|⟨i,e⟩;.exact⟨_,_,λ_ _ _=>by rw[j];rfl,λe a=>by
 rcases CH.1 a with a|a;.exact h e a
 grind⟩
 .exact⟨_,ck,λ_ _ _=>by rw[j];rfl,λf a=>by
 rcases CH.1 a with a|a;.exact h f ai
 . rcases CI.1 a with rfl|a;.grind
   .exact h f ai⟩
def Ra(c:ao)(t:Int)(s:Sl eC)(f:Sl fG)(m:Int)(b:DV)(k:cH)(d:Bool)(o:List (Nat×aN))(e:List lr)(a:Nat):GH:=⟨2,[(0,.map e a),(1,.box ⟨c++[iD t,hZ s,jM f,iD m,b,.map 0,iD k.k,iD k.n,.str k.s,.bool d],o⟩)]⟩
def am8(l:List aM)(b:DV)(o:List (Nat×aN)):Prop:=l=[]/\b=.nl/\o=[]\/l≠[]/\b=.ay (l.map aM.d) 86 5/\(o=[(27,.ex 86)]\/o=[(27,.ty 86)])
def Jp(c:ao)(t:Int)(b:Sl eC)(s:Sl fG)(m:Int)(n:Nat)(g:GH):Prop:=∃l bd k kd o e a,l.length<=n/\am8 l bd o/\Qs e/\g=Ra c t b s m bd k kd o e a
def JS:iM->DV->aN|.take,.nl=>.any|_,_=>.no
theorem aMP:JS .ref v=.no:=rfl
theorem aMM:JS .copy v=.no:=rfl
theorem aMN:JS .len v=.no:=rfl
theorem aMO:JS .take .nl=.any:=rfl
theorem EX{t:an}{u:iM}{a n:Nat}{b:db}{l:ew}{d:ah Tmp}{i f:Nat}{c:ao}{o:Nat×aN}{s:List (Nat×aN)}(h:bN P t=J C)(k:look (o::s) f=Z):sj P t u ⟨a,n,b,l,g⟩ d i f (.box ⟨c,o::s⟩)=(c[f]?).bind λv=>aG ⟨a,n,b,l,g.set i (.box ⟨c,o::s⟩)⟩ d (.dv v (JS u v)):=by
 have e:eB ⟨c,o::s⟩ f=Cb (c[f]?) Z:=by grind[aiy]
 have e2:sj P t u ⟨a,n,b,l,g⟩ d i f (.box ⟨c,o::s⟩)=(fI P u t ⟨c,o::s⟩ f).bind λr=>aG ⟨a,n,b,l,g.set i (.box r.2)⟩ d r.1:=by
  show(match u,eB _ _,bN P t with|.ref,.ex _,J C=>_|_,_,_=>_)=_;rw[e];rcases c[f]? with _|v;.cases u<;>rfl
  cases v<;>cases u<;>rfl
 rw[e2,HO h,e];rcases j:c[f]? with _|v;.rfl
 cases v<;>cases u<;>rfl
attribute[go_sem]EX aMP aMM aMN aMO
theorem aEG(p:eJ)(H:Int)(o:Sl eC)(G:Sl fG)(E:Int)(n:Nat)(g:GH)(b:eC)(e:aM)(ht:lY p.types)(hk:p.query.key.l.length<1000000000)(Y:e.kR.l.length<1000000000)(hv:∃k v,b.v=du k/\p.query.vars.l[k]?=J v)(hn:n<1100000)(hg:Jp p.cells H o G E n g):cV (λr=>∃m i,r=.val (.dv (iD m) .no) i/\(aj m 0=V->Jp p.cells H o G E (n+1) i)) (ev PP cf (.call 363 [.ptr 1 0,b.d,e.d] .no g)):=by
 obtain⟨l,bd,B,kd,ow,es,Q,hl,X,pT,rfl⟩:=hg;obtain⟨k,vb,y,A⟩:=hv;obtain⟨r,O,v,z,m,rfl⟩:=Wm p.types p.query.key e ht hk Y;have d1:=apQ;have d3:=apS;have d5:=apU;have d6:=apV;have d9:=apW;have d10:=apR;simp only[bp,opsOf,f363,go_sem]at d1 d3 d5 d6 d9 d10;obtain⟨I,⟨F,K,D,pat,L⟩,u⟩:=p;have cells:eJ.cells ⟨I,⟨F,K,D,pat,L⟩,u⟩=cm I::.str F::kE K::bW D::(pat.cells++[uI L]++u.cells):=rfl;rw[cells];generalize kO:pat.cells++[uI L]++u.cells=s;have W:s.length=19:=by grind[ae.dI,dN.cells]
 simp only[aM.d,aM.cells,cm,bW]at O;have q:∀m:ao,(s++m)[22]?=m[3]?:=λm=>wD (j:=3) W;have t:∀m:ao,(s++m)[23]?=m[4]?:=λm=>wD (j:=4) W;have w:∀m:ao,(s++m)[24]?=m[5]?:=λm=>wD (j:=5) W;have U:∀m:ao,(s++m)[28]?=m[9]?:=λm=>wD (j:=9) W;have t23:∀m:ao,(s++m).take 23=s++m.take 4:=λm=>by simp_all[SC,Hm]
 have t25:∀m:ao,(s++m).take 25=s++m.take 6:=λm=>by simp_all[SC,Hm]
 have t28:∀m:ao,(s++m).take 28=s++m.take 9:=λm=>by simp_all[SC,Hm]
 have d24:∀m:ao,(s++m).drop 24=m.drop 5:=λm=>by simp_all[zp]
 have d25:∀m:ao,(s++m).drop 25=m.drop 6:=λm=>by simp_all[zp]
 have d28:∀m:ao,(s++m).drop 28=m.drop 9:=λm=>by simp_all[zp]
 have d29:∀m:ao,(s++m).drop 29=m.drop 10:=λm=>by simp_all[zp]
 obtain⟨S,R,f1,f⟩:=aB5 (k:=du k) (x:=e.d) (ck:=Q) pT;have kI:ta PP 3 (.int .i64 (.ofNat k))=V:=rfl;have a:∀{m:Int}{i:GH},aj m 0=C->∃P d,bh.val (.dv (iD m) .no) i=.val (.dv (iD P) .no) d/\(aj P 0=V->Jp (cm I::.str F::kE K::bW D::s) H o G E (n+1) d):=λh=>⟨_,_,rfl,λk=>ai⟩;simp only[aM.d,aM.cells]at f1;refine fM func363 ?_;have M:fE 86 5 56 (.ay (l.map aM.d) 86 5) (.ex 86) [e.d]=J (.ay (l.map aM.d++[e.d]) 86 5,.ex 86):=qO ab (by grind[bm]) (by grind[bm]);have N:fE 86 5 56 (.ay (l.map aM.d) 86 5) (.ty 86) [e.d]=J (.ay (l.map aM.d++[e.d]) 86 5,.ty 86):=abx ab (by grind[bm]) (by grind[bm]);simp only[aM.d,aM.cells]at M N;have w0:∀c:aN,dg [(27,c)] 27 1=[]:=λ_=>rfl;have w1:∀c:aN,dg [(27,c)] 29 3=[(27,c)]:=λ_=>rfl;have w2:∀c:aN,dg [(27,c)] 32 1=[(27,c)]:=λ_=>rfl;rcases X with⟨T,rfl,rfl⟩|⟨T,rfl,rfl|rfl⟩;all_goals
 simp only[go_sem,f363,Ra,d1,eC.d,eC.cells,aM.d,aM.cells,y,A,eE.d,kE,lU];apply cX<;>intro h;rotate_left;.simp only[h,go_sem,bw];exact a rfl
 simp only[h,go_sem,d3,q];apply cX<;>intro h;.simp only[h,go_sem,bw];exact a rfl
 simp only[h,go_sem,d5,d6,t,w,t23,d24,W,f1,kI,M,N,w0];apply cX<;>intro h;.simp only[h,go_sem,bw];exact⟨_,_,rfl,λ_=>⟨l++[e],_,B,_,_,_,_,aU,.inr ⟨aP,by grind[aM.d,aM.cells],aU⟩,f,rfl⟩⟩
 simp only[h,go_sem,d9,O,cH.d,cH.cells,d10];repeat'(with_reducible apply cX<;>intro h<;>simp only[h,go_sem,U,d25,t25,d28,t28,d29,W,w1,w2,bw])
 all_goals first|exact a rfl|exact⟨_,_,rfl,λ_=>⟨l++[e],_,⟨_,_,_⟩,_,_,_,_,aU,.inr ⟨aP,by grind[aM.d,aM.cells],aU⟩,f,rfl⟩⟩
def rM:bt->bt->bt|[],o=>o|r::l,o=>bif aA (iU r.same o 0) 0 then rM l (o++[r])else rM l o
theorem Oq:∀(l o:bt),(∀q∈l,GP q)->(∀q∈o,GP q)->(∀q∈rM l o,GP q)/\(rM l o).length<=o.length+l.length/\o.length<=(rM l o).length|[],o,_,h=>⟨h,bT _,bT _⟩|r::l,o,e,f=>by rw[rM];have k:∀q∈l,GP q:=λq d=>e q (jy _ d);cases aA (iU r.same o 0) 0 with
 |true=>obtain⟨a,b,c⟩:=Oq l (o++[r]) k (λq d=>by
 rcases CH.1 d with d|d;.exact f q d
 .rw[CJ.1 d];exact e r fU);simp only[gR,dD,gL]at b c;simp only[dD,aR];exact⟨a,ab,ab⟩|false=>obtain⟨a,b,c⟩:=Oq l o k f;simp only[dD,ch];exact⟨a,ab,ab⟩
def xi:Nat->Nat->bt->ah bt|0,_,_=>Z|f+1,i,o=>match o[i]? with|none=>J o|some q=>bif aj (fB q).1 0 then(bif aA 256 (.ofNat (rM (fB q).2.2 o).length)then Z else xi f (i+1) (rM (fB q).2.2 o))else Z
theorem EC(h:GP p):(∀q∈(fB p).2.2,GP q)/\(fB p).2.2.length<=4096/\(fB p).2.1.length<=4096:=by have b:=Ur _ ([],[]) (λx a=>(Jq p h.a x a).pat (by have:=h.n;omega) (by have:=h.c;omega)) aU;have l:=(Rj p).1;have s:=qL h.n h.n;grind[fB]
theorem apg(p:ae):(fB p).1=0\/fB p=(17,[],[]):=by grind[fB]
theorem arj(p:ae)(O:lX p):CC 102 [.agg p.cells] (bif aj p.ji 0 then JB (xi 258 0 [p])else .val (.tp [(.nl,.any),iO p.ji]) .empty):=by have e1:=O3 p O;refine aO func102 ?_;simp only[f102];cases B:aj p.ji 0 with|false=>simp only[go_sem,e1,B]|true=>
 have g:=Tl O (oj B);simp only[go_sem,e1,B];refine tb (mr 258 ()) [p] (λi o=>[(6,iS i),(5,gh (ae.bn o) 62 14)]) (λi l o=>JB (xi l.length i o)) (λi l o=>o≠[]/\i<=o.length/\o.length<=256/\l.length+i=258/\∀q∈o,GP q) aU rfl ⟨aP,aP,aP,by rfl,λq v=>aU⟩ (by rfl) (λo f=>?_) (λi x m o hi k Q f r=>?_);.grind
 . obtain⟨n,a,b,c,N⟩:=f;simp only[dD,xi];by_cases A:i<o.length
   . obtain⟨q,v⟩:∃q,o[i]?=J q:=⟨_,dC A⟩;have K:=N q (dw v);obtain⟨_,g2,e2,oe,qV,rfl⟩:=LP q K;have I:=apg q;obtain⟨d1,d2,d3⟩:=EC K;have P:(i<o.length)=True:=il A;simp only[v];generalize fB q=D at*;obtain⟨e,H,w⟩:=D;simp only at e2 d1 d2 d3 I|-;have Y:cj (H.map Edge.d)=V:=ig a42 _;have p2:cj (ae.bn w)=V:=ae.u7 w;rcases I with I|I;rotate_left 1;.cases I;have Gi:aj 17 0=C:=rfl;simp only[ae.bn,Hv,zB]at e2;simp only[go_sem,zw n,P,v,e2,Gi];rfl
     . have q0:aj 0 0=V:=rfl;subst I;rcases pG (H=[])with u|u<;>rcases pG (w=[])with hr|hr;case' inl.inl=>simp only[u,hr,ae.bn,Hv,zB]at e2
       case' inl.inr=>simp only[u,Hv,zx hr]at e2
       case' inr.inl=>simp only[hr,ae.bn,zB,Be u]at e2
       case' inr.inr=>simp only[zx hr,Be u]at e2
       all_goals rcases qV with rfl|rfl;all_goals simp only[go_sem,zw n,P,v,e2,Y,p2,q0];rw[CS]
       all_goals
       refine tb w o (λj s=>[(39,iS j),(5,gh (ae.bn s) 62 14)]) (λ_ t s=>JB (bif aA 256 (.ofNat (rM t s).length)then Z else xi m.length (i+1) (rM t s))) (λ_ t s=>s≠[]/\(∀q∈s,GP q)/\o.length<=s.length/\s.length+t.length<=4500) ab (by first|rfl|(rw[zw n];rfl)) ⟨n,N,bT _,ab⟩ rfl (λs f=>?_) (λj z t s U E X f R=>?_)
       . obtain⟨d,y,S,T⟩:=f;have r:=λh=>r s ⟨d,ab,h,ai,y⟩;rw[zw d]at r;simp only[go_sem]at r;have M:aA 256 (.ofNat s.length)=C->s.length<=256:=λh=>by grind[fX]
         first
         | simp only[go_sem,zw d,rM];apply sp<;>intro h;.simp only[h,go_sem];rfl
           .simp only[h,r (M h),Q,go_sem]
         | simp only[hr,go_sem,zw d,rM,gL];apply sp<;>intro h;.simp only[h,go_sem];rfl
           .simp only[h,r (M h),Q,go_sem]
       .first|(rw[hr]at E;simp_all)|obtain⟨d,y,S,T⟩:=f;simp only[dD]at T;have L:=d1 z (dw E);obtain⟨gy,e3⟩:=LK V s z ab (by have:=L.c;omega);rw[ahh d]at e3;have F:=R (s++[z]) ⟨aP,λx k=>by
           rcases CH.1 k with k|k;.exact y x k
           .rw[CJ.1 k];exact L,by simp only[gR];omega,by simp only[gR,dD,gL];omega⟩;have G:=R s ⟨d,y,S,ab⟩;rw[zw aP]at F;rw[zw d]at G;have W:(s.length<1200000)=True:=il ab;simp only[ae.Bt,ae.bn,go_sem]at F G;simp only[go_sem,zw d,U,E,e3,rM];apply sp<;>intro h<;>simp only[h,X,F,G,W,ae.qS,go_sem]
   .have e0:o[i]?=Z:=ce ab;have P:(i<o.length)=False:=cK A;simp only[e0];simp only[go_sem,zw n,P,JB,zx n]
theorem A4(e:Nat):∀a b:ao,js e (a++b)=(js e a&&js e b)|[],b=>by simp[js]|x::a,b=>by simp only[lU,js,A4 e a b,Bool.and_assoc]
theorem Q2{b:Type}{f:b->DV}{e:Nat}(h:∀a,(f a).gY e=V):∀l:List b,js e (l.map f)=V|[]=>rfl|a::l=>by simp[js,h a,Q2 h l]
theorem MI{a:Bool}{l:ao}{n:Nat}(h:aw k e=C)(b:js e l=V):(bK a l k n).gY e=V:=by cases l<;>grind[bK,DV.gY]
mutual
theorem Expr.gY {k : Nat} (h : aw 59 k = C) : ∀ e : Expr, js k e.cells = V
  | .mk o l args v Q n i num str => by
    simp only [Expr.cells, js, DV.gY, zf, xA]
    exact MI h (Expr.FV h args)
theorem Expr.FV {k : Nat} (h : aw 59 k = C) : ∀ l : List Expr, js k (Expr.bn l) = V
  | [] => rfl
  | e :: l => by
    simp only [Expr.bn, js, DV.gY, Expr.gY h e, Expr.FV h l, zf]
end
def ayX(s:Sl Int):(bW s).gY 281=V:=MI rfl (Q2 (λ_=>rfl) _)
theorem Edge.gY(x:Edge):x.d.gY 281=V:=by show js 281 _=V;simp only[Edge.cells,A4,js,DV.gY,zf,xA,Expr.gY (k:=281) rfl,ayX,uI,DA];rw[MI rfl (Expr.FV rfl _),MI rfl (Q2 (λ_=>rfl) _)];rfl
mutual
theorem ae.gY : ∀ p : ae, js 281 p.cells = V
  | .mk o n args t v s a c => by
    simp only [ae.cells, lU, jO, js, DV.gY, zf, xA, Expr.gY (k := 281) rfl]
    exact MI rfl (ae.FV args)
theorem ae.FV : ∀ l : bt, js 281 (ae.bn l) = V
  | [] => rfl
  | e :: l => by
    simp only [ae.bn, js, DV.gY, ae.gY e, ae.FV l, zf]
end
theorem alx(r:bt):(tE (ae.bn r) 62 14).1.gY 281=V:=by
 rcases r with _|⟨a,l⟩;.rfl
 show(!(aw 62 281)&&js 281 (ae.bn (a::l)))=V;rw[ae.FV];rfl
theorem aMD(e:gk)(r:bt)(k:Int)(o:aN)(d:o=.ex 281\/o=.ty 281):rz V (.tp [xN e o,tE (ae.bn r) 62 14,iO k])=.tp [xN e (.ex 281),tE (ae.bn r) 62 14,iO k]:=by
 have b:∀l j,xp l j (tE (ae.bn r) 62 14)=tE (ae.bn r) 62 14:=by intro l j;cases r<;>rfl
 have h:xp [xN e o,tE (ae.bn r) 62 14,iO k] 0 (xN e o)=xN e (.ex 281):=by
  rcases e with _|⟨a,l⟩;.rfl
  rcases d with rfl|rfl;.rfl
  . have c:([xN (a::l) (.ty 281),tE (ae.bn r) 62 14,iO k].zipIdx.all λy=>aw y.2 0||y.1.1.gY 281)=V:=by simp[alx,DV.gY]
    show(bif aw 281 281&&(js 281 _&&([xN _ _,tE _ 62 14,iO k].zipIdx.all _))then _ else _)=_;rw[c,Q2 Edge.gY];rfl
 show SV.tp [xp _ 0 _,xp _ 1 _,xp _ 2 _]=_;rw[h,b];rfl
theorem arz(p:ae)(g:GP p):∃o,(o=.ex 281\/o=.ty 281)/\CC 173 [.agg p.cells] (.val (.tp [xN (fB p).2.1 o,tE (ae.bn (fB p).2.2) 62 14,iO (fB p).1]) .empty):=by
 obtain⟨_,g1,e1,rfl⟩:=O5 p g.o;obtain⟨_,g2,e2,a,q,rfl⟩:=LP p g;generalize fB p=D at*;obtain⟨e,s,r⟩:=D;have q0:aj 0 0=V:=rfl;refine⟨a,q,aO func173 ?_⟩;simp only at e2|-;have b:cj (s.map Edge.d)=V:=ig a42 _;have c:cj (ae.bn r)=V:=ae.u7 r;simp only[f173];rcases pG (s=[])with h|h<;>rcases pG (r=[])with hr|hr;case' inl.inl=>simp only[h,hr,ae.bn,Hv,zB]at e2|-
 case' inl.inr=>simp only[h,Hv,zx hr]at e2|-
 case' inr.inl=>simp only[hr,ae.bn,zB,Be h]at e2|-
 case' inr.inr=>simp only[zx hr,Be h]at e2|-
 all_goals rcases q with rfl|rfl<;>simp only[go_sem,e1,g.r,q0,e2,b,c]
theorem aHt(b:Bool)(f:bt)(a:ae)(l:bt)(k:Nat)(h:eN a≠[]):nv b f (a::l) k≠[]:=by simp_all[nv]
theorem aFA(p:ae)(x:Pr):Ca p x≠[]:=by obtain⟨op,nl,args,ty,var,scope,s,cond⟩:=p;grind[Ca,ve,aFD]
theorem ww:∀p:ae,zD p->eN p≠[]|.mk o f args t v s n c,d=>by have i:∀a∈args,eN a≠[]:=λa b=>ww a (d.I6 b);have g:=d.ar;rw[eN];cases e:aj o 0 with|true=>rw[aR];simp|false=>rw[ch];cases args with|nil=>exact absurd g (λh=>SR e h)|cons a l=>have x:=i a fU;cases aj o 2||aj o 3 with|true=>rw[aR];exact aHt _ _ _ _ _ x|false=>rw[ch,Cf];cases q:eN a with|nil=>exact absurd q x|cons y m=>rw[Hh];exactλh=>aFA _ y (List.append_eq_nil_iff.1 h).1 termination_by p=>pM p decreasing_by simp_wf;have:=pI b;omega
theorem aL1(x:Pr)(s:gk×bt)(h:(gP x s).1=Z):(gP x s).2.1≠[]:=by grind[uJ,gP]
theorem IM:∀(l:List Pr)(s:gk×bt),(cR gP l s).1=Z->l≠[]->(cR gP l s).2.1≠[]|[x],s,h,_=>by rw[By]at h|-;exact aL1 x s h|x::y::l,s,h,_=>by rw[vA]at h|-;cases a:(gP x s).1 with|none=>rw[a]at h;exact IM (y::l) _ h aP|some c=>rw[a]at h;cases h
theorem PW(h:GP p)(a:(fB p).1=0):(fB p).2.1≠[]:=by
 revert a;unfold fB;rcases b:(cR _ _ _).1 with _|c;.intro _;exact IM _ _ b (ww p h.a)
 grind
theorem agq{a:Type}(f:a->Bool):∀(l:List a)(i:Nat),aA (iU f l i) 0=C->∃n:Nat,iU f l i=.ofNat n/\i<=n/\n<i+l.length|[],_,h=>by simp[iU,fX]at h|q::l,i,h=>by rw[iU]at h|-;cases c:f q with|true=>exact⟨i,by rw[aR],bT _,by simp only[dD];omega⟩|false=>rw[c,ch]at h;obtain⟨n,b,d,e⟩:=agq f l (i+1) h;exact⟨n,by rw[ch,b],ab,by simp only[dD];omega⟩
theorem aL0(x:Pr)(s:gk×bt)(h:∀y∈s.1,aA y.dst 0=C->y.dst.toNat<s.2.length):∀y∈(gP x s).2.1,aA y.dst 0=C->y.dst.toNat<(gP x s).2.2.length:=by grind[uJ,gP,ju,fX,agq]
theorem IR:∀(l:List Pr)(s:gk×bt),(∀y∈s.1,aA y.dst 0=C->y.dst.toNat<s.2.length)->∀y∈(cR gP l s).2.1,aA y.dst 0=C->y.dst.toNat<(cR gP l s).2.2.length|[],_,h=>h|x::l,s,h=>by rw[vA];have:=aL0 x s h;cases(gP x s).1 with|none=>exact IR l _ this|some c=>exact this
theorem apf(p:ae):∀y∈(fB p).2.1,aA y.dst 0=C->y.dst.toNat<(fB p).2.2.length:=by unfold fB;cases(cR _ _ _).1<;>simp_all[IR]
theorem ago(p:ae):∀(l:bt)(i:Nat),Qn p l i=iU (λq=>q.same p) l i|[],_=>rfl|q::l,i=>by rw[Qn,iU,ago p l (i+1)]
theorem aCr{s:St}{x:aK}{d a b c:Nat}{u:iM}:vW s x d u (.se a b c)=aG s (J d) (.se a b c):=(rfl)
theorem aC5{s:St}{d:ah Tmp}{a b c:Nat}:Wb s d (.se a b c)=aG s d (.se a b c):=(rfl)
attribute[go_sem]aCr aC5
def qe(f:bt):bt->Nat->List (Nat×gk)|[],_=>[]|q::l,i=>(i,(fB q).2.1.map (sU f i (fB q).2.2))::qe f l (i+1)
abbrev adm:Nat×gk->ao:=λx=>[iD (.ofNat x.1),.ay (x.2.map Edge.d) 281 17]
def Uy(g:GH)(b:Nat)(l:bt):Prop:=g.get b=J (.box ⟨[.ay (ae.bn l) 62 14],[]⟩)/\b<g.next
structure StI{σ:Type}(k:Nat)(g0:GH)(rel:ah bM->σ->GH->Prop)(step:Nat×gk->σ->ah bM×σ)(s0:σ)(X φ:List (Nat×gk))(s:σ×GH):Prop where
 r:rel Z s.1 s.2
 h:Hi k g0 s.2
 n:k<=s.2.next
 f:cR step φ s.1=cR step X s0
 d:∃dn,X=dn++φ/\cR step dn s0=(Z,s.1)
theorem azd(u:bt)(b:Nat)(hl:u.length<=256)(hg:∀q∈u,GP q/\(fB q).1=0):wz adm 172 [] [.ptr b 0] (λg=>Uy g b u) (qe u u 0):=by
 intro n k σ F step s U kg g hr hk;suffices hS:Sat (ev PP cf (.call 172 ([]++[.eu n]++[.ptr b 0]) .no g)) λv O=>v=.tp []/\F (cR step (qe u u 0) s).1 (cR step (qe u u 0) s).2 O/\Hi k g O by obtain⟨v,O,e,rfl,r,h⟩:=hS;simp_all
 obtain⟨kV,nN⟩:=kg _ _ _ hr;have d1:=aLj;simp only[bp,opsOf,f172,go_sem]at d1;refine nw func172 ?_;simp only[f172];simp only[go_sem,kV];refine Ap u (s,g) (λi _=>[(12,iS i)]) (λs=>s.2) (λi l p=>StI k g F step s (qe u u 0) (qe u l i) p) ab rfl rfl ⟨hr,Hi.refl,hk,rfl,[],rfl,rfl⟩ (λp I=>?_) (λi q l p hi hx hw I H=>?_);.obtain⟨r,h2,_,f,_⟩:=I;rw[qe]at f;rw[<-f];simp only[go_sem];exact⟨trivial,r,h2⟩
 . obtain⟨T,g1⟩:=p;obtain⟨S,M,yr,G,D,N,t⟩:=I;simp only at S M yr G t;obtain⟨P,dq⟩:=hg q (dw hx);obtain⟨oe,qV,e2⟩:=arz q P;obtain⟨jb,oA⟩:=kg _ _ _ S;have pT:=PW P dq;have w:=aMD (fB q).2.1 (fB q).2.2 (fB q).1 oe qV;obtain⟨d3,d4,d5⟩:=EC P;have p1:cj ((fB q).2.1.map Edge.d)=V:=ig a42 _;have p2:cj (ae.bn (fB q).2.2)=V:=ae.u7 _;simp only[Be pT]at e2 w;rw[dq]at e2 w;have L:∀x∈(fB q).2.1,aA x.dst 0=C->x.dst.toNat<(fB q).2.2.length:=apf q;rw[qe]at G N;generalize(fB q).2.1=a at*;generalize(fB q).2.2=c at*;have iN:aN.yz .no=V:=rfl;simp only[rz,ctt]at w;rcases pG (c=[])with hr|hr;case' inl=>simp only[hr,ae.bn,zB]at e2 w
   case' inr=>simp only[zx hr]at e2 w
   all_goals
   simp only[go_sem,iN,hi,hx,e2,w,p1,p2];rw[CS];refine Ap a () (λj _=>[(25,iS j),(5,.dv (.ay (((a.take j).map (sU u i c)++a.drop j).map Edge.d) 281 17) (.ex 281))]) (λ_=>g1) (λj r _=>r=a.drop j) ab rfl rfl rfl (λ_ I=>?_) (λj x r _ R hy hv I o=>?_);.have wR:((a.take a.length).map (sU u i c)++a.drop a.length).map Edge.d=(a.map (sU u i c)).map Edge.d:=aP;obtain⟨g3,e3,r3,Q⟩:=U.run (i,a.map (sU u i c)) T g1 ⟨D,qe u l (i+1),N,t⟩ S yr;simp only[adm]at e3;rw[wR];rw[vA]at G;have Lw:∀p,(step (i,a.map (sU u i c)) T)=(Z,p)->∃D,qe u u 0=D++qe u l (i+1)/\cR step D s=(Z,p):=λp h=>⟨D++[(i,a.map (sU u i c))],ai,by grind[yh,By]⟩;generalize step (i,a.map (sU u i c)) T=z at*;obtain⟨Y,sz⟩:=z;cases Y with|none=>have H:=H (sz,g3) ⟨r3,M.trans Q,by have:=Q.1;grind,G,Lw _ rfl⟩;simp only[rJ]at e3;simp only[go_sem]at H;simp only[go_sem,e3,hw,H]|some Y=>simp only[sN]at e3;simp only[go_sem,e3];rw[<-G];exact⟨trivial,r3,M.trans Q⟩
   . have K:∃A B:ao,A.length=j/\((a.take j).map (sU u i c)++a.drop j).map Edge.d=A++x.d::B/\((a.take (j+1)).map (sU u i c)++a.drop (j+1)).map Edge.d=A++(sU u i c x).d::B:=by have Ix:=nr R;obtain⟨_,hxj⟩:=am.1 hy;refine⟨((a.take j).map (sU u i c)).map Edge.d,(a.drop (j+1)).map Edge.d,ai,?_,?_⟩;all_goals simp_all[Ei,List.take_succ_eq_append_getElem]
     obtain⟨A,B,hA,iG,kf⟩:=K;have o:=o () (by grind[El]);simp only at o;rw[kf]at o;simp only[iG];have X:∀y:DV,(A++y::B)[j]?=J y:=λy=>aU;have E:∀y:DV,List.take j (A++y::B)=A:=λy=>List.take_left' hA;have gW:∀y:DV,List.drop (j+1) (A++y::B)=B:=λy=>by simp_all[zp]
     have W:(j<A.length+(B.length+1))=True:=il ab;have kZ:=dw hy;obtain⟨src,d,var,ty,⟨o1,o2,o3,o4,o5,o6,o7,o8,o9⟩,ops,cls,uG,uX,ins⟩:=x;have N:=L _ kZ;simp only at N;simp only[sU,Edge.d,Edge.cells,Expr.cells]at o|-;cases hd:aA d 0 with|true=>simp only[hd,aR,go_sem]at o;simp only[go_sem,R,X,E,gW,W,hd,hv,o]|false=>
     have t:=N hd;have hd0:¬d<0:=by rw[fX]at hd;exact Wu hd
     obtain⟨m,rfl⟩:∃m:Nat,d=.ofNat m:=⟨d.toNat,by simp only[Kb];omega⟩;first
     |(rw[hr]at t;exact absurd t aP)
     | obtain⟨z,hz⟩:∃z,c[m]?=J z:=⟨_,dC t⟩;have eG:c.getD (du m).toNat zP=z:=by show c.getD m zP=z;rw[List.getD_eq_getElem?_getD,hz];rfl
       obtain⟨gz,e6⟩:=arA C u z ab (λq hq=>by have:=(hg q hq).1.c;omega);rw[OV,<-ago]at e6;have IF:(m<c.length)=True:=il t;simp only[hd,eG,ch,go_sem]at o;simp only[go_sem,R,X,E,gW,W,hd,hv,o,hz,IF,e6,jb,d1]
abbrev zA:dN:=⟨0,0,⟨V,[]⟩,⟨V,[]⟩⟩
theorem aMc(q S r F v p t d)(X:ae.bP r<=89)(gx:uA q r.length=V)(N:∀x∈r,CC 176 [.agg x.cells] (.val (gh ((jz x).map Guard.d) 344 11) .empty)):CC 176 [.agg (ae.mk q S r F v p t d).cells] (.val (gh ((jz (.mk q S r F v p t d)).map Guard.d) 344 11) .empty):=by
 have L:=a38 r;have I:aj q 0=C->∃a l,r=a::l:=λh0=>by cases r<;>grind[SR]
 have w:∀k:Int,aj k 0=C->aj q k=V->aj q 0=C:=λk hk h=>by grind[oj]
 refine aO func176 ?_;simp only[f176];simp only[go_sem,ae.cells,jz];have M:∀a l,r=a::l->(jz a=[]/\CC 176 [.agg a.cells] (.val (.dv .nl .any) .empty))\/(jz a≠[]/\CC 176 [.agg a.cells] (.val (.dv (.ay ((jz a).map Guard.d) 344 11) (.ex 344)) .empty)):=by
  intro a l h;have:=N a aU;rcases pG (jz a=[])with c|c;.rw[c]at this;exact .inl ⟨c,this⟩
  grind[uz]
 cases H:aj q 9 with|true=>
  obtain rfl:=oj H;obtain⟨a,l,rfl⟩:=I rfl;have O:aj 9 1=C:=rfl;have P:aj 9 8=C:=rfl;have Q:aj 9 3=C:=rfl;have R:aj 9 9=V:=rfl;have W:=Hw a;simp only[ae.bP]at X;have m:fE 344 11 112 (.ay [Guard.d ⟨p,F,v,d⟩] 344 11) (.ex 344) ((jz a).map Guard.d)=J (.ay ([Guard.d ⟨p,F,v,d⟩]++(jz a).map Guard.d) 344 11,.ex 344):=abr ai;have A:(((jz a).map Guard.d).all λy=>decide (y.flat.length=11))=V:=i5 _;simp only[go_sem]at m;rcases M a l rfl with⟨c,e1⟩|⟨c,e1⟩;.rw[c]at m;simp only[eM,go_sem]at m;simp only[go_sem,O,P,Q,R,ae.bn,e1,sR,c]
  .simp only[go_sem,O,P,Q,R,ae.bn,e1,m,A,BB,sR]|false=>
  apply sp<;>intro h<;>simp only[h,go_sem]
  . obtain⟨a,l,rfl⟩:=I (w 1 rfl h);rcases M a l rfl with⟨c,e1⟩|⟨c,e1⟩;.simp only[go_sem,ae.bn,e1,sR,c,eM]
    .simp only[go_sem,ae.bn,e1,sR,BB,uz c]
  apply sp<;>intro G<;>simp only[G,go_sem]
  . obtain⟨a,l,rfl⟩:=I (w 8 rfl G);rcases M a l rfl with⟨c,e1⟩|⟨c,e1⟩;.simp only[go_sem,ae.bn,e1,sR,c,eM]
    .simp only[go_sem,ae.bn,e1,sR,BB,uz c]
  apply sp<;>intro U<;>simp only[U,H,go_sem]
  . have z:aj q 10=C:=by grind[oj]
    have B:aj q 7=C:=by grind[oj]
    simp only[z,B,go_sem];refine tb r ([]:List Guard) (λi s=>[(21,iS i),(3,gh (s.map Guard.d) 344 11)]) (λi l s=>.val (gh ((s++Bf l).map Guard.d) 344 11) .empty) (λi l s=>s.length+ae.bP l<=400) ab rfl ai rfl (λs K=>?_) (λi x l s D u E K g=>?_)
    . simp only[Bf,jY];rcases pG (s=[])with j|j;.subst j;simp only[go_sem]
      .simp only[go_sem,uz j]
    . have e1:=N x (dw u);have g:=g (s++jz x) (by grind[Hw,ae.bP]);have W:=Hw x;simp only[ae.bP]at K;simp only[Bf];rw[<-uu];have m:s≠[]->fE 344 11 112 (.ay (s.map Guard.d) 344 11) (.ex 344) ((jz x).map Guard.d)=J (.ay (s.map Guard.d++(jz x).map Guard.d) 344 11,.ex 344):=λ_=>abr ai;have A:(((jz x).map Guard.d).all λy=>decide (y.flat.length=11))=V:=i5 _;have Y:=λ(h:jz x≠[])(o:aN)=>abt (f:=Guard.d) (e:=344) (n:=11) (b:=112) (o:=o) ab ab h ab;rcases pG (s=[])with j|j<;>rcases pG (jz x=[])with c|c;.subst j;rw[c]at e1 g|-;simp only[jY,eM,go_sem]at g e1;simp only[go_sem,D,u,E,e1,g,al9,jY,jO]
      .subst j;simp only[jO,uz c,go_sem]at g e1;simp only[go_sem,D,u,E,e1,A,g,Y c,BB,jO]
      .rw[c]at e1 g m|-;simp only[jY,eM,uz j,go_sem]at g e1 m;simp only[go_sem,D,u,E,e1,g,m j,uz j,jY]
      .have T:s++jz x≠[]:=aU;rw[uz T]at g;simp only[uz c,qJ,go_sem]at g e1;simp only[go_sem,D,u,E,e1,A,g,m j,BB,uz j,qJ,uu]
  apply sp<;>intro z<;>simp only[z,go_sem]
  . obtain⟨a,l,rfl⟩:=I (w 10 rfl z);rcases M a l rfl with⟨c,e1⟩|⟨c,e1⟩;.simp only[go_sem,ae.bn,e1,sR,c,eM]
    .simp only[go_sem,ae.bn,e1,sR,BB,uz c]
  apply sp<;>intro B<;>simp only[B,go_sem]
  . obtain⟨a,l,rfl⟩:=I (w 7 rfl B);rcases M a l rfl with⟨c,e1⟩|⟨c,e1⟩;.simp only[go_sem,ae.bn,e1,sR,c,eM]
    .simp only[go_sem,ae.bn,e1,sR,BB,uz c]
theorem LJ:∀p:ae,zD p->p.nn<=90->CC 176 [.agg p.cells] (.val (gh ((jz p).map Guard.d) 344 11) .empty)|.mk o l args t v s a c,b,n=>by have hr:∀x∈args,CC 176 [.agg x.cells] (.val (gh ((jz x).map Guard.d) 344 11) .empty):=λx h=>LJ x (b.I6 h) (by have:=ae.sC args x h;simp only[ae.nn]at n;omega);exact aMc o l args t v s a c (by simp only[ae.nn]at n;omega) b.ar hr termination_by p=>pM p decreasing_by simp_wf;have:=pI h;omega
theorem arl(p:ae)(b:lX p):CC 105 [.agg p.cells] (.val (.tp [tE ((bif aj p.uF 0 then jz p else[]).map Guard.d) 344 11,iO p.uF]) .empty):=by
 obtain⟨_,g0,a,rfl⟩:=O5 p b;refine aO func105 ?_;rcases c:aj _ 0 with _|_;.simp only[go_sem,f105,a,c,eM,zB]
 have g:=Tn b (oj c);have e1:=LJ p g.a (by have:=g.n;omega);have z:=oj c;rcases pG (jz p=[])with h|h;.rw[h]at e1|-;simp only[go_sem,f105,a,e1,eM,zB,z]
 .rw[uz h]at e1;simp only[go_sem,f105,a,e1,BB,SI h,z]
section
variable{P:aH}{t fn n id I e a m:Nat}{sl:db}{lb:ew}{g:GH}{d:ah Tmp}{b:LB}{dd:DV}{l:ao}
theorem aAZ:sj P t .ref ⟨fn,n,sl,lb,g⟩ d id 0 (.box ⟨[.ay l a m],[(0,.ty e)]⟩)=(fI P .ref t ⟨[.ay l a m],[(0,.ty e)]⟩ 0).bind λr=>aG ⟨fn,n,sl,lb,g.set id (.box r.2)⟩ d r.1:=by rfl
theorem aIu:pB .ref b I dd (.ty e)=(.dv dd .no,b):=rfl
end
attribute[go_sem]aAZ aIu
theorem ark(l:bt)(g:GH):ev PP cf (.call 104 [.ay (ae.bn l) 62 14] .no g)=J (.val (.dv (.func 172 [] [.ptr g.next 0]) .no) (g.alloc (.box ⟨[.ay (ae.bn l) 62 14],[]⟩))):=by refine aO func104 ?_;simp only[go_sem,f104]
def uq(f:bt)(x:Nat×gk)(s:List Stat×gk):ah bM×(List Stat×gk):=(Z,(s.1++[⟨⟨V,jz (f.getD x.1 zP)⟩⟩],s.2++x.2))
def rN(f:bt):bt->Nat->List Stat×gk->List Stat×gk|[],_,s=>s|q::l,i,(a,e)=>rN f l (i+1) (a++[⟨⟨V,jz q⟩⟩],e++(fB q).2.1.map (sU f i (fB q).2.2))
theorem Us(f:bt):∀(l:bt)(i:Nat)(s:List Stat×gk),f.drop i=l->cR (uq f) (qe f l i) s=(Z,rN f l i s)
 |[],_,_,_=>rfl|q::l,i,s,h=>by
  have k:f[i]?=J q:=by rw[<-Hk,h];rfl
  rw[qe,vA];show cR (uq f) (qe f l (i+1)) (uq f _ s).2=_;rw[Us f l (i+1) _ (by rw[<-El,h];rfl)];obtain⟨a,e⟩:=s;simp only[uq,rN,List.getD_eq_getElem?_getD,k,Eo]
theorem R4(f:bt):∀(l:bt)(i:Nat),f.drop i=l->∀x∈qe f l i,∃q,f[x.1]?=J q/\x.2=(fB q).2.1.map (sU f x.1 (fB q).2.2)
 |[],_,_,x,h=>by rw[qe]at h;exact absurd h lV|q::l,i,h,x,a=>by
  have k:f[i]?=J q:=by rw[<-Hk,h];rfl
  rw[qe]at a;rcases CI.1 a with rfl|a;.exact⟨q,k,rfl⟩
  .exact R4 f l (i+1) (by rw[<-El,h];rfl) x a
def S9(v s:Int)(x:List Stat×gk):GO:=match x.1 with|[]=>.box ⟨[iD v,iD s,.nl,.nl],[]⟩|_=>.box ⟨[iD v,iD s,.ay (x.1.map Stat.d) 225 1,.ay (x.2.map Edge.d) 281 17],[(3,.ex 281),(2,.ex 225)]⟩
structure R59(v s:Int)(full:bt)(x:List Stat×gk)(g:GH):Prop where
 a:g.get 1=J (.box ⟨[iD 0,iD 0,.nl,.nl],[]⟩)b:g.get 2=J (.box ⟨[.nl],[]⟩)d:g.get 3=J (.box ⟨[iD 0],[]⟩)l:g.get 4=J (.box ⟨[.ay (ae.bn full) 62 14],[(0,.ty 62)]⟩)m:g.get 5=J (S9 v s x)c:Uy g 6 full
 n:(x.1=[]->x.2=[])/\(x.1≠[]->x.2≠[])
theorem Ut(f:bt):∀(l:List (Nat×gk))(s:List Stat×gk),(∀x∈l,x.2.length<=4096)->(cR (uq f) l s).2.1.length=s.1.length+l.length/\(cR (uq f) l s).2.2.length<=s.2.length+l.length*4096|[],_,_=>⟨rfl,Nat.le_add_right _ _⟩|x::l,s,h=>by rw[vA];obtain⟨a,b⟩:=Ut f l (uq f x s).2 (λy c=>h y (jy _ c));have:=h x fU;show(cR (uq f) l (uq f x s).2).2.1.length=_/\(cR (uq f) l (uq f x s).2).2.2.length<=_;simp only[uq,gR,dD,gL]at a b|-;exact⟨ab,ab⟩
theorem aah(f:bt):∀(l:bt)(i:Nat),(qe f l i).length=l.length|[],_=>rfl|q::l,i=>by rw[qe,dD,dD,aah f l (i+1)]
theorem OB{v:Int}{a:List Stat}{e:gk}(h:a≠[]):S9 v s (a,e)=.box ⟨[iD v,iD s,.ay (a.map Stat.d) 225 1,.ay (e.map Edge.d) 281 17],[(3,.ex 281),(2,.ex 225)]⟩:=by
 cases a;.grind
 rfl
def aca{v:Int}{e:gk}:S9 v s ([],e)=.box ⟨[iD v,iD s,.nl,.nl],[]⟩:=rfl
theorem atV(l:gk):((l.map Edge.d).all λy=>decide (y.flat.length=17))=V:=by simp[DV.flat,Edge.d,Edge.dI]
theorem aMf(p:ae)(hp:lX p)(u:bt)(hn:u≠[])(d:u.length<=256)(A:∀q∈u,GP q/\(fB q).1=0)(hc:aj p.ji 0=V)(e1:CC 102 [.agg p.cells] (.val (.tp [(.ay (ae.bn u) 62 14,.ex 62),iO 0]) .empty)):Sat (ev PP cf (.call 62 [.agg p.cells] .no .empty)) λv _=>∃w:DV×aN,w.1.pure=V/\v=.tp [(.agg (bif aA 2048 (.ofNat (rN u u 0 ([],[])).2.length)then zA else⟨(kK p).1,(kK p).2.1,⟨V,(rN u u 0 ([],[])).1⟩,⟨V,(rN u u 0 ([],[])).2⟩⟩).cells,.no),w,iO (bif aA 2048 (.ofNat (rN u u 0 ([],[])).2.length)then 17 else 0)]:=by
 have e2:=adt p hp;have e3:=ark u;have q0:aj 0 0=V:=rfl;have hz:(kK p).2.2=0:=by unfold kK;rw[hc];rfl
 rw[hz]at e2;have p2:cj (ae.bn u)=V:=ae.u7 u;refine nw func62 ?_;simp only[f62,List.append];have Y:dg [(0,.ex 62)] 0 1=[]:=rfl;simp only[go_sem,e1,e2,p2,q0,Y,e3];refine AD (azd u 6 d A) (uq u) (λ_ x g=>R59 (kK p).1 (kK p).2.1 u x g) ([],[]) (λm=>rfl) rfl ⟨rfl,rfl,rfl,rfl,rfl,⟨rfl,by show 6<7;decide⟩,λ_=>rfl,λh=>absurd rfl h⟩ (λc s g' h=>h.c) (λc s g3 g4 h d=>⟨(d.2 1 (by show 1<7;decide)).trans h.a,(d.2 2 (by show 2<7;decide)).trans h.b,(d.2 3 (by show 3<7;decide)).trans h.d,(d.2 4 (by show 4<7;decide)).trans h.l,(d.2 5 (by show 5<7;decide)).trans h.m,⟨(d.2 6 (by show 6<7;decide)).trans h.c.1,gE h.c.2 d.1⟩,h.n⟩) (λx s g2 hx R hN W=>?_) (λg2 R hN=>?_)
 . obtain⟨r1,r2,H,K,r,⟨r6,r7⟩,r8,D⟩:=R;refine AH W rfl ?_;simp only at hN W;obtain⟨t,E⟩:=s;obtain⟨j,i⟩:=x;have pZ:=hx.mem;have hj:=R4 u u 0 (xH) _ pZ;simp only at hj;obtain⟨q,B,pT⟩:=hj;have F:=(A q (dw B)).1;have e4:=arl q F.o;rw[F.r,show aj 0 0=V from rfl,aR]at e4;have d1:=aLu;simp only[bp,opsOf,f62,List.append,go_sem]at d1;have qx:(j<u.length)=True:=il (am.1 B).1;have hb:=EC F;have U:i≠[]:=by rw[pT];have:=PW F (A q (dw B)).2;simpa using this
   have aO4:i.length<=4096:=by rw[pT,fO];exact hb.2.2
   have hlen:t.length<=256/\E.length<=256*4096:=by obtain⟨pre,post,z,Q⟩:=hx;have:=Ut u pre ([],[]) (λy a=>by obtain⟨X,k1,k2⟩:=R4 u u 0 (xH) y (by rw[z];exact Kg _ a);rw[k2,fO];exact(EC (A X (dw k1)).1).2.2);rw[Q]at this;have jE:=gT List.length z;rw[gR,aah]at jE;simp only[gL]at this;have:pre.length*4096<=256*4096:=qL ab (bT _);omega
   have E7:(t.length<1200000)=True:=il ab;have P:=abt (f:=Edge.d) (e:=281) (n:=17) (b:=240) (l:=i) (o:=.any) ft ft U ab;have S:fE 281 17 240 (.ay (E.map Edge.d) 281 17) (.ex 281) (i.map Edge.d)=J (.ay (E.map Edge.d++i.map Edge.d) 281 17,.ex 281):=qO ft (by rw[fO,fO];unfold bm;omega) (by rw[fO,fO];unfold bm;omega);have T:=atV i;have uN:u.getD j zP=q:=by rw[List.getD_eq_getElem?_getD,B];rfl
   have L:dg [(2,.ex 225)] 3 1=[(2,.ex 225)]:=rfl;have M:dg [(3,.ex 281),(2,.ex 225)] 2 1=[(3,.ex 281)]:=rfl;have N:dg [(3,.ex 281)] 3 1=[]:=rfl;have dd4:dg [(3,.ex 281)] 2 1=[(3,.ex 281)]:=rfl;have dd5:dg [(2,.ex 225)] 2 1=[]:=rfl;have dd6:dg [(3,.ex 281),(2,.ex 225)] 3 1=[(2,.ex 225)]:=rfl;have dd7:dg [] 3 1=[]:=rfl;have O:dg [] 2 1=[]:=rfl;simp only at r8 D;rcases pG (t=[])with k|k<;>rcases pG (jz q=[])with a|a;case' inl.inl=>rw[k,aca]at r
   case' inl.inr=>rw[k,aca]at r
   case' inr.inl=>rw[OB k]at r
   case' inr.inr=>rw[OB k]at r
   case' inl.inl=>simp only[a,eM,zB]at e4
   case' inr.inl=>simp only[a,eM,zB]at e4
   case' inl.inr=>simp only[SI a]at e4
   case' inr.inr=>simp only[SI a]at e4
   all_goals simp only[go_sem,W,K,r,B,e4,d1,BB,P,S,T,E7,fO,L,M,N,O]
   all_goals
   have cA:(uq u (j,i) (t,E)).2=(t++[⟨⟨V,jz q⟩⟩],E++i):=by unfold uq;simp only[uN]
   rw[cA];refine⟨rfl,⟨?_,?_,?_,?_,?_,⟨?_,?_⟩,λh=>absurd h aP,λ_=>by simp[U]⟩,oz,rfl⟩;.simp only[go_sem,r1]
   .simp only[go_sem,r2]
   .simp only[go_sem,H]
   .simp only[go_sem,K]
   . rw[OB aP];first|have hG:=FF (f:=Guard.d) (e:=344) (n:=11) a|have hG:bK V ((jz q).map Guard.d) 344 11=.nl:=by rw[a];rfl
     first|have G:=r8 k|have G:=U
     simp only[go_sem,r,qJ,gb,eM,Stat.d,Dc,hG,k,G]
   .simp only[go_sem,r6]
   .simp only[gU];exact r7
 . rw[Us u u 0 _ (xH)]at R|-;obtain⟨r1,r2,H,K,r,⟨r6,r7⟩,r8,D⟩:=R;have I:(rN u u 0 ([],[])).1≠[]:=by have z:=Ut u (qe u u 0) ([],[]) (λy a=>by obtain⟨X,k1,k2⟩:=R4 u u 0 (xH) y a;rw[k2,fO];exact(EC (A X (dw k1)).1).2.2);rw[Us u u 0 _ (xH)]at z;intro h0;have Q:=z.1;simp only[h0,gL,aah]at Q;exact hn (List.eq_nil_of_length_eq_zero ab)
   simp only at r D;generalize rN u u 0 ([],[])=x at*;obtain⟨t,E⟩:=x;simp only at I D;have G:=D I;rw[OB I]at r;have b1:=aJL;have b2:=aJ0;simp only[bp,opsOf,f62,List.append,go_sem]at b1 b2;simp only[go_sem,r];apply hJ<;>intro h<;>simp only[h,go_sem,r1,r2,H];.exact⟨(.nl,.any),rfl,rfl⟩
   .refine RH [()] [] b2 b1 rfl ?_;simp only[go_sem,r1,r2,H,K,r];exact⟨(.ay (ae.bn u) 62 14,.ty 62),p2,by rw[FF I,FF G]⟩
theorem SL:∀(l o:bt),∃s,rM l o=o++s|[],o=>⟨[],(jY o).symm⟩|r::l,o=>by rw[rM];cases aA (iU r.same o 0) 0 with|true=>obtain⟨s,h⟩:=SL l (o++[r]);exact⟨r::s,by rw[aR,h];simp⟩|false=>exact SL l o
theorem Z0:∀(f i:Nat)(o l:bt),xi f i o=J l->(∀q∈o,GP q)->i<=o.length->(∀j q,j<i->o[j]?=J q->(fB q).1=0)->∀q∈l,GP q/\(fB q).1=0|0,_,_,_,h,_,_,_=>by cases h|f+1,i,o,l,h,g,u,hd=>by rw[xi]at h;cases a:o[i]? with|none=>rw[a]at h;cases h;intro q m;refine⟨g q m,?_⟩;obtain⟨j,d,rfl⟩:=List.getElem_of_mem m;have:=List.getElem?_eq_none_iff.1 a;exact hd j _ ab (dC d)|some q=>rw[a]at h;simp only at h;have p:=g q (dw a);cases e:aj (fB q).1 0 with|false=>rw[e]at h;cases h|true=>rw[e,aR]at h;cases k:aA 256 (.ofNat (rM (fB q).2.2 o).length)with|true=>rw[k]at h;cases h|false=>
 rw[k,ch]at h;obtain⟨d1,_,_⟩:=EC p;obtain⟨n,_,t⟩:=Oq _ o d1 g;obtain⟨s,r⟩:=SL (fB q).2.2 o;have I:=(am.1 a).1;refine Z0 f (i+1) _ l h n ab (λj z d b=>?_);rw[r,nZ ab]at b;by_cases c:j<i;.exact hd j z c b
 .have:j=i:=ab;subst this;rw[a]at b;cases b;exact oj e
theorem ZZ:∀(f i:Nat)(o l:bt),xi f i o=J l->(∀q∈o,GP q)->o≠[]->o.length<=256->l≠[]/\l.length<=256|0,_,_,_,h,_,_,_=>by cases h|f+1,i,o,l,h,g,n,k=>by rw[xi]at h;cases a:o[i]? with|none=>rw[a]at h;cases h;exact⟨n,k⟩|some q=>rw[a]at h;simp only at h;cases e:aj (fB q).1 0 with|false=>rw[e]at h;cases h|true=>rw[e,aR]at h;cases j:aA 256 (.ofNat (rM (fB q).2.2 o).length)with|true=>rw[j]at h;cases h|false=>rw[j,ch]at h;obtain⟨d1,_,_⟩:=EC (g q (dw a));obtain⟨c,_,b⟩:=Oq _ o d1 g;refine ZZ f (i+1) _ l h c (λd=>n (List.eq_nil_of_length_eq_zero (by rw[d]at b;simpa using b))) ?_;rw[fX]at j;have:=Wu j;simp only[Kb]at this;omega
def mV(p:ae):dN×Int:=bif aj p.ji 0 then(match xi 258 0 [p]with|none=>(zA,17)|some l=>bif aA 2048 (.ofNat (rN l l 0 ([],[])).2.length)then(zA,17)else(⟨(kK p).1,(kK p).2.1,⟨V,(rN l l 0 ([],[])).1⟩,⟨V,(rN l l 0 ([],[])).2⟩⟩,0))else(zA,p.ji)
theorem asf(p:ae)(b:lX p):Sat (ev PP cf (.call 62 [.agg p.cells] .no .empty)) λv _=>∃w:DV×aN,w.1.pure=V/\v=.tp [(.agg (mV p).1.cells,.no),w,iO (mV p).2]:=by
 have e1:=arj p b;unfold mV;rcases h:aj p.ji 0 with _|_;.rw[h,ch]at e1;refine nw func62 ?_;simp only[f62,List.append];simp only[go_sem,e1,h];exact⟨(.nl,.any),rfl,rfl⟩
 rw[h,aR]at e1;have g:=Tl b (oj h);have d:∀q∈[p],GP q:=λq n=>ai;rw[aR];rcases a:xi 258 0 [p]with _|l;.rw[a]at e1;simp only[JB]at e1;have Gi:aj 17 0=C:=rfl;refine nw func62 ?_;simp only[f62,List.append];simp only[go_sem,e1,Gi];exact⟨(.nl,.any),rfl,rfl⟩
 rw[a]at e1;obtain⟨c,i⟩:=ZZ _ _ _ _ a d aP aP;simp only[JB,zx c]at e1;obtain⟨v,f,e,w,k,rfl⟩:=aMf p b l c i (Z0 _ _ _ _ a d (mw _) (λj q m=>ab)) h e1;refine⟨_,f,e,w,k,?_⟩;grind
theorem Lu(p:ae)(h:lX p):Sat (ev PP cf (.call 37 [.agg p.cells] .no .empty)) λv _=>v=.tp [(.agg (mV p).1.cells,.no),iO (mV p).2]:=by obtain⟨_,g1,e1,w,a,rfl⟩:=asf p h;refine nw func37 ?_;simp only[f37];simp only[go_sem,e1,a,dN.cells]
theorem aLZ(Q:Edge->Prop)(x:Pr)(s:gk×bt)(a:∀d,Q (ju x.cM d))(h:∀e∈s.1,Q e):∀e∈(gP x s).2.1,Q e:=by grind[uJ,gP]
theorem I1(Q:Edge->Prop):∀(l:List Pr)(s:gk×bt),(∀x∈l,∀d,Q (ju x.cM d))->(∀e∈s.1,Q e)->∀e∈(cR gP l s).2.1,Q e|[],_,_,h=>h|x::l,s,a,h=>by rw[vA];have:=aLZ Q x s (a x fU) h;cases(gP x s).1 with|none=>exact I1 Q l _ (λy b=>a y (jy _ b)) this|some c=>exact this
theorem aph(h:GP p):∀e∈(fB p).2.1,xF e:=by
 unfold fB;cases(cR gP _ _).1;.refine I1 _ _ _ (λx c d=>?_) aP;have b:=Jq p h.a x c;have f:=h.n;have g:=h.c;exact⟨by have:=b.c;show x.cM.cond.nn<_;omega,by have:=b.k;show x.cM.jS.l.length<_;omega,λe a=>by have:=b.e e a;omega,by have:=b.o;show x.cM.opens.l.length<_;omega,by have:=b.p;show x.cM.ma.l.length<_;omega,by have:=b.i;show x.cM.inside.l.length<_;omega,by have:=b.l;show x.cM.ki.l.length<_;omega⟩
 .simp
mutual
theorem SK : ∀ p : ae, ∀ g ∈ jz p, g.cond.nn <= p.cn
  | .mk o l args t v s e n, g, h => by
    have d := alz args
    have f := abb args
    rw [jz] at h
    rw [ae.cn]
    cases a : aj o 9 <;> rw [a] at h
    · cases b : (aj o 1 || (aj o 8 || (aj o 10 || aj o 7))) <;> rw [b] at h
      · cases c : aj o 3 <;> rw [c] at h
        · exact absurd h lV
        · have := f g h; omega
      · have := d g h; omega
    · rcases CI.1 h with rfl | h
      · show n.nn <= _; omega
      · have := d g h; omega
theorem alz : ∀ l : bt, ∀ g ∈ sR l, g.cond.nn <= ae.gv l
  | [], _, h => absurd h lV
  | a :: l, g, h => by
    rw [sR] at h
    have := SK a g h
    rw [ae.gv]; omega
theorem abb : ∀ l : bt, ∀ g ∈ Bf l, g.cond.nn <= ae.gv l
  | [], _, h => absurd h lV
  | a :: l, g, h => by
    rw [Bf] at h
    rw [ae.gv]
    rcases CH.1 h with h | h
    · have := SK a g h; omega
    · have := abb l g h; omega
end
theorem P7(f:bt):∀(l:bt)(i:Nat)(s:List Stat×gk),(∀q∈l,GP q)->(∀x∈s.1,x.guards.l.length<=64/\∀g∈x.guards.l,g.cond.nn<=4160)->(∀e∈s.2,xF e)->(rN f l i s).1.length=s.1.length+l.length/\(∀x∈(rN f l i s).1,x.guards.l.length<=64/\∀g∈x.guards.l,g.cond.nn<=4160)/\∀e∈(rN f l i s).2,xF e
 |[],_,_,_,j,k=>⟨rfl,j,k⟩|q::l,i,(t,n),m,j,k=>by have d:=m q fU;obtain⟨a,b⟩:=P7 f l (i+1) (t++[⟨⟨V,jz q⟩⟩],n++(fB q).2.1.map (sU f i (fB q).2.2)) (λr hr=>m r (jy _ hr)) (λx c=>by
 rcases CH.1 c with c|c;.exact j x c
 .rw[CJ.1 c];exact⟨gj (Hw q) d.n,λg o=>gj (SK q g o) d.c⟩) (λe h=>by
 rcases CH.1 h with h|h;.exact k e h
 .obtain⟨y,p,rfl⟩:=au.1 h;have:=aph d y p;exact⟨this.c,this.k,this.e,this.o,this.p,this.i,this.l⟩);rw[rN];refine⟨by rw[a];simp only[gR,dD,gL];omega,b⟩
theorem aBU{n:Nat}:aA 2048 (.ofNat n)=V↔2048<n:=by grind[fX]
theorem eo:rD zA:=⟨ai,ai,λ_ h=>absurd h lV,λ_ h=>absurd h lV⟩
theorem NE(p:ae)(k:lX p):rD (mV p).1:=by
 unfold mV;cases f:aj _ 0;.exact eo
 . have l:=Tl k (oj f);have g1:∀q∈[p],GP q:=λq e=>ai;rcases d:xi _ 0 _ with _|m;.exact eo
   have k2:=Z0 258 0 [p] m d g1 (mw _) (λj q i _=>absurd i (Hs _));have k3:=ZZ _ 0 _ m d g1 aP aP;obtain⟨a,b,c⟩:=P7 m m 0 ([],[]) (λq e=>(k2 q e).1) (λx h=>absurd h lV) (λx h=>absurd h lV);show rD (bif aA _ _ then(zA,(17:Int))else _).1;cases r:aA _ _
   . have:¬2048<(rN m m 0 ([],[])).2.length:=λn=>by grind[aBU]
     exact⟨ai,ai,λs t=>⟨ai,λg o=>ai⟩,c⟩
   simp[eo]
abbrev iN(j:Nat):DV:=.int .i64 (.ofNat j)
abbrev Rec:=Int->aE->Int->List aE
section
variable{E:gk}{f:Rec}{s:Int}{p:aE}{lim:Int}{x:Edge}{l:gk}{i:Nat}{o:List aE}
end
structure HW(a:dN)(b c y f n mU:Nat)(g:GH):Prop where
 ga:g.get b=J (.box ⟨a.cells,[]⟩)gc:g.get c=J (.box ⟨[iN mU],[]⟩)gy:g.get y=J (.box ⟨[.eu n],[]⟩)gf:g.get f=J (.box ⟨[.func 474 [] [.ptr b 0,.ptr c 0,.ptr y 0,.ptr f 0]],[]⟩)nb:b<g.next
 nc:c<g.next
 ny:y<g.next
 nf:f<g.next
def Hc(k c:Nat)(g a:GH):Prop:=g.next<=a.next/\∀i,k<=i->i<g.next->i≠c->a.get i=g.get i
def Hc.trans{c:Nat}{a b d:GH}(h:Hc k c a b)(e:Hc k c b d):Hc k c a d:=⟨gj h.1 e.1,λj f g i=>(e.2 j f (gE g h.1) i).trans (h.2 j f g i)⟩
section
variable{σ:Type}{n k:Nat}{ok:aE->σ->Prop}{rel:ah bM->σ->GH->Prop}{step:aE->σ->ah bM×σ}
end
def KF(f:ae->dN×Int)(t:Sl b9)(q:cD)(a:dN):Int:=bif aj (wH t q) 0 then(bif aj (f q.pat).2 0 then(bif(f q.pat).1.same a then 0 else 22)else(f q.pat).2)else wH t q
theorem jd(t:Sl b9)(q:cD)(a:dN)(f:lY t)(c:mA q)(A:rD (mV q.pat).1):∃g,CC 231 [.agg (eJ.cells ⟨t,q,a⟩)] (.val (.dv (iD (KF mV t q a)) .no) g):=by
 suffices S:Sat (ev PP cf (.call 231 [.agg (eJ.cells ⟨t,q,a⟩)] .no .empty)) λv _=>v=.dv (iD (KF mV t q a)) .no by obtain⟨v,r,e,rfl⟩:=S;grind
 obtain⟨g1,e1⟩:=Ly t q f c;obtain⟨_,g2,e2,rfl⟩:=Lu _ c.p;have e3:=arS _ a A;obtain⟨u,w,y,pat,L⟩:=q;simp only[KF];obtain⟨op,nl,args,ty,var,scope,s,cond⟩:=pat;obtain⟨i,j,c3,k,l,m,n,o,p⟩:=cond;simp only[cD.cells,ae.cells,Expr.cells,dN.cells,go_sem,lU,jO]at e1 e2 e3;refine nw func231 ?_;simp only[go_sem,f231,eJ.cells,cD.cells,ae.cells,Expr.cells,dN.cells,lU,jO,e1];apply hJ<;>intro h
 . simp only[h,go_sem,e2];apply hJ<;>intro b;.simp only[b,go_sem,e3];apply hJ<;>intro d<;>simp only[d,go_sem]
   .simp only[b,go_sem]
 .simp only[h,go_sem]
structure pK(p:eJ):Prop where
 t:lY p.types
 k:p.query.key.l.length<1000000000
 a:rD p.xQ
 v:p.xQ.vars<=.ofNat p.query.vars.l.length
def Qt(p:eJ)(c:bu)(m:Int)(r:bh):Prop:=(∃n g,aj n 0=C/\r=.val (.tp [(.eS,.no),iO n]) g)\/∃k g,Jp p.cells c.st c.bs c.ss m k g/\r=.val (.tp [(.ptr 1 0,.no),iO 0]) g
theorem aEq(p:eJ)(v:Sl aM)(c:bu)(a:Int)(d:pK p)(f:GL v)(M:c.bs.l.length<1100000)(E:c.ss.l.length<1000000000):cV (Qt p c a) (ev PP cf (.call 306 [.agg p.cells,de v,c.d,iD a] .no .empty)):=by
 obtain⟨r,e1,n,g,rfl,U⟩:=aEF p.xQ v c d.a f.1 ab E;have b:∀{n:Int}{g:GH},aj n 0=C->Qt p c a (.val (.tp [(.eS,.no),iO n]) g):=λh=>.inl ⟨_,_,h,rfl⟩;have d17:=apK;simp only[bp,opsOf,f306,go_sem]at d17;have B:p.cells[0]?=J (cm p.types):=rfl;have D:(p.cells.drop 19).take 4=p.xQ.cells:=by have:p.cells=(cm p.types::p.query.cells)++p.xQ.cells:=rfl;grind[cD.dI,dN.cells]
 have O:cj p.cells=V:=a30 p;have A:p.cells.length=23:=p.dI;have K:p.cells=p.cells:=rfl;generalize z:p.cells=s at*;have H:s.take 23=s:=ai;have t23:∀m:ao,(s++m).take 23=s:=λm=>ai;have t26:∀m:ao,(s++m).take 26=s++m.take 3:=λm=>by simp_all[SC,Hm]
 have t28:∀m:ao,(s++m).take 28=s++m.take 5:=λm=>by grind[List.take_append,List.take_of_length_le]
 have t:∀m:ao,(s++m).drop 26=m.drop 3:=λm=>by simp_all[zp]
 have u:∀m:ao,(s++m).drop 27=m.drop 4:=λm=>by simp_all[zp]
 have y:∀m:ao,(s++m).drop 29=m.drop 6:=λm=>by simp_all[zp]
 simp only[dN.cells,AP,zL,de,bu.d,bu.cells,hZ,jM]at e1;refine fM func306 ?_;simp only[go_sem,f306,de,bu.d,bu.cells,hZ,jM,A,D,e1];apply cX<;>intro h;rotate_left;.simp only[h,go_sem,bw];grind
 have U:=U h;simp only[h,go_sem];repeat'(with_reducible apply cX<;>intro h<;>simp only[h,go_sem,bw])
 .exact b rfl
 .exact b rfl
 refine ub v.l (λi=>[(34,iS i)]) (by have:=f.1;omega) rfl ?_ (λi x o j w q=>?_);rotate_left
 . obtain⟨r,e2,m,rfl,_⟩:=Wl p.types x d.t (f.2 x (dw j));simp only[cm,aM.d,aM.cells]at e2;simp only[go_sem]at q;simp only[go_sem,o,j,aM.d,aM.cells,B,cm,e2];apply cX<;>intro h;.simp only[h,go_sem,w,q]
   .simp only[h,go_sem,bw];grind
 simp only[go_sem,A,H,t23,t26,t28,t,u,y];refine oF c.bs.l (Ra s c.st c.bs c.ss a .nl ⟨0,0,[]⟩ C [] [] 0) (λi g=>⟨306,71,[(55,iS i),(1,.dv (de v) .no),(14,.dv (.ptr 1 0) .no),(53,.dv (hZ c.bs) .no),(54,iS c.bs.l.length)],[],g⟩) (λi _ g=>Jp s c.st c.bs c.ss a i g) ab rfl ⟨[],_,_,_,_,[],_,bT _,.inl ⟨rfl,rfl,rfl⟩,λe h=>absurd h lV,rfl⟩ (λg I=>?_) (λi x l g o j w I q=>?_);.simp only[go_sem,bw];exact .inr ⟨_,_,by rw[z];omega,rfl⟩
 . have N:=nr o;obtain⟨g1,g2,g3⟩:=U x (dw j);obtain⟨r,e3,e,g0,F,rfl⟩:=aEH v x.a x.b x.c f.1 g3;obtain⟨k,G⟩:∃k:Nat,x.v=du k:=⟨x.v.toNat,(Int.toNat_of_nonneg g1).symm⟩;have P:k<p.query.vars.l.length:=by have:=d.v;grind
   obtain⟨r,e4,m,L,rfl,k4⟩:=aEG p c.st c.bs c.ss a i g x e d.t d.k (f.2 e F) ⟨k,_,G,dC P⟩ ab ai;rw[z]at k4;simp only[de,jK,eC.d,eC.cells,aM.d,aM.cells]at e3 e4;simp only[go_sem,de,hZ]at q;simp only[go_sem,o,j,eC.d,eC.cells,de,hZ,d17,e3,e4];apply cX<;>intro h;.simp only[h,go_sem,w];grind
   .simp only[h,go_sem,bw];grind
theorem aEu(p:eJ)(v:Sl aM)(c:bu)(m:Int)(a:pK p)(q:mA p.query)(A:rD (mV p.query.pat).1)(i:GL v)(b:c.bs.l.length<1100000)(d:c.ss.l.length<1000000000):cV (Qt p c m) (ev PP cf (.call 336 [.agg p.cells,de v,c.d,iD m] .no .empty)):=by
 obtain⟨g,e0⟩:=jd _ _ _ a.t q A;obtain⟨r,e1,hr⟩:=aEq p v c m a i b d;have e:∀{n:Int}{g:GH},aj n 0=C->Qt p c m (.val _ g):=λh=>.inl ⟨_,_,h,rfl⟩;have j:=a30 p;have l:=p.dI;generalize o:p.cells=s at*;have t:s.take 23=s:=ai;simp only[de,bu.d,bu.cells,hZ,jM]at e1;refine fM func336 ?_;simp only[go_sem,f336,de,bu.d,bu.cells,hZ,jM,l,t,j,e0];apply cX<;>intro h;rotate_left;.simp only[h,go_sem,bw];grind
 rcases hr with⟨n,g,u,rfl⟩|⟨k,g,f,rfl⟩;.simp only[h,go_sem,l,t,e1,bw];grind
 .simp only[h,go_sem,l,t,e1,bw];exact .inr ⟨k,g,f,rfl⟩
def I3(r:bh):Prop:=∃n g,r=.val (.dv (iD n) .no) g
def sh{n:Int}:I3 (.val (.dv (.int .i64 n) .no) g)=True:=il ⟨n,g,rfl⟩
theorem aIH{p:bh->Prop}{c:bV}{d:dW}{l:ah Nat}{i:Nat}{o:List aB}{s:St}{k:eH->ah bh}(a b:List Unit)(h:nI c st0 o=V)(g:AO c o=[(a.length,a.length+1+b.length)])(j:DE o (a.length+1+(b.length+1))=V)(f:cV p (Js P c d (c.tL s.fn) (c.zI s.fn) (.mk o (.mk o)) b a (.mk o (.mk o)) (FM (c.keep s.fn i) k) s)):cV p (exec P c d l (.region i ⟨o⟩ V) s k):=by obtain⟨r,e,q⟩:=f;exact⟨r,Ua a b h g j e,q⟩
theorem aEv(p:eJ)(v:Sl aM)(t:Int)(d:Sl eC)(q:Sl fG)(o:Int)(k:Nat)(g:GH)(n:Jp p.cells t d q o k g):cV (λr=>∃e,r=.val (.dv (iD 0) .no) e) (ev PP cf (.call 337 [.ptr 1 0,de v,.nl] .no g)):=by
 obtain⟨l,bd,y,kd,F,w,u,A,f,T,rfl⟩:=n;have W:p.cells.length=23:=p.dI;generalize p.cells=s at*;have a:∀m:ao,(s++m)[32]?=m[9]?:=λm=>wD (j:=9) W;have d29:∀m:ao,(s++m).drop 29=m.drop 6:=λm=>by simp_all[zp]
 have b:=aJJ;have c:=aJY;simp only[bp,opsOf,f337,go_sem]at b c;refine fM func337 ?_;rcases f with⟨h,rfl,rfl⟩|⟨h,rfl,rfl|rfl⟩;all_goals
 simp only[go_sem,f337,Ra,de];refine aIH [(),(),(),(),(),(),()] [()] c b rfl ?_;simp only[go_sem,W,a,d29];refine ub ([]:List aM) (λi=>[(26,iS i)]) ai rfl ?_ (λi x z D B E=>?_);.simp only[go_sem,bw];grind
 grind
theorem aEh(p:eJ)(v:Sl aM)(c:bu)(m:Int)(f:pK p)(q:mA p.query)(A:rD (mV p.query.pat).1)(j:GL v)(a:c.bs.l.length<1100000)(b:c.ss.l.length<1000000000):cV I3 (ev PP cf (.call 285 [.agg p.cells,de v,c.d,iD m,.nl] .no .empty)):=by
 obtain⟨r,e1,hr⟩:=aEu p v c m f q A j a b;have e2:=λk g h=>aEv p v c.st c.bs c.ss m k g h;have B:cj p.cells=V:=a30 p;have l:p.cells.length=23:=p.dI;generalize d:p.cells=s at*;have t:s.take 23=s:=ai;simp only[de,bu.d,bu.cells,hZ,jM]at e1;simp only[de]at e2;refine fM func285 ?_;rcases hr with⟨n,g,e,rfl⟩|⟨k,g,h,rfl⟩;.simp only[go_sem,f285,de,bu.d,bu.cells,hZ,jM,l,t,e1,e,bw,sh]
 . rw[d]at h;obtain⟨r,e3,o,rfl⟩:=e2 k g h;simp only[go_sem,f285,de,bu.d,bu.cells,hZ,jM,l,t,e1];refine D0 rfl ?_;simp only[go_sem,e3];refine ub ([]:List aM) (λi=>[(46,iS i)]) ai rfl ?_ (λi x u y w z=>?_);.simp only[go_sem,bw,sh]
   grind
theorem aD4(p:eJ)(e:dP)(c:bu)(f:pK p)(q:mA p.query)(A:rD (mV p.query.pat).1)(d:e.sz)(a:c.bs.l.length<1100000)(b:c.ss.l.length<1000000000):cV I3 (ev PP cf (.call 234 [.agg p.cells,e.d,c.d] .no .empty)):=by obtain⟨r,e1,n,g,rfl⟩:=aEh p _ c e.mark f q A d.2.1 a b;have i:=a30 p;have l:=p.dI;generalize j:p.cells=s at*;have t:s.take 23=s:=ai;simp only[de,bu.d,bu.cells,hZ,jM]at e1;refine fM func234 ?_;simp only[go_sem,f234,dP.d,dP.cells,de,bu.d,bu.cells,hZ,jM,l,t,i,e1];repeat'(with_reducible apply cX<;>intro h<;>simp only[h,go_sem,bw,sh])
theorem aEf(a x:aM)(b:Nat)(g:GH)(c:g.get b=J (.box ⟨a.cells,[]⟩)):ev PP cf (.call 284 [x.d,.ptr b 0] .no g)=J (.val (.dv (.bool (sG a x)) .no) g):=by have h:=aE8 a x;simp only[aM.d,aM.cells]at h c;refine aO func284 ?_;simp only[go_sem,f284,aM.d,aM.cells,h,c,sG]
theorem aeo:cf.fk 284=0/\(cf.iz 284||cf.oo 303)=C:=⟨by rfl,by rfl⟩
def kH(c:ao)(g:GH):Prop:=0<g.next/\∃f,g.get 0=J (.box ⟨c++[f],[]⟩)/\(f=.eS\/∃i v,f=.ptr i 0/\0<i/\i<g.next/\g.get i=J (.box ⟨cH.cells v,[]⟩))
theorem aEe(p:eJ)(g:GH)(e:aM)(K:lY p.types)(G:p.query.key.l.length<1000000000)(D:e.kR.l.length<1000000000)(E:kH p.cells g):cV (λr=>∃m l,r=.val (.dv (iD m) .no) l/\kH p.cells l/\g.next<=l.next/\∀d,0<d->d<g.next->l.get d=g.get d) (ev PP cf (.call 283 [.ptr 0 0,e.d] .no g)):=by
 obtain⟨r,u,v,z,m,rfl⟩:=Wm p.types p.query.key e K G D;obtain⟨H,f,n,y⟩:=E;have d1:=apD;have d2:=apE;simp only[bp,opsOf,f283,go_sem]at d1 d2;have A:p.cells[0]?=J (cm p.types):=rfl;have c3:p.cells[3]?=J (bW p.query.key):=rfl;have q:p.cells.length=23:=p.dI;generalize R:p.cells=s at*;have g0:∀m:ao,(s++m)[0]?=s[0]?:=λm=>nZ ab;have g3:∀m:ao,(s++m)[3]?=s[3]?:=λm=>nZ ab;have k:∀m:ao,(s++m)[23]?=m[0]?:=λm=>wD (j:=0) q;have t23:∀m:ao,(s++m).take 23=s:=λm=>ai;have x:∀m:ao,(s++m).drop 24=m.drop 1:=λm=>by simp_all[zp]
 have I:(0=g.next)=False:=cK ab;simp only[aM.d,aM.cells,cm,bW]at u;refine fM func283 ?_;simp only[go_sem,f283,aM.d,aM.cells,n,d1,d2,g0,g3,A,c3,cm,bW,u,cH.d,cH.cells,kr];have O:∀a b:GO,((g.alloc a).set g.next b).next=g.next+1:=λ_ _=>rfl;have k1:kH s ((g.alloc (.box ⟨[iD 0,iD 0,.str []],[]⟩)).set g.next (.box ⟨[iD v.k,iD v.n,.str v.s],[]⟩))/\g.next<=((g.alloc (.box ⟨[iD 0,iD 0,.str []],[]⟩)).set g.next (.box ⟨[iD v.k,iD v.n,.str v.s],[]⟩)).next/\∀d,0<d->d<g.next->((g.alloc (.box ⟨[iD 0,iD 0,.str []],[]⟩)).set g.next (.box ⟨[iD v.k,iD v.n,.str v.s],[]⟩)).get d=g.get d:=by
   refine⟨⟨ai,f,by grind[lI,kr],?_⟩,ai,λd _ F=>by rw[lI,if_neg ab,kr,if_neg ab]⟩;rcases y with rfl|⟨i,w,rfl,t,B,o⟩;.grind
   .exact .inr ⟨i,w,rfl,t,ai,by rw[lI,if_neg ab,kr,if_neg ab];omega⟩
 have k2:kH s (((g.alloc (.box ⟨[iD 0,iD 0,.str []],[]⟩)).set g.next (.box ⟨[iD v.k,iD v.n,.str v.s],[]⟩)).set 0 (.box ⟨s++[.ptr g.next 0],[]⟩))/\g.next<=(((g.alloc (.box ⟨[iD 0,iD 0,.str []],[]⟩)).set g.next (.box ⟨[iD v.k,iD v.n,.str v.s],[]⟩)).set 0 (.box ⟨s++[.ptr g.next 0],[]⟩)).next/\∀d,0<d->d<g.next->(((g.alloc (.box ⟨[iD 0,iD 0,.str []],[]⟩)).set g.next (.box ⟨[iD v.k,iD v.n,.str v.s],[]⟩)).set 0 (.box ⟨s++[.ptr g.next 0],[]⟩)).get d=g.get d:=by have P:∀a b c:GO,(((g.alloc a).set g.next b).set 0 c).next=g.next+1:=λ_ _ _=>rfl;refine⟨⟨ai,.ptr g.next 0,by simp[lI],.inr ⟨g.next,v,rfl,H,ai,?_⟩⟩,ai,λd h F=>by rw[lI,if_neg ab,lI,if_neg ab,kr,if_neg ab]⟩;rw[lI,if_neg ab,lI,if_pos rfl];rfl
 have L:gu PP .neq 396 .eS .eS=J (.bool C):=rfl;have M:∀i,gu PP .neq 396 (.ptr i 0) .eS=J (.bool V):=λ_=>rfl;rcases y with rfl|⟨i,w,rfl,t,B,o⟩
 . repeat'(with_reducible apply cX<;>intro h<;>simp only[h,go_sem,kr,lI,I,n,k,L,q,t23,x,bw])
   all_goals first|exact⟨_,_,rfl,k1⟩|exact⟨_,_,rfl,k2⟩
 . have Q:(i=g.next)=False:=cK ab;have N:(i=0)=False:=cK ab;simp only[cH.cells]at o;repeat'(with_reducible apply cX<;>intro h<;>simp only[h,go_sem,kr,lI,I,Q,n,o,k,M,q,t23,x,bw])
   all_goals first|exact⟨_,_,rfl,k1⟩|exact⟨_,_,rfl,k2⟩
theorem aKK{t n i:Nat}{l:ao}(a:PP.underlying t=J (.slice e))(z:aW PP e=J n)(h:i<=l.length)(r:i<=bm):oM PP t (.ay l e n) Z (J (.int .i64 (.ofNat i))) Z=J (.ay (l.take i) e n,.no):=by simp_all[oM,n7,nB]
theorem OW{l:ao}{n:Nat}:bK C l e n=.ay l e n:=by cases l<;>rfl
theorem kH.al{c:ao}{a b:GO}(h:kH c g):kH c ((g.alloc a).set g.next b):=by obtain⟨n,f,e,d⟩:=h;have t:((g.alloc a).set g.next b).next=g.next+1:=rfl;refine⟨ab,f,by grind[lI,kr],?_⟩;rcases d with rfl|⟨i,w,rfl,j,k,l⟩<;>grind[lI,kr]
theorem aD3(p:eJ)(e:dP)(A:lY p.types)(N:p.query.key.l.length<1000000000)(w:e.sz)(R:e.held.l.length+e.wait.l.length<1100000):cV I3 (ev PP cf (.call 233 [.agg p.cells,e.d] .no .empty)):=by
 have I:=aic e.held e.wait ab;have G:p.cells[0]?=J (cm p.types):=rfl;have z:p.cells.length=23:=p.dI;have T:cj p.cells=V:=a30 p;generalize E:p.cells=s at*;have D:s.take 23=s:=ai;simp only[de]at I;refine fM func233 ?_;obtain⟨L,u⟩:∃L,e.held.l++e.wait.l=L:=⟨_,rfl⟩;have K:L.length<1100000:=ai;have v:∀x∈L,x.kR.l.length<1000000000:=λx c=>by
   rw[<-u]at c;rcases CH.1 c with h|h;.exact w.2.1.2 x h
   .exact w.1.2 x h
 rw[u]at I;rcases M:L with _|⟨f,t⟩
 . simp only[M,eM,zy]at I;simp only[go_sem,f233,dP.d,dP.cells,de,z,D,I];refine ub ([]:List aM) (λi=>[(22,iS i)]) ai rfl ?_ (λi x o c B j=>?_);.simp only[go_sem,bw,sh]
   grind
 have O:gh (L.map aM.d) 86 5=.dv (.ay (L.map aM.d) 86 5) (.ex 86):=uz ai;rw[O]at I;simp only[go_sem,f233,dP.d,dP.cells,de,z,D,I];refine oF L (⟨1,[(0,.box ⟨s++[.eS],[]⟩)]⟩:GH) (λi g=>⟨233,57,[(22,iS i),(6,.dv (.ay (L.map aM.d) 86 5) (.ty 86)),(5,.dv (.ptr 0 0) .no),(3,.lp 3 0),(2,.lp 2 0),(20,.dv (.ay (L.map aM.d) 86 5) .no),(21,iS L.length)],[(3,⟨e.cells,[]⟩),(2,⟨s,[]⟩)],g⟩) (λ_ _ g=>kH s g) ab rfl ⟨Nat.zero_lt_one,.eS,rfl,.inl rfl⟩ (λg k=>?_) (λi x l g o c B k j=>?_);.simp only[go_sem,bw,sh]
 . have Q:=nr o;have H:=v x (dw c);obtain⟨r,e1,m,rfl,_⟩:=Wl p.types x A H;have W:=k.al (a:=.box ⟨[iD 0,iD 0,iD 0,iD 0,.nl],[]⟩) (b:=.box ⟨x.cells,[]⟩);obtain⟨r,e2,S,g2,rfl,P,U,Y⟩:=aEe p _ x A N H (by rw[E];omega);rw[E]at P;have n:g2.get g.next=J (.box ⟨x.cells,[]⟩):=by rw[Y g.next k.1 (by show g.next<g.next+1;omega),lI,if_pos rfl]
   have cY:oM PP 109 (.ay (L.map aM.d) 86 5) Z (J (.int .i64 (.ofNat i))) Z=J (.ay ((L.map aM.d).take i) 86 5,.no):=aKK underlying109 (by rfl) ai (by grind[bm]);have e3:=HV (d:=aM.d) (q:=λy=>sG x y) 284 [] [.ptr g.next 0] g2 C (L.take i) ai (λy _=>.inl ⟨aeo.1,aeo.2,aEf x y g.next g2 n⟩) (.inr (.inr (.inr (.inr (.inr rfl))))) (λ_=>⟨rfl,rfl⟩);have F:∀f b:Bool,gu PP .neq 4 (.bool f) (.bool b)=J (.bool (!(f==b))):=λf b=>rfl;have j:=j g2 P;simp only[go_sem,dP.cells,de]at j;simp only[cm,aM.d,aM.cells]at e1 e2;simp only[go_sem,o,c,aM.d,aM.cells,dP.cells,de,G,cm,e1,kr,lI];apply cX<;>intro h;rotate_left;.simp only[h,go_sem,bw,sh]
   simp only[h,go_sem,kr,lI,F];apply cX<;>intro h;rotate_left;.simp only[h,go_sem,bw,sh]
   simp only[h,go_sem,kr,lI,e2];apply cX<;>intro h;rotate_left;.simp only[h,go_sem,bw,sh]
   rw[OW,List.map_take]at e3;simp only[h,go_sem,cY,e3];apply cX<;>intro h;.simp only[h,go_sem,bw,sh]
   .simp only[h,go_sem,B];omega
theorem aF7{f:bh->ah bh}{k:eH->ah bh}{x:ah bh}:x.bind (fL λo=>(k o).bind f)=(x.bind (fL k)).bind f:=by
 rcases x with _|r;.rfl
 cases r<;>rfl
theorem as4{cf:bV}{rec:dW}{rd:ah Nat}{f:bh->ah bh}:∀(c:bM)(st:St)(k:eH->ah bh),exec P cf rec rd c st (λo=>(k o).bind f)=(exec P cf rec rd c st k).bind f:=by intro c;induction c with
 |seq a b i d=>intro st k;show exec P cf rec rd a st _=(exec P cf rec rd a st _).bind f;rw[<-i];congr 1;funext o;cases o<;>simp_all|block id b e=>intro st k;show exec P cf rec rd b st _=(exec P cf rec rd b st _).bind f;rw[<-e];congr 1;funext o;cases o<;>grind|cond c a b i d=>
  intro st k;show(match bj cf.aq st c with|some (.bool x)=>_|_=>Z)=sM (match bj cf.aq st c with|some (.bool x)=>_|_=>Z) f;rcases bj cf.aq st c with _|v;.rfl
  cases v<;>grind|loop b e=>intro st k;exact aF7|scope b e=>intro st k;exact e st k|region id j dr=>intro st k;show cond _ _ _=sM (cond _ _ _) f;grind|rangeFunc g l S b i d=>
  intro st k;show(match bj cf.aq st g with|some (.func h a c)=>_|_=>Z)=sM (match bj cf.aq st g with|some (.func h a c)=>_|_=>Z) f;rcases bj cf.aq st g with _|v;.rfl
  cases v with
  |func h a c=>show cond _ _ _=sM (cond _ _ _) f;cases((cf.iW h (a++[.eu st.g.next]++c)).isSome||!(AB rd st.g))with|true=>rfl|false=>show sM _ _=(sM _ _).bind f;rw[ux];congr 1;funext r;cases r with|out o=>rfl|val v g=>
   show(match g.get st.g.next with|some (.loop r)=>_|_=>Z)=sM (match g.get st.g.next with|some (.loop r)=>_|_=>Z) f;rcases g.get st.g.next with _|o;.rfl
   cases o with
   |loop r=>show(match r.state with|.busy=>Z|_=>_)=sM (match r.state with|.busy=>Z|_=>_) f;rcases r with⟨s,p,_,_,_,_,_,_⟩;cases s<;>first|rfl|(rcases p with _|p;rfl;(cases p<;>rfl))
   |_=>rfl
  |_=>rfl
 |_=>intro st k;rfl
theorem asv{c:bV}{b n:Nat}{d:Func}{k:bM}{j:List oS}{a:ao}{w:aN}{q r:bh}(x:P.funcs[b]?=J d)(v:d.body=J k)(A:d.results=⟨j⟩)(B:d.ntmps=n)(z:c.iW b a=Z)(p:(yF (j.map we)&&bz a.length n&&c.AQ b)=V)(h:exec P c (ev P c) Z k ⟨b,n,uB 0 w a,[],g⟩ (Cm P j)=J q)(D:AR P q=J r):ev P c (.call b a w g)=J r:=by
 apply K4;rw[gD,gD]at p;obtain⟨⟨t,u⟩,m⟩:=p;subst B;show(match c.iW b _ with|some r=>_|none=>_)=_;rw[z];rw[x];show d.body.bind _=_;rw[v];rw[u];show exec P c _ _ k _ _=_;have e:=as4 (P:=P) (cf:=c) (rec:=ev P c) (rd:=Z) (f:=AR P) k ⟨b,d.ntmps,uB 0 w a,[],g⟩ (Cm P j);rw[h]at e;rw[<-D];refine Eq.trans ?_ e;congr 1;funext o;have l:∀st,ye P d st=(tK P j st).bind _:=λst=>by show cond _ _ _=_;rw[A];rw[t];rcases tK P j st with _|y<;>rfl
 rcases o with s|⟨i,s⟩|s;.show cond _ _ _=_;rw[m];rw[l];rfl
 .rfl
 show cond _ _ _=_;rw[m];rw[l];rfl
def iP(L:ao):ao:=L.flatMap DV.flat
def atU(L:ao):L.flatMap DV.flat=iP L:=(rfl)
theorem Po{n:Nat}{L:ao}(h:∀x∈L,x.flat.length=n):(iP L).length=n*L.length:=by induction L<;>grind[iP]
theorem Tt{k:Type}{d:k->DV}{f t e n b:Nat}(a:(f,t,e,n,b)=(80,110,186,3,56)\/(f,t,e,n,b)=(27,26,46,6,80))(v:∀x,(d x).flat.length=n)(L:List k)(g:GH)(u:L≠[])(w:L.length<1100000):ev PP cf (.call f [.ay (L.map d) e n] .no g)=J (.val (.dv (.cY g.next 0 L.length e n) .no) (g.alloc (.box ⟨iP (L.map d),[(n*L.length,.full e)]⟩))):=by
 have r:b<=80:=ai;have c:bz ((0+(L.map d).length)*b) bm=V:=nB (gj (qL (by grind:_<=1100000) r) ft);have i:bz (0+(L.map d).length) bm=V:=nB (by grind[bm]);have o:(L.map d).all (λy=>decide (y.flat.length=n))=V:=ai;have e2:(iP (L.map d)).length=n*L.length:=by grind[Po]
 have q:(L.map d).length=L.length:=fO _;obtain⟨x,M,j⟩:∃x M,L.map d=x::M:=by cases L<;>simp_all
 have p:fE e n b (.ay [] e n) (.full e) (L.map d)=J (.ay (L.map d) e n,.ex e):=by rw[j]at c i|-;rcases a with h|h<;>cases h<;>(show cond (aw _ _&&aw _ _&&(bz ((0+(x::M).length)*_) _&&bz (0+(x::M).length) _)) _ _=_;rw[c,i];rfl)
 have s:ru [5,7] (J 7) (.ay [] e n) (.full e) (L.map d)=V:=by rw[j];rfl
 have m:∀l,gu PP .eql t (.ay l e n) .nl=J _:=λl=>by rcases a with h|h<;>cases h<;>rfl
 rcases a with h|h<;>cases h<;>first|refine aO func80 ?_|refine aO func27 ?_
 all_goals simp only[go_sem,f80,f27,m,p,s,o,atU,e2,q]
theorem aEj(a b:Sl eC)(j:a.l.length<1000000000)(k:b.l.length<1000000000):cV BT (ev PP cf (.call 287 [hZ a,hZ b] .no .empty)):=by
 have hd:=apF;simp only[bp,opsOf,f287,go_sem]at hd;refine fM func287 ?_;simp only[go_sem,f287,hZ];apply cX<;>intro h
 . simp only[h,go_sem];refine ub a.l (λi=>[(13,iS i)]) ab rfl ?_ (λi x d e w c=>?_);.simp only[go_sem,bw,tY]
   .obtain⟨y,f⟩:∃y,b.l[i]?=J y:=⟨_,dC ai⟩;simp only[go_sem]at c;simp only[go_sem,d,e,f,hd,eC.d,eC.cells];apply cX<;>intro g<;>simp only[g,go_sem,w,c,bw,tY]
 .simp only[h,go_sem,bw,tY]
theorem aEk(a b:Sl fG)(j:a.l.length<1000000000)(k:b.l.length<1000000000):cV BT (ev PP cf (.call 288 [jM a,jM b] .no .empty)):=by
 have hd:=apG;simp only[bp,opsOf,f288,go_sem]at hd;refine fM func288 ?_;simp only[go_sem,f288,jM];apply cX<;>intro h
 . simp only[h,go_sem];refine ub a.l (λi=>[(13,iS i)]) ab rfl ?_ (λi x d e w c=>?_);.simp only[go_sem,bw,tY]
   .obtain⟨y,f⟩:∃y,b.l[i]?=J y:=⟨_,dC ai⟩;simp only[go_sem]at c;simp only[go_sem,d,e,f,hd,fG.d,fG.cells];apply cX<;>intro g<;>simp only[g,go_sem,w,c,bw,tY]
 .simp only[h,go_sem,bw,tY]
