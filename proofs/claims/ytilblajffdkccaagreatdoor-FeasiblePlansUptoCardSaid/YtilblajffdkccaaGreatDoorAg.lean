/- Proved: library functions and the first functions of the program, and what they answer (a part of the proof of FeasiblePlansUptoCardSaid, whose theorem stands in the last text). -/
import Derived.Test.YtilblajffdkccaaGreatDoorAf
open Option renaming some->J,none->Z
open Bool renaming true->V,false->C
open Bool renaming noConfusion->mK
open Go renaming TypeId->al,Value->aB,Oper->aC,Operand->aH,Program->aM,World->aT,Code->bz,FuncId->bS,Frame->cZ,lone->eT,IntKind->gZ,MapEntry->kZ
open Go.Builtin renaming zeroCells->nR,firstCells->oE,append_->s8,copy_->zF
open Go.Lib renaming compact->tb
open Go.Op renaming operands->eB,mapUpdate->rC
open Go.Proofs.Tryz renaming prog->eS
open Go.Region renaming binds->uq
open Go.stepG renaming exec->ug
open Int renaming ofNat->dI,sub->nS
open List renaming rec->kG,append->qA
open Nat renaming beq->aw,ble->bV,blt->cM,succ->eU,add->im,mul->jD
open SizeOf renaming sizeOf->kb
open UInt8 renaming toNat->nU
noncomputable section set_option linter.all false
namespace Go.Proofs
open Go Go.AM Go.RowKit Go.Lib Go.Shelf
set_option maxHeartbeats 4000000 in set_option maxRecDepth 100000 in theorem ag0{w d:aT}{a:Addr}{c v o b:Nat}{r:aB}(j:∀ty,(s8 #[25,25] ty #[.slice (J a) 0 c,.slice (J ⟨v,o,Z⟩) 1 b]).run eS w=.ok r d):Calls eS 440 #[.slice (J a) 0 c,.int .i64 0,.slice (J ⟨v,o,Z⟩) 1 b] w λx e=>x=.returned r/\e=d:=by go_enter Tryz.func440,Tryz.ntmps440;go_wp2_with(at_builtin;refine Lib.wpList_append_run _ rfl _ _ _ _ rfl _ _ rfl rfl _ _ (j _) ?_);all_goals(go_ret;simp_all)
set_option maxHeartbeats 4000000 in set_option maxRecDepth 100000 in theorem axZ{w:aT}{b o n c t vo vc G:Nat}{s d row:Array aB}{e O:al}{P R:Nat×Nat}(u:w.heap[b]?=J (.cells s e P))(y:w.heap[t]?=J (.cells d O R))(hn:0<n)(hb:n<1000000000)(hc:c<n+1)(hnc:n<=c)(ho:o+n*14<=s.size)(z:vo+14<=d.size)(F:∀v,v∈(s.extract o (o+n*14)).toList->wu v=V)(H:∀v,v∈(d.extract vo (vo+1*14)).toList->wu v=V)(hr:(n+1)*14<=row.size)(hG:n+1<=G)(r:∀ty,(s8 #[25,3] ty #[.slice (J ⟨b,o,Z⟩) 0 c,.int .i64 ((n:Int)+1)]).run eS w=.ok (.slice (J ⟨w.heap.size,0,Z⟩) (n+1) G) (World.push w.drew (.cells row 32))):Calls eS 440 #[.slice (J ⟨b,o,Z⟩) n c,.int .i64 0,.slice (J ⟨t,vo,Z⟩) 1 vc] w λx w'=>x=.returned (.slice (J ⟨w.heap.size,0,Z⟩) (n+1) G)/\w'=World.eH (World.push w.drew (.cells row 32)).drew w.heap.size (.cells (over (over row 0 (d.extract vo (vo+1*14)).toList) 14 (s.extract o (o+n*14)).toList) 32 (0,0)):=by
 have hz2:¬((0:Int)=(n:Int)):=ae;have hz3:(c:Int)<(n:Int)+1:=ae;have Y:¬(c=0):=ae;have A:Tryz.prog.follows .mixedOrders=V:=MU;have hw0:IntKind.i64.wrap 0=0:=by rfl
 have tK:IntKind.i64.wrap 1=1:=by rfl
 have Vf:(1:Int)<=(n:Int)+1:=ae;have U:(0:Int)<=(n:Int)+1:=ae;have X:(0:Int)<=(n:Int):=ae;have S:¬(G=0):=ae;have T:¬(G=1):=ae;have hsw:IntKind.i64.wrap ((n:Int)+1-0)=(n:Int)+1:=by grind[IntKind.wrap_i64]
 have M:IntKind.i64.wrap ((n:Int)+1)=(n:Int)+1:=aj;have l:=(Array.getElem?_eq_some_iff.1 u).1;have p:=(Array.getElem?_eq_some_iff.1 y).1;obtain⟨N,hN⟩:∃N,N=w.heap.size:=⟨_,rfl⟩;obtain⟨W,q⟩:∃W,W=World.push w.drew (.cells row 32):=⟨_,rfl⟩;have B:W.heap[N]?=J (.cells row 32 (0,0)):=by rw[q,hN];exact xF w.drew _
 have h:∀k,k<N->W.heap[k]?=w.heap[k]?:=λk hk=>by rw[q];exact Ge w.drew _ (hN▸hk)
 have j:N<W.heap.size:=(Array.getElem?_eq_some_iff.1 B).1;have km:(d.extract vo (vo+1*14)).toList.length=14:=aj;have g:∀ty i,(zF #[25,25] ty #[.slice (J ⟨N,0,Z⟩) (n+1) i,.slice (J ⟨t,vo,Z⟩) 1 vc]).run eS W=.ok (goInt 1) (World.eH W N (.cells (over row 0 (d.extract vo (vo+1*14)).toList) 32 (0,0))):=λty i=>Rt (m:=1) B ((h t (hN▸p)).trans y) (by rfl) ae ae H;obtain⟨a,L⟩:∃a,a=World.eH W N (.cells (over row 0 (d.extract vo (vo+1*14)).toList) 32 (0,0)):=⟨_,rfl⟩;have f:a.drew.heap[N]?=J (.cells (over row 0 (d.extract vo (vo+1*14)).toList) 32 (0,0)):=by rw[L];exact Bd _ _ j
 have D:a.drew.heap[b]?=J (.cells s e P):=by rw[L];exact(Cq _ _ ae).trans ((h b (hN▸l)).trans u)
 have Q:(over row 0 (d.extract vo (vo+1*14)).toList).size=row.size:=A4 _ _ _ ae;have I:∀ty i K,(zF #[25,25] ty #[.slice (J ⟨N,14,Z⟩) n i,.slice (J ⟨b,o,Z⟩) n K]).run eS a.drew=.ok (goInt n) (World.eH a.drew N (.cells (over (over row 0 (d.extract vo (vo+1*14)).toList) 14 (s.extract o (o+n*14)).toList) 32 (0,0))):=λty i K=>Rt (m:=n) f D ae ae ae F;have E:World.eH a.drew N (.cells (over (over row 0 (d.extract vo (vo+1*14)).toList) 14 (s.extract o (o+n*14)).toList) 32 (0,0))=World.eH W.drew N (.cells (over (over row 0 (d.extract vo (vo+1*14)).toList) 14 (s.extract o (o+n*14)).toList) 32 (0,0)):=by rw[L];exact ZY W.drew N _ _
 rw[<-q,<-hN]at r|-;rw[<-L]at g;rw[<-E];clear E f D Q L q hN B h j km u y F H hr l p ho z;go_enter Tryz.func440,Tryz.ntmps440;go_wp2_with(first|(at_builtin;refine Lib.wpList_append_run _ rfl _ _ _ _ rfl _ _ rfl rfl _ _ (r _) ?_)|(at_builtin;refine wpList_copy_runI _ rfl _ _ 25 25 rfl _ _ rfl rfl (g _ _) ?_));go_region_law_o(refine step_copy_runI rfl _ _ 25 25 rfl _ _ (by simp[Act.eval,Act.put]) (by simp[Act.eval,Act.put]) (I _ _ _) ?_);go_wp2;go_ret;simp_all
end Go.Proofs
namespace Go.AM
open Go Go.VM Proofs Proofs.Tryz
theorem CQ{f:bS}{v:Array aB}{w:aT}{R:Ending->aT->Prop}(h:Calls PP f v w R)(c:cZ)(s:List cZ):∃e a,R e a/\∀u,e=.returned u->Steps PP (eT (Frame.enter PP f v .normal) (c::s) w) (eT (c.finish u) s a):=by obtain⟨e,a,fr,b,V,A,q⟩:=h _;refine⟨e,a,b,λu d=>?_⟩;subst d;exact Steps.trans V (Steps.head (step_leave_returned q) (Steps.refl _ _))
theorem KA{f:bS}{n:Func}{b:bz}(c:PP.funcs[f]?=J n)(h:n.body=J b)(a:Array aB)(w:aT):(callFunc f a).run PP w=.ok (.enter f a) w:=by grind[Kz,Gc]
def CS(n m k:Nat):ah Nat->Bool|some c=>aw c n|none=>bV m k
def Mc(i o n:Nat)(c:ah Nat)(x j:Nat)(H:Heap):ah (AV×Heap):=match H.get i with|some (.cells l r f e)=>(H.load x j 14).bind λb=>(H.load i o (n*14)).bind λa=>bif(f.wr&&(bV (H.bh r).1 i&&(aw (H.bh r).2 i&&aw e 32)))&&(!(aw (rootOf H x) r)&&(cM n 1000000000&&CS n (eL l) (o+n*14) c))then J (.sl H.next 0 (n+1) Z 14,H.hQ r (H.bh r).1 V (b++a) 32)else Z|_=>Z
def Q4(a:bZ):bZ:=λf args H=>bif aw f 440 then(match args with|[.sl id o n c 14,.int .i64 (.ofNat 0),.sl x j 1 _ 14]=>J (Mc id o n c x j H)|_=>J Z)else a f args H
theorem ahu{S:Nat->Prop}{g:aZ}{H:Heap}{w:aT}(F:bA S g H w){d o n:Nat}{p:Pl}{l:aD}(E:g d=J p)(A:S (rootOf H d))(h:H.load d o n=J l):∃c f e1,w.heap[p.aW]?=J (.cells c e1 f)/\c.size=p.oB/\p.base+o+n<=c.size/\aV g l (c.extract (p.base+o) (p.base+o+n)).toList/\(∀x,x∈l->x.bj=V)/\∀v,v∈(c.extract (p.base+o) (p.base+o+n)).toList->wu v=V:=by
 unfold Heap.load at h;rcases q:H.cellsOf d with _|m;.grind
 simp only[q,cU,du,ef,qx,qI]at h;by_cases a:o+n<=m.length;.have u:J ((m.drop o).take n)=J l:=aj;cases u;obtain⟨r,G,e,B,b⟩:=KD q;obtain⟨s,D⟩:=CO F E A B b;obtain⟨c,f,e1,j,y,k,z⟩:=s.slice D a;obtain⟨I,_,_,k1,k2,_⟩:=s;rw[j]at k1;obtain⟨rfl,_⟩:=Obj.cells.inj (br k1);refine⟨c,f,e1,j,k2,y,k,z,λv b=>?_⟩;obtain⟨i,hi⟩:=List.mem_iff_getElem?.1 b;have t:i<((m.drop o).take n).length:=aj;exact(k.2 i _ _ (eZ t) hi).bj aP
 grind
theorem aLb{e:aZ}{a b:aD}{u d:List aB}(h:aV e a u)(f:aV e b d){r:Array aB}{s:Nat}(j:∀k,k<u.length->r[s+k]?=u[k]?)(l:∀k,k<d.length->r[s+u.length+k]?=d[k]?):∀(i:Nat)(x:AV),(a++b)[i]?=J x->∃c,r[s+i]?=J c/\VR e x c:=by intro i x g;obtain⟨v,m,hr⟩:=(h.append f).get g;grind
set_option maxRecDepth 10000
theorem akU:mJ PP 32=J [.int .i64 0,.bc,.int .i64 0,.int .i64 0,.int .i64 0,.int .i64 0,.int .i64 0,.bc,.int .i64 0,.int .i64 0,.int .i64 0,.int .i64 0,.int .i64 0,.str []]:=by rfl
theorem aEp{ak:bZ}(hp:kJ PP ak):kJ PP (Q4 ak):=by
 intro f args H v H' h φ g av c I hi M hg hv;unfold Q4 at h;rw[bN]at h;by_cases hf:f=440
 . subst hf;simp only[eu,aL]at h;split at h
   . rename_i id d n c0 xm j cv;have h:=br h;unfold Mc at h;split at h
     . rename_i l r fl e lj;obtain⟨cx,Lu,h⟩:=aE h;obtain⟨cl,qL,h⟩:=aE h;rcases Vi:((fl.wr&&(bV (H.bh r).1 id&&(aw (H.bh r).2 id&&aw e 32)))&&(!(aw (rootOf H xm) r)&&(cM n 1000000000&&CS n (eL l) (d+n*14) c0)))with _|_;.grind
       rw[Vi]at h;obtain⟨rfl,rfl⟩:=j9 (br h);simp only[iC,du,bN,fB,mw,Bool.not_eq_true',EN]at Vi;obtain⟨⟨hwr,B8,Fj,rfl⟩,Fw,mV,uF⟩:=Vi;obtain⟨x1,t1,e1,jH,tI⟩:=hv.cons_inv;obtain⟨x2,t2,e2,lZ,B6⟩:=tI.cons_inv;obtain⟨x3,t3,e3,Qe,ht3⟩:=B6.cons_inv;obtain rfl:=ht3.sT;subst e2;subst e3;cases lZ;cases jH with|sl _ _ _ _ _ p F i k1 k2 k3 k4 k5 k6 k7 k8=>cases Qe with|sl _ _ _ _ _ q aGb Q j1 j2 j3 j4 j5 j6 j7 j8=>
       have yq:av=#[.slice (J F) n i,.int .i64 0,.slice (J aGb) 1 Q]:=aj;subst yq;obtain rfl:=j6 ae;have rR:fl≠.ro:=by grind[gS.wr]
       have vN:=(M.stat.cq id p k1).1;have dZ:¬fJ H id:=by rintro⟨l',r',e',hh⟩;grind
       have jv:rootOf H id=r:=qp lj;have cA:q.aW≠p.aW:=λx=>Fw (by rw[<-jv];exact(M.stat.inj id xm p q k1 j1 x.symm dZ).symm);obtain⟨je,xb⟩:=CO M k1 trivial lj B8;obtain⟨A,fz,ee,Y,a2,a3,a4,a5,a6,a7⟩:=je;obtain⟨rfl,rfl⟩:=a6 rR;obtain⟨A',UW,ee',b1,b2,b3,b4,b5,b6⟩:=ahu M k1 trivial qL;rw[Y]at b1;obtain⟨rfl,_,_⟩:=Obj.cells.inj (br b1);obtain⟨D,fd,ed,d1,d2,d3,d4,d5,d6⟩:=ahu M j1 trivial Lu;have fW:∀g,(callFunc 440 #[.slice (J F) n i,.int .i64 0,.slice (J ⟨q.aW,q.base+j,Z⟩) 1 Q]).run PP g=.ok (.enter 440 _) g:=λg=>KA Tryz.func440 rfl _ g;have hul:(D.extract (q.base+j) (q.base+j+14)).toList.length=14:=aj;have sO:(A.extract (p.base+d) (p.base+d+n*14)).toList.length=n*14:=aj;generalize L6:(D.extract (q.base+j) (q.base+j+14)).toList=s at*;generalize uN:(A.extract (p.base+d) (p.base+d+n*14)).toList=B at*;have avF:(cx++cl).length=(n+1)*14:=by rw[db,d4.1,b4.1,hul,sO];omega
       have fin:∀(m:aT)(z:Pl)(R:Nat)(y:Array aB),g.heap.size<=m.heap.size->(m.os=g.os/\m.tape=g.tape/\m.output=g.output)->(∀b,b<g.heap.size->b≠p.aW->m.heap[b]?=g.heap[b]?)->((z.aW=p.aW/\p.base+p.len<=z.base+z.len)\/(g.heap.size<=z.aW/\z.aW<m.heap.size))->z.len=(n+1)*14->m.heap[z.aW]?=J (.cells y 32 (0,0))->y.size=z.oB->(∀k,k<14->y[z.base+k]?=s[k]?)->(∀k,k<n*14->y[z.base+14+k]?=B[k]?)->n+1<=R->z.base+R*14<=z.oB->Steps PP (eT (Frame.enter PP 440 #[.slice (J F) n i,.int .i64 0,.slice (J ⟨q.aW,q.base+j,Z⟩) 1 Q] .normal) (c::I) g) (eT (c.finish (.slice (J ⟨z.aW,z.base,Z⟩) (n+1) R)) I m)->∃ψ m u,fZ φ H g ψ (H.hQ r (H.bh r).1 V (cx++cl) 32) m/\VR ψ (.sl H.next 0 (n+1) Z 14) u/\((callFunc 440 #[.slice (J F) n i,.int .i64 0,.slice (J ⟨q.aW,q.base+j,Z⟩) 1 Q]).run PP g=.ok (.value u) m\/((callFunc 440 #[.slice (J F) n i,.int .i64 0,.slice (J ⟨q.aW,q.base+j,Z⟩) 1 Q]).run PP g=.ok (.enter 440 #[.slice (J F) n i,.int .i64 0,.slice (J ⟨q.aW,q.base+j,Z⟩) 1 Q]) g/\Steps PP (eT (Frame.enter PP 440 #[.slice (J F) n i,.int .i64 0,.slice (J ⟨q.aW,q.base+j,Z⟩) 1 Q] .normal) (c::I) g) (eT (c.finish u) I m))):=by
         intro m z R y f1 f2 f3 f4 f5 f6 f7 f8 f9 f10 f11 f12;have hm:(n+1)*14<=R*14:=ml _ f10;have PY:mn φ m (.cells (cx++cl) r .op 32) z:=by
           refine⟨y,(0,0),_,f6,f7,ae,?_,λa ha=>?_,λ_=>⟨rfl,rfl⟩,λh=>aj⟩;.exact aLb d4 b4 (λk E=>f8 k ae) (λk E=>aj)
           grind
         have qe:=U0 hi M k1 lj rR Fj (H.bh r).1 rfl (cx++cl) V z ae f1 f2 f3 f4 (λh=>aj) PY;refine⟨_,m,_,⟨qe.1,qe.2.1.SS λ_=>trivial,qe.2.2⟩,.sl H.next 0 (n+1) Z 14 z ⟨z.aW,z.base,Z⟩ R (jK ..) f10 ae (λk E=>aj) (λ_=>ae) (λ_=>rfl) ae ae,.inr ⟨fW g,f12⟩⟩
       obtain⟨ti,t1,t2,t3⟩:=Ma VV;obtain⟨K,z1,z2,_⟩:=abq (O:=φ) akU t1;have z3:K.cells.size=14:=by have:=z2.1;rw[Array.length_toList]at this;exact this.symm
       have hX:(D.extract (q.base+j) (q.base+j+14)).size=14:=aj;have oj:∀m,m.heap=g.heap->(oE 14 1 (.slice (J ⟨q.aW,q.base+j,Z⟩) 1 Q)).run PP m=.ok (D.extract (q.base+j) (q.base+j+14)) m:=λm e=>Jo (n:=1*14) (by rw[e];omega) d3;have T:PP.underlying 25=J (.slice 32):=underlying25;have hu3:PP.underlying 3=J (.int .i64):=underlying3;by_cases mz:n=0
       . subst mz;by_cases U:1<=i
         . obtain rfl:=k6 ae;have Aw:p.base+d+s.length<=A.size:=ae;have bG:=Nq (P:=PP) Y Aw (λv hv=>d6 v hv);have jx:∀ty,(s8 #[25,25] ty #[.slice (J ⟨p.aW,p.base+d,Z⟩) 0 i,.slice (J ⟨q.aW,q.base+j,Z⟩) 1 Q]).run PP g=.ok (.slice (J ⟨p.aW,p.base+d,Z⟩) (0+1) i) (World.eH g p.aW (.cells (over A (p.base+d) s) 32 (0,0))):=λty=>ajG rfl T wx rfl T (λk h=>aj) rfl (oj g rfl) ae (by grind[wM]);obtain⟨e,m,⟨rfl,N⟩,L⟩:=CQ (ag0 jx) c I;subst N;refine fin (World.eH g p.aW (.cells (over A (p.base+d) s) 32 (0,0))) ⟨p.aW,p.base+d,p.oB,14⟩ i (over A (p.base+d) s) (by simp[Cr]) ⟨rfl,rfl,rfl⟩ (λb _ h=>Cq g _ h) (.inl ⟨rfl,?_⟩) rfl (Bd g _ vN) ((A4 _ _ _ Aw).trans a2) (λk E=>?_) (λk E=>ae) U k3 (L _ rfl)
           . show p.base+p.len<=p.base+d+14;rcases c0 with _|k;.grind[CS,du,ef]
             grind[CS,bN]
           .show(over A (p.base+d) s)[p.base+d+k]?=_;rw[uU _ _ _ Aw,if_pos ae];congr 1;omega
         . obtain⟨t,g1,g2⟩:=run_append_grow (P:=PP) (w:=g) (ats:=#[25,25]) (ty:=25) (eG:=0) (jn:=i) (n:=1) (base:=J F) (xv:=.slice (J ⟨q.aW,q.base+j,Z⟩) 1 Q) (old:=#[]) rfl T t1 z1 rfl T (λk h=>aj) rfl (by rw[t2];exact oj g.drew rfl) ae (by simp[oE,loadCells,loadCellsFrom]) (by rw[t3];decide) gD;obtain⟨e,m,⟨rfl,N⟩,L⟩:=CQ (ag0 (λty=>(show _=_ from by rw[<-g2];rfl))) c I;subst N;have hR:(#[]++D.extract (q.base+j) (q.base+j+14)++nR K.cells (t-(0+1))).size=t*14:=by grind[abp]
           refine fin (World.push g.drew (.cells (#[]++D.extract (q.base+j) (q.base+j+14)++nR K.cells (t-(0+1))) 32)) ⟨g.heap.size,0,t*14,14⟩ t (#[]++D.extract (q.base+j) (q.base+j+14)++nR K.cells (t-(0+1))) (by simp[DO]) ⟨rfl,rfl,rfl⟩ (λb hb _=>Ge g.drew _ hb) (.inr ⟨bo _,by simp[DO]⟩) rfl (xF g.drew _) hR (λk E=>?_) (λk E=>ae) g1 aO (L _ rfl);grind
       . by_cases U:n+1<=i
         . obtain rfl:=k6 ae;have hm:(n+1)*14<=i*14:=ml _ U;have X:=ax0 (vc:=Q) (c:=i) (o:=p.base+d) (vo:=q.base+j) (n:=n) Y d1 cA ae mV U ae d3 aj aj;rw[Nat.one_mul,uN,L6]at X;obtain⟨e,m,⟨rfl,N⟩,L⟩:=CQ X c I;subst N;have W:p.base+d+14+B.length<=A.size:=ae;have km:=A4 A (p.base+d+14) B W;have S:p.base+d+s.length<=(over A (p.base+d+14) B).size:=ae;refine fin (World.eH g.drew p.aW (.cells (over (over A (p.base+d+14) B) (p.base+d) s) 32 (0,0))) ⟨p.aW,p.base+d,p.oB,(n+1)*14⟩ i (over (over A (p.base+d+14) B) (p.base+d) s) (by simp[Cr]) ⟨rfl,rfl,rfl⟩ (λb _ h=>Cq g.drew _ h) (.inl ⟨rfl,?_⟩) rfl (Bd g.drew _ vN) ((A4 _ _ _ S).trans (km.trans a2)) (λk E=>?_) (λk E=>?_) U k3 (L _ rfl)
           . show p.base+p.len<=p.base+d+(n+1)*14;rcases c0 with _|k;.grind[CS,du,ef]
             grind[CS,bN]
           .show(over (over A (p.base+d+14) B) (p.base+d) s)[p.base+d+k]?=_;rw[uU _ _ _ S,if_pos ae];congr 1;omega
           .show(over (over A (p.base+d+14) B) (p.base+d) s)[p.base+d+14+k]?=_;rw[uU _ _ _ S,if_neg ae,uU _ _ _ W,if_pos ae];congr 1;omega
         . have tG:F=⟨p.aW,p.base+d,Z⟩:=k6 ae;obtain⟨t,g1,g2⟩:=ajH (P:=PP) (w:=g) (ats:=#[25,3]) (ty:=25) (eG:=0) (jn:=i) (n:=n+1) (base:=J F) (old:=#[]) rfl T t1 z1 rfl hu3 ae ae (by simp[oE,loadCells,loadCellsFrom]) (by rw[t3];show _<=1099511627776;omega) (by show _<=1099511627776;omega);have hR:(#[]++nR K.cells (n+1)++nR K.cells (t-(0+(n+1)))).size=t*14:=by grind[abp]
           generalize#[]++nR K.cells (n+1)++nR K.cells (t-(0+(n+1)))=row at*;subst tG;have X:=axZ (vc:=Q) (c:=i) (o:=p.base+d) (vo:=q.base+j) (n:=n) (G:=t) (row:=row) Y d1 ae mV ae k2 ae d3 aj aj ae ae (λty=>by have:=g2;rw[jM]at this;exact this);rw[Nat.one_mul,uN,L6]at X;obtain⟨e,m,⟨rfl,N⟩,L⟩:=CQ X c I;subst N;have W:0+s.length<=row.size:=ae;have km:=A4 row 0 s W;have S:14+B.length<=(over row 0 s).size:=ae;have hN:g.heap.size<(World.push g.drew (.cells row 32)).heap.size:=by simp[DO]
           refine fin (World.eH (World.push g.drew (.cells row 32)).drew g.heap.size (.cells (over (over row 0 s) 14 B) 32 (0,0))) ⟨g.heap.size,0,t*14,(n+1)*14⟩ t (over (over row 0 s) 14 B) (by rw[Cr];exact Nat.le_of_lt hN) ⟨rfl,rfl,rfl⟩ (λb hb _=>(Cq _ _ ae).trans (Ge g.drew _ hb)) (.inr ⟨bo _,by rw[Cr];exact hN⟩) rfl (Bd _ _ hN) ((A4 _ _ _ S).trans (km.trans hR)) (λk E=>?_) (λk E=>?_) ae aO (L _ rfl);.show(over (over row 0 s) 14 B)[0+k]?=_;rw[uU _ _ _ S,if_neg ae,uU _ _ _ W,if_pos ae];grind
           grind[uU]
     grind
   grind
 .simp only[hf,mO,bg]at h;exact hp f args H v H' h φ g av c I hi M hg hv
open Go.Sort
def II:aD->ah bT|[]=>J []|.int .i64 z::l=>(II l).map λt=>z::t|_=>Z
theorem ag1:∀{l:aD}{zs:bT},II l=J zs->l=zs.map (AV.int .i64)
 |[],zs,h=>by cases h;rfl|a::l,zs,h=>by
  unfold II at h;split at h;.simp at*
  .rename_i z t e;obtain⟨rfl,rfl⟩:=List.cons.inj e;obtain⟨c,b,rfl⟩:=Option.map_eq_some_iff.1 h;rw[ag1 b];rfl
  .simp at h
def rowP(f:bT->bT)(H:Heap)(i o n:Nat):ah (bT×Heap):=bif cM 0 n&&cM n 1000000000 then(H.load i o n).bind λl=>(II l).bind λzs=>(H.store i o ((f zs).map (AV.int .i64))).map λa=>(zs,a)else Z
def Gy(l:bT):bT:=l.mergeSort λx y=>decide (x<=y)
def CT(l:bT):bT:=tb l++List.replicate (l.length-(tb l).length) 0
def Q5(a:bZ):bZ:=λf args H=>bif aw f 247 then(match args with|[.bc]=>J (J (.cw [],H))|[.sl id o n _ 1]=>J ((rowP Gy H id o n).map λr=>(.cw [],r.2))|_=>J Z)else bif aw f 248 then(match args with|[.bc]=>J (J (.bc,H))|[.sl id o n c 1]=>J ((rowP CT H id o n).map λr=>(.sl id o (tb r.1).length c 1,r.2))|_=>J Z)else a f args H
theorem ac4(l:bT):(tb l).length<=l.length:=by grind[tb,Lib.compactUpTo]
theorem ajw{f:bT->bT}{H a:Heap}{i o n:Nat}{s:bT}(h:rowP f H i o n=J (s,a)):0<n/\n<1000000000/\H.load i o n=J (s.map (AV.int .i64))/\H.store i o ((f s).map (AV.int .i64))=J a:=by
 unfold rowP at h;rcases c:(cM 0 n&&cM n 1000000000)with _|_;.grind
 rw[c]at h;simp only[iC,fB,mw]at c;obtain⟨l,b,h⟩:=aE h;obtain⟨z,d,h⟩:=aE h;grind[jE,ag1]
theorem aEq{E:bZ}(N:kJ PP E):kJ PP (Q5 E):=by
 intro f args H v I h x w d c s hi l L m;unfold Q5 at h;rw[bN,bN]at h;by_cases g:f=247
 . subst g;simp only[eu,aL]at h;split at h;.obtain⟨rfl,rfl⟩:=j9 (br (br h));obtain⟨x1,t1,e1,j,t⟩:=m.cons_inv;obtain rfl:=t.sT;cases j;have y:d=#[.slice Z 0 0]:=aj;subst y;obtain⟨e,u,⟨rfl,rfl⟩,k⟩:=CQ (Any.slices_Sort_int_none Tryz.ahj Z 0 w) c s;exact⟨x,u,.tuple #[],fZ.refl hi l,.cw [] #[] rfl (λi a v h=>aj),.inr ⟨KA Tryz.func247 rfl _ _,k _ rfl⟩⟩
   .rename_i id o n F;obtain⟨r,hr,e⟩:=Option.map_eq_some_iff.1 (br h);obtain⟨rfl,rfl⟩:=j9 e;obtain⟨zs,K⟩:=r;obtain⟨O,P,z,G⟩:=ajw hr;obtain⟨x1,t1,e1,j,t⟩:=m.cons_inv;obtain rfl:=t.sT;cases j with|sl _ _ _ _ _ p A b k1 k2 k3 k4 k5 k6 k7 k8=>have y:d=#[.slice (J A) n b]:=aj;subst y;obtain rfl:=k6 ae;obtain⟨r1,r2,B,D⟩:=ajx hi l k1 z (List.length_mergeSort zs) G;subst r2;obtain⟨e,u,⟨rfl,q,Q,rfl⟩,k⟩:=CQ (Any.slices_Sort_int Tryz.ahj p.aW (p.base+o) b zs w B r1 ae) c s;exact⟨x,_,.tuple #[],D q Q,.cw [] #[] rfl (λi a v h=>aj),.inr ⟨KA Tryz.func247 rfl _ _,k _ rfl⟩⟩
   grind
 . simp only[g,mO,bg]at h;by_cases g:f=248
   . subst g;simp only[eu,aL]at h;split at h;.obtain⟨rfl,rfl⟩:=j9 (br (br h));obtain⟨x1,t1,e1,j,t⟩:=m.cons_inv;obtain rfl:=t.sT;cases j;have y:d=#[.slice Z 0 0]:=aj;subst y;obtain⟨e,u,⟨rfl,rfl⟩,k⟩:=CQ (Any.slices_Compact_int_empty Tryz.ahk Z 0 w) c s;exact⟨x,u,_,fZ.refl hi l,.bc,.inr ⟨KA Tryz.func248 rfl _ _,k _ rfl⟩⟩
     .rename_i id o n F;obtain⟨r,hr,e⟩:=Option.map_eq_some_iff.1 (br h);obtain⟨rfl,rfl⟩:=j9 e;obtain⟨zs,K⟩:=r;obtain⟨O,P,z,G⟩:=ajw hr;obtain⟨x1,t1,e1,j,t⟩:=m.cons_inv;obtain rfl:=t.sT;cases j with|sl _ _ _ _ _ p A b k1 k2 k3 k4 k5 k6 k7 k8=>have y:d=#[.slice (J A) n b]:=aj;subst y;obtain rfl:=k6 ae;have M:=ac4 zs;obtain⟨r1,r2,B,D⟩:=ajx hi l k1 z (ys:=CT zs) (by grind[CT]) G;subst r2;obtain⟨e,u,⟨rfl,q,rfl⟩,k⟩:=CQ (Any.slices_Compact_int Tryz.ahk p.aW (p.base+o) b zs w B ae k2) c s;refine⟨x,_,_,?_,.sl id o (tb zs).length F 1 p ⟨p.aW,p.base+o,Z⟩ b k1 ae k3 k4 k5 (λ_=>rfl) k7 ae,.inr ⟨KA Tryz.func248 rfl _ _,k _ rfl⟩⟩;have:=D q #[];rw[grow_empty]at this;exact this
     grind
   .simp only[g,mO,bg]at h;exact N f args H v I h x w d c s hi l L m
end Go.AM
namespace Go.VM
open Go Go.AM
variable{α:Type}{g:GH}{ops:List aC}{a e D:Nat}{v:SV}{l:aA}{P:aM}{ow:aX}{t:al}{R:bt}
def cB:St:=⟨0,0,[],[],.empty⟩
def S1(o:List aC)(l:List (Nat×Kd))(j:Nat)(k:Kd):List (Nat×Nat):=l.filterMap λe=>bif Kd.apart e.2 k||rj o e.1 j then Z else J (e.1,j)
def Kt(c:cj)(p:List aC):List aC->Nat->List (Nat×Kd)->List (Nat×Nat)|[],_,_=>[]|o::l,j,g=>S1 p g j (kindOf c cB o.op)++Kt c p l (j+1) ((j,kindOf c cB o.op)::g)
def D6(c:cj)(o:List aC):List (Nat×Nat):=Kt c o o 0 []
def dw(c:cj)(o:List aC):Bool:=oK c cB o&&(D6 c o).isEmpty
def vR(b:List (Nat×Nat))(i j:Nat):Bool:=b.any λp=>aw p.1 i&&aw p.2 j
def E4(b:List (Nat×Nat))(i:Nat):Bool:=b.any λp=>aw p.1 i
section
variable{P:aM}{cf:cj}{rec:eK}{gs cr:an}
theorem V8{s:St}{o:Op}:(jI cf s o).kd=kindOf cf cB o:=by unfold jI;cases o<;>first|rfl|(simp only;split<;>rfl)
def uc(P:aM)(c:cj)(r:eK)(s a:an)(p:List aC)(b:List (Nat×Nat)):List aC->Nat->List (Nat×Kx)->(eJ->ah bt)->St->ah bt|[],_,_,k,st=>k (.fO st)|o::l,j,g,k,st=>(zn ⟨p⟩ st o).bind λw=>bif w then bif g.all λe=>!(vR b e.1 j)||Kx.tC e.2 (jI c st o.op)then(dN P c r s a l st o).bind (uc P c r s a p b l (j+1) (bif E4 b j then(j,jI c st o.op)::g else g) k)else Z else(aJ st o.dst (.tp [])).bind (uc P c r s a p b l (j+1) g k)
theorem aGi{b:List (Nat×Nat)}{k:eJ->ah bt}{r:bt}:∀(l:List aC)(j:Nat)(full:List (Nat×Kd))(g y:List (Nat×Kx))(st:St),(∀p,p∈Kt cf ops l j full->p∈b)->(∀e,e∈g->(e.1,e.2.kd)∈full/\(E4 b e.1=V->e∈y))->uc P cf rec gs cr ops b l j y k st=J r->(jW P cf rec gs cr V ⟨ops⟩ l j g st).bind (λst=>k (.fO st))=J r:=by intro l;induction l with|nil=>intro j full g y st _ _ h;exact h|cons o l i=>intro j full g y st f d h;unfold uc at h;obtain⟨w,q,h⟩:=aE h;unfold jW;rw[q];simp only[cU];have u:∀p,p∈Kt cf ops l (j+1) ((j,kindOf cf cB o.op)::full)->p∈b:=λp n=>f p (J7 _ n);cases w with
 |true=>
 simp only[aL]at h|-;rcases m:(y.all λe=>!(vR b e.1 j)||Kx.tC e.2 (jI cf st o.op))with _|_;.grind
 rw[m]at h;simp only[aL]at h;have z:IP ops g j (jI cf st o.op)=V:=by unfold IP;rw[um];intro e a;obtain⟨c,t⟩:=d e a;cases v:Kd.apart e.2.kd (jI cf st o.op).kd||rj ops e.1 j with|true=>grind[Kx.apart]|false=>
  have A:(e.1,j)∈b:=by refine f _ (zQ _ ?_);grind[S1,V8]
  have x:E4 b e.1=V:=by grind[E4,nT]
  have hi:vR b e.1 j=V:=by simp_all[vR]
  grind[Kx.apart]
 obtain⟨s,c,h⟩:=aE h;have:=i (j+1) ((j,kindOf cf cB o.op)::full) ((j,jI cf st o.op)::g) _ s u (λe a=>by grind[V8]) h;grind|false=>simp only[bg]at h|-;obtain⟨s,c,h⟩:=aE h;rw[c];simp only[cU];exact i (j+1) ((j,kindOf cf cB o.op)::full) g y s u (λe a=>⟨iL _ (d e a).1,(d e a).2⟩) h
theorem ao4{f:ah Nat}{s:St}{k:eJ->ah bt}{i:Nat}{b:List (Nat×Nat)}{r:bt}(h:oK cf cB ops=V)(c:D6 cf ops=b)(a:uc P cf rec (cf.uA s.fn) (cf.BN s.fn) ops b ops 0 [] (IW (cf.keep s.fn i) k) s=J r):exec P cf rec f (.region i ⟨ops⟩ V) s k=J r:=by show(bif !V||oK cf s _ then _ else Z)=_;have e:oK cf s _=oK cf cB ops:=rfl;rw[e,h];subst c;exact aGi _ 0 [] [] [] s (λp d=>d) aP a
theorem aGj:∀(l:List aC)(j:Nat)(full:List (Nat×Kd))(g:List (Nat×Kx))(st:St),(∀e,e∈g->(e.1,e.2.kd)∈full)->Kt cf ops l j full=[]->jW P cf rec gs cr V ⟨ops⟩ l j g st=jW P cf rec gs cr C ⟨ops⟩ l j [] st:=by intro l;induction l with|nil=>intro j full g st _ _;rfl|cons o l i=>intro j full g st s h;obtain⟨p,a⟩:=List.append_eq_nil_iff.1 h;unfold jW;congr 1;funext w;grind[IP,Kx.apart,S1,V8]
theorem asE{r:ah Nat}{s:St}{k:eJ->ah bt}{i:Nat}(h:dw cf ops=V):exec P cf rec r (.region i ⟨ops⟩ V) s k=rb P cf rec (cf.uA s.fn) (cf.BN s.fn) (.mk ops (.mk ops)) (.mk ops (.mk ops)) (IW (cf.keep s.fn i) k) s:=by unfold dw at h;rw[iC]at h;show(bif !V||oK cf s _ then _ else Z)=_;have e:oK cf s _=oK cf cB ops:=rfl;rw[e,h.1];rw[aGj _ 0 [] [] s aP (List.isEmpty_iff.1 h.2)];rfl
end
def opsOf(d:Nat):bz->ah (List aC)|.region i ops _=>bif aw i d then J ops.toList else Z|.seq a b|.cond _ a b|.rangeFunc _ _ a b=>(opsOf d a).or (opsOf d b)|.block _ b|.loop b|.scope b=>opsOf d b|_=>Z
def bq(f:Func)(i:Nat):List aC:=((f.body).bind (opsOf i)).getD []
attribute[go_sem↓]asE
open Proofs.Tryz
set_option maxRecDepth 100000
set_option maxHeartbeats 4000000
theorem aAk{b n:Nat}{c:ah Nat}:nN (.sl a b n c e)=J n:=(rfl)
theorem V9:ao 1 (.ofNat 2)=V:=(rfl)
theorem V':ao 2 (.ofNat 2)=C:=(rfl)
section
variable{P:aM}{ak:bZ}{rec:AM.Rec}{ops:Array aC}{fr:cu}{H:Heap}{o:aC}{l:List aC}{j:Nat}{log:List (Nat×jL)}
theorem aN9:va P ak rec ops [] j log fr H=J (.next fr H):=(rfl)
theorem aF5:H.resume H.fresh=H:=(rfl)
theorem auT{j:Nat}{d:jL}{H:Heap}(h:H.cK=[]):sI ops o j d H=V:=by grind[sI]
theorem f_w:H.fresh.bK=[]:=(rfl)
theorem f_g:H.fresh.cK=[]:=(rfl)
theorem alC{f:α->Bool}:AM.iw f []=V:=(rfl)
theorem alB{f:α->Bool}{a:α}{l:List α}:AM.iw f (a::l)=bif f a then AM.iw f l else C:=(rfl)
theorem aLt{r:ah (List (AM.Touch×Nat))}:AM.within ⟨r,[]⟩=V:=by cases r<;>rfl
theorem aLu{w:an}:AM.within ⟨Z,w⟩=V:=(rfl)
theorem al7{r a:ah (List (AM.Touch×Nat))}:apart ⟨r,[]⟩ ⟨a,[]⟩=V:=by rfl
end
theorem azU{b n:Nat}{c:ah Nat}:rT (.sl a b n c e)=J n:=(rfl)
attribute[local go_sem]body vw wO xZ ya yb EH cu.ve cu.Rw cu.Rv El CD GL GN Eg GQ GU En Em GM GX GR GV GW JX NX Ei GS CA Ej CB Ek Eh azU aF5 f_w f_g alC alB aLt aLu al7 ajD ajF KS wC fP dV aiy aiw aix ais air ait aiv aiu D1 xx DE ff akk A6 vU lf Ag IG aAk ix iE cU aja cE aj9 lQ fy dk V9 V' w00 ahX ahO aic Nat.zero_mul Nat.sub_zero zU jM ar1 ar2 ar3 ef Jj
attribute[local congr]cC cD
theorem aoT(k:bZ)(H q e:Heap)(d o a i j:Nat)(c b g r:ah Nat)(x:AV)(y z:aD)(p:mJ PP 32=J z)(l:z.length=14)(v:k 442 [.sl d o a c 14,ix i,ix j] H=Z)(I:i<j)(K:F5 x=J x)(D:AM.pQ PP H 25 (.sl d o a c 14) (J (.int .i64 (.ofNat i))) (J (.int .i64 (.ofNat j))) (J (.int .i64 (.ofNat a)))=J x)(E:∀H,AM.pQ PP H 25 (.sl d o a c 14) Z (J (.int .i64 (.ofNat i))) Z=J (.sl d o i b 14))(F:∀H,AM.pQ PP H 25 (.sl d o a c 14) (J (.int .i64 (.ofNat j))) Z Z=J (.sl d (o+j*14) (a-j) g 14))(G:AM.pQ PP (H.resume q) 25 (.sl d o (i+(a-j)) b 14) (J (.int .i64 (.ofNat (i+(a-j))))) (J (.int .i64 (.ofNat a))) Z=J (.sl d (o+(i+(a-j))*14) (a-(i+(a-j))) r 14))(w:qK H.fresh 14 (a-j) (.sl d (o+j*14) (a-j) g 14)=J y)(u:nz H.fresh 32 14 152 (.sl d o i b 14) y (a-j)=J (.sl d o (i+(a-j)) b 14,q))(s:q.cK=[])(h:a-(i+(a-j))≠0)(t:(H.resume q).store d (o+(i+(a-j))*14) (kU (a-(i+(a-j))) z)=J e):G2 PP k 442 [.sl d o a c 14,ix i,ix j] H (.sl d o (i+(a-j)) b 14) e:=by
 refine dY.ev (fr:={fn:=442,n:=33,tmps:=((Tr.nil.ins 0 (.sl d o a c 14)).ins 1 (ix i)).ins 2 (ix j),todo:=[.code ((f442.body).getD .skip)],defers:=[],mode:=.run,roundOf:=Z}) (by unfold wT;rw[func442];kernel_rfl) v ?_;obtain⟨f,A,B,q3⟩:=Ma VV;have t1:rj (bq f442 5) 2 6=V:=by rfl
 have t2:rj (bq f442 5) 5 6=V:=by rfl
 have t3:wj (bq f442 5)=V:=by rfl
 simp(config:={maxSteps:=1000000})only[bq,opsOf,f442,go_sem]at t1 t2 t3;have d6:ai (.ofNat i) (.ofNat j)=C:=by show aw i j=C;grind[iW]
 have d7:decide (a-(i+(a-j))=0)=C:=wS h;show dY PP k {fn:=442,n:=33,tmps:=_,todo:=[.code (Code.seq _ _)],defers:=[],mode:=.run,roundOf:=Z} H _;iterate 12(refine dY.step 0 (λm h=>by simp only[go_sem,D,d6];rfl) ?_)
 refine dY.step 0 (λm h=>by
 simp only[go_sem,t3];iterate 8 rw[Gs];simp only[go_sem,p,l,A,B,q3,t1,t2,E,F,w,u,s,auT,ov,Bool.or_true,ey,tX,yW]
 rfl) ?_;iterate 5(refine dY.step 0 (λm h=>by simp only[go_sem,p,l,G,d7,t];rfl) ?_)
 exact dY.fin (by rfl) rfl
theorem aJd:dw cf (bq f3 5)=V:=by rfl
theorem aIk:dw cf (bq f11 6)=V:=by rfl
theorem aIO:dw cf (bq f24 8)=V:=by rfl
theorem aIN:dw cf (bq f24 15)=V:=by rfl
theorem aIP:dw cf (bq f25 8)=V:=by rfl
theorem aI2:dw cf (bq f31 6)=V:=by rfl
theorem aI6:dw cf (bq f32 6)=V:=by rfl
theorem aJf:dw cf (bq f41 17)=V:=by rfl
theorem aJh:dw cf (bq f44 6)=V:=by rfl
theorem aJg:dw cf (bq f44 11)=V:=by rfl
theorem aJi:dw cf (bq f59 14)=V:=by rfl
theorem aJj:dw cf (bq f68 15)=V:=by rfl
theorem aJk:dw cf (bq f70 12)=V:=by rfl
theorem aJl:dw cf (bq f71 9)=V:=by rfl
theorem aJm:dw cf (bq f72 6)=V:=by rfl
theorem aJn:dw cf (bq f73 6)=V:=by rfl
theorem aJo:dw cf (bq f91 1)=V:=by rfl
theorem aJp:dw cf (bq f94 10)=V:=by rfl
theorem aJq:dw cf (bq f95 4)=V:=by rfl
theorem aIi:dw cf (bq f109 6)=V:=by rfl
theorem aIj:dw cf (bq f117 6)=V:=by rfl
theorem aIl:dw cf (bq f121 6)=V:=by rfl
theorem aIm:dw cf (bq f130 15)=V:=by rfl
theorem aIn:dw cf (bq f134 10)=V:=by rfl
theorem aIp:dw cf (bq f137 6)=V:=by rfl
theorem aIo:dw cf (bq f137 13)=V:=by rfl
theorem aIq:dw cf (bq f141 4)=V:=by rfl
theorem aIr:dw cf (bq f142 6)=V:=by rfl
theorem aIs:dw cf (bq f143 6)=V:=by rfl
theorem aIt:dw cf (bq f165 9)=V:=by rfl
theorem aIu:dw cf (bq f174 11)=V:=by rfl
theorem aIv:dw cf (bq f177 3)=V:=by rfl
theorem aIw:dw cf (bq f179 4)=V:=by rfl
theorem aIx:dw cf (bq f179 6)=V:=by rfl
theorem aIy:dw cf (bq f179 7)=V:=by rfl
theorem aIz:dw cf (bq f185 10)=V:=by rfl
theorem aIA:dw cf (bq f198 10)=V:=by rfl
theorem aIC:dw cf (bq f201 8)=V:=by rfl
theorem aID:dw cf (bq f201 9)=V:=by rfl
theorem aIB:dw cf (bq f201 12)=V:=by rfl
theorem aIE:dw cf (bq f203 4)=V:=by rfl
theorem aIF:dw cf (bq f205 21)=V:=by rfl
theorem aIG:dw cf (bq f206 6)=V:=by rfl
theorem aIH:dw cf (bq f207 6)=V:=by rfl
theorem aII:dw cf (bq f208 6)=V:=by rfl
theorem aIJ:dw cf (bq f243 10)=V:=by rfl
theorem aIM:dw cf (bq f249 9)=V:=aI
theorem aIL:dw cf (bq f249 11)=V:=aI
theorem aIR:dw cf (bq f262 9)=V:=by rfl
theorem aIQ:dw cf (bq f262 12)=V:=by rfl
theorem aIS:dw cf (bq f265 5)=V:=by rfl
theorem aIT:dw cf (bq f268 5)=V:=aI
theorem aIU:dw cf (bq f268 6)=V:=aI
theorem aIV:dw cf (bq f269 6)=V:=by rfl
theorem aIW:dw cf (bq f270 4)=V:=by rfl
theorem aIZ:dw cf (bq f271 3)=V:=aI
theorem aI0:dw cf (bq f271 5)=V:=aI
theorem aI1:dw cf (bq f271 7)=V:=aI
theorem aIX:dw cf (bq f271 11)=V:=by rfl
theorem aIY:dw cf (bq f271 13)=V:=aI
theorem aI3:dw cf (bq f329 3)=V:=by rfl
theorem aI4:dw cf (bq f329 5)=V:=by rfl
theorem aI5:dw cf (bq f329 6)=V:=by rfl
theorem aI7:dw cf (bq f334 4)=V:=aI
theorem aI8:dw cf (bq f334 5)=V:=aI
theorem aI9:dw cf (bq f337 12)=V:=aI
theorem aJb:dw cf (bq f382 10)=V:=aI
theorem aJc:dw cf (bq f385 5)=V:=by rfl
theorem aGP:D6 cf (bq f59 17)=[(1,2)]:=by rfl
theorem aG5:oK cf cB (bq f59 17)=V:=by rfl
theorem aGM:D6 cf (bq f183 13)=[(7,8)]:=by rfl
theorem aG2:oK cf cB (bq f183 13)=V:=by rfl
theorem aGN:D6 cf (bq f183 18)=[(1,2)]:=by rfl
theorem aG3:oK cf cB (bq f183 18)=V:=by rfl
theorem aGO:D6 cf (bq f389 1)=[(1,4)]:=by rfl
theorem aG4:oK cf cB (bq f389 1)=V:=by rfl
theorem uy{c:cj}{b:bz}{t:Tg b}{s:St}{d:ah Nat}{f:bt->ah bt}(h:(exec P c (ev P c) d b s (rU P c (.mk b t) d)).bind f=J R):(pL (ev P c) (.mk b t) s d).bind f=J R:=by obtain⟨r,hr,k⟩:=aE h;grind[ar0]
theorem Bl{i:Nat}(h:i<9223372036854775808):fS .i64 (dI i)=dI i:=by show(bif cM i _ then dI i else _)=_;grind[vy]
theorem Ob{b:Nat}:Int.add (dI a) (dI b)=dI (a+b):=rfl
def Jf:cT->Nat->SV->cT|[],n,x=>[(n,x)]|(m,y)::t,n,x=>bif aw m n then(n,x)::t else(m,y)::Jf t n x
theorem aEV{n:Nat}{x:SV}:Jf [] n x=[(n,x)]:=rfl
theorem aEU{m n:Nat}{x y:SV}{t:cT}:Jf ((m,y)::t) n x=if m=n then(n,x)::t else(m,y)::Jf t n x:=by show cond _ _ _=_;simp_all
def gH:cT->cT->cT|sl,[]=>sl|sl,(k,v)::t=>gH (Jf sl k v) t
theorem aKZ{s:cT}:gH s []=s:=rfl
theorem aKY{s:cT}{x:Nat×SV}{t:cT}:gH s (x::t)=gH (Jf s x.1 x.2) t:=rfl
abbrev iS(i:Nat):SV:=.dv (.int .i64 (.ofNat i)) .no
abbrev zS(i:Int):SV:=.dv (.int .i64 i) .no
abbrev vI(i:Int):bt:=.val (.dv (.int .i64 i) .no) .empty
abbrev vB(b:Bool):bt:=.val (.dv (.bool b) .no) .empty
theorem IQ{c:Type}{b:bz}{t:Tg b}{r:ah Nat}{k:eJ->ah bt}{g:St}(a:List α)(f:c)(S:Nat->c->St)(G:Nat->List α->c->bt)(I:Nat->List α->c->Prop)(o:a.length<9223372036854775807)(e:S 0 f=g)(n:I 0 a f)(h:G 0 a f=R)(j:∀s,I a.length [] s->(exec PP cf (ev PP cf) r b (S a.length s) (rU PP cf (.mk b t) r)).bind (jm k)=J (G a.length [] s))(m:∀i x l s,(i<a.length)=True->a[i]?=J x->fS .i64 (Int.add (dI i) 1)=dI (i+1)->I i (x::l) s->(∀d,I (i+1) l d->(pL (ev PP cf) (.mk b t) (S (i+1) d) r).bind (jm k)=J (G (i+1) l d))->(exec PP cf (ev PP cf) r b (S i s) (rU PP cf (.mk b t) r)).bind (jm k)=J (G i (x::l) s)):(pL (ev PP cf) (.mk b t) g r).bind (jm k)=J R:=by
 have y:∀(l:List α)(i:Nat)(s:c),i+l.length=a.length->a.drop i=l->I i l s->(pL (ev PP cf) (.mk b t) (S i s) r).bind (jm k)=J (G i l s):=by intro l;induction l<;>grind[uy,Bt,xO,zT]
 grind
theorem iB{f:Type}{b:bz}{t:Tg b}{r:ah Nat}{k:eJ->ah bt}{a:St}(c:List α)(d:f)(u:Nat->f->cT)(G:Nat->List α->f->bt)(I:Nat->List α->f->Prop)(o:c.length<9223372036854775807)(e:gH a.sl (u 0 d)=a.sl)(n:I 0 c d)(h:G 0 c d=R)(j:∀s,I c.length [] s->(exec PP cf (ev PP cf) r b ⟨a.fn,a.n,gH a.sl (u c.length s),a.lb,a.g⟩ (rU PP cf (.mk b t) r)).bind (jm k)=J (G c.length [] s))(m:∀i x l s,(i<c.length)=True->c[i]?=J x->fS .i64 (Int.add (dI i) 1)=dI (i+1)->I i (x::l) s->(∀g,I (i+1) l g->(pL (ev PP cf) (.mk b t) ⟨a.fn,a.n,gH a.sl (u (i+1) g),a.lb,a.g⟩ r).bind (jm k)=J (G (i+1) l g))->(exec PP cf (ev PP cf) r b ⟨a.fn,a.n,gH a.sl (u i s),a.lb,a.g⟩ (rU PP cf (.mk b t) r)).bind (jm k)=J (G i (x::l) s)):(pL (ev PP cf) (.mk b t) a r).bind (jm k)=J R:=IQ c d (λi s=>⟨a.fn,a.n,gH a.sl (u i s),a.lb,a.g⟩) G I o aP n h j m
theorem dJ{b:bz}{t:Tg b}{r:ah Nat}{k:eJ->ah bt}{s:St}(a:List α)(u:Nat->cT)(G:Nat->List α->bt)(f:a.length<9223372036854775807)(e:gH s.sl (u 0)=s.sl)(c:G 0 a=R)(h:(exec PP cf (ev PP cf) r b ⟨s.fn,s.n,gH s.sl (u a.length),s.lb,s.g⟩ (rU PP cf (.mk b t) r)).bind (jm k)=J (G a.length []))(d:∀i x l,(i<a.length)=True->a[i]?=J x->fS .i64 (Int.add (dI i) 1)=dI (i+1)->(pL (ev PP cf) (.mk b t) ⟨s.fn,s.n,gH s.sl (u (i+1)),s.lb,s.g⟩ r).bind (jm k)=J (G (i+1) l)->(exec PP cf (ev PP cf) r b ⟨s.fn,s.n,gH s.sl (u i),s.lb,s.g⟩ (rU PP cf (.mk b t) r)).bind (jm k)=J (G i (x::l))):(pL (ev PP cf) (.mk b t) s r).bind (jm k)=J R:=iB a () (λi _=>u i) (λi l _=>G i l) (λ_ _ _=>True) f e trivial c (λ_ _=>h) λi x l _ hi g w _ j=>d i x l hi g w (j () trivial)
def sB(x:ah bt)(v:SV):Prop:=∃g,x=J (.val v g)
theorem akY{w:SV}:sB (J (.val v g)) w=(v=w):=propext ⟨λ⟨_,h⟩=>aj,λh=>by subst h;exact⟨g,rfl⟩⟩
theorem wv{c:cj}{r:eK}{z:Bool}{A B:xW}(h:z=V->sB (sY P c r A) v)(a:z=C->sB (sY P c r B) v):sB (bif z then W P c r A else W P c r B) v:=by
 cases z;.exact a rfl
 .exact h rfl
theorem Oe{c:cj}{f n:Nat}{b:Func}{d:bz}{r:List ResultVar}{a:aA}(i:P.funcs[f]?=J b)(h:sB (exec P c (ev P c) Z d ⟨f,n,Ae 0 ow a,[],g⟩ (Nk P r)) v)(e:b.body=J d:=by rfl)(k:b.results=⟨r⟩:=by rfl)(t:b.ntmps=n:=by rfl)(p:c.ko f a=Z:=by rfl)(j:(DD (r.map A9)&&bV a.length n)=V:=by rfl):sB (ev P c (.call f a ow g)) v:=h.imp λ_ h=>aK i h e k t p j
theorem Mp{d:Type}{b:bz}{t:Tg b}{r:ah Nat}{k:eJ->ah bt}{g:St}{R:SV}(a:List α)(f:d)(S:Nat->d->St)(G:Nat->List α->d->SV)(I:Nat->List α->d->Prop)(w:a.length<9223372036854775807)(e:S 0 f=g)(v:I 0 a f)(u:G 0 a f=R)(n:∀s,I a.length [] s->sB ((exec PP cf (ev PP cf) r b (S a.length s) (rU PP cf (.mk b t) r)).bind (jm k)) (G a.length [] s))(o:∀i x l s,(i<a.length)=True->a[i]?=J x->fS .i64 (Int.add (dI i) 1)=dI (i+1)->I i (x::l) s->(∀c,I (i+1) l c->sB ((pL (ev PP cf) (.mk b t) (S (i+1) c) r).bind (jm k)) (G (i+1) l c))->sB ((exec PP cf (ev PP cf) r b (S i s) (rU PP cf (.mk b t) r)).bind (jm k)) (G i (x::l) s)):sB ((pL (ev PP cf) (.mk b t) g r).bind (jm k)) R:=by
 have y:∀(l:List α)(i:Nat)(s:d),i+l.length=a.length->a.drop i=l->I i l s->sB ((pL (ev PP cf) (.mk b t) (S i s) r).bind (jm k)) (G i l s):=by intro l;induction l with|nil=>intro i s hi _ h;obtain rfl:i=a.length:=ae;exact(n s h).imp λ_ h=>uy h|cons x l q=>
  intro i s hi hd h;have j:i<a.length:=aj;have p:a[i]?=J x:=by grind[Bt]
  refine(o i x l s (ki j) p (xO ae) h λc m=>q _ c aj ?_ m).imp λ_ h=>uy h;grind[zT]
 grind
theorem alW{o:GO}:GH.empty.alloc o=⟨1,[(0,o)]⟩:=rfl
theorem aBH:GH.empty.next=0:=rfl
theorem alX{n:Nat}{l:List (Nat×GO)}{o:GO}:(GH.mk n l).alloc o=⟨n+1,put l n o⟩:=rfl
theorem auA{n i:Nat}{l:List (Nat×GO)}:(GH.mk n l).get i=look l i:=rfl
theorem aHr{n i:Nat}{l:List (Nat×GO)}{o:GO}:(GH.mk n l).set i o=⟨n,put l i o⟩:=rfl
theorem Hm{m:aA}{n j:Nat}(h:l.length=n):(l++m)[n+j]?=m[j]?:=aj
theorem abU{m:aA}{n:Nat}(h:l.length=n):(l++m).take n=l:=aP
section
variable{e:Expr}{p:ab}{q:cR}{m:aA}
theorem eg8:(e.cells++m)[8]?=m[0]?:=Hm (j:=0) e.eN
theorem eg9:(e.cells++m)[9]?=m[1]?:=Hm (j:=1) e.eN
theorem apd:(e.cells++m)[10]?=m[2]?:=Hm (j:=2) e.eN
theorem ape:(e.cells++m)[11]?=m[3]?:=Hm (j:=3) e.eN
theorem apf:(e.cells++m)[12]?=m[4]?:=Hm (j:=4) e.eN
theorem et8:(e.cells++m).take 8=e.cells:=abU e.eN
theorem aDZ:(p.cells++m)[14]?=m[0]?:=Hm (j:=0) p.eN
theorem aEC:(p.cells++m).take 14=p.cells:=abU p.eN
end
theorem aGU{k:gZ}{n:Int}:(DV.int k n).bj=V:=rfl
theorem aGY{s:an}:(DV.str s).bj=V:=rfl
theorem aGR{b:Bool}:(DV.bool b).bj=V:=rfl
theorem aGT{f:Nat}{a b:aA}:(DV.func f a b).bj=V:=rfl
theorem aGV{n:Nat}:(DV.ay l e n).bj=V:=rfl
theorem aGW:DV.nl.bj=V:=rfl
theorem aGX{b:Nat}:(DV.ptr a b).bj=V:=rfl
theorem aKS{b:Bool}:JH .not (.bool b)=J (.bool (!b)):=rfl
theorem aKR{k:gZ}{n:Int}:JH .neg (.int k n)=J (.int k (fS k (nS 0 n))):=rfl
theorem aJM{a:St}{d:ah Tmp}{x:aH}{v:DV}{s:Nat}:RJ P t a d x v ow (.lp s D)=(look a.lb s).bind λb=>(zh P t b D v ow).bind λb=>aJ {aQ leave a x with sl:=cV (aQ leave a x).sl,lb:=put a.lb s b} d (.tp []):=(rfl)
theorem aJK{b:LB}{v:DV}{o:aX}:zh P t b D v o=(bC P t).bind λn=>bif aw v.flat.length n&&bV (D+n) b.cells.length then J ⟨pR b.cells D v.flat,qn D v o++dB b.own D n⟩else Z:=(rfl)
theorem aDB{v:DV}:qn D v .no=[]:=by simp[qn]
theorem aDz{v:DV}:qn D v .any=[]:=by simp[qn]
theorem aDA{n:Nat}:qn D (.ay l e n) (.ex e)=[(D,.ex e)]:=rfl
theorem ao7{n:Nat}:dB [] D n=[]:=rfl
theorem aD1{c:dX}{l:an}:MQ c (a::l)=(match look c a with|some b=>[(a,b)]|none=>[])++MQ c (l.filter λb=>!(b==a)):=by grind[MQ]
theorem aBq{s:St}{x:aH}{d:Nat}{u:jq}{l:List (DV×aX)}:uR s x d u (.tp l)=aJ (aQ leave s x) (J d) (.tp l):=(rfl)
theorem alZ{x:DV×aX}{l:List (DV×aX)}:((x::l).all λx=>x.1.pure)=(x.1.pure&&l.all λx=>x.1.pure):=rfl
theorem al1{x:DV×aX}{l:List (DV×aX)}:((x::l).all λx=>x.1.plain)=(x.1.plain&&l.all λx=>x.1.plain):=rfl
theorem al0:(([]:List (DV×aX)).all λx=>x.1.pure)=V:=rfl
theorem al2:(([]:List (DV×aX)).all λx=>x.1.plain)=V:=rfl
def rh(P:aM)(t:al):ah (List (Nat×Nat)):=match P.underlying t with|some (.struct i)=>cE (λ(f:Field)=>(bC P f.type).map λn=>(f.offset,n)) i.toList|_=>Z
theorem anb{s:St}{d:ah Tmp}{p:List (Nat×DV)}{z:DV}(h:(rh P t).isSome=V):Tc P t s d p z=(rh P t).bind λa=>(BT (λi=>oW a i) p z.flat).bind λl=>aJ s d (.dv (.agg l) .no):=by grind[rh,Tc]
theorem as1{p:Nat->ah (Nat×Nat)}:BT p [] l=J l:=rfl
theorem as0{l:Nat->ah (Nat×Nat)}{p:Nat×DV}{t:List (Nat×DV)}{c:aA}:BT l (p::t) c=(l p.1).bind λo=>bif aw p.2.flat.length o.2&&bV (o.1+o.2) c.length then BT l t (pR c o.1 p.2.flat)else Z:=rfl
theorem aCb{a:α}{l:List α}:oW (a::l) 0=J a:=rfl
theorem aCc{a:α}{l:List α}{i:Nat}:oW (a::l) (i+1)=oW l i:=rfl
theorem EV{f:bS}{a:aA}(h:cf.ko f a=J (J v))(b:(aw (cf.fk f) 2&&!v8 ow)=C):ev PP cf (.call f a ow g)=J (.val v g):=by apply Pb;show(match cf.ko f _ with|some r=>bif aw _ 2&&!v8 ow then Z else r.map _|none=>_)=_;grind
theorem apw{b:Nat}:ai (.ofNat a) (.ofNat b)=decide (a=b):=S3
theorem aoR[DecidableEq α]{a:α}:decide (a=a)=V:=aP
theorem eP{a b:Int}:ao a b=decide (a<b):=by cases a<;>cases b<;>simp only[ao,S7,wH,Int.negSucc_eq]<;>first|exact decide_eq_decide.2 ae|exact(wS ae).symm|grind
theorem kO{a b:Int}:ai a b=decide (a=b):=by cases a<;>cases b<;>simp only[ai,S3,wH,Int.negSucc_eq]<;>first|exact decide_eq_decide.2 ae|rfl
theorem apx{n:Nat}:ai (.ofNat (n+1)) 0=C:=rfl
section
variable{l:aA}
theorem aDJ{l:List jX}:cF (l.map jX.d)=V:=lz (λ_=>rfl) _
theorem aDM{l:List bJ}:cF (l.map bJ.d)=V:=lz bJ.pure _
theorem aDO{l:List dg}:cF (l.map dg.d)=V:=lz (λ_=>rfl) _
theorem W6{l:bT}:cF (l.map iD)=V:=lz (λ_=>rfl) _
theorem aDL{l:List fU}:cF (l.map fU.d)=V:=lz (λ_=>rfl) _
theorem aDK{l:List Guard}:cF (l.map Guard.d)=V:=lz Guard.pure _
theorem aDI{l:bR}:cF (l.map Edge.d)=V:=lz Edge.pure _
theorem aDN{l:List Stat}:cF (l.map Stat.d)=V:=lz Stat.pure _
end
theorem aDW{c:aA}:lO P t c D=(AM.isAgg P t).bind λa=>bif a then(bC P t).bind λn=>bif bV (D+n) c.length then J (.agg ((c.drop D).take n))else Z else c[D]?:=by grind[lO]
theorem aA1{n:Nat}:decide (n<n)=C:=aP
attribute[go_sem]aEU aEV aBq alZ al1 al0 al2 anb as1 as0 aCb aCc aDJ aDM aDO W6 aDL aDK aDI aDN akY alW aBH alX auA aHr apw aoR aD1 zN Sy Nat.reduceBNe aJM aJK aDB aDz aDA ao7 pR dk apx aKS aKR aGU aGY aGR aGT aGV aGW aGX eg8 eg9 apd ape apf et8 aDZ aEC kr db iS zS vI vB iD hZ vD yN pC Guard.cells Guard.d Guard.eN fU.d Edge.d Edge.cells Edge.eN Stat.d RI HF bm.cells jX.d HY bJ.d ep dg.d ic cR.eN aGS aDW aA1 dU lE iE aKZ aKY
theorem aJs:rh PP 127=J [(0,1)]:=aI
theorem aJu:rh PP 195=J [(0,1),(1,1),(2,1)]:=aI
theorem aJv:rh PP 259=J [(0,1),(1,1),(2,1)]:=aI
theorem aJw:rh PP 267=J [(0,1),(1,1)]:=aI
theorem aJx:rh PP 276=J [(0,1),(1,1),(2,1)]:=aI
theorem aJz:rh PP 283=J [(0,17),(17,1),(18,14)]:=aI
theorem aJC:rh PP 335=J [(0,1),(1,14)]:=aI
theorem aJy:rh PP 28=J [(0,1),(1,1),(2,1)]:=aI
theorem aJA:rh PP 30=J [(0,1),(1,1),(2,1),(3,1),(4,1),(5,3)]:=aI
theorem aJB:rh PP 32=J [(0,1),(1,1),(2,1),(3,1),(4,1),(5,1),(6,8)]:=aI
theorem aJD:rh PP 38=J [(0,1),(1,1),(2,1),(3,1)]:=aI
theorem aJE:rh PP 60=J [(0,1)]:=aI
theorem aJF:rh PP 64=J [(0,1),(1,1),(2,1),(3,1),(4,8),(12,1),(13,1),(14,1),(15,1),(16,1)]:=aI
theorem aJG:rh PP 96=J [(0,1),(1,1),(2,1),(3,8)]:=aI
theorem aJt:rh PP 174=J [(0,1),(1,1)]:=aI
attribute[go_sem]aJs aJu aJv aJw aJx aJz aJC aJy aJA aJB aJD aJE aJF aJG aJt
mutual
def Expr.nn : Expr -> Nat
  | .mk _ _ args _ _ _ _ _ _ => Expr.aR args + 1
def Expr.aR : List Expr -> Nat
  | [] => 0
  | e :: l => e.nn + Expr.aR l
end
mutual
def Expr.cN (l : Nat) : Expr -> Nat
  | .mk _ _ args _ _ _ _ _ _ => Expr.lI l args 1
def Expr.lI (i : Nat) : List Expr -> Nat -> Nat
  | [], n => n
  | e :: l, n => if i < n then n else Expr.lI i l (n + e.cN i)
end
mutual
theorem Expr.KI (l : Nat) : ∀ e : Expr, e.cN l <= e.nn
  | .mk _ _ args _ _ _ _ _ _ => by
    have := Expr.KK l args 1
    simp only [Expr.cN, Expr.nn]; omega
theorem Expr.KK (i : Nat) : ∀ (l : List Expr) (n : Nat), Expr.lI i l n <= n + Expr.aR l
  | [], n => by simp [Expr.lI, Expr.aR]
  | e :: l, n => by
    have h := Expr.KI i e
    have a := Expr.KK i l (n + e.cN i)
    simp only [Expr.lI, Expr.aR]
    split <;> omega
end
theorem Expr.ji:∀l:List Expr,l.length<=Expr.aR l|[]=>bo _|.mk _ _ _ _ _ _ _ _ _::l=>by have:=Expr.ji l;simp only[Expr.aR,Expr.nn,bU];omega
theorem Expr.lM:∀(l:List Expr)p,p∈l->p.nn<=Expr.aR l
 |[],p,h=>by simp at h|e::l,p,h=>by
  simp only[Expr.aR];rcases List.mem_cons.1 h with rfl|h;.omega
  .have:=Expr.lM l p h;omega
theorem O7(m:Nat):∀e:Expr,e.nn<100000000->CC 36 [.agg e.cells,.int .i64 (.ofNat m)] (vI (.ofNat (e.cN m)))
 |.mk o f args v c g k num str,n=>by
  simp only[Expr.nn]at n;refine aK func36 ?_;simp only[go_sem,f36,Expr.cells,Expr.cN];refine iB args (1:Nat) (λi s=>[(6,iS i),(5,iS s)]) (λ_ l s=>vI (.ofNat (Expr.lI m l s))) (λ_ l s=>s+Expr.aR l<100000000) (by have:=Expr.ji args;omega) rfl ae rfl (λs _=>?_) (λi x l s hi a w I b=>?_);.simp only[go_sem,Expr.lI]
  . simp only[Expr.aR]at I;have hr:=O7 m x ae;have d:=Expr.KI m x;by_cases h:m<s;.simp only[go_sem,hi,Expr.lI,h]
    .simp only[go_sem,hi,a,w,hr,Expr.lI,h,Ob,Bl (show s+x.cN m<9223372036854775808 by omega)];exact b _ ae termination_by e=>kb e decreasing_by simp_wf;have:=jY (cI a);omega
mutual
def ab.nn : ab -> Nat
  | .mk _ _ args _ _ _ _ _ => ab.aR args + 1
def ab.aR : aF -> Nat
  | [] => 0
  | e :: l => e.nn + ab.aR l
end
mutual
def ab.cN (l : Nat) : ab -> Nat
  | .mk _ _ args _ _ _ _ _ => ab.lI l args 1
def ab.lI (i : Nat) : aF -> Nat -> Nat
  | [], n => n
  | e :: l, n => if i < n then n else ab.lI i l (n + e.cN i)
end
mutual
theorem ab.KI (l : Nat) : ∀ e : ab, e.cN l <= e.nn
  | .mk _ _ args _ _ _ _ _ => by
    have := ab.KK l args 1
    simp only [ab.cN, ab.nn]; omega
theorem ab.KK (i : Nat) : ∀ (l : aF) (n : Nat), ab.lI i l n <= n + ab.aR l
  | [], n => by simp [ab.lI, ab.aR]
  | e :: l, n => by
    have h := ab.KI i e
    have a := ab.KK i l (n + e.cN i)
    simp only [ab.lI, ab.aR]
    split <;> omega
end
theorem ab.ji:∀l:aF,l.length<=ab.aR l|[]=>bo _|.mk _ _ _ _ _ _ _ _::l=>by have:=ab.ji l;simp only[ab.aR,ab.nn,bU];omega
theorem ab.lM:∀(l:aF)p,p∈l->p.nn<=ab.aR l
 |[],p,h=>by simp at h|e::l,p,h=>by
  simp only[ab.aR];rcases List.mem_cons.1 h with rfl|h;.omega
  .have:=ab.lM l p h;omega
theorem O6(m:Nat):∀e:ab,e.nn<100000000->CC 34 [.agg e.cells,.int .i64 (.ofNat m)] (vI (.ofNat (e.cN m)))
 |.mk g f args t v c p o,n=>by
  simp only[ab.nn]at n;refine aK func34 ?_;simp only[go_sem,f34,ab.cells,ab.cN];refine iB args (1:Nat) (λi s=>[(6,iS i),(5,iS s)]) (λ_ l s=>vI (.ofNat (ab.lI m l s))) (λ_ l s=>s+ab.aR l<100000000) (by have:=ab.ji args;omega) rfl ae rfl (λs _=>?_) (λi x l s hi a w I b=>?_);.simp only[go_sem,ab.lI]
  . simp only[ab.aR]at I;have hr:=O6 m x ae;have d:=ab.KI m x;by_cases h:m<s;.simp only[go_sem,hi,ab.lI,h]
    .simp only[go_sem,hi,a,w,hr,ab.lI,h,Ob,Bl (show s+x.cN m<9223372036854775808 by omega)];exact b _ ae termination_by e=>kb e decreasing_by simp_wf;have:=jY (cI a);omega
mutual
def Expr.dep : Expr -> Nat
  | .mk _ _ args _ _ _ _ _ _ => Expr.kM args 0 + 1
def Expr.kM : List Expr -> Nat -> Nat
  | [], d => d
  | e :: l, d => Expr.kM l (max d e.dep)
end
mutual
theorem Expr.EP : ∀ e : Expr, e.dep <= e.nn
  | .mk _ _ args _ _ _ _ _ _ => by
    have := Expr.BP args 0
    simp only [Expr.dep, Expr.nn]; omega
theorem Expr.BP : ∀ (l : List Expr) (d : Nat), Expr.kM l d <= d + Expr.aR l
  | [], d => by simp [Expr.kM, Expr.aR]
  | e :: l, d => by
    have h := Expr.EP e
    have a := Expr.BP l (max d e.dep)
    simp only [Expr.kM, Expr.aR]; omega
end
theorem Up:∀e:Expr,e.nn<100000000->CC 37 [.agg e.cells] (vI (.ofNat e.dep))
 |.mk o f args v c g k num str,n=>by
  simp only[Expr.nn]at n;refine aK func37 ?_;have hd:=Expr.BP args 0;simp only[go_sem,f37,Expr.cells,Expr.dep];refine iB args (0:Nat) (λi s=>[(4,iS i),(3,iS s)]) (λ_ l s=>vI (.ofNat (Expr.kM l s+1))) (λ_ l s=>s+Expr.aR l<100000000) (by have:=Expr.ji args;omega) rfl ae rfl (λs h=>?_) (λi x l s hi a w h b=>?_);.simp only[Expr.aR]at h;simp only[go_sem,Expr.kM,xO (show s+1<9223372036854775808 by omega)]
  .simp only[Expr.aR]at h;have hr:=Up x ae;have d:=Expr.EP x;simp only[go_sem,hi,a,w,hr,Expr.kM];exact b _ ae termination_by e=>kb e decreasing_by simp_wf;have:=jY (cI a);omega
mutual
def ab.dep : ab -> Nat
  | .mk _ _ args _ _ _ _ _ => ab.kM args 0 + 1
def ab.kM : aF -> Nat -> Nat
  | [], d => d
  | e :: l, d => ab.kM l (max d e.dep)
end
mutual
theorem ab.EP : ∀ e : ab, e.dep <= e.nn
  | .mk _ _ args _ _ _ _ _ => by
    have := ab.BP args 0
    simp only [ab.dep, ab.nn]; omega
theorem ab.BP : ∀ (l : aF) (d : Nat), ab.kM l d <= d + ab.aR l
  | [], d => by simp [ab.kM, ab.aR]
  | e :: l, d => by
    have h := ab.EP e
    have a := ab.BP l (max d e.dep)
    simp only [ab.kM, ab.aR]; omega
end
theorem Ut:∀e:ab,e.nn<100000000->CC 74 [.agg e.cells] (vI (.ofNat e.dep))
 |.mk g f args t v c p o,n=>by
  simp only[ab.nn]at n;refine aK func74 ?_;have hd:=ab.BP args 0;simp only[go_sem,f74,ab.cells,ab.dep];refine iB args (0:Nat) (λi s=>[(4,iS i),(3,iS s)]) (λ_ l s=>vI (.ofNat (ab.kM l s+1))) (λ_ l s=>s+ab.aR l<100000000) (by have:=ab.ji args;omega) rfl ae rfl (λs h=>?_) (λi x l s hi a w h b=>?_);.simp only[ab.aR]at h;simp only[go_sem,ab.kM,xO (show s+1<9223372036854775808 by omega)]
  .simp only[ab.aR]at h;have hr:=Ut x ae;have d:=ab.EP x;simp only[go_sem,hi,a,w,hr,ab.kM];exact b _ ae termination_by e=>kb e decreasing_by simp_wf;have:=jY (cI a);omega
mutual
def nodes : ab -> aF
  | .mk o n args t v s p c => .mk o n args t v s p c :: dL args
def dL : aF -> aF
  | [] => []
  | q :: l => nodes q ++ dL l
end
theorem FV:∀l:aF,(dL l).length=ab.aR l|[]=>rfl|.mk o n args t v s p c::l=>by simp only[dL,nodes,ab.aR,ab.nn,db,bU,FV args,FV l]
theorem yi:∀p:ab,p.nn<1200000->CC 35 [.agg p.cells] (.val (.dv (.ay (ab.aN (nodes p)) 32 14) (.ex 32)) .empty)
 |.mk q m args t r c a ⟨o,f,T,v,d,b,P,e,n⟩,j=>by
  simp only[ab.nn]at j;refine aK func35 ?_;simp only[go_sem,f35,ab.cells,Expr.cells];refine iB args [ab.mk q m args t r c a ⟨o,f,T,v,d,b,P,e,n⟩] (λi s=>[(4,iS i),(3,.dv (.ay (ab.aN s) 32 14) (.ex 32))]) (λ_ l s=>.val (.dv (.ay (ab.aN (s++dL l)) 32 14) (.ex 32)) .empty) (λ_ l s=>s.length+(dL l).length<1200000) (by have:=ab.ji args;omega) rfl (by have:=FV args;simp only[bU,eD];omega) rfl (λs h=>?_) (λi x l s hi g w h k=>?_);.simp only[go_sem,dL,fy]
  . simp only[dL,db]at h;have u:(nodes x).length=x.nn:=by have:=FV [x];simpa[dL,ab.aR]using this
    have hr:=yi x ae;have G:iM 32 14 152 (.ay (ab.aN s) 32 14) (.ex 32) (ab.aN (nodes x))=J (.ay (ab.aN (s++nodes x)) 32 14,.ex 32):=by rw[wN gD (by simp only[ab.jP];show _<=bF;unfold bF;omega) (by simp only[ab.jP];unfold bF;omega),ab.vC]
    simp only[go_sem,hi,g,w,hr,G,dL];rw[<-kr];exact k _ (by simp only[db];omega)termination_by p=>kb p decreasing_by simp_wf;have:=jY (cI g);omega
def Expr.HV(e:Expr):Bool:=bif !(ao 200 (.ofNat (e.cN 200)))then !(ao 100 (.ofNat e.dep))else C
theorem K4(e:Expr)(n:e.nn<100000000):CC 17 [.agg e.cells] (vB e.HV):=by have a:ev PP cf (.call 36 [.agg _,.int _ 200] _ _)=_:=O7 _ e n;have b:=Up e n;refine aK func17 ?_;simp only[go_sem,f17,a,Expr.HV];apply sp<;>intro h<;>simp only[h,go_sem,b]
def within(i n:Int):Bool:=bif !(ao i 0)then ao i n else C
theorem EU(i n:Int):CC 80 [.int .i64 i,.int .i64 n] (.val (.dv (.bool (within i n)) .no) .empty):=by refine aK func80 ?_;simp only[go_sem,f80,within];apply sp<;>intro h<;>simp only[h,go_sem]
def digit(b:Int):Bool:=bif !(ao b 48)then !(ao 57 b)else C
theorem aew(b:Int):CC 98 [.int .u8 b] (.val (.dv (.bool (digit b)) .no) .empty):=by refine aK func98 ?_;simp only[go_sem,f98,digit];apply sp<;>intro h<;>simp only[h,go_sem]
def letter(b:Int):Bool:=bif ai b 95 then V else bif(bif ao b 97 then C else !(ao 122 b))then V else bif ao b 65 then C else !(ao 90 b)
theorem apJ(b:Int):CC 102 [.int .u8 b] (.val (.dv (.bool (letter b)) .no) .empty):=by refine aK func102 ?_;simp only[go_sem,f102,letter];repeat'(with_reducible apply sp<;>intro h<;>simp only[*,go_sem])
theorem ad9(b:Int):CC 238 [.int .u8 b] (vB (digit b)):=by refine aK func238 ?_;simp only[go_sem,f238,digit];repeat'(with_reducible apply sp<;>intro h<;>simp only[*,go_sem])
theorem aqj(b:Int):CC 192 [.int .u8 b] (vB (digit b)):=by refine aK func192 ?_;simp only[go_sem,f192,digit];repeat'(with_reducible apply sp<;>intro h<;>simp only[*,go_sem])
theorem aqu(b:Int):CC 239 [.int .u8 b] (vB (letter b)):=by refine aK func239 ?_;simp only[go_sem,f239,letter];repeat'(with_reducible apply sp<;>intro h<;>simp only[*,go_sem])
theorem adO(b:Int):CC 127 [.int .u8 b] (vB (letter b)):=by refine aK func127 ?_;simp only[go_sem,f127,letter];repeat'(with_reducible apply sp<;>intro h<;>simp only[*,go_sem])
theorem aed(b:Int):CC 259 [.int .u8 b] (vB (letter b)):=by
 refine aK func259 ?_;simp only[go_sem,f259,letter];repeat'(with_reducible apply sp<;>intro h<;>simp only[*,go_sem])
 all_goals grind
def word(b:Nat):Bool:=bif letter (.ofNat b)then V else digit (.ofNat b)
def sS:an->Bool|[]=>C|c::t=>bif ao 24 (.ofNat (t.length+1))then C else bif digit (.ofNat c)then C else(c::t).all word
theorem adZ(s:an)(d:s.length<1200000):CC 166 [.str s] (vB (sS s)):=by refine aK func166 ?_;cases s with|nil=>rfl|cons c t=>
 simp only[go_sem,f166,sS];repeat'(with_reducible apply sp<;>intro h<;>simp only[*,ad9,go_sem])
 refine dJ (c::t) (λi=>[(19,iS i)]) (λ_ l=>vB (l.all word)) ae rfl rfl ?_ (λi x l hi a w b=>?_);.simp only[go_sem,nu]
 .rw[bU]at hi;simp only[go_sem,hi,a,kY,aqu,word]at b|-;repeat'(with_reducible apply sp<;>intro h<;>simp only[*,ad9,go_sem])
theorem apW(s:an)(c:s.length<1200000):CC 128 [.str s,.int .i64 0] (vI (.ofNat (s.takeWhile word).length)):=by
 refine aK func128 ?_;simp only[go_sem,f128];refine dJ s (λi=>[(1,iS i)]) (λi l=>vI (.ofNat (i+(l.takeWhile word).length))) ae rfl aO ?_ (λi x l hi a w b=>?_);.simp only[go_sem];rfl
 . simp only[go_sem,hi,a,List.takeWhile_cons,adO,word]at b|-;repeat'(with_reducible apply sp<;>intro h<;>simp only[*,aqj,go_sem])
   all_goals grind
def IL:List an:=[[97,108,108],[97,108,116],[97,110,100],[98,111,111,108],[98,121],[99,111,117,110,116],[102,97,108,115,101],[102,105,114,115,116],[105,102],[105,110,116],[108,97,99,107,115],[108,97,115,116],[109,97,116,99,104],[109,97,120],[109,105,110],[110,111,116],[111,114],[112,108,117,115],[113,117,101,114,121],[114,101,116,117,114,110],[115,101,113],[115,116,114,105,110,103],[115,117,109],[116,105,109,101],[116,114,117,101],[116,121,112,101],[119,104,101,114,101],[119,105,116,104,105,110]]
theorem apX(s:an):CC 129 [.str s] (vB (IL.any λw=>decide (s=w))):=by refine aK func129 ?_;simp only[go_sem,f129,IL];repeat'(with_reducible apply sp<;>intro h<;>simp only[*,go_sem])
theorem apI(b:Int):CC 101 [.int .u8 b] (vB (bif letter b then C else !digit b)):=by refine aK func101 ?_;simp only[go_sem,f101,apJ];repeat'(with_reducible apply sp<;>intro h<;>simp only[*,aew,go_sem])
end Go.VM
namespace Go.VM
open Go Go.AM Proofs.Tryz
variable{t:Nat}
attribute[local congr]cC cD
set_option maxRecDepth 100000
def ac3(f:Nat)(i c:aA)(g:GH)(a:aA)(b:Bool):Prop:=cf.fk f=0/\cf.eF f=C/\ev PP cf (.call f (i++a++c) .no g)=J (.val (.dv (.bool b) .no) g)\/cf.fk f=3/\cf.eF f=V/\cF (i++a++c)=V/\ev PP cf (.call f (i++a++c) .no .empty)=J (vB b)
def fD{a:Type}(q:a->Bool):List a->Nat->Int|[],_=>-1|x::l,i=>bif q x then .ofNat i else fD q l (i+1)
theorem FF{a:Type}{q:a->Bool}:∀(l:List a)(i:Nat),ao (fD q l i) 0=!(l.any q)|[],_=>rfl|x::l,i=>by simp only[fD,nv];cases q x with|true=>rfl|false=>rw[bg,vp];exact FF l (i+1)
section
variable{α:Type}{d:α->DV}{q:α->Bool}(f:Nat)(fi ca:aA)(g:GH)(nl:Bool)(xs:List α)(hl:xs.length<1000000000)(hq:∀x,x∈xs->ac3 f fi ca g [d x] (q x))
include hl hq
theorem Uv{n m:Nat}(p:(n,t,m)=(157,96,11)\/(n,t,m)=(162,174,2)\/(n,t,m)=(325,64,17)\/(n,t,m)=(253,32,14))(s:∀x:α,(d x).bj=C/\(d x).flat.length=m):ev PP cf (.call n [cp nl (xs.map d) t m,.func f fi ca] .no g)=J (.val (.dv (.int .i64 (fD q xs 0)) .no) g):=by
 rcases p with h|h|h|h<;>cases h<;>first|refine aK func157 ?_|refine aK func162 ?_|refine aK func325 ?_|refine aK func253 ?_
 all_goals
 simp only[go_sem,f157,f162,f325,f253];refine dJ xs (λi=>[(8,iS i)]) (λi l=>.val (.dv (.int _ (fD q l i)) _) g) ae rfl rfl ?_ (λi x l hi e w k=>?_);.simp only[go_sem,fD]
 . obtain⟨o,A⟩:=s x;rcases hq x (cI e)with⟨b,c,a⟩|⟨b,c,j,a⟩;.simp only[go_sem,hi,e,o,A,fD]at a k|-;simp only[go_sem,b,c,a];apply sp<;>intro h<;>simp only[*,go_sem]
   .simp only[go_sem,hi,e,o,A,fD]at a j k|-;simp only[go_sem,b,c,a,j];apply sp<;>intro h<;>simp only[*,go_sem]
theorem arY{n:Nat}(o:(n,t)=(163,3)\/(n,t)=(169,5))(s:∀x:α,(d x).bj=V/\cF [d x]=V):ev PP cf (.call n [cp nl (xs.map d) t 1,.func f fi ca] .no g)=J (.val (.dv (.int .i64 (fD q xs 0)) .no) g):=by
 rcases o with h|h<;>cases h<;>first|refine aK func163 ?_|refine aK func169 ?_
 all_goals
 simp only[go_sem,f163,f169];refine dJ xs (λi=>[(8,iS i)]) (λi l=>.val (.dv (.int _ (fD q l i)) _) g) ae rfl rfl ?_ (λi x l hi e w k=>?_);.simp only[go_sem,fD]
 . obtain⟨m,A⟩:=s x;rcases hq x (cI e)with⟨b,c,a⟩|⟨b,c,j,a⟩;.simp only[go_sem,hi,e,m,A,fD]at a k|-;simp only[go_sem,b,c,a];apply sp<;>intro h<;>simp only[*,go_sem]
   .simp only[go_sem,hi,e,m,A,fD]at a j k|-;simp only[go_sem,b,c,a,j];apply sp<;>intro h<;>simp only[*,go_sem]
theorem Uu{n m:Nat}(a:(n,t,m)=(81,96,11)\/(n,t,m)=(86,174,2)\/(n,t,m)=(250,64,17))(s:∀x:α,(d x).bj=C/\(d x).flat.length=m):ev PP cf (.call n [cp nl (xs.map d) t m,.func f fi ca] .no g)=J (.val (.dv (.bool (xs.any q)) .no) g):=by
 have k:=@Uv t _ _ _ f fi ca g nl xs hl hq;rcases a with h|h|h<;>cases h;.have h:=k (.inl rfl) s;refine aK func81 ?_;simp only[go_sem,f81,h,FF,J0]
 .have h:=k (.inr (.inl rfl)) s;refine aK func86 ?_;simp only[go_sem,f86,h,FF,J0]
 .have h:=k (.inr (.inr (.inl rfl))) s;refine aK func250 ?_;simp only[go_sem,f250,h,FF,J0]
theorem aex{n:Nat}(a:(n,t)=(90,3)\/(n,t)=(100,5))(s:∀x:α,(d x).bj=V/\cF [d x]=V):ev PP cf (.call n [cp nl (xs.map d) t 1,.func f fi ca] .no g)=J (.val (.dv (.bool (xs.any q)) .no) g):=by
 have k:=@arY t _ _ _ f fi ca g nl xs hl hq;rcases a with h|h<;>cases h;.have h:=k (.inl rfl) s;refine aK func90 ?_;simp only[go_sem,f90,h,FF,J0]
 .have h:=k (.inr rfl) s;refine aK func100 ?_;simp only[go_sem,f100,h,FF,J0]
end
end Go.VM
namespace Go.VM
open Go Go.AM Proofs.Tryz
attribute[local congr]cC cD
set_option maxRecDepth 100000
def Du(a b:an):Int:=match uO b 0 a with|some i=>.ofNat i|none=>-1
theorem aq2(a b:an)(h:a.length<1000000000):CC 315 [.str a,.str b] (vI (Du a b)):=by
 refine(EV (v:=.dv (match uO b 0 a with|some i=>goN i|none=>.int .i64 (-1)) .no) ?_ rfl).trans ?_;.show(bif cM _ _ then _ else _)=_;grind[fB]
 unfold Du;cases uO b 0 a<;>rfl
theorem aqw(a b:an)(h:a.length<1000000000):CC 240 [.str a,.str b] (vI (Du a b)):=by refine aK func240 ?_;simp only[go_sem,f240,aq2 a b h]
theorem ad0(a b:an)(h:a.length<1000000000):CC 168 [.str a,.str b] (vB (!ao (Du a b) 0)):=by refine aK func168 ?_;simp only[go_sem,f168,aqw a b h]
def kwT:an:=[32,97,108,108,32,97,108,116,32,97,110,100,32,98,111,111,108,32,98,121,32,99,111,117,110,116,32,102,97,108,115,101,32,102,105,114,115,116,32,105,102,32,105,110,116,32,108,97,99,107,115,32,108,97,115,116,32,109,97,116,99,104,32,109,97,120,32,109,105,110,32,110,111,116,32,111,114,32,112,108,117,115,32,113,117,101,114,121,32,114,101,116,117,114,110,32,115,101,113,32,115,116,114,105,110,103,32,115,117,109,32,116,105,109,101,32,116,114,117,101,32,116,121,112,101,32,119,104,101,114,101,32,119,105,116,104,105,110,32]
def FK(s:an):Bool:=bif decide (s=[])then C else bif ao (Du s [32]) 0 then !ao (Du kwT (32::(s++[32]))) 0 else C
theorem arX(s:an)(b:s.length<1200000):CC 99 [.str s] (vB (FK s)):=by
 refine aK func99 ?_;have a:=ad0 s [32] ae;simp only[go_sem,f99,FK];repeat'(with_reducible apply sp<;>intro h<;>simp only[h,a,acv (show[32].length+s.length<=1000000000 by grind),acv (show(32::s).length+[32].length<=1000000000 by grind),go_sem])
 rw[ad0 _ _ gD];simp only[go_sem];rfl
theorem ahq{b:Int}(h:letter b=V):digit b=C:=by grind[letter,digit,eP,kO]
theorem akq{p:Nat->Bool}:∀l:an,decide ((l.takeWhile p).length=l.length)=l.all p
 |[]=>rfl|x::l=>by
  rw[List.takeWhile_cons,List.all_cons];cases p x;.simp
  .simp[<-akq l]
def Wf(b:Nat):Bool:=bif letter (.ofNat b)then C else !digit (.ofNat b)
theorem abM:∀l:an,l.any Wf=!l.all word|[]=>rfl|x::l=>by simp only[nv,kY,abM l,Wf,word];cases letter (.ofNat x)<;>cases digit (.ofNat x)<;>simp
theorem aeq(s:an)(e:s.length<1200000):CC 52 [.str s] (vI (bif sS s then bif FK s then 8 else 0 else 8)):=by
 refine aK func52 ?_;rcases s with _|⟨c,t⟩;.rfl
 have a:=aex (d:=λb:Nat=>.int .u8 (.ofNat b)) (q:=Wf) 101 [] [] .empty C (c::t) ae (λx _=>.inr ⟨rfl,rfl,rfl,apI _⟩) (.inr rfl) (λ_=>⟨rfl,rfl⟩);rw[abM]at a;simp only[de,cp]at a;simp only[go_sem,f52,sS];repeat'(with_reducible apply sp<;>intro h<;>simp only[h,aew,arX _ e,a,go_sem])
 grind
theorem aet(s:an)(f:s.length<1200000):CC 67 [.str s] (vI (bif sS s then bif IL.any (λw=>decide (s=w))then 8 else 0 else 8)):=by refine aK func67 ?_;cases s with|nil=>rfl|cons c t=>
 have b:=akq (p:=word) (c::t);rw[bU]at b;simp only[go_sem,f67,sS];apply sp<;>intro h<;>simp only[h,adO,go_sem];apply sp<;>intro a<;>simp only[a,apW _ f,go_sem];.simp only[b,ahq a,go_sem];apply sp<;>intro d<;>simp only[d,apX,go_sem];apply sp<;>intro e<;>simp only[e,go_sem]
 grind[word]
end Go.VM
namespace Go.VM
open Go Go.AM Proofs.Tryz
variable{a:Int}{t:al}
attribute[local congr]cC cD
set_option maxRecDepth 100000
theorem adE{n:Nat}{x y:DV}:kN PP (n+1) t x y=Am PP (kN PP n) t x y:=rfl
theorem adD{n:Nat}{s:List Field}{x y:aA}(h:PP.underlying t=J (.struct ⟨s⟩))(d:PP.stoodInHeld t=C):kN PP (n+1) t (.agg x) (.agg y)=oN (λc(f:Field)=>bif c then(bif f.name== "_"then J V else(lO PP f.type x f.offset).bind λa=>(lO PP f.type y f.offset).bind λb=>kN PP n f.type a b)else J C) s V:=by simp_all[adE,Am]
theorem OU{n:Nat}{b:Int}:kN PP (n+1) 3 (.int .i64 a) (.int .i64 b)=J (ai a b):=by rfl
theorem OV{n:Nat}{a b:an}:kN PP (n+1) 9 (.str a) (.str b)=J (decide (a=b)):=by simp[adE,Am,Al]
def DZ(a b:Int)(s:an)(c d:Int)(e:an):Bool:=bif ai a c then bif ai b d then decide (s=e)else C else C
theorem yh{b c d:Int}{s e:an}:kN PP 50 28 (.agg [.int .i64 a,.int .i64 b,.str s]) (.agg [.int .i64 c,.int .i64 d,.str e])=J (DZ a b s c d e):=by rw[adD underlying28 aP];simp only[go_sem,DZ,OU,OV,String.reduceBEq];grind
def za(x y:fU):Bool:=bif ai x.scope y.scope then ai x.span y.span else C
theorem apy{b c d:Int}:kN PP 50 174 (.agg [.int .i64 a,.int .i64 b]) (.agg [.int .i64 c,.int .i64 d])=J (bif ai a c then ai b d else C):=by rw[adD underlying174 aP];simp only[go_sem,OU,String.reduceBEq];grind
theorem ace{o:BinOp}{x y:aA}{b:Bool}(h:PP.eqGuardType PP.depth t=C)(k:kN PP 50 t (.agg x) (.agg y)=J b)(a:o=.eql\/o=.neq):nX PP o t (.agg x) (.agg y)=J (.bool (match o with|.eql=>b|_=>!b)):=by rcases a with rfl|rfl<;>show(bif !PP.eqGuardType _ t then Option.map _ _ else Z)=_<;>rw[h,k]<;>rfl
theorem aMe:PP.eqGuardType PP.depth 28=C:=aP
theorem aMd:PP.eqGuardType PP.depth 174=C:=aP
section
variable{a b a' b':Int}{s s':an}
theorem amC:nX PP .neq 28 (.agg [.int .i64 a,.int .i64 b,.str s]) (.agg [.int .i64 a',.int .i64 b',.str s'])=J (.bool (!DZ a b s a' b' s')):=by simp[ace,yh]
theorem amB:nX PP .neq 174 (.agg [.int .i64 a,.int .i64 b]) (.agg [.int .i64 a',.int .i64 b'])=J (.bool (!bif ai a a' then ai b b' else C)):=by simp[ace,apy]
end
attribute[go_sem]amC amB
def fM{a:Type}(q:a->a->Bool):List a->List a->Bool|[],[]=>V|x::s,y::b=>bif q x y then fM q s b else C|_,_=>C
theorem tq{b:Type}{q:b->b->Bool}:∀s a:List b,s.length=a.length->fM q s a=(s.zip a).all λp=>q p.1 p.2|[],[],_=>rfl|x::s,y::a,h=>by simp only[fM,List.zip_cons_cons,kY];rw[tq s a (by simpa using h)];cases q x y<;>rfl
theorem tj{b:Type}{q:b->b->Bool}:∀s a:List b,s.length≠a.length->fM q s a=C|[],[],h=>absurd rfl h|x::s,y::a,h=>by simp only[fM];rw[tj s a (by simpa using h)];cases q x y<;>rfl|[],_::_,_=>rfl|_::_,[],_=>rfl
theorem vn{a:Type}{x y:List a}{i:Nat}{p:a×a}(h:(x.zip y)[i]?=J p):x[i]?=J p.1/\y[i]?=J p.2:=aj
theorem kX{a:Type}{x y:List a}(h:x.length=y.length):(x.zip y).length=x.length:=aP
section
variable{α:Type}{d:α->DV}{c:α->aA}{q:α->α->Bool}(f:Nat)(fi ca:aA)(g:GH)(a b:Bool)(xs ys:List α)(hl:xs.length<1000000000)(hq:∀x y,x∈xs->ac3 f fi ca g [d x,d y] (q x y))
include hl hq
theorem K9{n t m:Nat}(z:(n,t,m)=(60,64,17)\/(n,t,m)=(62,60,1)\/(n,t,m)=(64,96,11)\/(n,t,m)=(122,30,8)\/(n,t,m)=(326,32,14))(s:∀x:α,d x=.agg (c x)/\(c x).length=m):ev PP cf (.call n [cp a (xs.map d) t m,cp b (ys.map d) t m,.func f fi ca] .no g)=J (.val (.dv (.bool (fM q xs ys)) .no) g):=by
 have v:∀x,(c x).take m=c x:=λx=>G9 aP;by_cases e:xs.length=ys.length<;>rcases z with h|h|h|h|h<;>cases h<;>first|refine aK func60 ?_|refine aK func62 ?_|refine aK func64 ?_|refine aK func122 ?_|refine aK func326 ?_
 all_goals first
 |simp only[go_sem,f60,f62,f64,f122,f326,e,tj _ _ e]
 | simp only[go_sem,f60,f62,f64,f122,f326,e,tq _ _ e];refine dJ (xs.zip ys) (λi=>[(17,iS i)]) (λi l=>.val (.dv (.bool (l.all λp=>q p.1 p.2)) .no) g) aj rfl rfl ?_ (λi x l hi k A w=>?_);.simp only[go_sem,kX e,nu,e]
   . obtain⟨k,y⟩:=vn k;rw[kX e,e]at hi;rcases hq x.1 x.2 (cI k)with⟨o,r,j⟩|⟨o,r,u,j⟩;.simp only[go_sem,hi,k,y,λx=>(s x).1,λx=>(s x).2,v,kY]at j w|-;simp only[go_sem,o,r,j];apply sp<;>intro h<;>simp only[*,go_sem]
     .simp only[go_sem,hi,k,y,λx=>(s x).1,λx=>(s x).2,v,kY]at j u w|-;simp only[go_sem,o,r,j,u];apply sp<;>intro h<;>simp only[*,go_sem]
end
theorem HJ(s t:Sl Int)(c:s.l.length<1000000000):CC 123 [hZ s,hZ t] (vB (fM ai s.l t.l)):=by
 refine aK func123 ?_;have hd:dw cf (bq f123 6)=V:=by rfl
 simp only[bq,opsOf,f123,go_sem]at hd;by_cases e:s.l.length=t.l.length
 . simp only[go_sem,f123,e,tq _ _ e];refine dJ (s.l.zip t.l) (λi=>[(13,iS i)]) (λi l=>vB (l.all λp=>ai p.1 p.2)) aj rfl rfl ?_ (λi x l hi a w b=>?_);.simp only[go_sem,kX e,nu,e]
   .obtain⟨a,y⟩:=vn a;rw[kX e,e]at hi;simp only[go_sem,hd,hi,a,y,kY]at b|-;apply sp<;>intro h<;>simp only[*,go_sem]
 .simp only[go_sem,f123,e,tj _ _ e]
theorem adN(s t:Sl fU)(c:s.l.length<1000000000):CC 124 [yN s,yN t] (vB (fM za s.l t.l)):=by
 refine aK func124 ?_;have hd:dw cf (bq f124 6)=V:=by rfl
 simp only[bq,opsOf,f124,go_sem]at hd;by_cases e:s.l.length=t.l.length
 . simp only[go_sem,f124,e,tq _ _ e];refine dJ (s.l.zip t.l) (λi=>[(13,iS i)]) (λi l=>vB (l.all λp=>za p.1 p.2)) aj rfl rfl ?_ (λi x l hi a w b=>?_);.simp only[go_sem,kX e,nu,e]
   .obtain⟨a,y⟩:=vn a;rw[kX e,e]at hi;simp only[go_sem,hd,hi,a,y,kY,za]at b|-;apply sp<;>intro h<;>simp only[*,go_sem]
 .simp only[go_sem,f124,e,tj _ _ e]
end Go.VM
namespace Go.VM
open Go Go.AM Proofs.Tryz
variable{α:Type}{v:DV}{g g':GH}{ps:List Tmp}{a e fn D t:Nat}{Q:SV->GH->Prop}{x:aH}{P:aM}{ow:aX}{l:cT}{lb:dX}{rec:eK}{u:jq}
attribute[local congr]cC cD
set_option maxRecDepth 100000
set_option maxHeartbeats 1000000
theorem ad6(s:an)(e:s.length<1200000):CC 190 [.str s] (vB (sS s)):=by refine aK func190 ?_;cases s with|nil=>rfl|cons c t=>
 simp only[go_sem,f190,sS];apply sp<;>intro h<;>simp only[h,aed,go_sem];apply sp<;>intro a<;>simp only[a,go_sem]
 . simp only[ahq a,go_sem];refine dJ (c::t) (λi=>[(3,iS i)]) (λ_ l=>vB (l.all word)) ae rfl rfl ?_ (λi x l hi b w d=>?_);.simp only[go_sem,nu]
   .rw[bU]at hi;simp only[go_sem,hi,b,kY,aed,word,digit]at d|-;repeat'(with_reducible apply sp<;>intro h<;>simp only[h,b,w,d,go_sem])
 grind[word]
theorem apV(t:Sl bJ)(n:an)(c:t.l.length<1200000):CC 126 [ep t,.str n] (vI (fD (λs:bJ=>decide (s.name=n)) t.l 0)):=by
 refine aK func126 ?_;simp only[go_sem,f126];refine dJ _ (λi=>[(5,iS i)]) (λi l=>vI (fD _ l i)) ae rfl rfl ?_ (λi x l hi b w a=>?_);.simp only[go_sem,fD]
 .simp only[go_sem,hi,b,fD]at a|-;apply sp<;>intro h<;>simp only[h,w,a,go_sem]
theorem aqi(s:bJ)(n:an)(t:s.fields.l.length<1200000):CC 191 [s.d,.str n] (vI (fD (λf:jX=>decide (f.name=n)) s.fields.l 0)):=by
 refine aK func191 ?_;simp only[go_sem,f191];refine dJ _ (λi=>[(5,iS i)]) (λi l=>vI (fD _ l i)) ae rfl rfl ?_ (λi x l hi b w a=>?_);.simp only[go_sem,fD]
 .simp only[go_sem,hi,b,fD]at a|-;apply sp<;>intro h<;>simp only[h,w,a,go_sem]
abbrev tmL:an:=[116,105,109,101]
theorem aqa(s:an)(a:s.length<1200000):CC 167 [.str s] (vB (bif sS s then !decide (s=tmL)else C)):=by refine aK func167 ?_;simp only[go_sem,f167,adZ _ a,tmL];apply sp<;>intro h<;>simp only[h,go_sem]
def Ld(n:an):Bool:=bif sS n then !decide (n=tmL)else C
def C2:List an->List jX->Int|_,[]=>0|b,f::l=>bif Ld f.name then bif b.any (λn=>decide (f.name=n))then 7 else bif ao f.kind 0 then 1 else bif ao f.kind 3 then C2 (b++[f.name]) l else 1 else 8
def Jr(s:bJ):Int:=bif sS s.name then bif ao 8 (.ofNat s.fields.l.length)then 5 else C2 [] s.fields.l else 8
def OT(b:List an)(i:Nat):List pf:=(b.zipIdx i).map λx=>(.str x.1,.bool V,x.2)
def tB(b:List an):List pf:=OT b 0
theorem T6{b:List an}{n:an}:tB (b++[n])=tB b++[(.str n,.bool V,b.length)]:=by simp[tB,OT,List.zipIdx_append]
theorem Pf{n:an}:∀(b:List an)(i j:Nat),(b.any λm=>decide (n=m))=C->findD PP 9 (.str n) (OT b i) j=J Z|[],_,_,_=>rfl|m::b,i,j,h=>by rw[nv,J1]at h;show(kN PP 50 9 (.str n) (.str m)).bind _=_;rw[OV,h.1];exact Pf b (i+1) (j+1) h.2
theorem Ph{n:an}:∀(b:List an)(i j:Nat),(b.any λm=>decide (n=m))=V->∃k c m,findD PP 9 (.str n) (OT b i) j=J (J (k,.str m,.bool V,c))|[],_,_,h=>by simp at h|m::b,i,j,h=>by rw[nv]at h;cases a:decide (n=m)with|true=>exact⟨j,i,m,by show(kN PP 50 9 (.str n) (.str m)).bind _=_;rw[OV,a];rfl⟩|false=>rw[a,vp]at h;obtain⟨k,c,d,e⟩:=Ph b (i+1) (j+1) h;exact⟨k,c,d,by show(kN PP 50 9 (.str n) (.str m)).bind _=_;rw[OV,a];exact e⟩
theorem ayX{n:an}:vV PP 9 (.str n)=V:=by rfl
attribute[go_sem]ayX
theorem arW(s:bJ)(j:s.name.length<1200000)(n:∀f,f∈s.fields.l->f.name.length<1200000)(o:s.fields.l.length<1200000):sB (ev PP cf (.call 97 [s.d] .no .empty)) (zS (Jr s)):=by
 refine Oe func97 ?_;simp only[go_sem,f97,adZ _ j,Jr];apply wv<;>intro h<;>simp only[h,go_sem];apply wv<;>intro h<;>simp only[h,go_sem];refine Mp s.fields.l ([]:List an) (λi b=>⟨97,45,[(18,iS i),(3,.dv (.map 0) .no),(16,.dv (HY s.fields) .no),(17,iS s.fields.l.length)],[],⟨1,[(0,.map (tB b) b.length)]⟩⟩) (λ_ l b=>zS (C2 b l)) (λ_ _ _=>True) ae rfl trivial rfl (λs _=>?_) (λi x l b hi g w _ a=>?_);.simp only[go_sem,C2]
 . have a:=a (b++[x.name]) trivial;simp only[T6,db,bU,eD,go_sem]at a;simp only[go_sem,hi,g,C2,aqa _ (n _ (cI g))];apply wv<;>intro h;.cases d:b.any λm=>decide (x.name=m)with|true=>obtain⟨k,c,m,e⟩:=Ph b 0 0 d;simp only[Ld,h,go_sem,tB,e]|false=>have e:=Pf b 0 0 d;simp only[Ld,h,go_sem,tB,e];apply wv<;>intro h<;>simp only[h,go_sem];apply wv<;>intro h<;>simp only[h,w,go_sem,e];exact a
   .simp only[Ld,h,go_sem]
def D0:List an->List bJ->Int|_,[]=>0|b,s::l=>bif ai (Jr s) 0 then bif b.any (λn=>decide (s.name=n))then 7 else D0 (b++[s.name]) l else Jr s
def sj(l:List bJ):Int:=bif ao 16 (.ofNat l.length)then 5 else D0 [] l
structure bJ.ok(s:bJ):Prop where
 h1:s.name.length<1200000
 h2:∀f,f∈s.fields.l->f.name.length<1200000
 h3:s.fields.l.length<1200000
theorem Ur(t:Sl bJ)(j:∀s,s∈t.l->s.ok)(n:t.l.length<1200000):sB (ev PP cf (.call 50 [ep t] .no .empty)) (zS (sj t.l)):=by
 refine Oe func50 ?_;simp only[go_sem,f50,sj];apply wv<;>intro h<;>simp only[h,go_sem];refine Mp _ _ (λi b=>⟨50,30,[(13,iS i),(3,.dv (.map 0) .no),(11,.dv (ep t) .no),(12,iS t.l.length)],[],⟨1,[(0,.map (tB b) b.length)]⟩⟩) (λ_ l b=>zS (D0 b l)) (λ_ _ _=>True) ae rfl trivial rfl (λs _=>?_) (λi x l b hi g w _ a=>?_);.simp only[go_sem,D0]
 .have a:=a (b++[x.name]) trivial;have d:=j x (cI g);obtain⟨g',hr⟩:=arW x d.h1 d.h2 d.h3;simp only[T6,db,bU,eD,go_sem]at a hr;simp only[go_sem,hi,g,hr,D0];apply wv<;>intro h<;>simp only[h,go_sem];cases f:b.any λm=>decide (x.name=m)with|true=>obtain⟨k,c,m,e⟩:=Ph b 0 0 f;simp only[go_sem,tB,e]|false=>have e:=Pf b 0 0 f;simp only[go_sem,tB,e,w];exact a
theorem V0{a:Type}{q:a->Bool}:∀(s:List a)(i j:Nat),s.any q=V->ao (fD q s j) (.ofNat (j+i))=(s.take i).any q
 |[],_,_,h=>by simp at h|x::s,0,j,h=>by
  have:∀(l:List a)(k:Nat),l.any q=V->ao (fD q l k) (.ofNat k)=C:=by intro l;induction l with|nil=>intro k h;simp at h|cons y l d=>intro k h;simp only[fD];cases c:q y with|true=>simp[eP]|false=>rw[nv,c,vp]at h;have:=d (k+1) h;rw[bg];rw[eP,EN]at this|-;simp only[wH]at this|-;omega
  exact this _ _ h|x::s,i+1,j,h=>by simp only[fD,List.take_succ_cons,nv];cases b:q x with|true=>simp[eP];omega|false=>rw[nv,b,vp]at h;rw[bg,vp,<-V0 s i (j+1) h];congr 2;omega
theorem any_map{a:Type}{f:α->a}{q:a->Bool}:∀l:List α,(l.map f).any q=l.any λx=>q (f x):=aj
theorem eqb{a b:an}:decide (a=b)=decide (b=a):=aj
theorem D9{s:List α}{i:Nat}{x:α}(h:s[i]?=J x):s.take (i+1)=s.take i++[x]:=by grind[List.take_add_one]
theorem abN{f:α->an}{s:List α}{i:Nat}{x:α}(h:s[i]?=J x):(s.any λy=>decide (f y=f x))=V:=aj
theorem azs{k:Int}{A B:α}:(bif ao k 0 then B else bif ao k 3 then A else B)=bif ai k 0 then A else bif ai k 1 then A else bif ai k 2 then A else B:=by grind[eP,kO]
theorem apU(s:bJ)(k:s.ok):CC 125 [s.d] (vI (Jr s)):=by
 have c:=k.h3;refine aK func125 ?_;simp only[go_sem,f125,ad6 _ k.h1,Jr];apply sp<;>intro h<;>simp only[h,go_sem];apply sp<;>intro h<;>simp only[h,go_sem];refine dJ s.fields.l (λi=>[(3,iS i)]) (λi l=>vI (C2 ((s.fields.l.take i).map jX.name) l)) ae rfl rfl ?_ (λi x l hi a w b=>?_);.simp only[go_sem,C2]
 . have e1:=ad6 _ (k.h2 _ (cI a));have e2:=aqi s x.name c;have e3:((s.fields.l.take i).any λf=>decide (x.name=f.name))=ao (fD (λf:jX=>decide (f.name=x.name)) s.fields.l 0) (.ofNat i):=by have:=V0 (q:=λf:jX=>decide (f.name=x.name)) s.fields.l i 0 (abN a);grind
   rw[D9 a,eI]at b;simp only[go_sem]at e2;simp only[go_sem,hi,a,e1,C2,Ld,any_map,azs,e3]at b|-;repeat'(with_reducible apply sp<;>intro h<;>simp only[h,w,e2,b,go_sem])
theorem Us(t:Sl bJ)(k:∀s,s∈t.l->s.ok)(c:t.l.length<1200000):CC 66 [ep t] (vI (sj t.l)):=by
 refine aK func66 ?_;simp only[go_sem,f66,sj];apply sp<;>intro h<;>simp only[h,go_sem];refine dJ t.l (λi=>[(3,iS i)]) (λi l=>vI (D0 ((t.l.take i).map bJ.name) l)) ae rfl rfl ?_ (λi x l hi a w b=>?_);.simp only[go_sem,D0]
 . have e1:=apU x (k _ (cI a));have e2:=apV t x.name c;have e3:((t.l.take i).any λf=>decide (x.name=f.name))=ao (fD (λf:bJ=>decide (f.name=x.name)) t.l 0) (.ofNat i):=by have:=V0 (q:=λf:bJ=>decide (f.name=x.name)) t.l i 0 (abN a);grind
   rw[D9 a,eI]at b;simp only[go_sem]at e1 e2;simp only[go_sem,hi,a,e1,D0,any_map,e3]at b|-;repeat'(with_reducible apply sp<;>intro h<;>simp only[h,a,w,e2,b,go_sem])
def JL(k n:Int)(s:an):Int:=bif ao k 0 then 1 else bif ao 2 k then 1 else bif ai k 2 then bif ai n 0 then bif ao 64 (.ofNat s.length)then 13 else 0 else 3 else bif decide (s=[])then bif ai k 1 then bif ao n 0 then 2 else bif ao 1 n then 2 else 0 else bif ao n (-1099511627776)then 2 else bif ao 1099511627776 n then 2 else 0 else 3
theorem aq1(k n:Int)(s:an):CC 313 [.agg [iD k,iD n,.str s]] (vI (JL k n s)):=by
 refine aK func313 ?_;simp only[go_sem,f313,JL];repeat'(with_reducible apply sp<;>intro h<;>simp only[h,go_sem])
 all_goals grind[eP]
def Z4(k n:Int)(s:an):Int:=bif bif ai k 0 then bif ao n (-1099511627776)then V else ao 1099511627776 n else C then 2 else bif bif ai k 1 then bif ai n 0 then C else !ai n 1 else C then 2 else bif ao 64 (.ofNat s.length)then 13 else 0
theorem arh(k n:Int)(s:an):CC 353 [.agg [iD k,iD n,.str s]] (vI (Z4 k n s)):=by refine aK func353 ?_;simp only[go_sem,f353,Z4];repeat'(with_reducible apply sp<;>intro h<;>simp only[h,go_sem])
theorem aqU(k n:Int)(s:an):CC 287 [.agg [iD k,iD n,.str s]] (vI (JL k n s)):=by
 refine aK func287 ?_;have a:=arh k n s;simp only[go_sem,f287];repeat'(with_reducible apply sp<;>intro h<;>simp only[h,a,go_sem])
 all_goals grind[JL,Z4,eP,kO]
def arity(o:Int):Int:=bif ao o 0 then-1 else bif ao 12 o then-1 else bif ao o 5 then 0 else bif ai o 12 then 1 else 2
theorem aqp(o:Int):CC 233 [iD o] (.val (.tp [(iD (bif ao (arity o) 0 then 0 else arity o),.no),(.bool (!ao (arity o) 0),.no)]) .empty):=by
 refine aK func233 ?_;simp only[go_sem,f233,arity];repeat'(with_reducible apply sp<;>intro h<;>simp only[h,go_sem])
 all_goals rfl
theorem aqZ(o:Int):CC 311 [iD o] (vI (arity o)):=by
 refine aK func311 ?_;simp only[go_sem,f311];repeat'(with_reducible apply sp<;>intro h<;>simp only[h,go_sem])
 all_goals(refine fH (λn=>J (vI n)) ?_;simp only[arity,eP,kO,mw,EN]at*;grind)
def wB(o:Int):Bool:=ai o 1||(ai o 4||(ai o 2||ai o 3))
def wA(o:Int):Bool:=ai o 1||ai o 4
theorem aqq(o:Int):CC 234 [iD o] (.val (.tp [(.bool (wB o),.no),(.bool (wA o),.no)]) .empty):=by refine aK func234 ?_;simp only[go_sem,f234,wB,wA];repeat'(with_reducible apply sp<;>intro h<;>simp only[h,go_sem])
theorem aq0(o:Int):CC 312 [iD o] (.val (.tp [(.bool (wB o),.no),(.bool (wA o),.no)]) .empty):=by refine aK func312 ?_;simp only[go_sem,f312,wB,wA];repeat'(with_reducible apply sp<;>intro h<;>simp only[h,go_sem])
def GC(k a:Int):Bool:=ai a 0||(ai k 4||ai k 5)
theorem aei(k a b:Int)(s:an):CC 314 [iD k,.agg [iD a,iD b,.str s]] (vB (GC k a||ai k 0)):=by refine aK func314 ?_;simp only[go_sem,f314,GC];repeat'(with_reducible apply sp<;>intro h<;>simp only[h,go_sem])
theorem aeh(k a b:Int)(s:an):CC 310 [iD k,.agg [iD a,iD b,.str s]] (vB (GC k a)):=by refine aK func310 ?_;simp only[go_sem,f310,GC];repeat'(with_reducible apply sp<;>intro h<;>simp only[h,go_sem])
def KM(o e k n:Int)(s:an):Int:=bif ai (JL k n s) 0 then bif ai o 4&&(!GC e k||(ai e 1&&!DZ k n s 0 0 []))then 9 else 0 else JL k n s
theorem aqr(o l a v G e k n s):CC 235 [.agg (Expr.mk o l a v G e k n s).cells] (vI (KM o e k n s)):=by refine aK func235 ?_;have b:=aqU k n s;have c:=aeh e k n s;simp only[go_sem]at b c;simp only[go_sem,f235,Expr.cells,KM,b];repeat'(with_reducible apply sp<;>intro h<;>simp only[h,c,go_sem])
def fE(o n v c e k u:Int)(s:an):Int:=bif ao (arity o) 0 then 1 else bif ai n (arity o)then bif(wB o&&(ao v 0||!ao v 16))||(wA o&&(ao c 0||!ao c 8))then 2 else bif ai o 4&&(ao e 1||ao 5 e)then 1 else bif(ai o 4||ai o 0)&&!ai (KM o e k u s) 0 then KM o e k u s else bif(!wB o&&!ai v 0)||((!wA o&&!ai c 0)||((!ai o 4&&!ai e 0)||(!(ai o 4||ai o 0)&&!DZ k u s 0 0 [])))then 3 else 0 else 15
def Expr.fE:Expr->Int|.mk op _ args var c n k num str=>VM.fE op (.ofNat args.length) var c n k num str
theorem wk{c:cj}{A:xW}{r:ah bt}(h:sY P c rec A=r):W P c rec A=r:=h
theorem opC(o:Int):(wB o=V/\wA o=V/\ai o 4=C/\ai o 0=C)\/(wB o=V/\wA o=V/\ai o 4=V/\ai o 0=C)\/(wB o=V/\wA o=C/\ai o 4=C/\ai o 0=C)\/(wB o=C/\wA o=C/\ai o 4=C/\ai o 0=V)\/(wB o=C/\wA o=C/\ai o 4=C/\ai o 0=C):=by grind[wB,wA,kO]
theorem ap9(e:Expr):CC 160 [.agg e.cells] (vI e.fE):=by obtain⟨op,nl,args,var,G,n,k,num,str⟩:=e;have f:=aqr op nl args var G n k num str;simp only[Expr.cells]at f;refine aK func160 ?_;simp only[go_sem,f160,Expr.cells,Expr.fE,fE,aqp];apply sp<;>intro h<;>simp only[h,go_sem];apply sp<;>intro h<;>simp only[h,aqq,go_sem];rcases opC op with⟨a,b,c,d⟩|⟨a,b,c,d⟩|⟨a,b,c,d⟩|⟨a,b,c,d⟩|⟨a,b,c,d⟩<;>simp only[a,b,c,d,go_sem]<;>refine wk ?_<;>simp only[c,d,f,go_sem]<;>repeat'(with_reducible apply sp<;>intro h<;>simp only[h,c,d,f,go_sem])
set_option maxHeartbeats 4000000
theorem aqt(e:Expr):CC 237 [.agg e.cells] (vI e.fE):=by
 obtain⟨op,nl,args,var,G,n,k,num,str⟩:=e;have f:=aq1 k num str;have g:=aei n k num str;simp only[go_sem]at f g;refine aK func237 ?_;simp only[go_sem,f237,Expr.cells,Expr.fE,fE,aqZ];apply sp<;>intro h<;>simp only[h,go_sem];apply sp<;>intro h<;>simp only[h,aq0,go_sem];rcases opC op with⟨a,b,c,d⟩|⟨a,b,c,d⟩|⟨a,b,c,d⟩|⟨a,b,c,d⟩|⟨a,b,c,d⟩<;>simp only[a,b,c,d,go_sem]<;>refine wk ?_<;>simp only[c,d,f,KM,go_sem]<;>repeat'(with_reducible apply sp<;>intro h<;>simp only[h,c,d,f,g,go_sem])
 all_goals clear f g
 all_goals first
 | (have i:ao n 1=C:=by assumption
    have j:ai n 0=C:=by simp only[eP,kO,EN]at i|-;omega
    cases s:GC n k<;>simp_all<;>rfl)|(simp_all;done)|(simp_all<;>rfl)
abbrev vT(l:List (DV×aX)):bt:=.val (.tp l) .empty
abbrev iO(n:Int):DV×aX:=(.int .i64 n,.no)
abbrev bO(b:Bool):DV×aX:=(.bool b,.no)
theorem adV:∀e:Expr,e.nn<100000000->CC 158 [.agg e.cells] (vT [iO (.ofNat e.nn),iO (.ofNat e.dep)])
 |.mk o f args v c g k num str,n=>by
  simp only[Expr.nn]at n;refine aK func158 ?_;have hd:=Expr.BP args 0;simp only[go_sem,f158,Expr.cells,Expr.dep,Expr.nn];refine iB args ((1,0):Nat×Nat) (λi s=>[(13,iS i),(4,iS s.1),(5,iS s.2)]) (λ_ l s=>vT [iO (.ofNat (s.1+Expr.aR l)),iO (.ofNat (Expr.kM l s.2+1))]) (λ_ l s=>s.1+Expr.aR l<100000000/\s.2+Expr.aR l<100000000) (by have:=Expr.ji args;omega) rfl (by simp only;omega) (by simp only[Ex]) (λs h=>?_) (λi x l s hi a w h b=>?_);.simp only[Expr.aR]at h;simp only[go_sem,Expr.kM,Expr.aR,zU,xO (show s.2+1<9223372036854775808 by omega)]
  .simp only[Expr.aR]at h;have hr:=adV x ae;have d:=Expr.EP x;simp only[go_sem,hi,a,w,hr,Expr.kM,Expr.aR,Ob,Bl (show s.1+x.nn<9223372036854775808 by omega),<-By];exact b (s.1+x.nn,max s.2 x.dep) (by simp only;omega)termination_by e=>kb e decreasing_by simp_wf;have:=jY (cI a);omega
mutual
def Expr.pe : Expr -> Int
  | .mk o l args v c n k num str => bif ai (Expr.fE (.mk o l args v c n k num str)) 0 then Expr.vj args else Expr.fE (.mk o l args v c n k num str)
def Expr.vj : List Expr -> Int
  | [] => 0
  | e :: l => bif ai e.pe 0 then Expr.vj l else e.pe
end
theorem aJ6(o d a v c n k u s)(j:a.length<100000000)(C:∀x,x∈a->CC 159 [.agg x.cells,.func 160 [] []] (vI x.pe)):CC 159 [.agg (Expr.mk o d a v c n k u s).cells,.func 160 [] []] (vI (Expr.mk o d a v c n k u s).pe):=by
 have b:=ap9 (.mk o d a v c n k u s);generalize g:Expr.fE _=z at b;simp only[Expr.cells]at b;refine aK func159 ?_;simp only[go_sem,f159,Expr.cells,Expr.pe,b,g];apply sp<;>intro h<;>simp only[h,go_sem];refine dJ _ (λi=>[(18,iS i)]) (λ_ l=>vI (Expr.vj l)) ae rfl rfl ?_ (λi x l hi f w e=>?_);.simp only[go_sem,Expr.vj]
 .have hr:=C x aj;simp only[go_sem,hi,f,hr,Expr.vj]at e|-;apply sp<;>intro h<;>simp only[h,w,e,go_sem]
theorem adW:∀e:Expr,e.nn<100000000->CC 159 [.agg e.cells,.func 160 [] []] (vI e.pe)|.mk o l args v c g k num str,n=>by simp only[Expr.nn]at n;exact aJ6 _ _ _ _ _ _ _ _ _ (by have:=Expr.ji args;omega) λx h=>adW x (by have:=Expr.lM args _ h;omega)termination_by e=>kb e decreasing_by simp_wf;have:=jY h;omega
theorem aJ7(o d a v c n k u s)(j:a.length<100000000)(C:∀x,x∈a->CC 164 [.agg x.cells] (vI x.pe)):CC 164 [.agg (Expr.mk o d a v c n k u s).cells] (vI (Expr.mk o d a v c n k u s).pe):=by
 have b:=aqt (.mk o d a v c n k u s);generalize g:Expr.fE _=z at b;simp only[Expr.cells]at b;refine aK func164 ?_;simp only[go_sem,f164,Expr.cells,Expr.pe,b,g];apply sp<;>intro h<;>simp only[h,go_sem];refine dJ _ (λi=>[(4,iS i)]) (λ_ l=>vI (Expr.vj l)) ae rfl rfl ?_ (λi x l hi f w e=>?_);.simp only[go_sem,Expr.vj]
 .have hr:=C x aj;simp only[go_sem,hi,f,hr,Expr.vj]at e|-;apply sp<;>intro h<;>simp only[h,w,e,go_sem]
theorem adX:∀e:Expr,e.nn<100000000->CC 164 [.agg e.cells] (vI e.pe)|.mk o l args v c g k num str,n=>by simp only[Expr.nn]at n;exact aJ7 _ _ _ _ _ _ _ _ _ (by have:=Expr.ji args;omega) λx h=>adX x (by have:=Expr.lM args _ h;omega)termination_by e=>kb e decreasing_by simp_wf;have:=jY h;omega
def Expr.gU(e:Expr):Int:=bif ao 64 (.ofNat e.nn)then 5 else bif ao 12 (.ofNat e.dep)then 12 else e.pe
theorem HL(e:Expr)(n:e.nn<100000000):CC 83 [.agg e.cells] (vI e.gU):=by refine aK func83 ?_;simp only[go_sem,f83,adV e n,Expr.gU];repeat'(with_reducible apply sp<;>intro h<;>simp only[h,adW e n,go_sem])
mutual
theorem Expr.KG (l : Nat) : ∀ e : Expr, (e.nn <= l -> e.cN l = e.nn) /\ (l < e.nn -> l < e.cN l)
  | .mk _ _ args _ _ _ _ _ _ => by
    have := Expr.KJ l args 1
    simp only [Expr.cN, Expr.nn, Ex _ 1]; exact this
theorem Expr.KJ (i : Nat) : ∀ (l : List Expr) (n : Nat), (n + Expr.aR l <= i -> Expr.lI i l n = n + Expr.aR l) /\ (i < n + Expr.aR l -> i < Expr.lI i l n)
  | [], n => by simp [Expr.lI, Expr.aR]
  | e :: l, n => by
    have h := Expr.KG i e
    have a := Expr.KJ i l (n + e.cN i)
    simp only [Expr.lI, Expr.aR]
    split <;> omega
end
theorem HM(e:Expr)(n:e.nn<100000000):CC 93 [.agg e.cells] (vI e.gU):=by
 have a:ev PP cf (.call 36 [.agg _,.int _ 64] _ _)=_:=O7 64 e n;have b:ao 64 (.ofNat (e.cN 64))=ao 64 (.ofNat e.nn):=by have:=Expr.KG 64 e;grind[eP]
 refine aK func93 ?_;simp only[go_sem,f93,a,b,Expr.gU];repeat'(with_reducible apply sp<;>intro h<;>simp only[h,Up e n,adX e n,go_sem])
def dz:aA->Nat->Nat->SV|[],_,_=>.dv .nl .any|a::l,e,n=>.dv (.ay (a::l) e n) (.ex e)
theorem BD{n:Nat}:dz [] e n=.dv .nl .any:=rfl
theorem alE{a:DV}{l:aA}{n:Nat}:dz (a::l) e n=.dv (.ay (a::l) e n) (.ex e):=rfl
theorem abS{n b:Nat}{o:aX}(a:n≠0)(h:b<=1200000):iM e n b .nl o [v]=J (.ay [v] e n,.ex e):=by grind[iM,iW,bF,rB]
theorem BG{n b:Nat}{l:aA}(d:n≠0)(a:b<=1000)(c:l.length<1200000):iM e n b (.ay l e n) (.ex e) [v]=J (.ay (l++[v]) e n,.ex e):=by have h:(l.length+1)*b<=1200000*1000:=ph ae a;grind[wN,bF]
theorem aAf{l:aA}{n:Nat}:pK (.ay l e n)=J l.length:=(rfl)
theorem aAC{t:al}{l:aA}(h:AM.isAgg P t=J C):gP P .take t ⟨l,[]⟩ D=(l[D]?).bind λd=>J (.dv d (tW d),⟨l,[]⟩):=by
 unfold gP;rw[h];rcases e:l[D]? with _|c;.rfl
 unfold fg;rw[show(⟨_,[]⟩:LB).cells[D]?=J c from e];cases c<;>rfl
theorem aDF{k:gZ}{n:Int}:tW (.int k n)=.no:=rfl
theorem aDH{s:an}:tW (.str s)=.no:=rfl
theorem aDD{b:Bool}:tW (.bool b)=.no:=rfl
theorem aDC{l:aA}:tW (.agg l)=.no:=rfl
theorem aDE{f:Nat}{a b:aA}:tW (.func f a b)=.no:=rfl
theorem atO:dj PP 267 0=J (22,0):=aI
theorem atP:dj PP 267 1=J (23,1):=aI
theorem atL:dj PP 195 0=J (22,0):=aI
theorem atM:dj PP 195 1=J (23,1):=aI
theorem atN:dj PP 195 2=J (3,2):=aI
def Pc:SV->ah (aA×al×Nat)|.dv (.ay l e n) (.ex _)=>J (l,e,n)|_=>Z
theorem Uy{n s:Nat}{a:cT}:nB ⟨fn,n,a,lb,g⟩ s=(look a s).bind Pc:=by show(match look a s with|some (.dv (.ay l e n) (.ex _))=>J _|_=>Z)=_;cases look a s with|none=>rfl|some v=>cases v with|dv d o=>cases d<;>cases o<;>rfl|_=>rfl
theorem ar9{l:aA}{a n:Nat}:Pc (.dv (.ay l e n) (.ex a))=J (l,e,n):=(rfl)
theorem adF{n:Int}:ai n n=V:=by simp[kO]
theorem alV{a:α}{p:α->Bool}:[a].all p=p a:=aO
theorem aAF{t:al}{m s i:Nat}{l:cT}{d:ah Tmp}:Ml P t u ⟨fn,m,l,lb,g⟩ d (.se s i D)=((look l s).bind Pc).bind λx=>(x.1[i]?).bind λv=>(lO P t v.flat D).bind λv=>aJ ⟨fn,m,l,lb,g⟩ d (.dv v .no):=by show(nB _ s).bind _=_;rw[Uy]
attribute[go_sem]aAF alV adF Uy ar9 aAC aDF aDH aDD aDC aDE atO atP atL atM atN aAf BD alE abS BG Nat.reduceLeDiff
def Sat(x:ah bt)(Q:SV->GH->Prop):Prop:=∃v g,x=J (.val v g)/\Q v g
theorem alx{v:SV}:Sat (J (.val v g)) Q=Q v g:=propext ⟨λ⟨_,_,h,k⟩=>aj,λh=>⟨_,_,rfl,h⟩⟩
theorem eC{c:cj}{z:Bool}{A B:xW}(h:z=V->Sat (sY P c rec A) Q)(a:z=C->Sat (sY P c rec B) Q):Sat (bif z then W P c rec A else W P c rec B) Q:=by
 cases z;.exact a rfl
 .exact h rfl
theorem kp{c:cj}{f n:Nat}{b:Func}{d:bz}{r:List ResultVar}{a:aA}(i:P.funcs[f]?=J b)(h:Sat (exec P c (ev P c) Z d ⟨f,n,Ae 0 ow a,[],g⟩ (Nk P r)) Q)(e:b.body=J d:=by rfl)(k:b.results=⟨r⟩:=by rfl)(t:b.ntmps=n:=by rfl)(p:c.ko f a=Z:=by rfl)(j:(DD (r.map A9)&&bV a.length n)=V:=by rfl):Sat (ev P c (.call f a ow g)) Q:=by obtain⟨v,g',h,q⟩:=h;exact⟨v,g',aK i h e k t p j,q⟩
theorem lpQ{d:Type}{b:bz}{t:Tg b}{r:ah Nat}{k:eJ->ah bt}{j:St}(a:List α)(f:d)(S:Nat->d->St)(I:Nat->List α->d->Prop)(A:a.length<9223372036854775807)(e:S 0 f=j)(z:I 0 a f)(o:∀s,I a.length [] s->Sat ((exec PP cf (ev PP cf) r b (S a.length s) (rU PP cf (.mk b t) r)).bind (jm k)) Q)(p:∀i x l s,(i<a.length)=True->a[i]?=J x->fS .i64 (Int.add (dI i) 1)=dI (i+1)->I i (x::l) s->(∀c,I (i+1) l c->Sat ((pL (ev PP cf) (.mk b t) (S (i+1) c) r).bind (jm k)) Q)->Sat ((exec PP cf (ev PP cf) r b (S i s) (rU PP cf (.mk b t) r)).bind (jm k)) Q):Sat ((pL (ev PP cf) (.mk b t) j r).bind (jm k)) Q:=by
 have y:∀(l:List α)(i:Nat)(s:d),i+l.length=a.length->a.drop i=l->I i l s->Sat ((pL (ev PP cf) (.mk b t) (S i s) r).bind (jm k)) Q:=by intro l;induction l with|nil=>intro i s hi _ h;obtain rfl:i=a.length:=ae;obtain⟨v,g,h,q⟩:=o s h;grind[uy]|cons x l w=>
  intro i s hi hd h;have m:i<a.length:=aj;have u:a[i]?=J x:=by grind[Bt]
  obtain⟨v,g,h,q⟩:=p i x l s (ki m) u (xO ae) h λc n=>w (i+1) c aj (by grind[zT]) n;exact⟨v,g,uy h,q⟩
 grind
theorem vX{f:Type}{b:bz}{t:Tg b}{r:ah Nat}{k:eJ->ah bt}{a:St}(c:List α)(d:f)(u:Nat->f->cT)(g:f->GH)(I:Nat->List α->f->Prop)(o:c.length<9223372036854775807)(e:gH a.sl (u 0 d)=a.sl)(p:g d=a.g)(n:I 0 c d)(j:∀s,I c.length [] s->Sat ((exec PP cf (ev PP cf) r b ⟨a.fn,a.n,gH a.sl (u c.length s),a.lb,g s⟩ (rU PP cf (.mk b t) r)).bind (jm k)) Q)(m:∀i x l s,(i<c.length)=True->c[i]?=J x->fS .i64 (Int.add (dI i) 1)=dI (i+1)->I i (x::l) s->(∀h,I (i+1) l h->Sat ((pL (ev PP cf) (.mk b t) ⟨a.fn,a.n,gH a.sl (u (i+1) h),a.lb,g h⟩ r).bind (jm k)) Q)->Sat ((exec PP cf (ev PP cf) r b ⟨a.fn,a.n,gH a.sl (u i s),a.lb,g s⟩ (rU PP cf (.mk b t) r)).bind (jm k)) Q):Sat ((pL (ev PP cf) (.mk b t) a r).bind (jm k)) Q:=lpQ c d (λi s=>⟨a.fn,a.n,gH a.sl (u i s),a.lb,g s⟩) I o aP n j m
theorem Wk{c:Type}(n:Nat)(x:c)(m:Nat):∀l:List (Nat×c),look (put l n x) m=if m=n then J x else look l m
 |[]=>by
  show(bif aw n m then J x else Z)=_;by_cases h:m=n;.rw[if_pos h,h,show aw n n=V from nT n];rfl
  .rw[if_neg h,iW (λe=>h e.symm)];rfl|(a,y)::t=>by
  show look (bif aw a n then(n,x)::t else(a,y)::put t n x) m=_;by_cases b:a=n
  . subst b;rw[show aw a a=V from nT a];show(bif aw a m then J x else look t m)=if m=a then J x else(bif aw a m then J y else look t m);by_cases h:m=a;.rw[if_pos h,h,show aw a a=V from nT a];rfl
    .rw[if_neg h,iW (λe=>h e.symm)];rfl
  . rw[iW b];show(bif aw a m then J y else look (put t n x) m)=if m=n then J x else(bif aw a m then J y else look t m);rw[Wk n x m t];by_cases h:m=n;.rw[if_pos h,if_pos h,iW (λe=>b (e.trans h))];rfl
    .rw[if_neg h,if_neg h]
theorem cL{o:GO}:(g.alloc o).next=g.next+1:=rfl
theorem dW{i:Nat}{o:GO}:(g.set i o).next=g.next:=rfl
theorem pB{o:GO}{i:Nat}:(g.alloc o).get i=if i=g.next then J o else g.get i:=Wk _ _ _ _
theorem oP{o:GO}{i j:Nat}:(g.set j o).get i=if i=j then J o else g.get i:=Wk _ _ _ _
def Hi(k:Nat)(g a:GH):Prop:=g.next<=a.next/\∀i,k<=i->i<g.next->a.get i=g.get i
def Lo(k:Nat)(g a:GH):Prop:=g.next<=a.next/\∀i,i<k->a.get i=g.get i
theorem Hi.refl{k:Nat}:Hi k g g:=⟨bo _,λ_ _ _=>rfl⟩
theorem Hi.trans{k:Nat}{a b c:GH}(h:Hi k a b)(d:Hi k b c):Hi k a c:=⟨gv h.1 d.1,λi hi j=>(d.2 i hi (fj j h.1)).trans (h.2 i hi j)⟩
theorem Lo.refl{k:Nat}:Lo k g g:=⟨bo _,λ_ _=>rfl⟩
theorem Lo.trans{k:Nat}{a b c:GH}(h:Lo k a b)(d:Lo k b c):Lo k a c:=⟨gv h.1 d.1,λi hi=>(d.2 i hi).trans (h.2 i hi)⟩
theorem Lo.mono{k l:Nat}{a b:GH}(h:Lo k a b)(c:l<=k):Lo l a b:=⟨h.1,λi hi=>h.2 i ae⟩
theorem Hi.mono{k l:Nat}{a b:GH}(h:Hi k a b)(c:k<=l):Hi l a b:=⟨h.1,λi hi j=>h.2 i ae j⟩
theorem Lo.alloc{k:Nat}{o:GO}(h:k<=g.next):Lo k g (g.alloc o):=⟨by simp[cL],λi hi=>by grind[pB]⟩
theorem Hi.alloc{k:Nat}{o:GO}:Hi k g (g.alloc o):=⟨by simp[cL],λi _ h=>by grind[pB]⟩
theorem Lo.set{k i:Nat}{o:GO}(h:k<=i):Lo k g (g.set i o):=⟨bo _,λj a=>by grind[oP]⟩
theorem Hi.set{k i:Nat}{o:GO}(h:i<k):Hi k g (g.set i o):=⟨bo _,λj a _=>by grind[oP]⟩
theorem Hi.sa{k:Nat}{o:GO}(h:Hi k g g'):Hi k g (g'.alloc o):=h.trans Hi.alloc
theorem Hi.sl{k i:Nat}{o:GO}(a:i<k)(h:Hi k g g'):Hi k g (g'.set i o):=h.trans (Hi.set a)
theorem Hi.sg{k i:Nat}{o:GO}(c:g.next<=i)(h:Hi k g g'):Hi k g (g'.set i o):=⟨h.1,λj a b=>by rw[oP,if_neg ae];exact h.2 j a b⟩
theorem gF{k:Nat}(h:Hi k g g':=by repeat(first|exact Hi.refl|refine Hi.sa ?_|refine Hi.sl ae ?_|refine Hi.sg (by first|exact bo _|omega|(simp only[cL,dW];omega)) ?_)):Hi k g g':=h
theorem pZ{z:Int}(h:ai z 0=V):z=0:=by grind[kO]
section
variable{X σ:Type}
def bB(t:X->σ->ah bz×σ):List X->σ->ah bz×σ|[],s=>(Z,s)|x::l,s=>match(t x s).1 with|none=>bB t l (t x s).2|some c=>(J c,(t x s).2)
theorem lT(t:X->σ->ah bz×σ):∀(a b:List X)(s:σ),bB t (a++b) s=match(bB t a s).1 with|none=>bB t b (bB t a s).2|some c=>(J c,(bB t a s).2)
 |[],_,_=>rfl|x::a,b,s=>by simp only[fA,bB];cases h:(t x s).1 with|none=>exact lT t a b _|some c=>rfl
theorem rN(t:X->σ->ah bz×σ)(x:X)(l:List X)(s:σ):bB t (x::l) s=match(t x s).1 with|none=>bB t l (t x s).2|some c=>(J c,(t x s).2):=rfl
def qB(t:X->σ->ah bz×σ)(b:List X)(a:σ)(x:X)(s:σ):Prop:=∃pre post,b=pre++x::post/\bB t pre a=(Z,s)
theorem qB.mem{t:X->σ->ah bz×σ}{c:List X}{d s:σ}{x:X}(h:qB t c d x s):x∈c:=by obtain⟨a,b,rfl,_⟩:=h;simp
structure zX(enc:X->aA)(ok:X->σ->Prop)(n k:Nat)(rel:ah bz->σ->GH->Prop)(step:X->σ->ah bz×σ):Prop where
 run:∀x s g,ok x s->rel Z s g->k<=g.next->∃g',ev PP cf (.dK n (enc x) g)=J (.val (.dv (.bool (step x s).1.isNone) .no) g')/\rel (step x s).1 (step x s).2 g'/\Hi k g g'
 stay:∀c s g g',rel c s g->Lo k g g'->rel c s g'
def vq(e:X->aA)(h:Nat)(f b:aA)(a:GH->Prop)(x:List X):Prop:=∀(n k:Nat)(σ:Type)(r:ah bz->σ->GH->Prop)(step:X->σ->ah bz×σ)(s:σ),zX e (qB step x s) n k r step->(∀c s g,r c s g->a g)->∀g,r Z s g->k<=g.next->∃g',ev PP cf (.call h (f++[.dK n]++b) .no g)=J (.val (.tp []) g')/\r (bB step x s).1 (bB step x s).2 g'/\Hi k g g'
end
def tU(f n:Nat)(l:cT)(s:List Tmp)(a b:Hd bz)(t:LoopState)(p:ah bz):GO:=.loop ⟨t,p,f,n,l,s,a.get,b.get⟩
def HG(k:eJ->ah bt)(s:St):ah bz->ah bt|none=>k (.fO s)|some .ret=>k (.rt s)|some (.exit id)=>k (.ext id s)|_=>Z
def Ro(P:aM)(f:cj)(e:eK)(d:ah Nat)(p:List Tmp)(a b:Hd bz)(s:St)(k:eJ->ah bt):DV->ah bt
 |.func h first c=>bif(f.ko h (first++[.dK s.g.next]++c)).isSome||!(Cm d s.g)then Z else(e (.call h (first++[.dK s.g.next]++c) .no (s.g.alloc (tU s.fn s.n (mc s.sl) p a b .ready Z)))).bind λ|.val _ g=>(match g.get s.g.next with|some (.loop r)=>(match r.state with|.busy=>Z|_=>HG k {s with sl:=cV s.sl,g:=g.set s.g.next (.loop {r with state:=.exhausted})} r.pending)|_=>Z)|_=>Z
 |_=>Z
theorem asK{d:cj}{r:ah Nat}{s:St}{k:eJ->ah bt}{f:aH}{a b:bz}:exec P d rec r (.rangeFunc f ⟨ps⟩ a b) s k=(bp d.aq s f).bind (Ro P d rec r ps (.mk a (.mk a)) (.mk b (.mk b)) s k):=by show(match bp d.aq s f with|some (.func h first c)=>_|_=>Z)=_;cases bp d.aq s f with|none=>rfl|some v=>cases v with|func h first c=>show(bif _ then Z else Option.bind _ _)=(bif _ then Z else Option.bind _ _);congr 1|_=>rfl
def Nn(l:Nat):eJ->ah bt|.fO st=>wV l st Z|.rt st=>wV l st (J .ret)|.ext id st=>wV l st (J (.exit id))
def SY(P:aM)(c:cj)(r:eK)(l:Nat)(b:Hd bz):eJ->ah bt|.fO st=>(match st.g.get l with|some (.loop r1)=>(match r1.state with|.ready=>exec P c r (J l) b.get {st with sl:=cV st.sl,g:=st.g.set l (.loop {r1 with state:=.busy})} (Nn l)|_=>Z)|_=>Z)|_=>Z
theorem ar4{l n:Nat}{s:aA}{c:cT}{a b:bz}{t:Tg a}{u:Tg b}{r:bt}(d:g.get l=J (tU fn n c ps (.mk a t) (.mk b u) .ready Z))(e:(aw s.length ps.length&&ps.all (λp=>cM p n))=V)(h:exec PP cf (ev PP cf) (J l) a ⟨fn,n,Cs ps s c,[],g⟩ (SY PP cf (ev PP cf) l (.mk b u))=J r):ev PP cf (.dK l s g)=J r:=by apply Pb;show(match g.get l with|some (.loop r)=>_|_=>Z)=_;rw[d];show(bif aw s.length ps.length&&ps.all (λp=>cM p n)then _ else Z)=_;rw[e];exact h
theorem ze{l n:Nat}{r:aA}{s:cT}{a b:bz}{t:Tg a}{u:Tg b}(c:g.get l=J (tU fn n s ps (.mk a t) (.mk b u) .ready Z))(d:(aw r.length ps.length&&ps.all (λp=>cM p n))=V)(h:Sat (exec PP cf (ev PP cf) (J l) a ⟨fn,n,Cs ps r s,[],g⟩ (SY PP cf (ev PP cf) l (.mk b u))) Q):Sat (ev PP cf (.dK l r g)) Q:=by obtain⟨v,g',h,q⟩:=h;exact⟨v,g',ar4 c d h,q⟩
section
variable{P:aM}{cf:cj}{rec:eK}{l f m fn n:Nat}{s sl:cT}{ps:List Tmp}{a c:Hd bz}{b:bz}{u:Tg b}{lb:dX}{g:GH}{sta:LoopState}{pd:ah bz}{k:eJ->ah bt}{M:St}
def ab4(P:aM)(c:cj)(r:eK)(l:Nat)(b:Hd bz)(s:St):GO->ah bt|.loop r1=>(match r1.state with|.ready=>exec P c r (J l) b.get {s with sl:=cV s.sl,g:=s.g.set l (.loop {r1 with state:=.busy})} (Nn l)|_=>Z)|_=>Z
theorem ams:SY P cf rec l (.mk b u) (.fO ⟨fn,n,sl,lb,g⟩)=(g.get l).bind (ab4 P cf rec l (.mk b u) ⟨fn,n,sl,lb,g⟩):=by
 show(match g.get l with|some (.loop r1)=>_|_=>Z)=_;rcases g.get l with _|o;.rfl
 cases o<;>rfl
theorem amr:ab4 P cf rec l (.mk b u) ⟨fn,n,sl,lb,g⟩ (tU f m s ps a c .ready pd)=exec P cf rec (J l) b ⟨fn,n,cV sl,lb,g.set l (tU f m s ps a c .busy pd)⟩ (Nn l):=(rfl)
def uz(l:Nat)(g:GH)(p:ah bz):GO->ah bt|.loop r=>J (.val (.dv (.bool p.isNone) .no) (g.set l (.loop {r with state:=(match p with|none=>.ready|some _=>.done),pending:=p})))|_=>Z
theorem aeM{p:ah bz}:wV l ⟨fn,n,sl,lb,g⟩ p=(g.get l).bind (uz l g p):=by
 show(match g.get l with|some (.loop r)=>_|_=>Z)=_;rcases g.get l with _|o;.rfl
 cases o<;>rfl
theorem aF8:Nn l (.fO ⟨fn,n,sl,lb,g⟩)=(g.get l).bind (uz l g Z):=aeM
theorem aF9:Nn l (.rt ⟨fn,n,sl,lb,g⟩)=(g.get l).bind (uz l g (J .ret)):=aeM
theorem as4:uz l g Z (tU f m s ps a c sta pd)=J (.val (.dv (.bool V) .no) (g.set l (tU f m s ps a c .ready Z))):=(rfl)
theorem as5{p:bz}:uz l g (J p) (tU f m s ps a c sta pd)=J (.val (.dv (.bool C) .no) (g.set l (tU f m s ps a c .done (J p)))):=(rfl)
theorem set_set{l:Nat}{o a:GO}:(g.set l o).set l a=g.set l a:=by
 have:∀t:List (Nat×GO),put (put t l o) l a=put t l a:=by intro t;induction t<;>grind[nT,put]
 show(⟨g.next,put (put g.yQ l o) l a⟩:GH)=⟨g.next,put g.yQ l a⟩;grind
theorem apk:HG k M Z=k (.fO M):=(rfl)
theorem apl:HG k M (J .ret)=k (.rt M):=(rfl)
end
theorem aEd:mc []=[]:=rfl
theorem aEe{d:DV}:mc ((t,.dv d .no)::l)=(t,.dv d .no)::mc l:=rfl
theorem aD7{d:DV}:mc ((t,.dv d .any)::l)=(t,.dv d .any)::mc l:=rfl
theorem aEa{d:DV}:mc ((t,.ev d)::l)=(t,.ev d)::mc l:=rfl
theorem aEb{d:DV}:mc ((t,.dv d (.ex e))::l)=(t,.dd)::mc l:=rfl
theorem aEc{b:Nat}:mc ((t,.lp a b)::l)=(t,.dd)::mc l:=rfl
theorem aD8:mc ((t,.dd)::l)=(t,.dd)::mc l:=rfl
theorem aHf{d:aA}{s:cT}:Cs [] d s=s:=by cases d<;>rfl
theorem aHe{p:Nat}{a:an}{d:DV}{s:aA}{l:cT}:Cs (p::a) (d::s) l=Cs a s (put l p (.dv d .no)):=rfl
attribute[go_sem]amr as4 as5 set_set ams aF8 aF9 apk apl aEd aEe aD7 aEa aEb aEc aD8 aHf aHe asK alx cL dW
attribute[go_sem]pB oP
theorem ant{c:cj}{s:St}{o:Op}{a:List aH}{i:Nat}:OB c rec s o x a (.dK i)=(opsV c.aq (dm s (handsOn o)) a).bind λar=>(rec (.dK i ar (dm s (handsOn o)).g)).bind λ|.val v g=>J ({dm s (handsOn o)with g:=g},v)|_=>Z:=(rfl)
theorem ai7{c:Type}{n:Nat}{x:c}:∀{l:List (Nat×c)},look l n=J x->put l n x=l
 |[],h=>by cases h|(a,y)::t,h=>by
  show(bif aw a n then(n,x)::t else(a,y)::put t n x)=_;by_cases b:a=n
  . subst b;have:look ((a,y)::t) a=J y:=by show(bif aw a a then J y else look t a)=_;rw[show aw a a=V from nT a];rfl
    rw[this]at h;cases h;rw[show aw a a=V from nT a];rfl
  . have:look ((a,y)::t) n=look t n:=by show(bif aw a n then J y else look t n)=_;rw[iW b];rfl
    rw[this]at h;rw[iW b,ai7 h];rfl
theorem Z1{i:Nat}{o:GO}(h:g.get i=J o):g.set i o=g:=by show(⟨g.next,put g.yQ i o⟩:GH)=g;rw[ai7 h]
def xp(P:aM)(t:al)(u:jq)(s:St)(d:ah Tmp)(i o:Nat):GO->ah St|.box b=>(match u,fg b o,AM.isAgg P t with|.ref,.ex _,J C=>bif cM o b.cells.length then aJ s d (.gr i o)else Z|_,_,_=>(gP P u t b o).bind λr=>aJ {s with g:=s.g.set i (.box r.2)} d r.1)|_=>Z
theorem aAG{t:al}{n:Nat}{s:cT}{d:ah Tmp}{i:Nat}{o:aX}:Ml P t u ⟨fn,n,s,lb,g⟩ d (.dv (.ptr i D) o)=(g.get i).bind (xp P t u ⟨fn,n,s,lb,g⟩ d i D):=by
 show(match g.get i with|some (.box b)=>_|_=>Z)=_;rcases g.get i with _|o;.rfl
 cases o<;>rfl
theorem aAB{t:al}{e:aA}:∀r,gP P u t ⟨e,[]⟩ D=J r->r.2=⟨e,[]⟩:=by
 intro r hr;unfold gP at hr;rcases b:AM.isAgg P t with _|a;.grind
 rw[b]at hr;cases a with|true=>cases s:bC P t<;>grind|false=>
 rcases h:e[D]? with _|c;.grind
 simp only[h,iE,xU]at hr;rw[<-hr];unfold fg;simp only[h];cases c<;>cases u<;>rfl
theorem az4{t:al}{n:Nat}{s:cT}{d:ah Tmp}{i:Nat}{e:aA}:xp P t u ⟨fn,n,s,lb,g⟩ d i D (.box ⟨e,[]⟩)=(gP P u t ⟨e,[]⟩ D).bind λr=>aJ ⟨fn,n,s,lb,g.set i (.box ⟨e,[]⟩)⟩ d r.1:=by
 have h:(gP P u t ⟨e,[]⟩ D).bind (λr=>aJ ⟨fn,n,s,lb,g.set i (.box r.2)⟩ d r.1)=(gP P u t ⟨e,[]⟩ D).bind λr=>aJ ⟨fn,n,s,lb,g.set i (.box ⟨e,[]⟩)⟩ d r.1:=by grind[gP,aAB]
 refine Eq.trans ?_ h;have:fg ⟨e,[]⟩ D=.any\/fg ⟨e,[]⟩ D=.no:=by
  unfold fg;rcases(⟨e,[]⟩:LB).cells[D]? with _|c;.exact .inr rfl
  cases c<;>first|exact .inl rfl|exact .inr rfl
 show(match u,fg ⟨e,[]⟩ D,AM.isAgg P t with|.ref,.ex _,J C=>_|_,_,_=>_)=_;grind
def stK(P:aM)(t:al)(s:St)(d:ah Tmp)(x:aH)(v:DV)(w:aX)(i o:Nat):GO->ah St|.box b=>(zh P t b o v w).bind λb=>aJ {aQ leave s x with sl:=cV (aQ leave s x).sl,g:=s.g.set i (.box b)} d (.tp [])|_=>Z
theorem aJO{t:al}{n:Nat}{s:cT}{d:ah Tmp}{o:aX}{i:Nat}:RJ P t ⟨fn,n,s,lb,g⟩ d x v ow (.dv (.ptr i D) o)=(g.get i).bind (stK P t ⟨fn,n,s,lb,g⟩ d x v ow i D):=by
 show(match g.get i with|some (.box b)=>_|_=>Z)=_;rcases g.get i with _|o;.rfl
 cases o<;>rfl
theorem aJr{t:al}{n:Nat}{s:cT}{d:ah Tmp}{i:Nat}{b:LB}:stK P t ⟨fn,n,s,lb,g⟩ d x v ow i D (.box b)=(zh P t b D v ow).bind λb=>aJ {aQ leave ⟨fn,n,s,lb,g⟩ x with sl:=cV (aQ leave ⟨fn,n,s,lb,g⟩ x).sl,g:=g.set i (.box b)} d (.tp []):=(rfl)
theorem aBJ{n:Nat}{l:List (Nat×GO)}:(GH.mk n l).next=n:=rfl
theorem amq{a b:List α}:((⟨a⟩:Array α)++(⟨b⟩:Array α)).toList=a++b:=aO
def Tm(P:aM)(s:St)(a t i o:Nat):GO->ah ((DV×aX)×St)|.box b=>(gP P .take t b o).bind λr=>(aJ {s with g:=s.g.set i (.box r.2)} (J a) r.1).bind λs=>uZ s a|_=>Z
def Tn(P:aM)(c:St)(a t:Nat):SV->ah ((DV×aX)×St)|.lp s D=>(look c.lb s).bind λb=>(gP P .take t b D).bind λr=>(aJ {c with lb:=put c.lb s r.2} (J a) r.1).bind λc=>uZ c a|.dv (.ptr id D) _=>(c.g.get id).bind (Tm P c a t id D)|_=>Z
theorem aFU{c:St}:Ji P c (.cell a t)=(look c.sl a).bind (Tn P c a t):=by show(match look c.sl a with|some (.lp s D)=>_|some (.dv (.ptr id D) _)=>_|_=>Z)=_;cases look c.sl a with|none=>rfl|some v=>cases v with
 |dv d o=>cases d with
  |ptr id D=>
  show(match c.g.get id with|some (.box b)=>_|_=>Z)=(c.g.get id).bind _;rcases c.g.get id with _|o;.rfl
  cases o<;>rfl|_=>rfl
 |_=>rfl
theorem anS{c:St}{s:Nat}:Tn P c a t (.lp s D)=(look c.lb s).bind λb=>(gP P .take t b D).bind λr=>(aJ {c with lb:=put c.lb s r.2} (J a) r.1).bind λc=>uZ c a:=(rfl)
theorem anT{s:St}{i:Nat}{o:aX}:Tn P s a t (.dv (.ptr i D) o)=(s.g.get i).bind (Tm P s a t i D):=(rfl)
theorem anR{s:St}{i:Nat}{b:LB}:Tm P s a t i D (.box b)=(gP P .take t b D).bind λr=>(aJ {s with g:=s.g.set i (.box r.2)} (J a) r.1).bind λs=>uZ s a:=(rfl)
attribute[go_sem]aBJ amq aFU anS anT anR ant aAG az4 aJO aJr Z1
def ldS:ah bz->LoopState|none=>.ready|some _=>.done
theorem yX{X j:Type}{i:X->aA}{h:Nat}{y o:aA}{w:GH->Prop}{f:List X}(D:vq i h y o w f){F:ah Nat}{a b:bz}{t:Tg a}{u:Tg b}{n:Nat}{l:cT}{k:eJ->ah bt}(p:X->j->ah bz×j)(R:ah bz->j->GH->Prop)(d:j)(H:∀m,cf.ko h (y++[.dK m]++o)=Z)(O:Cm F g=V)(B:R Z d g)(M:∀c s g',R c s g'->w g')(P:∀c s g1 g2,R c s g1->Lo g.next g1 g2->R c s g2)(K:∀x s g1,qB p f d x s->R Z s g1->g.next<g1.next->g1.get g.next=J (tU fn n (mc l) ps (.mk a t) (.mk b u) .ready Z)->Sat (ev PP cf (.dK g.next (i x) g1)) λv g2=>v=.dv (.bool (p x s).1.isNone) .no/\R (p x s).1 (p x s).2 g2/\Hi (g.next+1) g1 g2/\g2.get g.next=J (tU fn n (mc l) ps (.mk a t) (.mk b u) (ldS (p x s).1) (p x s).1))(L:∀g1,R (bB p f d).1 (bB p f d).2 g1->g.next<g1.next->Sat (HG k ⟨fn,n,cV l,lb,g1⟩ (bB p f d).1) Q):Sat (Ro PP cf (ev PP cf) F ps (.mk a t) (.mk b u) ⟨fn,n,l,lb,g⟩ k (.func h y o)) Q:=by
 let A:ah bz->j->GH->Prop:=λc s g1=>R c s g1/\g.next<g1.next/\g1.get g.next=J (tU fn n (mc l) ps (.mk a t) (.mk b u) (ldS c) c);have U:zX i (qB p f d) g.next (g.next+1) A p:=by
  constructor;.intro x s g1 I hr _;obtain⟨_,g2,e,rfl,r,G,z⟩:=K x s g1 I hr.1 hr.2.1 hr.2.2;exact⟨g2,e,⟨r,fj hr.2.1 G.1,z⟩,G⟩
  .intro c s g1 g2 hr z;exact⟨P _ _ _ _ hr.1 (z.mono (J' _)),fj hr.2.1 z.1,(z.2 _ (Ka _)).trans hr.2.2⟩
 obtain⟨g1,e,hr,_⟩:=D g.next (g.next+1) j A p d U (λc s g' h=>M c s g' h.1) (g.alloc (tU fn n (mc l) ps (.mk a t) (.mk b u) .ready Z)) ⟨P _ _ _ _ B (Lo.alloc (bo _)),Ka _,by rw[pB,if_pos rfl];rfl⟩ (bo _);have E:=hr.2.2;obtain⟨v,g3,e3,q⟩:=L (g1.set g.next (tU fn n (mc l) ps (.mk a t) (.mk b u) .exhausted (bB p f d).1)) (P _ _ _ _ hr.1 (Lo.set (bo _))) hr.2.1;refine⟨v,g3,?_,q⟩;refine Eq.trans ?_ e3;show(bif(cf.ko h (y++[.dK g.next]++o)).isSome||!(Cm F g)then Z else(ev PP cf (.call h (y++[.dK g.next]++o) .no (g.alloc (tU fn n (mc l) ps (.mk a t) (.mk b u) .ready Z)))).bind _)=_;rw[H,O,e];show(match g1.get g.next with|some (.loop r)=>_|_=>Z)=_;rw[E];cases(bB p f d).1<;>rfl
theorem aec:∀e:ab,e.nn<100000000->CC 257 [.agg e.cells] (vT [iO (.ofNat e.nn),iO (.ofNat e.dep)])
 |.mk g f args t v c p o,n=>by
  simp only[ab.nn]at n;refine aK func257 ?_;have hd:=ab.BP args 0;simp only[go_sem,f257,ab.cells,ab.dep,ab.nn];refine iB args ((1,0):Nat×Nat) (λi s=>[(13,iS i),(4,iS s.1),(5,iS s.2)]) (λ_ l s=>vT [iO (.ofNat (s.1+ab.aR l)),iO (.ofNat (ab.kM l s.2+1))]) (λ_ l s=>s.1+ab.aR l<100000000/\s.2+ab.aR l<100000000) (by have:=ab.ji args;omega) rfl (by simp only;omega) (by simp only[Ex]) (λs h=>?_) (λi x l s hi a w h b=>?_);.simp only[ab.aR]at h;simp only[go_sem,ab.kM,ab.aR,zU,xO (show s.2+1<9223372036854775808 by omega)]
  .simp only[ab.aR]at h;have hr:=aec x ae;have d:=ab.EP x;simp only[go_sem,hi,a,w,hr,ab.kM,ab.aR,Ob,Bl (show s.1+x.nn<9223372036854775808 by omega),<-By];exact b (s.1+x.nn,max s.2 x.dep) (by simp only;omega)termination_by e=>kb e decreasing_by simp_wf;have:=jY (cI a);omega
abbrev OS:ab->aA:=λq=>[.agg q.cells]
section
variable{σ:Type}{n k:Nat}{ok:ab->σ->Prop}{rel:ah bz->σ->GH->Prop}{step:ab->σ->ah bz×σ}
def abd(k:Nat)(g:GH)(e:ah bz->σ->GH->Prop)(r:ah bz×σ)(v:SV)(a:GH):Prop:=v=.dv (.bool r.1.isNone) .no/\e r.1 r.2 a/\Hi k g a
theorem aKg(U:zX OS ok n k rel step)(j h r t e o p d)(P:r.length<1100000)(s:σ)(Y:∀q f,qB step (nodes (.mk j h r t e o p d)) s q f->ok q f)(H:∀x,x∈r->∀s g,(∀q f,qB step (nodes x) s q f->ok q f)->rel Z s g->k<=g.next->Sat (ev PP cf (.call 317 [.agg x.cells,.dK n] .no g)) (abd k g rel (bB step (nodes x) s)))(g:GH)(K:rel Z s g)(G:k<=g.next):Sat (ev PP cf (.call 317 [.agg (ab.mk j h r t e o p d).cells,.dK n] .no g)) (abd k g rel (bB step (nodes (.mk j h r t e o p d)) s)):=by obtain⟨g1,e1,r1,E⟩:=U.run _ s g (Y _ _ ⟨[],dL r,by rfl,rfl⟩) K G;refine kp func317 ?_;have O:∀pre,bB step (.mk j h r t e o p d::pre) s=match(step (.mk j h r t e o p d) s).1 with|none=>bB step pre (step (.mk j h r t e o p d) s).2|some c=>(J c,(step (.mk j h r t e o p d) s).2):=λpre=>rN _ _ _ _;rw[nodes]at Y|-;rw[rN];generalize step (.mk j h r t e o p d) s=z at*;simp only[OS,ab.cells,go_sem]at e1;obtain⟨c,m⟩:=z;cases c with|some c=>simp only[pn]at e1;simp only[go_sem,f317,ab.cells,e1];exact⟨rfl,r1,E⟩|none=>
 simp only[pj]at e1;simp only[go_sem,f317,ab.cells,e1];refine vX r (m,g1) (λi _=>[(14,iS i)]) (λs=>s.2) (λ_ l f=>rel Z f.1 f.2/\Hi k g f.2/\bB step (dL l) f.1=bB step (dL r) m/\∃done,dL r=done++dL l/\bB step done m=(Z,f.1)) ae rfl rfl ⟨r1,E,rfl,[],rfl,rfl⟩ (λf I=>?_) (λi x l f hi w L I M=>?_);.simp only[go_sem];obtain⟨a,b,c,_⟩:=I;rw[<-c];exact⟨rfl,a,b⟩
 . obtain⟨a,b,c,u,d1,d2⟩:=I;obtain⟨v,g2,e2,rfl,r2,F⟩:=H x (cI w) f.1 f.2 (by rintro q B⟨pre,post,Q,R⟩;refine Y q B ⟨.mk j h r t e o p d::(u++pre),post++dL l,?_,?_⟩;all_goals grind[dL,lT]) a (gv G b.1);rw[dL,lT]at c;have d3:bB step (u++nodes x) m=bB step (nodes x) f.1:=by grind[lT]
   generalize bB step (nodes x) f.1=y at*;obtain⟨D,N⟩:=y;cases D with|none=>have A:=M (N,g2) ⟨r2,b.trans F,c,u++nodes x,by grind[dL],d3⟩;simp only[pj]at e2;simp only[go_sem,hi,w,L,e2]at A|-;omega|some D=>simp only[pn]at e2;simp only[go_sem,hi,w,e2];rw[<-c];exact⟨rfl,r2,b.trans F⟩
theorem ab.MF:∀(l:aF)(x:ab),x∈l->∀q,q∈nodes x->q∈dL l
 |[],_,h,_,_=>by simp at h|y::l,x,h,q,a=>by
  rw[dL,CF];rcases List.mem_cons.1 h with rfl|h;.exact .inl a
  .exact .inr (ab.MF l x h q a)
theorem aej(U:zX OS ok n k rel step):∀p:ab,p.nn<1100000->∀s g,(∀q a,qB step (nodes p) s q a->ok q a)->rel Z s g->k<=g.next->Sat (ev PP cf (.call 317 [.agg p.cells,.dK n] .no g)) (abd k g rel (bB step (nodes p) s))|.mk f l args t v c b o,e,s,g,Y,hr,d=>by simp only[ab.nn]at e;exact aKg U _ _ _ _ _ _ _ _ (by have:=ab.ji args;omega) s Y (λx h=>aej U x (by have:=ab.lM args _ h;omega)) g hr d termination_by p=>kb p decreasing_by simp_wf;have:=jY h;omega
end
def acr(g:GH)(b:Nat)(p:ab):Prop:=g.get b=J (.box ⟨p.cells,[]⟩)
theorem Qn(b:Nat)(p:ab)(e:p.nn<1100000):vq OS 316 [] [.ptr b 0] (acr . b p) (nodes p):=by intro n k i r step s U M g hr d;have c:g.get b=J _:=M _ _ _ hr;obtain⟨v,g2,e2,rfl,r2,a⟩:=aej U p e s g (λq f h=>h) hr d;refine⟨g2,?_,r2,a⟩;refine aK func316 ?_;simp only[go_sem,f316,c,e2]
mutual
def Expr.same : Expr -> Expr -> Bool
  | .mk op _ args var c n k num str, .mk r _ m a q W O A B => ai op r && (ai var a && (ai c q && (ai n W && (DZ k num str O A B && Expr.pP args m))))
def Expr.pP : List Expr -> List Expr -> Bool
  | [], [] => V
  | x :: s, y :: a => x.same y && Expr.pP s a
  | _, _ => C
end
theorem Expr.Bc:∀s a:List Expr,Expr.pP s a=fM Expr.same s a|[],[]=>rfl|x::s,y::a=>by simp only[Expr.pP,fM,Expr.Bc s a];cases x.same y<;>rfl|[],_::_=>rfl|_::_,[]=>rfl
theorem Expr.nZ:∀l:List Expr,Expr.aN l=l.map λe=>.agg e.cells|[]=>rfl|e::l=>by simp[Expr.aN,Expr.nZ l]
theorem ab.nZ:∀l:aF,ab.aN l=l.map λe=>.agg e.cells|[]=>rfl|e::l=>by simp[ab.aN,ab.nZ l]
theorem aJ3(o j a v c n k u s r t m g q W O A B)(F:a.length<1000000000)(C:∀x,x∈a->∀d:Expr,CC 121 [.agg x.cells,.agg d.cells] (vB (x.same d))):CC 121 [.agg (Expr.mk o j a v c n k u s).cells,.agg (Expr.mk r t m g q W O A B).cells] (vB ((Expr.mk o j a v c n k u s).same (.mk r t m g q W O A B))):=by
 refine aK func121 ?_;have hd:=aIl;simp only[bq,opsOf,f121,go_sem]at hd;by_cases e:a.length=m.length
 . simp only[go_sem,f121,Expr.cells,Expr.same,Expr.Bc,tq _ _ e];repeat'(with_reducible apply sp<;>intro h<;>simp only[h,e,go_sem])
   refine dJ (a.zip m) (λi=>[(51,iS i)]) (λi l=>vB (l.all λp=>p.1.same p.2)) aj rfl rfl ?_ (λi x l hi b w f=>?_);.simp only[go_sem,kX e,nu,e]
   .obtain⟨b,y⟩:=vn b;rw[kX e,e]at hi;have hr:=C x.1 (cI b) x.2;simp only[go_sem,hd,hi,b,y,hr,kY]at f|-;apply sp<;>intro h<;>simp only[h,w,f,go_sem]
 .simp only[go_sem,f121,Expr.cells,Expr.same,Expr.Bc,tj _ _ e];repeat'(with_reducible apply sp<;>intro h<;>simp only[h,e,go_sem])
theorem ET:∀e d:Expr,e.nn<100000000->CC 121 [.agg e.cells,.agg d.cells] (vB (e.same d))|.mk o l args v c g k num str,.mk r u m a q W O A B,n=>by simp only[Expr.nn]at n;exact aJ3 _ _ _ _ _ _ _ _ _ _ _ _ _ _ _ _ _ _ (by have:=Expr.ji args;omega) λx h d=>ET x d (by have:=Expr.lM args _ h;omega)termination_by e=>kb e decreasing_by simp_wf;have:=jY h;omega
theorem aJ5(o j a v c n k u s r t m g q W O A B)(F:a.length<1000000000)(C:∀x,x∈a->∀d:Expr,CC 142 [.agg x.cells,.agg d.cells] (vB (x.same d))):CC 142 [.agg (Expr.mk o j a v c n k u s).cells,.agg (Expr.mk r t m g q W O A B).cells] (vB ((Expr.mk o j a v c n k u s).same (.mk r t m g q W O A B))):=by
 refine aK func142 ?_;have hd:=aIr;simp only[bq,opsOf,f142,go_sem]at hd;by_cases e:a.length=m.length
 . simp only[go_sem,f142,Expr.cells,Expr.same,Expr.Bc,tq _ _ e];repeat'(with_reducible apply sp<;>intro h<;>simp only[h,e,go_sem])
   refine dJ (a.zip m) (λi=>[(5,iS i)]) (λi l=>vB (l.all λp=>p.1.same p.2)) aj rfl rfl ?_ (λi x l hi b w f=>?_);.simp only[go_sem,kX e,nu,e]
   .obtain⟨b,y⟩:=vn b;rw[kX e,e]at hi;have hr:=C x.1 (cI b) x.2;simp only[go_sem,hd,hi,b,y,hr,e,kY]at f|-;apply sp<;>intro h<;>simp only[h,w,f,go_sem]
 .simp only[go_sem,f142,Expr.cells,Expr.same,Expr.Bc,tj _ _ e];repeat'(with_reducible apply sp<;>intro h<;>simp only[h,e,go_sem])
theorem HK:∀e d:Expr,e.nn<100000000->CC 142 [.agg e.cells,.agg d.cells] (vB (e.same d))|.mk o l args v c g k num str,.mk r u m a q W O A B,n=>by simp only[Expr.nn]at n;exact aJ5 _ _ _ _ _ _ _ _ _ _ _ _ _ _ _ _ _ _ (by have:=Expr.ji args;omega) λx h d=>HK x d (by have:=Expr.lM args _ h;omega)termination_by e=>kb e decreasing_by simp_wf;have:=jY h;omega
end Go.VM
