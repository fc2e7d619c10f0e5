/- Proved: what functions of the program and of the references answer (a part of the proof of FeasiblePlansUptoCardSaid, whose theorem stands in the last text), within the sizes that each theorem names. -/
import Derived.Test.YtilblajffdkccaaGreatDoorAg
open Option renaming some->J,none->Z
open Bool renaming true->V,false->C
open Bool renaming noConfusion->mK
open Go renaming TypeId->al,Value->aB,Oper->aC,Operand->aH,Program->aM,World->aT,Code->bz,FuncId->bS,Frame->cZ,lone->eT,IntKind->gZ,MapEntry->kZ
open Go.Builtin renaming zeroCells->nR,firstCells->oE,append_->s8,copy_->zF
open Go.Lib renaming compact->tb
open Go.Op renaming operands->eB,mapUpdate->rC
open Go.Proofs.Tryz renaming prog->eS
open Go.Region renaming binds->uq
open Go.stepG renaming exec->ug
open Int renaming ofNat->dI,sub->nS
open List renaming rec->kG,append->qA
open Nat renaming beq->aw,ble->bV,blt->cM,succ->eU,add->im,mul->jD
open SizeOf renaming sizeOf->kb
open UInt8 renaming toNat->nU
noncomputable section
set_option linter.all false
namespace Go.VM
open Go Go.AM Proofs.Tryz
variable{α:Type}{a e m s:Nat}{l:aA}{P:aM}{p x:ab}
attribute[local congr]cC cD
set_option maxRecDepth 100000
set_option maxHeartbeats 1000000
def jA(o:Int):Bool:=ai o 5||ai o 9
def iK(o:Int):Bool:=ai o 0||jA o
def ue(o:Int):Bool:=ai o 6||ai o 10
def wq(o:Int):Bool:=jA o||ue o
def sF(o:Int):Bool:=iK o||ai o 7
def Qx(o:Int):Int:=bif ai o 0 then 0 else bif ai o 1||(ai o 2||(ai o 3||ai o 8))then 2 else 1
def QH(o:Int):Int:=bif ai o 0 then 0 else bif ai o 1||(ai o 2||ai o 3)then 64 else bif ai o 8 then 2 else 1
theorem auE:cf.aq 0=J Ln:=(rfl)
theorem auF:cf.aq 1=J Lp:=(rfl)
theorem aAY(m:Nat):ao (.ofNat m) 0=C:=by rfl
theorem Wo(m:Nat):ao (.negSucc m) 0=V:=rfl
theorem axz{s:St}{d:ah Tmp}(h:ao (.ofNat m) 11=V):FE PP s d (.global 1) m (J (.array 11 325)) (.ev (.agg Lp))=aJ s d (.ev (.agg [iD (Qx (.ofNat m)),iD (QH (.ofNat m)),.bool (iK (.ofNat m)),.bool (sF (.ofNat m)),.bool (wq (.ofNat m)),.bool (ue (.ofNat m))])):=by
 have:m<11:=by grind[eP]
 match m,this with|0,_|1,_|2,_|3,_|4,_|5,_|6,_|7,_|8,_|9,_|10,_=>rfl
def keB(o:Int):Bool:=!(ai o 2||ai o 4)
def kW(o:Int):Bool:=ai o 0||(ai o 5||ai o 7)
theorem axy{s:St}{d:ah Tmp}(h:ao (.ofNat m) 8=V):FE PP s d (.global 0) m (J (.array 8 260)) (.ev (.agg Ln))=aJ s d (.ev (.agg [.bool (keB (.ofNat m)),.bool (kW (.ofNat m))])):=by
 have:m<8:=by grind[eP]
 match m,this with|0,_|1,_|2,_|3,_|4,_|5,_|6,_|7,_=>rfl
attribute[go_sem]auE auF axz axy aAY Wo J0
def qR(u:Bool)(n m:Int):Bool:=bif u then !ao n 0&&!ao m n else V
theorem aq6(u:Bool)(n m:Int):CC 327 [.bool u,iD n,iD m] (vB (qR u n m)):=by refine aK func327 ?_;cases u<;>simp only[go_sem,f327,qR];repeat'(with_reducible apply sp<;>intro h<;>simp only[h,go_sem])
def vg(u:Bool)(n:Int):Bool:=bif u then V else ai n 0
theorem aq7(u:Bool)(n:Int):CC 328 [.bool u,iD n] (vB (vg u n)):=by refine aK func328 ?_;cases u<;>simp only[go_sem,f328,vg]
theorem ard(u:Bool)(n m:Int):CC 333 [.bool u,iD n,iD m] (vB (!qR u n m)):=by refine aK func333 ?_;cases u<;>simp only[go_sem,f333,qR];repeat'(with_reducible apply sp<;>intro h<;>simp only[h,go_sem])
def Ep:Expr:=.mk 0 V [] 0 0 0 0 0 []
theorem aLG(c:Expr)(h:c.nn<100000000):CC 121 [.agg c.cells,.agg [iD 0,.nl,iD 0,iD 0,iD 0,iD 0,iD 0,.str []]] (vB (c.same Ep)):=ET c Ep h
theorem aLH(c:Expr)(h:c.nn<100000000):CC 142 [.agg c.cells,.agg [iD 0,.nl,iD 0,iD 0,iD 0,iD 0,iD 0,.str []]] (vB (c.same Ep)):=HK c Ep h
def DK(o:Int)(n:Nat)(t v s p e:Int)(m:Bool):Int:=bif ao o 0||!ao o 11 then 1 else bif ao (.ofNat n) (Qx o)||ao (QH o) (.ofNat n)then 15 else bif qR (iK o) t 15&&(qR (iK o) v 15&&(qR (wq o) s 63&&qR (ue o) p 1099511627776))then bif sF o&&!ai e 0 then e else bif(sF o||m)&&(vg (iK o) t&&(vg (iK o) v&&(vg (wq o) s&&vg (ue o) p)))then 0 else 3 else 2
def ab.fE:ab->Int|.mk op _ args ty var scope s cond=>DK op args.length ty var scope s cond.gU (cond.same Ep)
theorem aqF(o n a t v s p)(c:Expr)(f:c.nn<1100000):CC 258 [.agg (ab.mk o n a t v s p c).cells] (vI (ab.mk o n a t v s p c).fE):=by have d:=HL c ae;have e:=aLG c ae;refine aK func258 ?_;cases o with|negSucc m=>simp only[go_sem,f258,ab.cells,ab.fE,DK]|ofNat m=>cases b:ao (.ofNat m) 11 with|false=>simp only[go_sem,f258,ab.cells,b,ab.fE,DK]|true=>simp only[go_sem,f258,ab.cells,b,ab.fE,DK];repeat'(with_reducible apply sp<;>intro h<;>simp only[h,d,e,aq6,aq7,go_sem])
def ab.cond:ab->Expr|.mk _ _ _ _ _ _ _ cond=>cond
def ab.op:ab->Int|.mk op _ _ _ _ _ _ _=>op
def ab.var:ab->Int|.mk _ _ _ _ var _ _ _=>var
def ab.scope:ab->Int|.mk _ _ _ _ _ scope _ _=>scope
structure fY(p:ab):Prop where
 a:p.nn<1100000
 b:∀q∈nodes p,q.cond.nn<1100000
def tD:aF->Int|[]=>0|q::l=>bif ai q.fE 0 then tD l else q.fE
def ab.fe(p:ab):Int:=bif ao 64 (.ofNat p.nn)then 5 else bif ao 12 (.ofNat p.dep)then 12 else tD (nodes p)
def RM(q:ab)(s:Int):ah bz×Int:=bif ai q.fE 0 then(Z,s)else(J .ret,q.fE)
theorem O3(p:ab)(g:GH):ev PP cf (.call 242 [.agg p.cells] .no g)=J (.val (.dv (.func 316 [] [.ptr g.next 0]) .no) (g.alloc (.box ⟨p.cells,[]⟩))):=by refine aK func242 ?_;simp only[go_sem,f242]
theorem ae5:∀(l:aF),bB RM l 0=(bif ai (tD l) 0 then Z else J .ret,tD l)|[]=>rfl|q::l=>by simp only[bB,RM,tD];cases h:ai q.fE 0 with|true=>simpa using ae5 l|false=>simp[h]
theorem aqG(q:ab)(h:q.cond.nn<1100000):CC 258 [.agg q.cells] (vI q.fE):=by obtain⟨op,nl,args,ty,var,scope,s,cond⟩:=q;exact aqF _ _ _ _ _ _ _ _ h
theorem O0(p:ab)(b:fY p):Sat (ev PP cf (.call 188 [.agg p.cells] .no .empty)) λv _=>v=zS p.fe:=by
 refine kp func188 ?_;simp only[go_sem,f188,aec p (by have:=b.a;omega),ab.fe];apply eC<;>intro h<;>simp only[h,go_sem];apply eC<;>intro h<;>simp only[h,go_sem,O3];refine yX (Qn 2 p b.a) RM (λc s g=>g.get 1=J (.box ⟨[iD s],[]⟩)/\g.get 2=J _) 0 (λm=>rfl) rfl ⟨rfl,rfl⟩ (λc s g h=>h.2) (λc s g1 g2 h l=>⟨(l.2 1 aj).trans h.1,(l.2 2 aj).trans h.2⟩) (λx s g1 d R hN L=>?_) (λg1 R hN=>?_);.refine ze L rfl ?_;have a:=aqG x (b.b x d.mem);simp only at hN L;have n:∀i,i<=3->(i=g1.next)=False:=λi h=>bW ae;have e:∀i,i<=3->(g1.next=i)=False:=λi h=>bW ae;simp only[go_sem,a,L,n,e,RM];apply eC<;>intro h<;>simp only[h,go_sem,R.1,R.2,L,n]<;>exact⟨rfl,⟨trivial,trivial⟩,gF,rfl⟩
 .rw[ae5]at R|-;have a:=R.1;cases h:ai (tD (nodes p)) 0<;>simp only[a,go_sem];rw[pZ h]
def ab.Cz(p:ab):Int:=bif ai p.fe 0 then(bif(nodes p).any (λq=>!ao q.op 8)then 1 else 0)else p.fe
def RN(q:ab)(s:Int):ah bz×Int:=bif ao q.op 8 then(Z,s)else(J .ret,1)
theorem ae6:∀(l:aF),bB RN l 0=bif l.any (λq=>!ao q.op 8)then(J .ret,1)else(Z,0)|[]=>rfl|q::l=>by simp only[bB,RN,nv];cases h:ao q.op 8 with|true=>simpa using ae6 l|false=>simp
theorem aqx(p:ab)(b:fY p):Sat (ev PP cf (.call 241 [.agg p.cells] .no .empty)) λv _=>v=zS p.Cz:=by
 obtain⟨_,g0,e,rfl⟩:=O0 p b;refine kp func241 ?_;simp only[go_sem,f241,e,ab.Cz];apply eC<;>intro h<;>simp only[h,go_sem,O3];refine yX (Qn 2 p b.a) RN (λc s g=>g.get 1=J (.box ⟨[iD s],[]⟩)/\g.get 2=J _) 0 (λm=>rfl) rfl ⟨rfl,rfl⟩ (λc s g h=>h.2) (λc s g1 g2 h l=>⟨(l.2 1 aj).trans h.1,(l.2 2 aj).trans h.2⟩) (λx s g1 j R hN L=>?_) (λg1 R hN=>?_);.refine ze L rfl ?_;simp only at hN L;have n:∀i,i<=3->(i=g1.next)=False:=λi h=>bW ae;have f:∀i,i<=3->(g1.next=i)=False:=λi h=>bW ae;obtain⟨op,nl,args,ty,var,scope,d,cond⟩:=x;simp only[go_sem,L,n,f,RN,ab.op,ab.cells];apply eC<;>intro h<;>simp only[h,go_sem,R.1,R.2,L,n]<;>exact⟨rfl,aP,gF,rfl⟩
 .rw[ae6]at R|-;have a:=R.1;cases h:(nodes p).any _<;>rw[h]at a<;>simp only[aL,bg]at a<;>simp only[a,go_sem]
def NS(z:Int):Int:=fS .i64 (Int.add z 1)
def qH(s:Int×Int×Bool)(q:ab):Int×Int×Bool:=let t:=bif iK q.op then(NS s.1,s.2.1,s.2.2&&ai q.var s.1)else s
 bif wq q.op then(t.1,NS t.2.1,t.2.2&&ai q.scope t.2.1)else t
def wR(l:aF):Int×Int×Bool:=l.foldl qH (0,0,V)
def RL(q:ab)(s:Int×Int×Bool):ah bz×(Int×Int×Bool):=(Z,qH s q)
theorem ae4:∀(l:aF)(s:Int×Int×Bool),bB RL l s=(Z,l.foldl qH s)|[],_=>rfl|q::l,s=>by simp only[bB,RL,xS];exact ae4 l _
theorem Lf:∀{l:aF},tD l=0->∀q∈l,q.fE=0|a::l,h,q,m=>by simp only[tD]at h;cases b:ai a.fE 0 with
 |true=>
 rw[b]at h;rcases List.mem_cons.1 m with rfl|m;.exact pZ b
 .exact Lf h q m|false=>rw[b]at h;rw[show a.fE=0 from h]at b;simp[ai]at b
theorem OI(h:p.fe=0):tD (nodes p)=0/\p.nn<=64/\p.dep<=12:=by grind[ab.fe,eP]
theorem ah4{q:ab}(h:q.fE=0):∃m:Nat,q.op=.ofNat m/\ao (.ofNat m) 11=V:=by obtain⟨op,nl,args,ty,var,scope,s,cond⟩:=q;simp only[ab.fE,DK]at h;cases a:ao op 0 with|true=>grind|false=>
 rcases b:ao op 11 with _|_;.grind
 simp only[eP,EN,mw]at a b;exact⟨op.toNat,by grind[ab.op],aj⟩
theorem ad1(p:ab)(k:p.nn<1100000)(w:∀q∈nodes p,q.fE=0):Sat (ev PP cf (.call 174 [.agg p.cells] .no .empty)) λv _=>v=.tp [iO (wR (nodes p)).1,iO (wR (nodes p)).2.1,bO (wR (nodes p)).2.2]:=by
 have hd:=aIu;simp only[bq,opsOf,f174,go_sem]at hd;refine kp func174 ?_;simp only[go_sem,f174,O3];refine yX (Qn 4 p k) RL (λc s g=>g.get 1=J (.box ⟨[iD s.1],[]⟩)/\g.get 2=J (.box ⟨[iD s.2.1],[]⟩)/\g.get 3=J (.box ⟨[.bool s.2.2],[]⟩)/\g.get 4=J (.box ⟨p.cells,[]⟩)) (0,0,V) (λm=>rfl) rfl ⟨rfl,rfl,rfl,rfl⟩ (λc s g h=>h.2.2.2) (λc s g1 g2 h l=>⟨(l.2 1 aP).trans h.1,(l.2 2 aP).trans h.2.1,(l.2 3 aP).trans h.2.2.1,(l.2 4 aP).trans h.2.2.2⟩) (λx s g1 o R hN L=>?_) (λg1 R hN=>?_)
 . refine ze L rfl ?_;simp only at hN L;have n:∀i,i<=5->(i=g1.next)=False:=λi h=>bW ae;have t:∀i,i<=5->(i=g1.next+1)=False:=λi h=>bW ae;have b:∀i,i<=5->(g1.next=i)=False:=λi h=>bW ae;have d:∀i,i<=5->(g1.next+1=i)=False:=λi h=>bW ae;have e:(g1.next+1=g1.next)=False:=bW ae;have u:(g1.next=g1.next+1)=False:=bW ae;obtain⟨m,a,l⟩:=ah4 (w x o.mem);obtain⟨op,nl,args,ty,var,scope,j,cond⟩:=x;obtain⟨A,z,y⟩:=s;obtain⟨r1,r2,r,f⟩:=R;simp only[ab.op]at a;subst a;simp only[go_sem,L,l,n,b,d,e,RL,qH,ab.op,ab.var,ab.scope,ab.cells];cases y<;>repeat'(with_reducible apply eC<;>intro h<;>simp only[h,go_sem,r1,r2,r,f,L,n,t,b,d,e,u,NS])
   all_goals exact⟨rfl,⟨trivial,trivial,trivial,trivial⟩,gF,rfl⟩
 .rw[ae4]at R|-;obtain⟨r1,r2,r,f⟩:=R;simp only[r1,r2,r,hd,go_sem,wR]
def ab.hM(p:ab):Int:=bif ai p.Cz 0 then(bif(wR (nodes p)).2.2 then 0 else 14)else p.Cz
theorem R4(h:p.Cz=0):p.fe=0/\((nodes p).any λq=>!ao q.op 8)=C:=by
 unfold ab.Cz at h;rcases a:ai p.fe 0 with _|_;.simp_all[ai]
 grind[pZ]
theorem OH(h:p.hM=0):p.Cz=0:=by grind[ab.hM,pZ]
theorem OY(p:ab)(a:fY p):CC 173 [.agg p.cells] (vI p.hM):=by obtain⟨_,g0,b,rfl⟩:=aqx p a;refine aK func173 ?_;simp only[go_sem,f173,b,ab.hM];apply sp<;>intro h<;>simp only[h,go_sem];obtain⟨_,g1,c,rfl⟩:=ad1 p a.a (Lf (OI (R4 (pZ h)).1).1);simp only[go_sem,c];apply sp<;>intro h<;>simp only[h,go_sem]
def hO(p:ab):Int×Int×Int:=bif ai p.hM 0 then((wR (nodes p)).1,(wR (nodes p)).2.1,0)else(0,0,p.hM)
theorem adI(p:ab)(a:fY p):CC 105 [.agg p.cells] (vT [iO (hO p).1,iO (hO p).2.1,iO (hO p).2.2]):=by have b:=OY p a;refine aK func105 ?_;simp only[go_sem,f105,b,hO];apply sp<;>intro h<;>simp only[h,go_sem];obtain⟨_,g1,c,rfl⟩:=ad1 p a.a (Lf (OI (R4 (OH (pZ h))).1).1);simp only[go_sem,c]
section
variable(op:Int)(nl:Bool)(B:aF)(ty var U span:Int)(cond:Expr)
theorem K6:CC 195 [.agg (ab.mk op nl B ty var U span cond).cells] (vB (jA op)):=by refine aK func195 ?_;simp only[go_sem,f195,ab.cells,jA];repeat'(with_reducible apply sp<;>intro h<;>simp only[h,go_sem])
theorem Uh:CC 196 [.agg (ab.mk op nl B ty var U span cond).cells] (vB (ue op)):=by refine aK func196 ?_;simp only[go_sem,f196,ab.cells,ue];repeat'(with_reducible apply sp<;>intro h<;>simp only[h,go_sem])
theorem O1:CC 194 [.agg (ab.mk op nl B ty var U span cond).cells] (vB (iK op)):=by have a:=K6 op nl B ty var U span cond;simp only[ab.cells,go_sem]at a;refine aK func194 ?_;simp only[go_sem,f194,ab.cells,iK];repeat'(with_reducible apply sp<;>intro h<;>simp only[h,a,go_sem])
theorem arc:CC 332 [.agg (ab.mk op nl B ty var U span cond).cells] (vB (sF op)):=by have a:=O1 op nl B ty var U span cond;simp only[ab.cells,go_sem]at a;refine aK func332 ?_;simp only[go_sem,f332,ab.cells,sF,a];repeat'(with_reducible apply sp<;>intro h<;>simp only[h,go_sem])
def qC(o:Int)(n:Nat):Bool:=bif ai o 0 then ai (.ofNat n) 0 else bif ai o 1||(ai o 2||ai o 3)then !ao (.ofNat n) 2 else bif ai o 8 then ai (.ofNat n) 2 else ai (.ofNat n) 1
theorem arb:CC 331 [.agg (ab.mk op nl B ty var U span cond).cells] (vB (qC op B.length)):=by refine aK func331 ?_;simp only[go_sem,f331,ab.cells,qC];repeat'(with_reducible apply sp<;>intro h<;>simp only[h,go_sem])
theorem SW(o:Int)(n:Nat)(h:n<=64):(ao (.ofNat n) (Qx o)||ao (QH o) (.ofNat n))=!qC o n:=by grind[Qx,QH,qC,eP,kO]
theorem aDX(o:Int):(iK o=V/\jA o=C/\ue o=C/\sF o=V)\/(iK o=V/\jA o=V/\ue o=C/\sF o=V)\/(iK o=C/\jA o=C/\ue o=V/\sF o=C)\/(iK o=C/\jA o=C/\ue o=C/\sF o=V)\/(iK o=C/\jA o=C/\ue o=C/\sF o=C):=by grind[sF,iK,jA,ue,kO]
theorem aqN(o:cond.nn<1100000)(m:B.length<=64):CC 268 [.agg (ab.mk op nl B ty var U span cond).cells] (vI (ab.mk op nl B ty var U span cond).fE):=by
 have k:=HM cond ae;have l:=aLH cond ae;have e:=O1 op nl B ty var U span cond;have f:=K6 op nl B ty var U span cond;have g:=Uh op nl B ty var U span cond;have i:=arc op nl B ty var U span cond;have j:=arb op nl B ty var U span cond;simp only[ab.cells,go_sem]at e f g i j;have q:=aIT;have n:=aIU;simp only[bq,opsOf,f268,go_sem]at q n;have tA:(!ao op 11)=ao 10 op:=by simp only[eP];by_cases h:op<11<;>simp[h]<;>omega
 refine aK func268 ?_;rcases aDX op with⟨a,b,c,d⟩|⟨a,b,c,d⟩|⟨a,b,c,d⟩|⟨a,b,c,d⟩|⟨a,b,c,d⟩<;>rw[a]at e<;>rw[b]at f<;>rw[c]at g<;>rw[d]at i<;>simp only[go_sem,f268,ab.cells,ab.fE,DK,tA,wq,a,b,c,d,SW _ _ m]<;>repeat'(with_reducible apply sp<;>intro h<;>simp only[h,k,l,e,f,g,i,j,ard,qR,vg,q,n,go_sem])
end
theorem axD{f i:Nat}{l:cT}{b:dX}{g:GH}{d:ah Tmp}{x:aH}:FE P ⟨f,m,l,b,g⟩ d x i (J (.slice e)) (.sr s)=((look l s).bind Pc).bind λy=>(bC P e).bind λn=>bif aw n y.2.2&&(aw y.2.1 e&&cM i y.1.length)then aJ ⟨f,m,l,b,g⟩ d (.se s i 0)else Z:=by show(nB _ s).bind _=_;rw[Uy]
theorem ctW{c:cj}{r:eK}{A:xW}{b:ah bt}:cond V (W P c r A) b=sY P c r A:=(rfl)
theorem cfW{c:cj}{r:eK}{A:xW}{b:ah bt}:cond C b (W P c r A)=sY P c r A:=(rfl)
theorem apv:ai 1 0=C/\ai 2 0=C/\ai 3 0=C/\ai 4 0=C/\ai 5 0=C/\ai 6 0=C/\ai 7 0=C/\ai 8 0=C/\ai 9 0=C/\ai 10 0=C/\ai 11 0=C/\ai 12 0=C/\ai 13 0=C/\ai 14 0=C/\ai 15 0=C/\ai 16 0=C/\ai 17 0=C/\ai 18 0=C/\ai 19 0=C/\ai 20 0=C/\ai 21 0=C/\ai 22 0=C/\ai 23 0=C:=gD
attribute[go_sem]apv
attribute[go_sem 1100]ctW cfW
attribute[go_sem]axD
mutual
theorem ab.KG (l : Nat) : ∀ e : ab, (e.nn <= l -> e.cN l = e.nn) /\ (l < e.nn -> l < e.cN l)
  | .mk _ _ args _ _ _ _ _ => by
    have := ab.KJ l args 1
    simp only [ab.cN, ab.nn, Ex _ 1]; exact this
theorem ab.KJ (i : Nat) : ∀ (l : aF) (n : Nat), (n + ab.aR l <= i -> ab.lI i l n = n + ab.aR l) /\ (i < n + ab.aR l -> i < ab.lI i l n)
  | [], n => by simp [ab.lI, ab.aR]
  | e :: l, n => by
    have h := ab.KG i e
    have a := ab.KJ i l (n + e.cN i)
    simp only [ab.lI, ab.aR]
    split <;> omega
end
theorem ab.aom(l:Nat)(e:ab):ao (.ofNat l) (.ofNat (e.cN l))=ao (.ofNat l) (.ofNat e.nn):=by have:=ab.KG l e;grind[eP]
mutual
theorem ab.ME : ∀ (p q : ab), q ∈ nodes p -> q.nn <= p.nn
  | .mk o n args t v s a c, q, h => by
    rw [nodes] at h
    rcases List.mem_cons.1 h with rfl | h
    · exact bo _
    · have := ab.ah9 args q h
      simp only [ab.nn]; omega
theorem ab.ah9 : ∀ (l : aF) (q : ab), q ∈ dL l -> q.nn <= ab.aR l
  | [], _, h => by simp [dL] at h
  | p :: l, q, h => by
    rw [dL, CF] at h
    simp only [ab.aR]
    rcases h with h | h
    · have := ab.ME p q h; omega
    · have := ab.ah9 l q h; omega
end
theorem aqO(q:ab)(h:q.cond.nn<1100000)(n:q.nn<=64):CC 268 [.agg q.cells] (vI q.fE):=by obtain⟨op,nl,args,ty,var,scope,s,cond⟩:=q;exact aqN _ _ _ _ _ _ _ _ h (by grind[ab.ji,ab.nn])
theorem rW(p:ab):(nodes p).length=p.nn:=by have:=FV [p];grind[dL,ab.aR]
theorem Uk(p:ab)(a:fY p):CC 204 [.agg p.cells] (vI p.fe):=by
 have d:ev PP cf (.call 34 [.agg p.cells,.int .i64 64] .no .empty)=_:=O6 64 p (by have:=a.a;omega);have e:ao 64 (.ofNat (p.cN 64))=ao 64 (.ofNat p.nn):=ab.aom 64 p;have f:=Ut p (by have:=a.a;omega);have g:=yi p (by have:=a.a;omega);refine aK func204 ?_;simp only[go_sem,f204,d,e,ab.fe];apply sp<;>intro h<;>simp only[h,go_sem,f];have n:p.nn<=64:=by grind[eP]
 apply sp<;>intro h<;>simp only[h,go_sem,g];refine dJ _ (λi=>[(4,iS i)]) (λ_ l=>vI (tD l)) (by grind[rW]) rfl rfl ?_ (λi x l hi b w c=>?_);.simp only[go_sem,tD]
 .have m:=cI b;have hr:=aqO x (a.b x m) (gv (ab.ME p x m) n);simp only[go_sem,hi,b,hr,tD]at c|-;apply sp<;>intro h<;>simp only[h,w,c,go_sem]
theorem aqI(l:aF)(c:l.length<1200000):CC 260 [.ay (ab.aN l) 32 14] (vB (!(l.any λq=>!ao q.op 8))):=by
 refine aK func260 ?_;simp only[go_sem,f260];refine dJ l (λi=>[(3,iS i)]) (λ_ l=>vB (!(l.any _))) ae rfl rfl ?_ (λi x l hi b w a=>?_);.simp only[go_sem,zM]
 .obtain⟨op,nl,args,ty,var,scope,s,cond⟩:=x;simp only[go_sem,hi,b,ab.cells,nv,ab.op]at a|-;apply sp<;>intro h<;>simp only[h,w,a,go_sem]
theorem KE:∀(l:aF)(a b:Int),(l.foldl qH (a,b,C)).2.2=C
 |[],_,_=>rfl|q::l,a,b=>by
  have e:∃c d,qH (a,b,C) q=(c,d,C):=by unfold qH;cases iK q.op<;>cases wq q.op<;>simp
  obtain⟨c,d,e⟩:=e;rw[xS,e];exact KE l c d
theorem K5(p:ab)(b:fY p):CC 193 [.agg p.cells] (vI p.hM):=by have f:=Uk p b;have k:=yi p (by have:=b.a;omega);have m:=aqI (nodes p) (by rw[rW];have:=b.a;omega);refine aK func193 ?_;cases g:ai p.fe 0 with|false=>simp only[go_sem,f193,f,ab.hM,ab.Cz,g]|true=>
 simp only[go_sem,f193,f,ab.hM,ab.Cz,g,k,m];apply sp<;>intro h<;>simp only[h,go_sem];simp only[wR];refine iB (nodes p) ((0,0):Int×Int) (λi s=>[(7,iS i),(5,zS s.1),(6,zS s.2)]) (λ_ l s=>vI (bif(l.foldl qH (s.1,s.2,V)).2.2 then 0 else 14)) (λ_ _ _=>True) (by rw[rW];have:=b.a;omega) rfl trivial rfl (λs _=>?_) (λi x l s hi j w _ n=>?_);.simp only[go_sem,G6]
 . obtain⟨op,nl,args,ty,var,scope,a,cond⟩:=x;obtain⟨sa,o⟩:=s;have c:=O1 op nl args ty var scope a cond;have d:=K6 op nl args ty var scope a cond;have e:=Uh op nl args ty var scope a cond;simp only[ab.cells,go_sem]at c d e;simp only[go_sem,hi,j,c,ab.cells,xS,qH,wq,ab.op,ab.var,ab.scope];repeat'(with_reducible apply sp<;>intro h<;>simp only[h,hi,j,w,d,e,ab.cells,KE,go_sem])
   all_goals first|exact n (_,_) trivial|grind[KE]
theorem adQ(p:ab)(b:fY p):CC 131 [.agg p.cells] (vT [iO (hO p).1,iO (hO p).2.1,iO (hO p).2.2]):=by
 have g:=K5 p b;have j:=yi p (by have:=b.a;omega);refine aK func131 ?_;simp only[go_sem,f131,g,hO];apply sp<;>intro h<;>simp only[h,go_sem,j];simp only[wR];refine iB (nodes p) ((0,0,V):Int×Int×Bool) (λi s=>[(9,iS i),(6,zS s.1),(7,zS s.2.1)]) (λ_ l s=>vT [iO (l.foldl qH s).1,iO (l.foldl qH s).2.1,iO 0]) (λ_ _ _=>True) (by rw[rW];have:=b.a;omega) rfl trivial rfl (λs _=>?_) (λi x l s hi f w _ k=>?_);.simp only[go_sem,G6]
 . obtain⟨op,nl,args,ty,var,scope,a,cond⟩:=x;obtain⟨sa,m,n⟩:=s;have c:=O1 op nl args ty var scope a cond;have d:=K6 op nl args ty var scope a cond;have e:=Uh op nl args ty var scope a cond;simp only[ab.cells,go_sem]at c d e;simp only[go_sem,hi,f,c,ab.cells,xS,qH,wq,ab.op,ab.var,ab.scope];repeat'(with_reducible apply sp<;>intro h<;>simp only[h,hi,f,w,d,e,ab.cells,go_sem])
   all_goals exact k (_,_,_) trivial
def gV(l:bT)(v:Int):Bool:=l.any λx=>ai x v
theorem T'(a b:Int):ai a b=ai b a:=by grind[kO]
theorem aqs(s:Sl Int)(v:Int)(c:s.l.length<1200000):CC 236 [hZ s,iD v] (vI (fD (λx=>ai x v) s.l 0)):=by
 refine aK func236 ?_;simp only[go_sem,f236];refine dJ _ (λi=>[(8,iS i)]) (λi l=>vI (fD _ l i)) ae rfl rfl ?_ (λi x l hi b w a=>?_);.simp only[go_sem,fD]
 .simp only[go_sem,hi,b,fD,T' v x]at a|-;apply sp<;>intro h<;>simp only[h,w,a,go_sem]
theorem Ue(s:Sl Int)(v:Int)(l:s.l.length<1200000):CC 161 [hZ s,iD v] (vB (gV s.l v)):=by have h:=aqs s v l;simp only[go_sem]at h;refine aK func161 ?_;simp only[go_sem,f161,h,FF,gV]
theorem O5(s:Sl Int)(v:Int)(c:s.l.length<1200000):CC 263 [hZ s,iD v] (vB (gV s.l v)):=by
 refine aK func263 ?_;simp only[go_sem,f263,gV];refine dJ _ (λi=>[(5,iS i)]) (λ_ l=>vB (l.any _)) ae rfl rfl ?_ (λi x l hi b w a=>?_);.simp only[go_sem,zM]
 .simp only[go_sem,hi,b,nv]at a|-;apply sp<;>intro h<;>simp only[h,w,a,go_sem]
structure iU where
 us:Sl Int
 si:Sl Int
 fb:Int
def iU.d(p:iU):DV:=.agg [hZ p.us,hZ p.si,iD p.fb]
def UM(p:iU)(o v:Int):Int:=bif ai o 1||ai o 2 then(bif gV p.us.l v then(bif gV p.si.l v then 0 else 11)else 10)else bif ai o 3||ai o 4 then(bif gV p.us.l v then(bif ai v p.fb then 11 else 0)else 10)else 0
mutual
def Expr.ym (p : iU) : Expr -> Int
  | .mk op _ args var _ _ _ _ _ => bif ai (UM p op var) 0 then Expr.H7 p args else UM p op var
def Expr.H7 (p : iU) : List Expr -> Int
  | [] => 0
  | e :: l => bif ai (e.ym p) 0 then Expr.H7 p l else e.ym p
end
theorem atA(o:Int):(ai o 1=V/\ai o 2=C/\ai o 3=C/\ai o 4=C/\ao o 1=C/\ao 4 o=C)\/(ai o 1=C/\ai o 2=V/\ai o 3=C/\ai o 4=C/\ao o 1=C/\ao 4 o=C)\/(ai o 1=C/\ai o 2=C/\ai o 3=V/\ai o 4=C/\ao o 1=C/\ao 4 o=C)\/(ai o 1=C/\ai o 2=C/\ai o 3=C/\ai o 4=V/\ao o 1=C/\ao 4 o=C)\/(ai o 1=C/\ai o 2=C/\ai o 3=C/\ai o 4=C/\ao o 1=V/\ao 4 o=C)\/(ai o 1=C/\ai o 2=C/\ai o 3=C/\ai o 4=C/\ao o 1=C/\ao 4 o=V):=by simp only[kO,eP,mw,EN];omega
theorem sxf{n:Nat}(N:n=178\/n=198)(p:iU)(q:p.us.l.length<1200000)(t:p.si.l.length<1200000)(o y r v G g k u s)(z:r.length<1100000)(C:∀x,x∈r->CC n [.agg x.cells,p.d] (vI (x.ym p))):CC n [.agg (Expr.mk o y r v G g k u s).cells,p.d] (vI ((Expr.mk o y r v G g k u s).ym p)):=by
 have e1:=O5 p.us v q;have e2:=O5 p.si v t;have e3:=Ue p.us v q;have e4:=Ue p.si v t;simp only[go_sem]at e1 e2 e3 e4;have hd:=aIA;simp only[bq,opsOf,f198,go_sem]at hd;rcases N with h|h<;>subst h<;>first|refine aK func178 ?_|refine aK func198 ?_
 all_goals rcases atA o with⟨a,b,c,d,e,f⟩|⟨a,b,c,d,e,f⟩|⟨a,b,c,d,e,f⟩|⟨a,b,c,d,e,f⟩|⟨a,b,c,d,e,f⟩|⟨a,b,c,d,e,f⟩
 all_goals simp only[go_sem,f178,f198,Expr.cells,iU.d,Expr.ym,UM,a,b,c,d,e,f,e1,e3];repeat'(with_reducible apply sp<;>intro h<;>simp only[h,e2,e4,go_sem])
 all_goals
 first|refine dJ r (λi=>[(54,iS i)]) (λ_ l=>vI (Expr.H7 p l)) ae rfl rfl ?_ (λi x l hi j w m=>?_)|refine dJ r (λi=>[(7,iS i)]) (λ_ l=>vI (Expr.H7 p l)) ae rfl rfl ?_ (λi x l hi j w m=>?_)
 .simp only[go_sem,Expr.H7]
 .have hr:=C x (cI j);simp only[go_sem,iU.d]at hr;simp only[go_sem,hi,j,hr,hd,Expr.H7]at m|-;apply sp<;>intro h<;>simp only[h,w,m,go_sem]
theorem Uf(p:iU)(h:p.us.l.length<1200000)(a:p.si.l.length<1200000):∀e:Expr,e.nn<1100000->CC 178 [.agg e.cells,p.d] (vI (e.ym p))|.mk o l args v c g k num str,n=>by simp only[Expr.nn]at n;exact sxf (.inl rfl) p h a _ _ _ _ _ _ _ _ _ (by have:=Expr.ji args;omega) λx m=>Uf p h a x (by have:=Expr.lM args _ m;omega)termination_by e=>kb e decreasing_by simp_wf;have:=jY m;omega
theorem Ui(p:iU)(h:p.us.l.length<1200000)(a:p.si.l.length<1200000):∀e:Expr,e.nn<1100000->CC 198 [.agg e.cells,p.d] (vI (e.ym p))|.mk o l args v c g k num str,n=>by simp only[Expr.nn]at n;exact sxf (.inr rfl) p h a _ _ _ _ _ _ _ _ _ (by have:=Expr.ji args;omega) λx m=>Ui p h a x (by have:=Expr.lM args _ m;omega)termination_by e=>kb e decreasing_by simp_wf;have:=jY m;omega
def Jw(l:bT):bT:=l.mergeSort λx y=>decide (x<=y)
def KL(l:bT):bT:=tb l
theorem aku(l:bT):(l.map iD).map oC=l:=by rw[Bw];exact List.map_id l
theorem aH5(l:bT):mg (l.map iD)=(Jw l).map iD:=by unfold mg;rw[aku];rfl
theorem aoo(l:bT):yf (l.map iD)=(KL l).map iD:=by unfold yf;rw[aku];rfl
theorem aH6(l:bT):(Jw l).Pairwise (.<=.)/\∀z,z∈Jw l↔z∈l:=by refine⟨(List.pairwise_mergeSort aj aj l).imp λh=>A2 h,λz=>List.mem_mergeSort⟩<;>grind
theorem adq(d:Array Int)(z:Int):∀m,z∈Lib.compactUpTo d m↔∃j,j<m/\d[j]! =z:=by intro m;induction m<;>grind[Lib.compactUpTo,Lib.keeps]
theorem aoI(d:Array Int)(h:∀i j,i<=j->j<d.size->d[i]!<=d[j]!):∀m,m<=d.size->(Lib.compactUpTo d m).Pairwise (.<.):=by intro m;induction m with|zero=>simp[Lib.compactUpTo]|succ m o=>
 intro n;rw[Lib.compactUpTo_succ,List.pairwise_append];refine⟨aj,by split<;>simp,λa c b k=>?_⟩;cases l:Lib.keeps d m;.grind
 .obtain⟨j,e,rfl⟩:=(adq d a m).1 c;have f:=h j (m-1) ae ae;have g:=h (m-1) m ae ae;grind[Lib.keeps]
theorem afg(l:bT)(j:Nat)(h:j<l.length):l.toArray[j]! =l[j]:=aP
theorem ade(l:bT)(z:Int):z∈KL l↔z∈l:=by unfold KL tb;rw[adq,List.mem_iff_getElem];exact⟨λ⟨j,h,e⟩=>⟨j,h,aj⟩,λ⟨j,h,e⟩=>⟨j,h,aj⟩⟩
theorem aoq(l:bT)(h:l.Pairwise (.<=.)):(KL l).Pairwise (.<.):=by
 refine aoI _ (λi j q a=>?_) _ aP;have y:j<l.length:=a;rw[afg l j y,afg l i ae];by_cases e:i=j;.grind
 .exact List.pairwise_iff_getElem.1 h i j _ _ ae
theorem Z9:∀(a b:bT),a.Pairwise (.<.)->b.Pairwise (.<.)->(∀z,z∈a↔z∈b)->a=b
 |[],[],_,_,_=>rfl|[],y::b,_,_,h=>by have:=(h y).2 (eQ ..);simp at this|x::a,[],_,_,h=>by have:=(h x).1 (eQ ..);simp at this|x::a,y::b,d,f,h=>by
  have A:=List.pairwise_cons.1 d;have u:=List.pairwise_cons.1 f;have e:x=y:=by
    rcases List.mem_cons.1 ((h x).1 (eQ ..))with e|g;.exact e
    . rcases List.mem_cons.1 ((h y).2 (eQ ..))with e|i;.exact e.symm
      .have:=u.1 x g;have:=A.1 y i;omega
  subst e;rw[Z9 a b A.2 u.2 λz=>?_];have:=h z;simp only[J8]at this;constructor
  . intro c;rcases this.1 (.inr c)with e|e;.have:=A.1 z c;omega
    .exact e
  . intro c;rcases this.2 (.inr c)with e|e;.have:=u.1 z c;omega
    .exact e
def u16:bT:=(List.range 16).map dI
def vQ(l:bT):Prop:=∀z∈l,0<=z/\z<16
def qF(l:bT):bT:=u16.filter (gV l)
theorem afF(l:bT)(v:Int):gV l v=V↔v∈l:=by simp[gV,kO]
theorem akt(z:Int):z∈u16↔0<=z/\z<16:=by
 unfold u16;rw[List.mem_map];constructor;.grind
 .intro h;exact⟨z.toNat,aP,aj⟩
theorem aKO:u16.Pairwise (.<.):=gD
theorem Tj{l:bT}(h:vQ l)(z:Int):z∈qF l↔z∈l:=by unfold qF;rw[List.mem_filter,afF,akt];exact⟨λh=>h.2,λa=>⟨h z a,a⟩⟩
theorem acC(l:bT):vQ (qF l):=λz h=>(akt z).1 (List.mem_filter.1 h).1
theorem acD(l:bT):(qF l).Pairwise (.<.):=aKO.sublist List.filter_sublist
theorem anM{l:bT}(h:vQ l):KL (Jw l)=qF l:=by grind[Z9,aoq,aH6,acD,ade,Tj]
def ja(a b:bT):bT:=qF (a++b)
theorem CR(l:bT):(qF l).length<=16:=List.length_filter_le _ _
theorem aBd{n:Nat}:rV l e n=cp V l e n:=by cases l<;>rfl
def IJ:DV->Nat->SV|.jk,_=>.dv .jk .no|d,e=>.dv d (.ex e)
section
variable{cf:cj}{rec:eK}{fn n f:Nat}{sl:cT}{lb:dX}{g:GH}{o:Op}{x:aH}{xs:List aH}{az:aA}{M:St}
def FG(c:cj)(t:St)(f:bS)(a:aA)(s:Nat):SV->ah (St×SV)|.dv d (.ex e)=>(c.qh f d a).map λr=>({t with sl:=put (iG t.sl s) s (IJ r.1 e)},r.2)|_=>Z
def Qk(c:cj)(s:St)(f:bS)(a:aA)(i o:Nat):GO->ah (St×SV)|.box b=>(match b.cells[o]?,fg b o with|some d,.ex _=>(c.qh f d a).map λr=>({s with g:=s.g.set i (.box {cells:=jo b.cells o r.1,own:=(match r.1 with|.jk=>dB b.own o 1|_=>b.own)})},r.2)|_,_=>Z)|_=>Z
def IF(c:cj)(t:St)(f:bS)(x:aH)(a:aA):SV->ah (St×SV)|.dv .nl _=>(c.qh f .nl a).map λr=>(t,r.2)|.dv _ (.ex _)=>(match x with|.tmp s=>(look t.sl s).bind (FG c t f a s)|_=>Z)|.sr s=>(look t.sl s).bind (FG c t f a s)|.gr id o=>(t.g.get id).bind (Qk c t f a id o)|_=>Z
theorem agZ:Qm cf M f x az=(cP cf.aq M x).bind (IF cf M f x az):=by
 unfold Qm;congr 1;funext v;have a:∀s,(match look M.sl s with|some (.dv d (.ex e))=>(cf.qh f d az).map λr=>({M with sl:=put (iG M.sl s) s (match r.1 with|.jk=>.dv .jk .no|d=>.dv d (.ex e))},r.2)|_=>Z)=(look M.sl s).bind (FG cf M f az s):=by intro s;cases look _ s with|none=>rfl|some v=>cases v with
 |dv d o=>cases o with|ex e=>show(cf.qh f d az).map _=(cf.qh f d az).map _;congr 1;funext r;obtain⟨r1,r2⟩:=r;cases r1<;>rfl|_=>rfl
 |_=>rfl
 cases v with
 |dv d o=>cases d<;>first|rfl|(cases o<;>first|rfl|(cases x<;>first|rfl|exact a _))
 |sr s=>exact a s|gr id c=>
 show(match M.g.get id with|some (.box b)=>_|_=>Z)=(M.g.get id).bind _;rcases M.g.get id with _|o;.rfl
 cases o<;>rfl|_=>rfl
theorem anv(h:cf.fk f=1):qE cf rec M o (.func f) (x::xs)=(opsV cf.aq (dm M xs) xs).bind λaz=>(cP cf.aq (dm M xs) x).bind (IF cf (dm M xs) f x az):=by show(bif aw _ 1 then(cE _ xs).bind _ else _)=_;rw[h];simp only[agZ];rw[DI];rfl
theorem axU{w:aX}:IF cf M f x az (.dv .nl w)=(cf.qh f .nl az).map λr=>(M,r.2):=(rfl)
theorem axV:IF cf ⟨fn,n,sl,lb,g⟩ f x az (.sr s)=(look sl s).bind (FG cf ⟨fn,n,sl,lb,g⟩ f az s):=(rfl)
theorem axT{i o:Nat}:IF cf ⟨fn,n,sl,lb,g⟩ f x az (.gr i o)=(g.get i).bind (Qk cf ⟨fn,n,sl,lb,g⟩ f az i o):=(rfl)
theorem axR{d:DV}:FG cf ⟨fn,n,sl,lb,g⟩ f az s (.dv d (.ex e))=(cf.qh f d az).map λr=>(⟨fn,n,put (iG sl s) s (IJ r.1 e),lb,g⟩,r.2):=(rfl)
theorem ayp{b:Nat}:IJ (.ay l a b) e=.dv (.ay l a b) (.ex e):=(rfl)
end
section
variable{P:aM}{cf:cj}{t fn n I a b e f:Nat}{sl:cT}{lb:dX}{g:GH}{d:ah Tmp}{l az:aA}
theorem az2(h:AM.isAgg P t=J C):xp P t .take ⟨fn,n,sl,lb,g⟩ d I 0 (.box ⟨[.ay l a b],[(0,.ex e)]⟩)=aJ ⟨fn,n,sl,lb,g.set I (.box ⟨[.jk],[]⟩)⟩ d (.dv (.ay l a b) (.ex e)):=by show(gP P _ t _ 0).bind _=_;unfold gP;rw[h];rfl
theorem az1(h:AM.isAgg P t=J C):xp P t .ref ⟨fn,n,sl,lb,g⟩ d I 0 (.box ⟨[.ay l a b],[(0,.ex e)]⟩)=aJ ⟨fn,n,sl,lb,g⟩ d (.gr I 0):=by show(match jq.ref,aX.ex e,AM.isAgg P t with|.ref,.ex _,J C=>_|_,_,_=>_)=_;rw[h];rfl
theorem axS:Qk cf ⟨fn,n,sl,lb,g⟩ f az I 0 (.box ⟨[.ay l a b],[(0,.ex e)]⟩)=(cf.qh f (.ay l a b) az).map λr=>(⟨fn,n,sl,lb,g.set I (.box ⟨[r.1],match r.1 with|.jk=>[]|_=>[(0,.ex e)]⟩)⟩,r.2):=by rfl
end
attribute[go_sem]az2 az1 axS
theorem aAg:pK .nl=J 0:=(rfl)
theorem amp{a b:List α}:(⟨a⟩:Array α)++(⟨b⟩:Array α)=⟨a++b⟩:=aO
theorem aDh:(Z:ah α).toArray=⟨[]⟩:=rfl
theorem aDi{a:α}:(J a).toArray=⟨[a]⟩:=rfl
theorem aAZ:ao 0 0=C:=rfl
attribute[go_sem]aAZ aAg amp aDh aDi
theorem ag3:cf.qh 247 .nl []=J (.nl,.tp []):=(rfl)
theorem ax5{x:DV}(h:(x::l).all uQ=V)(a:su (x::l).length=V):cf.qh 247 (.ay (x::l) 3 1) []=J (rV (mg (x::l)) 3 1,.tp []):=by show(bif(x::l).all _&&su _ then _ else Z)=_;grind
theorem aoy:adj .nl=[]:=rfl
theorem aox{b:Nat}:adj (.ay l a b)=l:=rfl
attribute[go_sem]anv axU axV axT axR ayp ag3 aoy aox
section
variable{cf:cj}{rec:eK}{M:St}{o:Op}{x:aH}{xs:List aH}{f:bS}
def acz(c:cj)(r:eK)(s:St)(o:Op)(f:bS)(x:aH)(b:List aH):SV->ah (St×SV)|.dv d w=>(opsV c.aq (dm (aQ leave s x) (handsOn o)) b).bind λa=>ku c r f (d::a) w (dm (aQ leave s x) (handsOn o)).g λv g=>J ({dm (aQ leave s x) (handsOn o)with g:=g},v)|_=>Z
theorem anw(h:cf.fk f=2):qE cf rec M o (.func f) (x::xs)=(cP cf.aq M x).bind (acz cf rec M o f x xs):=by show(bif aw _ 1 then _ else bif aw _ 2 then _ else _)=_;rw[h];show(match cP _ M x with|some (.dv d w)=>_|_=>Z)=_;cases cP _ M x with|none=>rfl|some v=>cases v with|dv d w=>show(cE _ xs).bind _=(opsV _ _ xs).bind _;rw[DI];congr 1;funext a;rw[fy];rfl|_=>rfl
theorem anp{d:DV}{w:aX}:acz cf rec M o f x xs (.dv d w)=(opsV cf.aq (dm (aQ leave M x) (handsOn o)) xs).bind λa=>ku cf rec f (d::a) w (dm (aQ leave M x) (handsOn o)).g λv g=>J ({dm (aQ leave M x) (handsOn o)with g:=g},v):=(rfl)
attribute[go_sem]anw anp
end
theorem aJ1{b:Nat}(h:a+b<1000000000):fS .i64 (Int.add 0 (.ofNat a))=.ofNat a/\fS .i64 (Int.add (.ofNat a) (.ofNat b))=.ofNat (a+b):=by
 refine⟨?_,?_⟩;.grind[Bl]
 .exact Bl ae
theorem auV{f b n:Nat}(d:cf.ko f [.nl,.int .i64 (.ofNat n)]=J (E5 e s b [.nl,.int .i64 (.ofNat n)]))(a:(aw (cf.fk f) 2&&!v8 .no)=C)(g:n<1000000000)(c:b<=1000):CC f [.nl,.int .i64 (.ofNat n)] (.val (bif aw n 0 then .dv .nl .any else .dv (.ay [] e s) (.ex e)) .empty):=by refine EV ?_ a;rw[d];have h:n*b<=1000000000*1000:=ph ae c;show J (bif bV _ _&&bV n _ then _ else Z)=_;grind[rB,bF]
theorem amg{n b:Nat}{o:aX}(h:n≠0):iM e n b .nl o []=J (.nl,.any):=by grind[iM,iW,bV]
theorem cw1:fS .i64 (Int.add 0 1)=1:=rfl
theorem cw2:fS .i64 (Int.add 1 1)=2:=rfl
theorem cl0:ao 0 (.ofNat 2)=V:=rfl
theorem cl1:ao 1 (.ofNat 2)=V:=rfl
theorem cl2:ao 2 (.ofNat 2)=C:=rfl
attribute[local go_sem]cw1 cw2 cl0 cl1 cl2
theorem Hz{d:α->DV}{i k r:Nat}(f:(i,e,s,m,k,r)=(318,3,1,8,370,24)\/(i,e,s,m,k,r)=(444,174,2,16,476,62)\/(i,e,s,m,k,r)=(387,30,8,88,443,26))(v:∀x,(d x).flat.length=s)(a c:List α)(o p:Bool)(h:a.length+c.length<1000000000):CC i [.ay [cp o (a.map d) e s,cp p (c.map d) e s] r 1] (.val (dz ((a++c).map d) e s) .empty):=by
 obtain⟨A,B⟩:=aJ1 h;have j:∀l:List α,((l.map d).all λy=>decide (y.flat.length=s))=V:=λl=>by simp[v]
 have l1:∀{e s},pK (cp o (a.map d) e s)=J a.length:=by simp[Wd]
 have l2:∀{e s},pK (cp p (c.map d) e s)=J c.length:=by simp[Wd]
 have x0:ao (.ofNat a.length) 0=C:=rfl;have x1:ao (.ofNat (a.length+c.length)) 0=C:=rfl;have q:s≠0/\a.length+c.length<=bF/\(a.length+c.length)*m<=bF:=by grind[bF]
 have t:iM e s m (.ay [] e s) (.ex e) (a.map d)=J (.ay (a.map d) e s,.ex e):=by grind[wN]
 have u:iM e s m (.ay (a.map d) e s) (.ex e) (c.map d)=J (.ay ((a.map d)++(c.map d)) e s,.ex e):=by grind[wN]
 have z:=λh=>@amg e s m .any h;have g:ev PP cf (.call k [.nl,.int .i64 (.ofNat (a.length+c.length))] .no .empty)=_:=auV (e:=e) (s:=s) (b:=m) (n:=a.length+c.length) (by rcases f with h|h|h<;>cases h<;>rfl) (by rcases f with h|h|h<;>cases h<;>rfl) h aj;rcases f with h|h|h<;>cases h<;>first|refine aK func318 ?_|refine aK func444 ?_|refine aK func387 ?_
 all_goals
 simp only[go_sem,f318,f444,f387];refine uy ?_;simp only[go_sem,l1,A,x0];refine uy ?_;simp only[go_sem,l2,B,x1];refine uy ?_;by_cases f:a.length+c.length=0;.obtain rfl:a=[]:=List.length_eq_zero_iff.1 ae;obtain rfl:c=[]:=List.length_eq_zero_iff.1 ae;replace g:CC _ [.nl,.int .i64 0] (.val (.dv .nl .any) .empty):=g;simp only[go_sem,g,eD];refine uy ?_;simp only[go_sem,z ae];refine uy ?_;simp only[go_sem,z ae];refine uy ?_;simp only[go_sem]
 . rw[iW f]at g;simp only[bg]at g;simp only[go_sem,g];refine uy ?_;simp only[go_sem,t,j];refine uy ?_;simp only[go_sem,u,j];refine uy ?_;simp only[go_sem];rw[eI];have w:((a.map d)++(c.map d)).length=a.length+c.length:=aj;generalize(a.map d)++(c.map d)=L at w;rcases L with _|⟨x,l⟩;.grind
   rfl
theorem anQ(a b:List Expr)(n c:Bool)(h:a.length+b.length<1000000000):CC 387 [.ay [cp n (Expr.aN a) 30 8,cp c (Expr.aN b) 30 8] 26 1] (.val (dz (Expr.aN (a++b)) 30 8) .empty):=by have:=Hz (d:=λe=>.agg (Expr.cells e)) (.inr (.inr rfl)) Expr.eN a b n c h;simp only[Expr.nZ];exact this
def mB(l:bT):Prop:=vQ l/\l.length<=100000
theorem Hw(l:bT):mB (qF l):=⟨acC l,gv (CR l) ae⟩
theorem axL{v:Int}(h:vQ [v]):mB [v]:=⟨h,aO⟩
theorem V1:mB []:=⟨λ_ h=>aj,aO⟩
theorem abL(l:bT):(l.map iD).all uQ=V:=List.all_eq_true.2 λx h=>by obtain⟨y,_,rfl⟩:=List.mem_map.1 h;rfl
theorem ajY{x:Int}{l:bT}(h:vQ (x::l))(b:(x::l).length<1000000000):∃(y:Int)(t:bT),cf.qh 247 (.ay (iD x::l.map iD) 3 1) []=J (.ay (iD y::t.map iD) 3 1,.tp [])/\ev PP cf (.call 248 [.ay (iD y::t.map iD) 3 1] (.ex 3) .empty)=J (.val (.dv (cp V ((qF (x::l)).map iD) 3 1) .no) .empty):=by
 have a:(Jw _).length=(x::l).length:=List.length_mergeSort _;have c:=anM h;have s:∀n,n<1000000000->su n=V:=λn a=>by simp_all[su]
 rcases z:Jw (x::l)with _|⟨y,t⟩;.grind
 refine⟨y,t,?_,EV ?_ rfl⟩;.rw[ax5 (abL (x::l)) aj,<-de,aH5,z];rfl
 .show(bif((y::t).map iD).all _&&su _ then J _ else J _)=_;grind[abL,aoo,aBd]
theorem aeb:ev PP cf (.call 248 [.nl] .any .empty)=J (.val (.dv .nl .no) .empty):=EV rfl rfl
theorem Un(a b:Sl Int)(e:mB a.l)(f:mB b.l):CC 244 [hZ a,hZ b] (.val (.dv (cp V ((ja a.l b.l).map iD) 3 1) .no) .empty):=by
 have j:=e.2;have k:=f.2;have h:=Hz (d:=iD) (.inl rfl) (λ_=>rfl) a.l b.l a.nl b.nl ae;have hi:vQ _:=λz i=>by rcases List.mem_append.1 i with h|h;exact e.1 z h;exact f.1 z h
 have g:(a.l++b.l).length<1000000000:=aj;unfold ja;refine aK func244 ?_;generalize a.l++b.l=c at*;rcases c with _|⟨x,l⟩;.simp only[go_sem,f244,h,aeb];rfl
 obtain⟨y,t,e1,e2⟩:=ajY hi g;simp only[go_sem,f244,h,e1,e2]
theorem avu(a b:bT)(v:Int):gV (a++b) v=(gV a v||gV b v):=List.any_append
theorem aOj:u16.length=16:=rfl
theorem aKN{i:Nat}{x:Int}(h:u16[i]?=J x):x=.ofNat i/\i<16:=by grind[u16]
theorem aef(a b:Sl Int)(o:a.l.length<1200000)(p:b.l.length<1200000):CC 267 [hZ a,hZ b] (.val (dz ((ja a.l b.l).map iD) 3 1) .empty):=by
 unfold ja qF;refine aK func267 ?_;simp only[go_sem,f267];refine iB u16 ([]:bT) (λi s=>[(6,iS i),(5,dz (s.map iD) 3 1)]) (λ_ l s=>.val (dz ((s++l.filter (gV (a.l++b.l))).map iD) 3 1) .empty) (λi _ s=>s.length<=i) gD rfl (bo _) rfl (λs I=>?_) (λi x l s hi q h I m=>?_);.have e:ao (.ofNat u16.length) 16=C:=rfl;cases s<;>simp only[go_sem,e,Sy,fy]
 . obtain⟨rfl,n⟩:=aKN q;have e:ao (.ofNat i) 16=V:=by grind[eP]
   have e1:=O5 a (.ofNat i) o;have e2:=O5 b (.ofNat i) p;simp only[go_sem]at e1 e2;have c:=m (s++[.ofNat i]) aP;have f:=m s ae;have d:(s.length<1200000)=True:=ki ae;have k:∀z:Bool,z=gV (a.l++b.l) (.ofNat i)->(s++List.filter (gV (a.l++b.l)) (.ofNat i::l))=bif z then(s++[.ofNat i])++l.filter (gV (a.l++b.l))else s++l.filter (gV (a.l++b.l)):=by rintro _ rfl;rw[zN];cases gV (a.l++b.l) (.ofNat i)<;>simp
   rw[k (gV a.l (.ofNat i)||gV b.l (.ofNat i)) (avu _ _ _).symm];cases j:gV a.l (.ofNat i)with
   |true=>rw[j]at e1;cases s with|nil=>simp only[go_sem,dk,fA]at c;simp only[go_sem,h,e,e1,c]|cons y t=>simp only[bU]at d;simp only[go_sem,fA,eI]at c;simp only[go_sem,h,e,e1,d,dU,fA,eI,de,c]
   |false=>rw[j]at e1;cases g:gV b.l (.ofNat i)with
   |true=>rw[g]at e2;cases s with|nil=>simp only[go_sem,dk,fA]at c;simp only[go_sem,h,e,e1,e2,c]|cons y t=>simp only[bU]at d;simp only[go_sem,fA,eI]at c;simp only[go_sem,h,e,e1,e2,d,dU,fA,eI,de,c]
   |false=>rw[g]at e2;simp only[go_sem]at f;cases s<;>simp only[go_sem,dk]at f<;>simp only[go_sem,h,e,e1,e2,f,dk]
mutual
def ab.gW : ab -> bT
  | .mk op _ args _ var _ _ _ => bif ai op 0 then [var] else bif ai op 2 || ai op 4 then [] else ab.A3 args []
def ab.A3 : aF -> bT -> bT
  | [], s => s
  | q :: l, s => ab.A3 l (ja s q.gW)
end
def mb(l:bT)(o:aX):SV:=.dv (cp V (l.map iD) 3 1) o
def FY:ah bT->SV|none=>.dv .nl .any|some l=>.dv (cp V (l.map iD) 3 1) .no
def I9:ah bT->bT|none=>[]|some l=>l
structure BB(p:ab):Prop where
 a:p.nn<1100000
 b:∀q∈nodes p,∃m:Nat,q.op=.ofNat m/\ao (.ofNat m) 8=V
 c:∀q∈nodes p,0<=q.var/\q.var<16
mutual
theorem ab.ain : ∀ p : ab, (∀ q ∈ nodes p, 0 <= q.var /\ q.var < 16) -> vQ p.gW
  | .mk o l args t v s n c, h => by
    simp only [ab.gW]
    cases ai o 0 with
    | true => intro z a; rw [aL, Bx] at a; subst a; exact h _ (by rw [nodes]; exact eQ ..)
    | false =>
      cases ai o 2 || ai o 4 with
      | true => intro z a; simp at a
      | false => exact ab.aio args [] (λ z a => by simp at a)
theorem ab.aio : ∀ (l : aF) (s : bT), vQ s -> vQ (ab.A3 l s)
  | [], s, h => h
  | q :: l, s, _ => ab.aio l _ (acC _)
end
theorem BB.arg{o n a t v s p c}(h:BB (.mk o n a t v s p c))(d:x∈a):BB x:=by
 have m:∀q∈nodes x,q∈nodes (.mk o n a t v s p c):=λq b=>by grind[nodes,ab.MF]
 exact⟨by have:=h.a;have:=ab.lM _ x d;grind[ab.nn],λq b=>h.b q (m q b),λq b=>h.c q (m q b)⟩
theorem pr{n:Nat}:cp V [] e n=.nl:=rfl
theorem aip:∀(l:aF)(s:bT),s.length<=16->(ab.A3 l s).length<=16|[],_,h=>h|q::l,s,_=>aip l _ (CR _)
theorem MI:∀p:ab,p.gW.length<=16
 |.mk o n args t v s a c=>by
  simp only[ab.gW];cases ai o 0
  . cases ai o 2||ai o 4;.exact aip args [] gD
    .exact kH _
  .show 1<=16;decide
theorem WW(p:ab)(h:∀q∈nodes p,0<=q.var/\q.var<16):mB p.gW:=⟨ab.ain p h,gv (MI p) ae⟩
theorem aJ9(k b a t r c p n)(h:BB (.mk k b a t r c p n))(z:∀x,x∈a->∃o,CC 182 [.agg x.cells] (.val (mb x.gW o) .empty)):∃o,CC 182 [.agg (ab.mk k b a t r c p n).cells] (.val (mb (ab.mk k b a t r c p n).gW o) .empty):=by
 obtain⟨m,w,B⟩:=h.b _ (by rw[nodes];exact eQ ..);simp only[ab.op]at w;subst w;suffices S:Sat (ev PP cf (.call 182 [.agg (ab.mk (.ofNat m) b a t r c p n).cells] .no .empty)) λv g=>g=.empty/\∃o,v=mb (ab.mk (.ofNat m) b a t r c p n).gW o by obtain⟨v,g,e,rfl,o,rfl⟩:=S;grind
 refine kp func182 ?_;simp only[go_sem,f182,ab.cells,ab.gW,B,keB];have f:(ai (.ofNat m) 2||ai (.ofNat m) 4)=V->ai (.ofNat m) 0=C:=by grind[kO]
 apply eC<;>intro q<;>simp only[q,go_sem];.simp only[f q,go_sem];exact⟨trivial,.any,rfl⟩
 apply eC<;>intro A<;>simp only[A,go_sem];.exact⟨trivial,.ex 3,rfl⟩
 refine vX a (Z:ah bT) (λi s=>[(21,iS i),(3,FY s)]) (λ_=>.empty) (λ_ l s=>mB (I9 s)/\ab.A3 l (I9 s)=ab.A3 a []) (by have:=ab.ji a;have:=h.a;grind[ab.nn]) rfl rfl ⟨V1,rfl⟩ (λs I=>?_) (λi x l s hi j y I D=>?_);.simp only[ab.A3]at I;rw[<-I.2];cases s with|none=>simp only[go_sem,FY];exact⟨trivial,.any,rfl⟩|some s=>simp only[go_sem,FY];exact⟨trivial,.no,rfl⟩
 .have U:=cI j;obtain⟨o,hr⟩:=z x U;have u:=Un ⟨V,I9 s⟩ ⟨V,x.gW⟩ I.1 (WW x (h.arg U).c);have d:=D (J (ja (I9 s) x.gW)) ⟨Hw _,I.2⟩;simp only[mb]at hr;cases s with|none=>simp only[go_sem,FY,I9,hZ,bP,pr]at u d;simp only[go_sem,FY,hi,j,y,hr,u,d]|some s=>simp only[go_sem,FY,I9,hZ]at u d;simp only[go_sem,FY,hi,j,y,hr,u,d]
theorem OZ:∀p:ab,BB p->∃o,CC 182 [.agg p.cells] (.val (mb p.gW o) .empty)|.mk b n args t v s a c,h=>aJ9 _ _ _ _ _ _ _ _ h λx m=>OZ x (h.arg m)termination_by p=>kb p decreasing_by simp_wf;have:=jY m;omega
theorem N9(l:aA):∃o,dz l 3 1=.dv (cp V l 3 1) o:=by cases l;exact⟨_,rfl⟩;exact⟨_,rfl⟩
theorem aKc(j f a k r c p n)(A:a.length<1100000)(q:∀x,x∈a->∃o,CC 202 [.agg x.cells] (.val (mb x.gW o) .empty)):∃o,CC 202 [.agg (ab.mk j f a k r c p n).cells] (.val (mb (ab.mk j f a k r c p n).gW o) .empty):=by
 suffices S:Sat (ev PP cf (.call 202 [.agg (ab.mk j f a k r c p n).cells] .no .empty)) λv g=>g=.empty/\∃o,v=mb (ab.mk j f a k r c p n).gW o by obtain⟨v,g,e,rfl,o,rfl⟩:=S;grind
 refine kp func202 ?_;simp only[go_sem,f202,ab.cells,ab.gW];repeat'(with_reducible apply eC<;>intro h<;>simp only[h,go_sem])
 .exact⟨trivial,.ex 3,rfl⟩
 .exact⟨trivial,.any,rfl⟩
 .exact⟨trivial,.any,rfl⟩
 refine vX a ([]:bT) (λi s=>[(4,iS i),(3,dz (s.map iD) 3 1)]) (λ_=>.empty) (λ_ l s=>s.length<=16/\ab.A3 l s=ab.A3 a []) ae rfl rfl ⟨aj,rfl⟩ (λs I=>?_) (λi x l s hi m w I z=>?_);.simp only[ab.A3]at I;rw[<-I.2];cases s with|nil=>simp only[go_sem];exact⟨trivial,.any,rfl⟩|cons y t=>simp only[go_sem];exact⟨trivial,.ex 3,rfl⟩
 .obtain⟨o,hr⟩:=q x (cI m);have b:=aef ⟨V,s⟩ ⟨V,x.gW⟩ aj (by grind[MI]);have d:=z (ja s x.gW) ⟨CR _,I.2⟩;simp only[mb]at hr;generalize ja s x.gW=u at*;cases s with|nil=>simp only[go_sem,hZ,bP,pr]at b d;cases u<;>simp only[go_sem]at b d<;>simp only[go_sem,hi,m,w,hr,b,d]|cons y t=>simp only[go_sem,hZ,adB]at b d;cases u<;>simp only[go_sem]at b d<;>simp only[go_sem,hi,m,w,hr,b,d]
theorem O2:∀p:ab,p.nn<1100000->∃o,CC 202 [.agg p.cells] (.val (mb p.gW o) .empty)|.mk b n args t v s a c,h=>by simp only[ab.nn]at h;exact aKc _ _ _ _ _ _ _ _ (by have:=ab.ji args;omega) λx m=>O2 x (by have:=ab.lM args x m;omega)termination_by p=>kb p decreasing_by simp_wf;have:=jY m;omega
def iX(l:aF):bT:=(l.filter λq=>ai q.op 0).map ab.var
def rJ:bT->LB|[]=>⟨[.nl],[]⟩|a::l=>⟨[.ay (iD a::l.map iD) 3 1],[(0,.ex 3)]⟩
def Jz(q:ab)(s:bT):ah bz×bT:=(Z,bif ai q.op 0 then s++[q.var]else s)
theorem UN:∀(l:aF)(s:bT),bB Jz l s=(Z,s++iX l)|[],s=>by simp[bB,iX]|q::l,s=>by simp only[bB,Jz];have:=UN l (bif ai q.op 0 then s++[q.var]else s);rw[this];simp only[iX,zN];cases ai q.op 0<;>simp
theorem amX{s:bT}(h:qB Jz (nodes p) [] x s):s.length<=p.nn:=by obtain⟨pre,post,a,b⟩:=h;grind[UN,iX,rW]
theorem Ov{l:aF}(h:∀q∈l,0<=q.var/\q.var<16):vQ (iX l):=by intro z a;grind[iX]
theorem Ug(p:ab)(b:BB p):Sat (ev PP cf (.call 181 [.agg p.cells] .no .empty)) λv _=>v=mb (qF (iX (nodes p))) .no:=by
 refine kp func181 ?_;simp only[go_sem,f181,O3];refine yX (Qn 2 p b.a) Jz (λc s g=>g.get 1=J (.box (rJ s))/\g.get 2=J (.box ⟨p.cells,[]⟩)) [] (λm=>rfl) rfl ⟨rfl,rfl⟩ (λc s g h=>h.2) (λc s g1 g2 h a=>⟨(a.2 1 aj).trans h.1,(a.2 2 aj).trans h.2⟩) (λx s g1 j R hN L=>?_) (λg1 R hN=>?_)
 . refine ze L rfl ?_;simp only at hN L;have n:∀i,i<=3->(i=g1.next)=False:=λi h=>bW ae;have d:∀i,i<=3->(g1.next=i)=False:=λi h=>bW ae;obtain⟨op,nl,args,ty,var,scope,e,cond⟩:=x;have N:=amX j;have D:=b.a;obtain⟨r1,r2⟩:=R;rcases s with _|⟨y,t⟩;.simp only[rJ]at r1;simp only[go_sem,L,n,d,Jz,ab.op,ab.var,ab.cells];apply eC<;>intro h<;>simp only[h,go_sem,r1,r2,L,n,d,rJ,bP]<;>exact⟨rfl,⟨trivial,trivial⟩,gF,rfl⟩
   have f:(t.length+1<1200000)=True:=ki aj;simp only[rJ]at r1;simp only[go_sem,L,n,d,Jz,ab.op,ab.var,ab.cells];apply eC<;>intro h<;>simp only[h,go_sem,r1,r2,L,n,d,rJ,f,eI,de,bP,fA,dU]<;>exact⟨rfl,⟨trivial,trivial⟩,gF,rfl⟩
 . rw[UN,dk]at R|-;obtain⟨r1,r2⟩:=R;have hi:=Ov b.c;have a:(iX (nodes p)).length<1000000000:=by
    have k:(iX (nodes p)).length<=(nodes p).length:=by grind[iX]
    have q:=rW p;have r:=b.a;omega
   generalize iX (nodes p)=l at*;cases l with|nil=>simp only[rJ]at r1;have o:tW .nl=.any:=rfl;simp only[r1,o,go_sem,ag3,aeb];rfl|cons x l=>obtain⟨y,t,e1,e2⟩:=ajY hi a;simp only[rJ]at r1;simp only[r1,e1,e2,go_sem,mb]
theorem ur{x:ah bt}{k a:eJ->ah bt}:(x.bind (jm k)).bind (jm a)=x.bind (jm λo=>(k o).bind (jm a)):=by
 rcases x with _|r;.rfl
 cases r<;>rfl
theorem aLW{n d:Nat}:nY (J (.int .i64 (.ofNat n))) n d=J n:=by show(bif bV n n then J n else Z)=_;simp[rB]
theorem aHS:oz PP 24 .nl Z (J (iD 0)) (J (iD 0))=J (.nl,.any):=by rfl
theorem aHT:oz PP 24 .nl (J (iD 0)) Z Z=J (.nl,.any):=by rfl
theorem aHO{n:Nat}(a:l.length=n)(h:(n<1200000)=True):oz PP 24 (.ay l 3 1) Z (J (.int .i64 (.ofNat n))) (J (.int .i64 (.ofNat n)))=J (.ay l 3 1,.full 3):=by unfold oz;rw[show PP.underlying 24=J _ from Proofs.Tryz.underlying24];grind[RQ,nT,rB,bF,nY]
theorem aHP{n:Nat}(a:l.length=n)(h:(n<1200000)=True):oz PP 24 (.ay l 3 1) (J (.int .i64 (.ofNat n))) Z Z=J (.ay [] 3 1,.no):=by simp_all[oz,RQ,nY,rB]
theorem ame{n b:Nat}{o:aX}(d:n≠0)(a:b<=1000)(c:l.length<1200000):iM e n b (.ay l e n) o []=J (.ay l e n,o):=by have h:(l.length+0)*b<=1200000*1000:=ph ae a;grind[iM,iW,bF,nT,rB]
theorem amc{n b:Nat}{v:DV}(d:n≠0)(a:b<=1000)(c:l.length<1200000):iM e n b (.ay l e n) (.full e) [v]=J (.ay (l++[v]) e n,.ex e):=by have h:(l.length+1)*b<=1200000*1000:=ph ae a;grind[iM,iW,bF,nT,rB]
theorem aAu:Dz .nl=J []:=(rfl)
theorem alU{p:α->Bool}:[].all p=V:=rfl
attribute[go_sem]aAu alU aHS aHT ame amc
theorem Uj(p:ab)(M:p.nn<1100000)(h:(iX (nodes p)).Pairwise (.<.)):CC 201 [.agg p.cells] (.val (dz ((iX (nodes p)).map iD) 3 1) .empty):=by
 have H:=yi p ae;have d1:=aIC;have d2:=aID;have d3:=aIB;simp only[bq,opsOf,f201,go_sem]at d1 d2 d3;refine aK func201 ?_;simp only[go_sem,f201,H];refine iB (nodes p) ([]:bT) (λi s=>[(5,iS i),(3,dz (s.map iD) 3 1)]) (λ_ l s=>.val (dz ((s++iX l).map iD) 3 1) .empty) (λi l s=>(s++iX l).Pairwise (.<.)/\s.length<=i) (by grind[rW]) rfl ⟨h,bo _⟩ rfl (λs _=>?_) (λi x l s hi d w h u=>?_);.cases s<;>simp only[go_sem,iX,Sy,bP,fy]
 . obtain⟨r,A,args,B,v,c,b,o⟩:=x;have L:i<1100000:=by grind[rW]
   cases q:ai r 0 with|false=>
   have e:iX (ab.mk r A args B v c b o::l)=iX l:=by grind[iX,ab.op]
   rw[e]at h|-;have a:=u s ⟨h.1,ae⟩;simp only[go_sem]at a;cases s<;>simp only[go_sem]at a<;>simp only[go_sem,hi,d,w,ab.cells,q,a]|true=>
   have e:iX (ab.mk r A args B v c b o::l)=v::iX l:=by simp_all[iX,ab.op,ab.var]
   rw[e]at h|-;have a:=u (s++[v]) ⟨aP,aP⟩;have X:∀z∈s,ao v z=C/\ai z v=C:=λz f=>by have:=(List.pairwise_append.1 h.1).2.2 z f v (eQ ..);grind[eP,kO]
   rw[<-List.append_cons]at a;cases s with|nil=>simp only[go_sem,dk]at a;simp only[go_sem,hi,d,ab.cells,q];rw[ur];refine dJ ([]:bT) (λj=>[(6,iS j)]) (λ_ _=>.val (dz ((v::iX l).map iD) 3 1) .empty) ae rfl rfl ?_ (λj z m k _ _ _=>aP);simp only[go_sem,hi,d,w,ab.cells,d1,d3,eD,a]|cons y t=>
   simp only[go_sem,fA,eI]at a;simp only[go_sem,hi,d,ab.cells,q];rw[ur];refine dJ (y::t) (λj=>[(6,iS j)]) (λ_ _=>.val (dz ((y::t++v::iX l).map iD) 3 1) .empty) ae rfl rfl ?_ (λj z m k f I K=>?_);.have g:(t.length+1<1200000)=True:=ki aj;have D:=aHO (l:=iD y::t.map iD) (n:=t.length+1) aO g;have E:=aHP (l:=iD y::t.map iD) (n:=t.length+1) aO g;simp only[go_sem,hi,d,w,ab.cells,d1,d3,bU,D,E,g,dU,a,eI,de]
   . obtain⟨F,G⟩:=X z (cI f);replace f:(iD y::t.map iD)[j]?=J (iD z):=by rw[<-de,lE,f];rfl
     simp only[bU]at k;simp only[go_sem]at K;simp only[go_sem,hi,d,k,f,I,ab.cells,d1,d2,F,G];omega
abbrev LR:=bT×bT
def iF(p:ab):bT:=qF (iX (nodes p))
def EG:ab->ab|.mk _ _ (q::_) _ _ _ _ _=>q|p=>p
def pM(p:ab)(L:LR):iU:=bif ai p.op 0 then⟨⟨V,ja L.1 [p.var]⟩,⟨V,ja L.2 [p.var]⟩,-1⟩else bif ai p.op 5 then⟨⟨V,ja (ja L.1 (iF (EG p))) [p.var]⟩,⟨V,ja L.2 [p.var]⟩,p.var⟩else⟨⟨V,ja L.1 (iF (EG p))⟩,⟨V,ja L.2 (EG p).gW⟩,-1⟩
abbrev ly(L:LR)(f:Int):DV:=.agg [cp V (L.1.map iD) 3 1,cp V (L.2.map iD) 3 1,iD f]
theorem RV(a b:bT)(h:mB a)(c:mB b):CC 244 [cp V (a.map iD) 3 1,cp V (b.map iD) 3 1] (.val (.dv (cp V ((ja a b).map iD) 3 1) .no) .empty):=Un ⟨V,a⟩ ⟨V,b⟩ h c
theorem aaY(a:bT)(v:Int)(h:mB a)(b:mB [v]):CC 244 [cp V (a.map iD) 3 1,.ay [iD v] 3 1] (.val (.dv (cp V ((ja a [v]).map iD) 3 1) .no) .empty):=Un ⟨V,a⟩ ⟨V,[v]⟩ h b
theorem aqf(b n a t v s p c)(L:LR)(A:Int)(r:BB (.mk b n a t v s p c))(j:mB L.1)(k:mB L.2)(B:ai b 0=C->∃q l,a=q::l):CC 179 [.agg (ab.mk b n a t v s p c).cells,ly L A] (.val (.dv (pM (.mk b n a t v s p c) L).d .no) .empty):=by
 have f:mB [v]:=axL λz w=>by rw[Bx]at w;subst w;exact r.c _ (by exact eQ ..)
 have x:=aaY L.1 v j f;have u:=aaY L.2 v k f;have d1:=aIw;have d2:=aIx;have d3:=aIy;simp only[bq,opsOf,f179,go_sem]at d1 d2 d3;simp only[go_sem]at x u;refine aK func179 ?_;cases h:ai b 0 with|true=>simp only[go_sem,f179,ab.cells,ly,h,pM,ab.op,ab.var,iU.d,x,u,d1]|false=>obtain⟨q,l,rfl⟩:=B h;have e:=r.arg (eQ ..);obtain⟨_,g1,d,rfl⟩:=Ug q e;obtain⟨o,i⟩:=OZ q e;have D:mB (iF q):=Hw _;have u3:=RV L.1 (iF q) j D;have g:=aaY (ja L.1 (iF q)) v (Hw _) f;have y:=RV L.2 q.gW k (WW q e.c);simp only[mb]at d i;unfold iF at u3 g;simp only[go_sem]at u3 g y;cases m:ai b 5 with|true=>simp only[go_sem,f179,ab.cells,ly,h,m,pM,ab.op,ab.var,iU.d,EG,d,u,u3,g,d2,ab.aN,iF]|false=>simp only[go_sem,f179,ab.cells,ly,h,m,pM,ab.op,ab.var,iU.d,EG,d,i,u3,y,d3,ab.aN,iF]
theorem anL{a b:bT}(h:∀v,v∈a↔v∈b):qF a=qF b:=by unfold qF;congr 1;grind[afF]
theorem aKU{a b:bT}(h:vQ b):ja a (qF b)=ja a b:=anL λv=>by grind[Tj]
theorem Tk{l:bT}(h:vQ l)(s:l.Pairwise (.<.)):qF l=l:=by grind[Z9,acD,Tj]
theorem NM(a b:bT)(h:a.length<1200000)(c:b.length<1200000):∃o,CC 267 [cp V (a.map iD) 3 1,cp V (b.map iD) 3 1] (.val (.dv (cp V ((ja a b).map iD) 3 1) o) .empty):=by have:=aef ⟨V,a⟩ ⟨V,b⟩ h c;obtain⟨o,d⟩:=N9 _;rw[d]at this;exact⟨o,this⟩
theorem aaZ(a:bT)(v:Int)(h:a.length<1200000):∃o,CC 267 [cp V (a.map iD) 3 1,.ay [iD v] 3 1] (.val (.dv (cp V ((ja a [v]).map iD) 3 1) o) .empty):=NM a [v] h aO
theorem NO(a b:bT):(ja a b).length<1200000:=by grind[CR,ja]
theorem ES{z k:Int}(h:ai z k=V):z=k:=by grind[kO]
theorem aq8(b n a t v s p c)(L:LR)(z:Int)(l:BB (.mk b n a t v s p c))(I:(iX (nodes (.mk b n a t v s p c))).Pairwise (.<.))(g:L.1.length<1200000)(i:L.2.length<1200000)(B:ai b 0=C->∃q,a=[q])(F:kW b=V):CC 329 [.agg (ab.mk b n a t v s p c).cells,ly L z] (.val (.dv (pM (.mk b n a t v s p c) L).d .no) .empty):=by obtain⟨G,r⟩:=aaZ L.1 v g;obtain⟨H,u⟩:=aaZ L.2 v i;have d1:=aI3;have d2:=aI4;have d3:=aI5;simp only[bq,opsOf,f329,go_sem]at d1 d2 d3;simp only[go_sem]at r u;have D:=l.a;refine aK func329 ?_;cases h:ai b 0 with|true=>simp only[go_sem,f329,ab.cells,ly,h,pM,ab.op,ab.var,iU.d,r,u,d1]|false=>
 obtain⟨q,rfl⟩:=B h;have m:=l.arg (eQ ..);have k:iX (nodes (.mk b n [q] t v s p c))=iX (nodes q):=by grind[nodes,dL,iX,ab.op]
 have E:iX (nodes q)=iF q:=(Tk (Ov m.c) (k▸I)).symm;have d:=Uj _ D I;rw[k,E]at d;obtain⟨O,y⟩:=N9 ((iF q).map iD);rw[y]at d;obtain⟨o,e⟩:=O2 (.mk b n [q] t v s p c) D;obtain⟨K,u3⟩:=NM L.1 (iF q) g (by grind[CR,iF]);obtain⟨M,w⟩:=aaZ (ja L.1 (iF q)) v (NO _ _);simp only[mb,ab.cells,go_sem]at d e;simp only[go_sem]at u3 w;cases j:ai b 5 with|true=>simp only[go_sem,f329,ab.cells,ly,h,j,pM,ab.op,ab.var,iU.d,EG,d,u,u3,w,d2]|false=>
 have A:b=7:=by grind[kW,ES]
 have f:(ab.mk b n [q] t v s p c).gW=ja [] q.gW:=by subst A;rfl
 obtain⟨N,x⟩:=NM L.2 (ja [] q.gW) i (NO _ _);rw[show ja L.2 (ja [] q.gW)=ja L.2 q.gW from aKU (ab.ain q m.c)]at x;rw[f]at e;simp only[go_sem,f329,ab.cells,ly,h,j,pM,ab.op,ab.var,iU.d,EG,d,e,u3,x,d3]
def ab.args:ab->aF|.mk _ _ args _ _ _ _ _=>args
structure te(p:ab):Prop extends BB p where
 d:∀q∈nodes p,q.cond.nn<1100000
 e:∀q∈nodes p,kW q.op=V->ai q.op 0=C->∃x,q.args=[x]
theorem te.arg{o n a t v s p c}(h:te (.mk o n a t v s p c))(d:x∈a):te x:=by
 have m:∀q∈nodes x,q∈nodes (.mk o n a t v s p c):=λq b=>by grind[nodes,ab.MF]
 exact⟨h.toBB.arg d,λq b=>h.d q (m q b),λq b=>h.e q (m q b)⟩
abbrev bI(n:Int):GO:=.box ⟨[iD n],[]⟩
def kE(n f z:Int):GH:=⟨5,[(0,bI n),(1,bI f),(2,.box ⟨[.func 177 [] [.ptr 1 0,.ptr 0 0]],[]⟩),(3,bI z),(4,.box ⟨[.func 243 [] [.ptr 3 0,.ptr 2 0,.ptr 4 0]],[]⟩)]⟩
def BU(q:ab)(L:LR):Int:=q.cond.ym (pM q L)
theorem aiD(q:ab)(L:LR):(pM q L).us.l.length<1200000/\(pM q L).si.l.length<1200000:=by grind[pM,NO]
theorem iU.pure(p:iU):p.d.pure=V:=by show cF _=V;simp[cF,V2,DV.pure]
attribute[go_sem]iU.pure
theorem aqe(i f z:Int)(q:ab)(L:LR)(a:te q)(e:mB L.1)(g:mB L.2):ev PP cf (.call 177 [iD i,.agg q.cells,ly L f,.ptr 1 0,.ptr 0 0] .no (kE 0 0 z))=J (bif kW q.op&&!ai (BU q L) 0 then .val (.dv (.bool C) .no) (kE i (BU q L) z)else .val (.dv (.bool V) .no) (kE 0 0 z)):=by
 obtain⟨d,n,args,t,v,s,p,c⟩:=q;have hr:ab.mk d n args t v s p c∈nodes (.mk d n args t v s p c):=by simp[nodes]
 obtain⟨m,j,l⟩:=a.b _ hr;subst j;have d1:=aIv;simp only[bq,opsOf,f177,go_sem]at d1;refine aK func177 ?_;rcases b:kW (.ofNat m)with _|_;.simp only[go_sem,f177,ab.cells,ly,l,b,ab.op,kE]
 have e1:=aqf _ n _ t _ _ _ _ L f a.toBB e g (λh=>by obtain⟨x,k⟩:=a.e _ hr b h;exact⟨x,[],k⟩);have o:=aiD (.mk (.ofNat m) n args t v s p c) L;have e2:=Uf _ o.1 o.2 c (a.d _ hr);simp only[go_sem,ab.cells]at e1;simp only[go_sem,f177,ab.cells,ly,l,b,ab.op,kE,d1,e1,e2,BU,ab.cond];apply sp<;>intro h<;>simp only[h,go_sem];grind[pZ]
mutual
def nM : ab -> LR -> List (ab × LR)
  | .mk o n args t v s p c, L => (.mk o n args t v s p c, L) :: xq o args L
def xq (o : Int) : aF -> LR -> List (ab × LR)
  | [], _ => []
  | q :: l, L => nM q L ++ xq o l (bif ai o 1 then (ja L.1 (iF q), ja L.2 q.gW) else L)
end
def mG:List (ab×LR)->Nat->ah (Nat×Int)|[],_=>Z|x::l,i=>bif kW x.1.op&&!ai (BU x.1 x.2) 0 then J (i,BU x.1 x.2)else mG l (i+1)
theorem ajN:∀(a b:List (ab×LR))(i:Nat),mG (a++b) i=match mG a i with|none=>mG b (i+a.length)|some r=>J r
 |[],_,_=>rfl|x::a,b,i=>by simp only[fA,mG];cases kW x.1.op&&!ai (BU x.1 x.2) 0 with|true=>rfl|false=>rw[bg,bg,ajN a b (i+1),bU,By,Ex 1]
def pz(i:Nat):Int:=nS (.ofNat i) 1
theorem aE2(i:Nat):pz (i+1)=.ofNat i:=by show dI _-1=_;grind
theorem aE1(i:Nat)(h:i<100000000):fS .i64 (Int.add (pz i) 1)=.ofNat i:=by grind[pz,Bl]
def zf(r:ah (Nat×Int))(i:Nat):bt:=match r with|none=>.val (.dv (.bool V) .no) (kE 0 0 (pz i))|some (j,e)=>.val (.dv (.bool C) .no) (kE (.ofNat j) e (.ofNat j))
theorem Dy:∀(p:ab)(L:LR),(nM p L).length=p.nn:=by
 have k:(∀(p:ab)(L:LR),(nM p L).length=p.nn):=by intro p;exact ab.rec (motive_2:=λl=>∀(op:Int)(L:LR),(xq op l L).length=ab.aR l) (λop nl args ty var scope s cond i L=>by grind[nM,ab.nn]) (λop L=>rfl) (λq l h a op L=>by grind[xq,ab.aR]) p
 omega
theorem aKe(e f g t v p d n)(N:te (.mk e f g t v p d n))(L:LR)(h:Int)(i:Nat)(T:i+(ab.mk e f g t v p d n).nn<1100000)(G:mB L.1)(H:mB L.2)(R:∀x,x∈g->∀(L:LR)(h:Int)(i:Nat),i+x.nn<1100000->mB L.1->mB L.2->ev PP cf (.call 243 [.agg x.cells,ly L h,.ptr 3 0,.ptr 2 0,.ptr 4 0] .no (kE 0 0 (pz i)))=J (zf (mG (nM x L) i) (i+x.nn))):ev PP cf (.call 243 [.agg (ab.mk e f g t v p d n).cells,ly L h,.ptr 3 0,.ptr 2 0,.ptr 4 0] .no (kE 0 0 (pz i)))=J (zf (mG (nM (.mk e f g t v p d n) L) i) (i+(ab.mk e f g t v p d n).nn)):=by have e1:=aqe (.ofNat i) h (.ofNat i) _ L N G H;have F:=aE1 i ae;have d1:=aIJ;simp only[bq,opsOf,f243,go_sem]at d1;refine aK func243 ?_;rw[nM,mG];simp only[ab.cells,go_sem,kE]at e1;cases w:kW e&&!ai (BU (.mk e f g t v p d n) L) 0 with|true=>simp only[ab.op,w,go_sem]at e1;simp only[go_sem,f243,ab.cells,ly,kE,F,e1,w,ab.op,zf]|false=>
 simp only[ab.op,w,go_sem]at e1;simp only[go_sem,f243,ab.cells,ly,kE,F,e1,w,ab.op];rw[<-aE2 i];refine IQ g ((L,h,i+1):LR×Int×Nat) (λk s=>⟨243,45,[(21,iS k),(6,.lp 6 0),(5,.lp 5 0),(4,.dv (.ptr 4 0) .no),(19,.dv (cp f (ab.aN g) 32 14) .no),(20,.dv (.int .i64 (.ofNat g.length)) .no)],[(6,⟨[cp V (s.1.1.map iD) 3 1,cp V (s.1.2.map iD) 3 1,iD s.2.1],[]⟩),(5,⟨.int .i64 e::cp f (ab.aN g) 32 14::.int .i64 t::.int .i64 v::.int .i64 p::.int .i64 d::n.cells,[]⟩)],kE 0 0 (pz s.2.2)⟩) (λ_ l s=>zf (mG (xq e l s.1) s.2.2) (i+(ab.mk e f g t v p d n).nn)) (λ_ l s=>s.2.2+ab.aR l=i+(ab.mk e f g t v p d n).nn/\mB s.1.1/\mB s.1.2) (by grind[ab.ji,ab.nn]) rfl ⟨by grind[ab.nn],G,H⟩ rfl (λs I=>?_) (λk x l s z y O I P=>?_);.obtain⟨a,_,_⟩:=I;simp only[ab.aR,zU]at a;simp only[go_sem,xq,mG,zf,kE,a]
 .obtain⟨⟨m,q⟩,h,j⟩:=s;obtain⟨a,b,c⟩:=I;simp only[ab.aR]at a;have U:=cI y;have A:=N.arg U;have hr:=R x U (m,q) h j ae b c;obtain⟨_,g1,D,rfl⟩:=Ug x A.toBB;obtain⟨o,E⟩:=OZ x A.toBB;have B:=RV m (iF x) b (Hw _);have Q:=RV q x.gW c (WW x A.c);simp only[mb]at D E;unfold iF at B;simp only[xq];rw[ajN,Dy];cases K:mG (nM x (m,q)) j with|some r=>obtain⟨W,S⟩:=r;rw[K]at hr;simp only[go_sem,ly,kE,zf]at hr;simp only[go_sem,kE,z,y,hr,zf]|none=>rw[K]at hr;simp only[go_sem,ly,kE,zf]at hr;cases M:ai e 1 with
 |true=>
 have u:=P ((ja m (iF x),ja q x.gW),-1,j+x.nn) ⟨aj,Hw _,Hw _⟩;simp only[go_sem,kE,iF]at u;try simp only[go_sem]at B Q
 simp only[go_sem,kE,z,y,O,hr,M,D,E,B,Q,d1,u,iF]|false=>have u:=P ((m,q),h,j+x.nn) ⟨aj,b,c⟩;simp only[go_sem,kE]at u;simp only[go_sem,kE,z,y,O,hr,M,u]
theorem aea:∀p:ab,te p->∀(L:LR)(f:Int)(i:Nat),i+p.nn<1100000->mB L.1->mB L.2->ev PP cf (.call 243 [.agg p.cells,ly L f,.ptr 3 0,.ptr 2 0,.ptr 4 0] .no (kE 0 0 (pz i)))=J (zf (mG (nM p L) i) (i+p.nn))|.mk o l args t v s n c,a,L,f,i,hi,b,d=>aKe _ _ _ _ _ _ _ _ a L f i hi b d λx h=>aea x (a.arg h)termination_by p=>kb p decreasing_by simp_wf;have:=jY h;omega
def wt(p:ab):Int×Int:=bif ai p.hM 0 then(match mG (nM p ([],[])) 0 with|none=>(0,0)|some (j,e)=>(.ofNat j,e))else(0,p.hM)
theorem aqd(p:ab)(a:te p):∃z,ev PP cf (.call 176 [.agg p.cells,.func 177 [] [.ptr 1 0,.ptr 0 0]] .no ⟨2,[(0,bI 0),(1,bI 0)]⟩)=J (.val (.tp []) (match mG (nM p ([],[])) 0 with|none=>kE 0 0 z|some (j,e)=>kE (.ofNat j) e z)):=by
 have e1:=aea p a ([],[]) (-1) 0 (by have:=a.a;omega) V1 V1;rw[show pz 0=-1 from rfl]at e1;rcases h:mG _ 0 with _|r;.rw[h]at e1;refine⟨pz (0+p.nn),?_⟩;simp only[go_sem,ly,kE,zf,bP,pr]at e1;refine aK func176 ?_;simp only[go_sem,f176,e1,kE]
 obtain⟨j,e⟩:=r;rw[h]at e1;refine⟨.ofNat j,?_⟩;simp only[go_sem,ly,kE,zf,bP,pr]at e1;refine aK func176 ?_;simp only[go_sem,f176,e1,kE]
theorem apK(p:ab)(b:p.hM=0->te p)(q:fY p):Sat (ev PP cf (.call 109 [.agg p.cells] .no .empty)) λv _=>v=.tp [iO (wt p).1,iO (wt p).2]:=by
 have a:=OY p q;have d1:=aIi;simp only[bq,opsOf,f109,go_sem]at d1;refine kp func109 ?_;simp only[go_sem,f109,a,wt];apply eC<;>intro h<;>simp only[h,go_sem];obtain⟨z,e1⟩:=aqd p (b (pZ h));rcases f:mG _ 0 with _|r;.rw[f]at e1;simp only[kE]at e1;simp only[go_sem,e1,d1]
 rw[f]at e1;simp only[kE]at e1;simp only[go_sem,e1,d1]
set_option maxHeartbeats 4000000
def I6(o a k:Int):Bool:=bif ai o 5||(ai o 6||(ai o 7||ai o 8))then ai k 0 else bif ai o 10||(ai o 11||ai o 12)then ai k 1 else bif ai o 9 then ai k a else V
def I8(o:Int)(k:bT):Int:=bif k.all (I6 o (k.headD 0))then 0 else 9
theorem aqz(o k:Int)(s:bT)(c:s.length<1200000):CC 246 [iD o,DV.ay (iD k::s.map iD) 3 1] (vI (I8 o (k::s))):=by
 refine aK func246 ?_;simp only[go_sem,f246,I8,List.headD_cons];refine dJ (k::s) (λi=>[(10,iS i)]) (λ_ l=>vI (bif l.all (I6 o k)then 0 else 9)) aj rfl rfl ?_ (λi x l hi a w b=>?_);.simp only[go_sem,nu]
 .simp only[bU]at hi;replace a:(iD k::s.map iD)[i]?=J (iD x):=aj;simp only[go_sem,hi,a,I6,kY]at b|-;repeat'(with_reducible apply sp<;>intro h<;>simp only[h,w,b,go_sem])
def EO(o:Int):Int:=bif ai o 5||(ai o 6||(ai o 7||ai o 8))then 0 else bif ai o 10||(ai o 11||ai o 12)then 1 else-1
theorem ara(o:Int):CC 330 [iD o] (vI (EO o)):=by refine aK func330 ?_;simp only[go_sem,f330,EO];repeat'(with_reducible apply sp<;>intro h<;>simp only[h,go_sem])
def Gp(o:Int):Int:=bif ai o 5||ai o 6 then 0 else 1
theorem aqM(o:Int):CC 266 [iD o] (vI (Gp o)):=by refine aK func266 ?_;simp only[go_sem,f266,Gp];repeat'(with_reducible apply sp<;>intro h<;>simp only[h,go_sem])
def Li(t:List bJ)(b:List dg)(a:Int):List jX:=match b[a.toNat]? with|some v=>(match t[v.ty.toNat]? with|some s=>s.fields.l|none=>[])|none=>[]
def qS(t:List bJ)(s:List dg)(o v c n k:Int):Int×Int:=bif ai o 0 then(k,0)else bif ao v (.ofNat s.length)then bif ai o 2||ai o 3 then(0,0)else match(Li t s v)[c.toNat]? with|some f=>bif ai o 4&&(!ai f.kind k||!GC n f.kind)then(0,9)else(f.kind,0)|none=>(0,6)else(0,6)
def Eb(s:Sl bJ)(a:Sl dg):Prop:=∀v∈a.l,∃t:Nat,v.ty=.ofNat t/\t<s.l.length
theorem SZ{l:List α}{n:Nat}(h:n<l.length):∃x,l[n]?=J x:=aP
theorem Cd{l:List α}{n:Nat}{x:α}(h:l[n]?=J x):(n<l.length)=True:=aj
theorem H9{l:List α}{n:Nat}(h:l[n]?=Z):(n<l.length)=False:=aP
theorem tn(m:Nat):(dI m).toNat=m:=rfl
theorem aIK:dw cf (bq f245 7)=V:=by rfl
theorem aqy(d:Sl bJ)(b:Sl dg)(o B r v G e k u l)(A:Eb d b)(y:ai o 0=C->∃n:Nat,v=.ofNat n)(p:(ai o 0||(ai o 2||ai o 3))=C->∃n:Nat,G=.ofNat n):CC 245 [.agg [ep d,ic b],.agg (Expr.mk o B r v G e k u l).cells] (vT [iO (qS d.l b.l o v G e k).1,iO (qS d.l b.l o v G e k).2]):=by refine aK func245 ?_;have hd:=aIK;simp only[bq,opsOf,f245,go_sem]at hd;cases a:ai o 0 with|true=>simp only[go_sem,f245,Expr.cells,qS,a]|false=>obtain⟨n,rfl⟩:=y a;rw[a,vp]at p;cases c:b.l[n]? with|none=>have e1:=H9 c;simp only[go_sem,f245,Expr.cells,qS,a,e1]|some x=>
 have e1:=Cd c;obtain⟨t,w,z⟩:=A x (cI c);obtain⟨s,q⟩:=SZ z;have e2:Li d.l b.l (.ofNat n)=s.fields.l:=by grind[Li]
 cases g:ai o 2 with|true=>simp only[go_sem,f245,Expr.cells,qS,a,e1,g]|false=>cases j:ai o 3 with|true=>simp only[go_sem,f245,Expr.cells,qS,a,e1,g,j]|false=>obtain⟨m,rfl⟩:=p aP;cases i:s.fields.l[m]? with|none=>have e3:=H9 i;simp only[go_sem,f245,Expr.cells,qS,a,e1,g,j,c,w,q,e2,e3,i,hd,tn]|some f=>have e3:=Cd i;simp only[go_sem,f245,Expr.cells,qS,a,e1,g,j,c,w,q,e2,e3,i,hd,tn];repeat'(with_reducible apply sp<;>intro h<;>simp only[h,aeh,go_sem])
theorem aqL(o k:Int)(s:bT)(c:s.length<1200000):CC 265 [iD o,.ay (iD k::s.map iD) 3 1] (vI (I8 o (k::s))):=by
 refine aK func265 ?_;have hd:=aIS;simp only[bq,opsOf,f265,go_sem]at hd;simp only[go_sem,f265,I8,List.headD_cons];refine dJ (k::s) (λi=>[(5,iS i)]) (λ_ l=>vI (bif l.all (I6 o k)then 0 else 9)) aj rfl rfl ?_ (λi x l hi a w b=>?_);.simp only[go_sem,nu]
 . simp only[bU]at hi;replace a:(iD k::s.map iD)[i]?=J (iD x):=aj;simp only[go_sem,hi,hd,ara,kY]at b|-;have e:I6 o k x=bif !(ao (EO o) 0)then ai x (EO o)else bif ai o 9 then ai x k else V:=by
    unfold I6 EO;cases(ai o 5||(ai o 6||(ai o 7||ai o 8)));.cases(ai o 10||(ai o 11||ai o 12))<;>rfl
    rfl
   have e9:ao (EO o) 0=C->ai o 9=C:=by grind[EO,kO,eP]
   rw[e];repeat'(with_reducible apply sp<;>intro h<;>simp only[h,a,w,b,go_sem])
   simp_all
def GJ(t:Sl bJ)(s:Sl dg):Int:=bif ao 16 (.ofNat s.l.length)then 5 else bif s.l.all (λv=>!ao v.ty 0&&ao v.ty (.ofNat t.l.length))then 0 else 6
theorem aql(t:Sl bJ)(s:Sl dg)(c:s.l.length<1200000):CC 199 [ep t,ic s] (vI (GJ t s)):=by
 refine aK func199 ?_;simp only[go_sem,f199,GJ];apply sp<;>intro h<;>simp only[h,go_sem];refine dJ s.l (λi=>[(5,iS i)]) (λ_ l=>vI (bif l.all (λv=>!ao v.ty 0&&ao v.ty (.ofNat t.l.length))then 0 else 6)) ae rfl rfl ?_ (λi x l hi a w b=>?_);.simp only[go_sem,nu]
 .simp only[go_sem,hi,a,kY]at b|-;repeat'(with_reducible apply sp<;>intro h<;>simp only[h,a,w,b,go_sem])
theorem aqK(i:Sl bJ)(c:Sl dg)(o D r v G e k u q)(B:Eb i c)(y:ai o 0=C->∃n:Nat,v=.ofNat n)(w:(ai o 0||(ai o 2||ai o 3))=C->∃n:Nat,G=.ofNat n)(z:ai o 4=V->ai e 0=C):CC 264 [ep i,ic c,.agg (Expr.mk o D r v G e k u q).cells] (vT [iO (qS i.l c.l o v G e k).1,iO (qS i.l c.l o v G e k).2]):=by refine aK func264 ?_;cases a:ai o 0 with|true=>simp only[go_sem,f264,Expr.cells,qS,a]|false=>obtain⟨n,rfl⟩:=y a;rw[a,vp]at w;cases b:c.l[n]? with|none=>have e1:=H9 b;simp only[go_sem,f264,Expr.cells,qS,a,e1]|some x=>
 have e1:=Cd b;obtain⟨t,p,A⟩:=B x (cI b);obtain⟨s,l⟩:=SZ A;have e2:Li i.l c.l (.ofNat n)=s.fields.l:=by grind[Li]
 cases d:ai o 2 with|true=>simp only[go_sem,f264,Expr.cells,qS,a,e1,d]|false=>cases j:ai o 3 with|true=>simp only[go_sem,f264,Expr.cells,qS,a,e1,d,j]|false=>obtain⟨m,rfl⟩:=w aP;cases g:s.fields.l[m]? with|none=>have e3:=H9 g;simp only[go_sem,f264,Expr.cells,qS,a,e1,d,j,b,p,l,e2,e3,g,tn]|some f=>have e3:=Cd g;cases U:ai o 4 with|false=>simp only[go_sem,f264,Expr.cells,qS,a,e1,d,j,b,p,l,e2,e3,g,tn,U]|true=>have e5:=z U;simp only[go_sem,f264,Expr.cells,qS,a,e1,d,j,b,p,l,e2,e3,g,tn,U];repeat'(with_reducible apply sp<;>intro h<;>simp only[h,e5,aei,J2,go_sem])
def tP(o:Int)(r:Int×bT):Int×Int:=bif ai r.1 0 then(bif ai (I8 o r.2) 0 then(Gp o,0)else(0,I8 o r.2))else(0,r.1)
mutual
def Expr.ma (t : List bJ) (v : List dg) : Expr -> Int × Int
  | .mk op _ args var c n k _ _ => bif args.isEmpty then qS t v op var c n k else tP op (Expr.xn t v args [])
def Expr.xn (t : List bJ) (v : List dg) : List Expr -> bT -> Int × bT
  | [], k => (0, k)
  | e :: l, k => bif ai (e.ma t v).2 0 then Expr.xn t v l (k ++ [(e.ma t v).1]) else ((e.ma t v).2, [])
end
theorem Expr.aa4:∀(l:List Expr),Expr.vj l=0->∀e∈l,e.pe=0
 |[],_,e,h=>by simp at h|a::l,h,e,m=>by
  simp only[Expr.vj,kO]at h;by_cases b:a.pe=0
  . simp[b]at h;rcases List.mem_cons.1 m with rfl|m;.exact b
    .exact Expr.aa4 l h e m
  .simp[b]at h
theorem Expr.RY{o l a v c n k u s}(h:(Expr.mk o l a v c n k u s).pe=0):VM.fE o (.ofNat a.length) v c n k u s=0/\Expr.vj a=0:=by grind[Expr.pe,Expr.fE,kO]
theorem ahm{o v c e k u:Int}{s:an}(h:fE o 0 v c e k u s=0):(ai o 0=C->∃n:Nat,v=.ofNat n)/\((ai o 0||(ai o 2||ai o 3))=C->∃n:Nat,c=.ofNat n)/\(ai o 4=V->ai e 0=C):=by have a:∀z:Int,¬z<0->∃n:Nat,z=.ofNat n:=λz f=>⟨z.toNat,aj⟩;all_goals
 simp only[fE,arity,wB,wA,eP,kO]at h;refine⟨λ_=>a _ λd=>?_,?_,?_⟩;.grind
 .first|(intro b;simp[ai]at b;done)|(intro _;refine a _ λd=>?_;grind)
 grind[kO]
theorem aJ8(t:Sl bJ)(v:Sl dg)(o g a c G n k u r)(z:a.length<1100000)(A:a.isEmpty=C)(m:∀x,x∈a->CC 180 [.agg [ep t,ic v],.agg x.cells] (vT [iO (x.ma t.l v.l).1,iO (x.ma t.l v.l).2])):CC 180 [.agg [ep t,ic v],.agg (Expr.mk o g a c G n k u r).cells] (vT [iO ((Expr.mk o g a c G n k u r).ma t.l v.l).1,iO ((Expr.mk o g a c G n k u r).ma t.l v.l).2]):=by
 refine aK func180 ?_;have y:a.length≠0:=aj;have j:ai (.ofNat a.length) 0=C:=by grind[kO]
 simp only[go_sem,f180,Expr.cells,Expr.ma,A,j];refine iB a ([]:bT) (λi s=>[(24,iS i),(6,dz (s.map iD) 3 1)]) (λ_ l s=>vT [iO (tP o (Expr.xn t.l v.l l s)).1,iO (tP o (Expr.xn t.l v.l l s)).2]) (λi _ s=>s.length=i) ae rfl rfl rfl (λs I=>?_) (λi x l s hi d w I q=>?_);.cases s with|nil=>grind|cons k0 f=>have e:=aqz o k0 f aj;simp only[go_sem]at e;simp only[go_sem,Expr.xn,tP,Gp,e];repeat'(with_reducible apply sp<;>intro h<;>simp only[h,go_sem])
 .have hr:=m x (cI d);simp only[go_sem]at hr;simp only[eq_iff_iff,iff_true]at hi;have b:=q (s++[(x.ma t.l v.l).1]) aP;have hi:=ki hi;cases s with|nil=>simp only[go_sem,dk]at b;simp only[go_sem,hi,d,hr,Expr.xn,tP];apply sp<;>intro h<;>simp only[h,w,b,tP,go_sem]|cons k0 f=>have p:(f.length+1<1200000)=True:=aj;simp only[go_sem,eI,fA]at b;simp only[go_sem,hi,d,hr,Expr.xn,tP];apply sp<;>intro h<;>simp only[h,w,b,p,tP,go_sem,dU,fA]
theorem aKl(t:Sl bJ)(a:Sl dg)(d:Eb t a)(o l v c n k u s)(w:fE o 0 v c n k u s=0):CC 180 [.agg [ep t,ic a],.agg (Expr.mk o l [] v c n k u s).cells] (vT [iO ((Expr.mk o l [] v c n k u s).ma t.l a.l).1,iO ((Expr.mk o l [] v c n k u s).ma t.l a.l).2]):=by obtain⟨h,b,f⟩:=ahm w;have e:=aqy t a o l [] _ _ n k u s d h b;simp only[Expr.cells,ep,ic]at e;refine aK func180 ?_;simp only[go_sem,f180,Expr.cells,Expr.ma,List.isEmpty_nil,e]
theorem ad2(t:Sl bJ)(v:Sl dg)(b:Eb t v):∀e:Expr,e.nn<1100000->e.pe=0->CC 180 [.agg [ep t,ic v],.agg e.cells] (vT [iO (e.ma t.l v.l).1,iO (e.ma t.l v.l).2])|.mk o l [] r c n k num str,_,w=>aKl t v b _ _ _ _ _ _ _ _ (Expr.RY w).1|.mk o l (a::args) r c n k num str,d,w=>by simp only[Expr.nn,Expr.aR]at d;exact aJ8 _ _ _ _ _ _ _ _ _ _ _ (by have:=Expr.ji args;simp only[bU];omega) rfl λx h=>ad2 t v b x (by have:=Expr.lM (a::args) _ h;simp only[Expr.aR]at this;omega) (Expr.aa4 _ (Expr.RY w).2 x h)termination_by e=>kb e decreasing_by simp_wf;have:=jY h;simp only[List.cons.sizeOf_spec]at this|-;omega
theorem aKb(t:Sl bJ)(v:Sl dg)(o g a c G n k u r)(z:a.length<1100000)(A:a.isEmpty=C)(m:∀x,x∈a->CC 200 [ep t,ic v,.agg x.cells] (vT [iO (x.ma t.l v.l).1,iO (x.ma t.l v.l).2])):CC 200 [ep t,ic v,.agg (Expr.mk o g a c G n k u r).cells] (vT [iO ((Expr.mk o g a c G n k u r).ma t.l v.l).1,iO ((Expr.mk o g a c G n k u r).ma t.l v.l).2]):=by
 refine aK func200 ?_;have y:a.length≠0:=aj;have j:ai (.ofNat a.length) 0=C:=by grind[kO]
 simp only[go_sem,f200,Expr.cells,Expr.ma,A,j];refine iB a ([]:bT) (λi s=>[(9,iS i),(8,dz (s.map iD) 3 1)]) (λ_ l s=>vT [iO (tP o (Expr.xn t.l v.l l s)).1,iO (tP o (Expr.xn t.l v.l l s)).2]) (λi _ s=>s.length=i) ae rfl rfl rfl (λs I=>?_) (λi x l s hi d w I q=>?_);.cases s with|nil=>grind|cons k0 f=>have e:=aqL o k0 f aj;simp only[go_sem]at e;simp only[go_sem,Expr.xn,tP,Gp,e,Gp];repeat'(with_reducible apply sp<;>intro h<;>simp only[h,aqM,Gp,go_sem])
 .have hr:=m x (cI d);simp only[go_sem]at hr;simp only[eq_iff_iff,iff_true]at hi;have b:=q (s++[(x.ma t.l v.l).1]) aP;have hi:=ki hi;cases s with|nil=>simp only[go_sem,dk]at b;simp only[go_sem,hi,d,hr,Expr.xn,tP];apply sp<;>intro h<;>simp only[h,w,b,tP,go_sem]|cons k0 f=>have p:(f.length+1<1200000)=True:=aj;simp only[go_sem,eI,fA]at b;simp only[go_sem,hi,d,hr,Expr.xn,tP];apply sp<;>intro h<;>simp only[h,w,b,p,tP,go_sem,dU,fA]
theorem aKm(t:Sl bJ)(a:Sl dg)(f:Eb t a)(o l v c g k n s)(w:fE o 0 v c g k n s=0):CC 200 [ep t,ic a,.agg (Expr.mk o l [] v c g k n s).cells] (vT [iO ((Expr.mk o l [] v c g k n s).ma t.l a.l).1,iO ((Expr.mk o l [] v c g k n s).ma t.l a.l).2]):=by obtain⟨h,b,d⟩:=ahm w;have e:=aqK t a o l [] _ _ _ k n s f h b d;simp only[Expr.cells,ep,ic]at e;refine aK func200 ?_;simp only[go_sem,f200,Expr.cells,Expr.ma,List.isEmpty_nil,e]
theorem ad7(t:Sl bJ)(v:Sl dg)(b:Eb t v):∀e:Expr,e.nn<1100000->e.pe=0->CC 200 [ep t,ic v,.agg e.cells] (vT [iO (e.ma t.l v.l).1,iO (e.ma t.l v.l).2])|.mk o l [] r c n k num str,_,w=>aKm t v b _ _ _ _ _ _ _ _ (Expr.RY w).1|.mk o l (a::args) r c n k num str,d,w=>by simp only[Expr.nn,Expr.aR]at d;exact aKb _ _ _ _ _ _ _ _ _ _ _ (by have:=Expr.ji args;simp only[bU];omega) rfl λx h=>ad7 t v b x (by have:=Expr.lM (a::args) _ h;simp only[Expr.aR]at this;omega) (Expr.aa4 _ (Expr.RY w).2 x h)termination_by e=>kb e decreasing_by simp_wf;have:=jY h;simp only[List.cons.sizeOf_spec]at this|-;omega
theorem akr{t:Sl bJ}{s:Sl dg}(h:s.l.all (λv=>!ao v.ty 0&&ao v.ty (.ofNat t.l.length))=V):Eb t s:=by intro v a;have:=List.all_eq_true.1 h v a;simp only[eP,iC,Bool.not_eq_true',EN,mw,wH]at this;exact⟨v.ty.toNat,aj,ae⟩
theorem aK8{t:Sl bJ}{s:Sl dg}(h:ai (GJ t s) 0=V):Eb t s:=by unfold GJ at h;cases b:ao 16 (.ofNat s.l.length)with|true=>simp_all[ai]|false=>cases a:s.l.all (λv=>!ao v.ty 0&&ao v.ty (.ofNat t.l.length))with|true=>grind[akr]|false=>rw[a]at h;simp_all[ai]
theorem Expr.acO{e:Expr}(h:ai e.gU 0=V):e.pe=0:=by grind[Expr.gU,kO]
def FJ(t:Sl bJ)(v:Sl dg)(e:Expr):Int×Int:=bif ai e.gU 0 then e.ma t.l v.l else(0,e.gU)
def tQ(t:Sl bJ)(v:Sl dg)(e:Expr):Int×Int:=bif ai (sj t.l) 0 then bif ai (GJ t v) 0 then FJ t v e else(0,GJ t v)else(0,sj t.l)
structure kK(ts:Sl bJ):Prop where
 a:∀s,s∈ts.l->s.ok
 b:ts.l.length<1200000
theorem adR(t:Sl bJ)(v:Sl dg)(e:Expr)(b:kK t)(i:v.l.length<1200000)(n:e.nn<1100000):CC 136 [ep t,ic v,.agg e.cells] (vT [iO (tQ t v e).1,iO (tQ t v e).2]):=by have a:=Us t b.a b.b;have d:=aql t v i;have f:=HM e ae;have g:=λh c=>ad7 t v (aK8 h) e n (Expr.acO c);simp only[go_sem]at a d f g;refine aK func136 ?_;simp only[go_sem,f136,a,tQ,FJ];repeat'(with_reducible apply sp<;>intro h<;>simp only[*,go_sem])
theorem adL(t:Sl bJ)(s:Sl dg)(e:Expr)(j:kK t)(o:s.l.length<1200000)(n:e.nn<1100000):CC 115 [ep t,ic s,.agg e.cells] (vT [iO (tQ t s e).1,iO (tQ t s e).2]):=by
 obtain⟨g1,d⟩:=Ur t j.a j.b;have f:=HL e ae;have g:=λh k=>ad2 t s (akr h) e n (Expr.acO k);simp only[go_sem]at d f g;refine aK func115 ?_;simp only[go_sem,f115,d,tQ,GJ];apply sp<;>intro h<;>simp only[h,go_sem];apply sp<;>intro h<;>simp only[h,go_sem]
 have z:∀l:List dg,(bif ai (bif l.all (λv=>!ao v.ty 0&&ao v.ty (.ofNat t.l.length))then 0 else 6) 0 then FJ t s e else(0,bif l.all (λv=>!ao v.ty 0&&ao v.ty (.ofNat t.l.length))then 0 else 6))=bif l.all (λv=>!ao v.ty 0&&ao v.ty (.ofNat t.l.length))then FJ t s e else(0,6):=by intro l;cases l.all (λv=>!ao v.ty 0&&ao v.ty (.ofNat t.l.length))<;>rfl
 rw[z];refine iB s.l () (λi _=>[(22,iS i)]) (λ_ l _=>vT [iO (bif l.all (λv=>!ao v.ty 0&&ao v.ty (.ofNat t.l.length))then FJ t s e else(0,6)).1,iO (bif l.all (λv=>!ao v.ty 0&&ao v.ty (.ofNat t.l.length))then FJ t s e else(0,6)).2]) (λi _ _=>(s.l.take i).all (λv=>!ao v.ty 0&&ao v.ty (.ofNat t.l.length))=V) ae rfl rfl rfl (λ_ I=>?_) (λi x l _ hi b w I m=>?_);.rw[List.take_length]at I;simp only[go_sem,nu,f,FJ];apply sp<;>intro h<;>simp only[h,g I,go_sem]
 . have q:=λp:(!ao x.ty 0&&ao x.ty (.ofNat t.l.length))=V=>m () (by rw[D9 b,List.all_append,I,List.all_cons,p];rfl);simp only[go_sem]at q;cases a:ao x.ty 0
   . cases c:ao x.ty (.ofNat t.l.length);.simp only[go_sem,hi,b,a,c,kY]
     .have A:=q (by rw[a,c];rfl);simp only[go_sem,hi,b,w,a,c,kY,A]
   .simp only[go_sem,hi,b,a,kY]
def KN(t:Sl bJ)(v:Sl dg)(e:Expr):Int:=bif ai (tQ t v e).2 0 then(bif ai (tQ t v e).1 1 then 0 else 9)else(tQ t v e).2
theorem aqc(t:Sl bJ)(v:Sl dg)(e:Expr)(b:kK t)(c:v.l.length<1200000)(n:e.nn<1100000):CC 175 [ep t,ic v,.agg e.cells] (vI (KN t v e)):=by have a:=adL t v e b c n;simp only[go_sem]at a;refine aK func175 ?_;simp only[go_sem,f175,a,KN];repeat'(with_reducible apply sp<;>intro h<;>simp only[h,go_sem])
theorem ap0(t:Sl bJ)(v:Sl dg)(e:Expr)(b:kK t)(c:v.l.length<1200000)(n:e.nn<1100000):CC 133 [ep t,ic v,.agg e.cells] (vI (KN t v e)):=by have a:=adR t v e b c n;simp only[go_sem]at a;refine aK func133 ?_;simp only[go_sem,f133,a,KN];repeat'(with_reducible apply sp<;>intro h<;>simp only[h,go_sem])
end Go.VM
