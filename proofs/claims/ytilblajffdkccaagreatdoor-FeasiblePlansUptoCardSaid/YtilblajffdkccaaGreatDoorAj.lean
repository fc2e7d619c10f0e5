/- Proved: what functions of the program and of the references answer (a part of the proof of FeasiblePlansUptoCardSaid, whose theorem stands in the last text), within the sizes that each theorem names. -/
import Derived.Test.YtilblajffdkccaaGreatDoorAi
open Option renaming some->J,none->Z
open Bool renaming true->V,false->C
open Bool renaming noConfusion->mK
open Go renaming TypeId->al,Value->aB,Oper->aC,Operand->aH,Program->aM,World->aT,Code->bz,FuncId->bS,Frame->cZ,lone->eT,IntKind->gZ,MapEntry->kZ
open Go.Builtin renaming zeroCells->nR,firstCells->oE,append_->s8,copy_->zF
open Go.Lib renaming compact->tb
open Go.Op renaming operands->eB,mapUpdate->rC
open Go.Proofs.Tryz renaming prog->eS
open Go.Region renaming binds->uq
open Go.stepG renaming exec->ug
open Int renaming ofNat->dI,sub->nS
open List renaming rec->kG,append->qA
open Nat renaming beq->aw,ble->bV,blt->cM,succ->eU,add->im,mul->jD
open SizeOf renaming sizeOf->kb
open UInt8 renaming toNat->nU
noncomputable section
set_option linter.all false
namespace Go.VM
open Go Go.AM Proofs.Tryz
attribute[local congr]cC cD
set_option maxRecDepth 100000
set_option maxHeartbeats 1000000
theorem aeS:cf.fk 121=3/\cf.eF 121=V:=by constructor<;>kernel_rfl
theorem aeU:cf.fk 61=3/\cf.eF 61=V:=by constructor<;>kernel_rfl
theorem aeV:cf.fk 63=3/\cf.eF 63=V:=by constructor<;>kernel_rfl
theorem aeW:cf.fk 65=3/\cf.eF 65=V:=by constructor<;>kernel_rfl
theorem adM(s t:Sl Expr)(l:s.l.length<1000000000)(a:∀e∈s.l,e.nn<1100000):CC 122 [vD s,vD t,.func 121 [] []] (vB (fM Expr.same s.l t.l)):=by have h:=K9 (α:=Expr) (d:=λe=>.agg e.cells) (c:=Expr.cells) (q:=Expr.same) 121 [] [] .empty s.nl t.nl s.l t.l l (λx y b=>.inr ⟨aeS.1,aeS.2,by simp only[dk,fy,cF,DV.pure,Expr.pure,go_sem],ET x y (by have:=a x b;omega)⟩) (.inr (.inr (.inr (.inl rfl)))) (λx=>⟨rfl,Expr.eN x⟩);rw[<-Expr.nZ,<-Expr.nZ]at h;exact h
def Edge.eqv(e d:Edge):Bool:=ai e.src d.src&&(ai e.dst d.dst&&e.same d)
theorem arA(e d:Edge)(a:qz e):CC 61 [e.d,d.d] (vB (e.eqv d)):=by have e1:=ET e.cond d.cond (by have:=a.c;omega);have e2:=HJ e.opens d.opens (by have:=a.o;omega);have e3:=HJ e.gK d.gK (by have:=a.p;omega);have e4:=HJ e.inside d.inside (by have:=a.i;omega);have e5:=adN e.fx d.fx (by have:=a.l;omega);have e6:=adM e.gC d.gC (by have:=a.k;omega) a.e;simp only[go_sem]at e2 e3 e4 e5 e6;refine aK func61 ?_;simp only[f61,qA];simp only[go_sem,Edge.d,Edge.cells,Edge.eqv,Edge.same];repeat'(with_reducible apply sp<;>intro h<;>simp only[h,e1,e2,e3,e4,e5,e6,go_sem])
def Guard.same(g h:Guard):Bool:=ai g.scope h.scope&&(ai g.ty h.ty&&(ai g.var h.var&&g.cond.same h.cond))
theorem arD(g k:Guard)(a:g.cond.nn<1100000):CC 65 [g.d,k.d] (vB (g.same k)):=by have e1:=ET g.cond k.cond ae;refine aK func65 ?_;simp only[go_sem,f65,Guard.d,Guard.cells,Guard.same];repeat'(with_reducible apply sp<;>intro h<;>simp only[h,e1,go_sem])
theorem arC(s t:Stat)(b:s.guards.l.length<1100000)(h:∀g∈s.guards.l,g.cond.nn<1100000):CC 63 [s.d,t.d] (vB (fM Guard.same s.guards.l t.guards.l)):=by have e1:=K9 (d:=Guard.d) (c:=Guard.cells) (q:=Guard.same) 65 [] [] .empty s.guards.nl t.guards.nl s.guards.l t.guards.l ae (λx y a=>.inr ⟨aeW.1,aeW.2,by simp only[dk,fy,cF,go_sem],arD x y (h x a)⟩) (.inr (.inr (.inl rfl))) (λx=>⟨rfl,Guard.eN x⟩);refine aK func63 ?_;simp only[go_sem,f63,Stat.d,e1]
def Stat.same(s t:Stat):Bool:=fM Guard.same s.guards.l t.guards.l
def bm.same(a b:bm):Bool:=ai a.vars b.vars&&(ai a.scopes b.scopes&&(fM Edge.eqv a.bE.l b.bE.l&&fM Stat.same a.gk.l b.gk.l))
theorem aqT(a b:bm)(e:oD a):CC 28 [.agg a.cells,.agg b.cells] (vB (a.same b)):=by have i:=e.s;have g:=e.e;have e1:=K9 (d:=Edge.d) (c:=Edge.cells) (q:=Edge.eqv) 61 [] [] .empty a.bE.nl b.bE.nl a.bE.l b.bE.l ae (λx y f=>.inr ⟨aeU.1,aeU.2,by simp only[dk,fy,cF,go_sem],arA x y (e.x x f)⟩) (.inl rfl) (λx=>⟨rfl,Edge.eN x⟩);have e2:=K9 (d:=Stat.d) (c:=λs=>[pC s.guards]) (q:=Stat.same) 63 [] [] .empty a.gk.nl b.gk.nl a.gk.l b.gk.l ae (λx y f=>.inr ⟨aeV.1,aeV.2,by simp only[dk,fy,cF,go_sem],arC x y (e.g x f).1 (e.g x f).2⟩) (.inr (.inl rfl)) (λx=>⟨rfl,rfl⟩);refine aK func28 ?_;simp only[go_sem,f28,bm.cells,bm.same];repeat'(with_reducible apply sp<;>intro h<;>simp only[h,e1,e2,go_sem])
theorem arI(s t:Sl Guard)(d:s.l.length<1100000)(c:∀g∈s.l,g.cond.nn<1100000):CC 72 [pC s,pC t] (vB (fM Guard.same s.l t.l)):=by
 have hd:=aJm;simp only[bq,opsOf,f72,qA,go_sem]at hd;refine aK func72 ?_;simp only[f72,qA];by_cases e:s.l.length=t.l.length
 . simp only[go_sem,e,tq _ _ e];refine dJ (s.l.zip t.l) (λi=>[(5,iS i)]) (λi l=>vB (l.all λp=>Guard.same p.1 p.2)) aj rfl rfl ?_ (λi x l hi a w b=>?_);.simp only[go_sem,kX e,nu,e]
   .obtain⟨a,y⟩:=vn a;rw[kX e,e]at hi;have e1:=HK x.1.cond x.2.cond (by have:=c x.1 (cI a);omega);simp only[go_sem,hd,hi,a,y,e,kY,Guard.same,Guard.d,Guard.cells]at b|-;repeat'(with_reducible apply sp<;>intro h<;>simp only[h,w,b,a,y,e1,Guard.d,Guard.cells,go_sem])
 .simp only[go_sem,e,tj _ _ e]
theorem arJ(s t:Sl Edge)(d:s.l.length<1100000)(c:∀x∈s.l,qz x):CC 73 [HF s,HF t] (vB (fM Edge.eqv s.l t.l)):=by
 have hd:=aJn;simp only[bq,opsOf,f73,go_sem]at hd;refine aK func73 ?_;simp only[f73];by_cases e:s.l.length=t.l.length
 . simp only[go_sem,e,tq _ _ e];refine dJ (s.l.zip t.l) (λi=>[(5,iS i)]) (λi l=>vB (l.all λp=>Edge.eqv p.1 p.2)) aj rfl rfl ?_ (λi x l hi a w b=>?_);.simp only[go_sem,kX e,nu,e]
   .obtain⟨a,y⟩:=vn a;rw[kX e,e]at hi;have ok:=c x.1 (cI a);have e1:=adU x.1 x.2 ok (by have:=ok.l;omega) (by have:=ok.o;omega) (by have:=ok.p;omega) (by have:=ok.i;omega);simp only[Edge.d,Edge.cells,go_sem]at e1;simp only[go_sem,hd,hi,a,y,e,kY,Edge.eqv,Edge.d,Edge.cells]at b|-;repeat'(with_reducible apply sp<;>intro h<;>simp only[h,w,b,a,y,e1,Edge.d,Edge.cells,go_sem])
 .simp only[go_sem,e,tj _ _ e]
def bm.ZU(a b:bm):Bool:=ai a.vars b.vars&&(ai a.scopes b.scopes&&(fM Stat.same a.gk.l b.gk.l&&fM Edge.eqv a.bE.l b.bE.l))
theorem aGK(a b:bm):a.ZU b=a.same b:=by grind[bm.same,bm.ZU]
theorem aqY(a b:bm)(c:oD a):CC 31 [.agg a.cells,.agg b.cells] (vB (a.same b)):=by
 rw[<-aGK];have s:=c.s;have hd:=aI2;simp only[bq,opsOf,f31,go_sem]at hd;have e1:=arJ a.bE b.bE c.e c.x;simp only[go_sem]at e1;refine aK func31 ?_;simp only[f31,bm.ZU];by_cases e:a.gk.l.length=b.gk.l.length
 . simp only[go_sem,tq _ _ e,bm.cells];repeat'(with_reducible apply sp<;>intro h<;>simp only[h,e,go_sem])
   refine dJ (a.gk.l.zip b.gk.l) (λi=>[(5,iS i)]) (λi l=>vB (l.all (λp=>Stat.same p.1 p.2)&&fM Edge.eqv a.bE.l b.bE.l)) aj rfl rfl ?_ (λi x l hi d w f=>?_);.simp only[go_sem,kX e,nu,e,e1]
   .obtain⟨d,y⟩:=vn d;rw[kX e,e]at hi;obtain⟨g1,g2⟩:=c.g x.1 (cI d);have e2:=arI x.1.guards x.2.guards g1 g2;simp only[go_sem]at e2;simp only[go_sem,hd,hi,d,y,e,e2,kY,Stat.same,Stat.d]at f|-;apply sp<;>intro h<;>simp only[h,w,f,go_sem]
 .simp only[go_sem,tj _ _ e,bm.cells];repeat'(with_reducible apply sp<;>intro h<;>simp only[h,e,go_sem])
mutual
def ab.same : ab -> ab -> Bool
  | .mk op _ args ty var scope s cond, .mk r _ m w n a x H => ai op r && (ai ty w && (ai var n && (ai scope a && (ai s x && (cond.same H && ab.pP args m)))))
def ab.pP : aF -> aF -> Bool
  | [], [] => V
  | x :: s, y :: a => x.same y && ab.pP s a
  | _, _ => C
end
theorem ab.Bc:∀s a:aF,ab.pP s a=fM ab.same s a|[],[]=>rfl|x::s,y::a=>by simp only[ab.pP,fM,ab.Bc s a];cases x.same y<;>rfl|[],_::_=>rfl|_::_,[]=>rfl
theorem aeT:cf.fk 255=3/\cf.eF 255=V:=by constructor<;>kernel_rfl
mutual
def ab.cn : ab -> Nat
  | .mk _ _ args _ _ _ _ cond => 1 + cond.nn + ab.gi args
def ab.gi : aF -> Nat
  | [] => 0
  | p :: l => p.cn + ab.gi l
end
theorem ab.HB:∀(l:aF)x,x∈l->x.cn<=ab.gi l
 |y::l,x,h=>by
  rcases List.mem_cons.1 h with rfl|h;.simp only[ab.gi];omega
  .have:=ab.HB l x h;simp only[ab.gi];omega
theorem ab.Tw:∀l:aF,l.length<=ab.gi l|[]=>bo _|.mk _ _ _ _ _ _ _ _::l=>by have:=ab.Tw l;simp only[ab.gi,ab.cn,bU];omega
theorem O4:∀p b:ab,p.cn<100000000->CC 255 [.agg p.cells,.agg b.cells] (vB (p.same b))|.mk i l args t v s n o,.mk r u m w k j g H,f=>by simp only[ab.cn]at f;have hr:∀x y,x∈args->CC 255 [.agg x.cells,.agg y.cells] (vB (x.same y)):=λx y a=>O4 x y (by have:=ab.HB args _ a;omega);clear O4;have e1:=K9 (α:=ab) (d:=λe=>.agg e.cells) (c:=ab.cells) (q:=ab.same) 255 [] [] .empty l u args m (by have:=ab.Tw args;omega) (λx y a=>.inr ⟨aeT.1,aeT.2,by simp only[dk,fy,cF,DV.pure,ab.pure,go_sem],hr x y a⟩) (.inr (.inr (.inr (.inr rfl)))) (λx=>⟨rfl,ab.eN x⟩);rw[<-ab.nZ,<-ab.nZ,<-ab.Bc]at e1;have e2:=ET o H ae;refine aK func255 ?_;simp only[f255];simp only[go_sem,ab.cells,ab.same];repeat'(with_reducible apply sp<;>intro h<;>simp only[h,e1,e2,go_sem])termination_by p=>kb p decreasing_by simp_wf;have:=jY a;omega
theorem K7:∀p q:ab,p.cn<100000000->CC 206 [.agg p.cells,.agg q.cells] (vB (p.same q))
 |.mk t r args u v s n c,.mk Y A m z o B j H,f=>by
  simp only[ab.cn]at f;have hr:∀x y,x∈args->CC 206 [.agg x.cells,.agg y.cells] (vB (x.same y)):=λx y a=>K7 x y (by have:=ab.HB args _ a;omega);clear K7;have hd:=aIG;simp only[bq,opsOf,f206,qA,go_sem]at hd;have e2:=HK c H ae;have k:=ab.Tw args;refine aK func206 ?_;simp only[f206,qA];by_cases e:args.length=m.length
  . simp only[go_sem,ab.cells,ab.same,ab.Bc,tq _ _ e];repeat'(with_reducible apply sp<;>intro h<;>simp only[h,e,e2,go_sem])
    refine dJ (args.zip m) (λi=>[(5,iS i)]) (λi l=>vB (l.all λp=>p.1.same p.2)) (by rw[kX e];omega) rfl rfl ?_ (λi x l hi a w b=>?_);.simp only[go_sem,kX e,nu,e]
    .obtain⟨a,g⟩:=vn a;rw[kX e,e]at hi;have d:=hr x.1 x.2 (cI a);simp only[go_sem,hd,hi,a,g,d,e,kY]at b|-;apply sp<;>intro h<;>simp only[h,w,b,go_sem]
  .simp only[go_sem,ab.cells,ab.same,ab.Bc,tj _ _ e];repeat'(with_reducible apply sp<;>intro h<;>simp only[h,e,e2,go_sem])termination_by p=>kb p decreasing_by simp_wf;have:=jY a;omega
def QY(s:Sl (Sl Int)):DV:=cp s.nl (s.l.map hZ) 24 1
attribute[go_sem]QY
def ZT(x y:Sl Int):Bool:=fM ai x.l y.l
theorem apL(s t:Sl (Sl Int))(c:s.l.length<1000000000)(q:∀x∈s.l,x.l.length<1000000000):CC 11 [QY s,QY t] (vB (fM ZT s.l t.l)):=by
 have hd:=aIk;simp only[bq,opsOf,f11,go_sem]at hd;refine aK func11 ?_;by_cases e:s.l.length=t.l.length
 . simp only[go_sem,f11,e,tq _ _ e];refine dJ (s.l.zip t.l) (λi=>[(5,iS i)]) (λi l=>vB (l.all λp=>ZT p.1 p.2)) aj rfl rfl ?_ (λi x l hi a w b=>?_);.simp only[go_sem,kX e,nu,e]
   .obtain⟨a,y⟩:=vn a;rw[kX e,e]at hi;have e1:=aq3 x.1 x.2 (q _ (cI a));simp only[go_sem]at e1;simp only[go_sem,hd,hi,a,y,e,e1,kY,ZT]at b|-;apply sp<;>intro h<;>simp only[h,w,b,go_sem]
 .simp only[go_sem,f11,e,tj _ _ e]
section
variable{P:aM}{u:jq}{t:al}{A:aA}{os:List (Nat×aX)}{o:Nat×aX}{D:Nat}
theorem aAx(h:AM.isAgg P t=J V):gP P u t ⟨A,o::os⟩ D=(bC P t).bind λn=>bif bV (D+n) A.length then J (.dv (.agg ((A.drop D).take n)) .no,⟨A,(o::os).map λx=>(x.1,rf x.2)⟩)else Z:=by grind[gP]
end
theorem aHE{e}:rf (.ex e)=.ty e:=rfl
theorem aHG{e}:rf (.ty e)=.ty e:=rfl
theorem aHF:rf .no=.no:=rfl
attribute[go_sem]aAx aHE aHG aHF
abbrev vPa(p:ab):bt:=.val (.dv (.agg p.cells) .no) .empty
def jU(k:Int)(p q:ab):ab:=match p with|.mk _ _ _ ty var scope s cond=>.mk k V [q] ty var scope s cond
theorem Uo(k:Int)(p q:ab):CC 336 [iD k,.agg p.cells,.agg q.cells] (vPa (jU k p q)):=by cases p;refine aK func336 ?_;simp only[go_sem,f336,ab.cells,jU];rfl
theorem UJ(l:bT):((l.map iD).all λy=>decide (y.flat.length=1))=V:=by rw[um];intro y h;obtain⟨z,_,rfl⟩:=List.mem_map.1 h;rfl
theorem aen(n:Int)(s:Sl Int)(h:s.l.length<900):CC 391 [iD n,hZ s] (.val (mb (n::s.l) (.ex 3)) .empty):=by have a:=Hl (e:=3) (l:=[iD n]) (new:=s.l.map iD) aj;refine aK func391 ?_;simp only[go_sem,f391,mb,a,UJ];rfl
theorem arl(n:Int)(s:Sl Int)(h:s.l.length<900):CC 392 [hZ s,iD n] (.val (mb (s.l++[n]) (.ex 3)) .empty):=by
 have a:=Hl (e:=3) (l:=[]) (new:=s.l.map iD) aj;have b:=Hl (e:=3) (l:=s.l.map iD) (new:=[iD n]) aj;have m:cp V ((s.l++[n]).map iD) 3 1=.ay (s.l.map iD++[iD n]) 3 1:=by simp[cp]
 refine aK func392 ?_;unfold mb;rw[m];simp only[go_sem,f392,a,b,UJ]
abbrev zE:Expr:=.mk 0 V [] 0 0 0 0 0 []
def kq(n:Bool)(k:Int):aF->ab|[p]=>p|l=>.mk k n l 0 0 0 0 zE
theorem aem(n:Bool)(l:aF)(h:l.length<1100000):CC 390 [cp n (ab.aN l) 32 14] (vPa (kq n 1 l)):=by refine aK func390 ?_;match l with
 |[p]=>have e1:ai (.ofNat 1) 1=V:=rfl;simp only[go_sem,f390,kq,ab.aN,e1]|[]=>have e1:ai 0 1=C:=rfl;simp only[go_sem,f390,kq,ab.aN,e1];rfl|p::q::l=>
 have a:ai (.ofNat (p::q::l).length) 1=C:=by rfl
 simp only[bU]at a;simp only[go_sem,f390,kq,a];rfl
theorem O9(n:Bool)(k:Int)(l:aF)(h:l.length<1100000):CC 441 [iD k,cp n (ab.aN l) 32 14] (vPa (kq n k l)):=by refine aK func441 ?_;match l with
 |[p]=>have e1:ai (.ofNat 1) 1=V:=rfl;simp only[go_sem,f441,kq,ab.aN,e1]|[]=>have e1:ai 0 1=C:=rfl;simp only[go_sem,f441,kq,ab.aN,e1];rfl|p::q::l=>
 have a:ai (.ofNat (p::q::l).length) 1=C:=by rfl
 simp only[bU]at a;simp only[go_sem,f441,kq,a];rfl
structure Pr where
 bw:Edge
 done:Bool
 rest:ab
variable{w:Bool}{a g g':GH}{L T e m D:Nat}{x:Pr}{l:aA}{P:aM}{t:al}{F:bt->ah bt}
def Pr.cells(p:Pr):aA:=p.bw.cells++([.bool p.done]++p.rest.cells)
theorem apF{e:Expr}{a b c d f:DV}:List.take 13 (e.cells++a::b::c::d::f::l)=e.cells++[a,b,c,d,f]:=by have:e.cells++a::b::c::d::f::l=(e.cells++[a,b,c,d,f])++l:=aO;grind[List.take_left',Expr.eN]
theorem apb{e:Expr}{a b c d f:DV}:List.drop 13 (e.cells++a::b::c::d::f::l)=l:=by have:e.cells++a::b::c::d::f::l=(e.cells++[a,b,c,d,f])++l:=aO;grind[List.drop_left',Expr.eN]
attribute[go_sem]apF apb
def kg(r:Pr)(n:Bool)(l:aF):Pr:=match l with|[]=>r|l=>⟨r.bw,C,bif r.done then kq n 1 l else kq n 1 (r.rest::l)⟩
theorem EF{new:aA}(h:l.length+new.length<1000):iM 32 14 152 (.ay l 32 14) (.ex 32) new=J (.ay (l++new) 32 14,.ex 32):=by grind[wN,bF]
theorem UK(l:aF):((ab.aN l).all λy=>decide (y.flat.length=14))=V:=by rw[um];intro y h;rw[ab.nZ]at h;obtain⟨z,_,rfl⟩:=List.mem_map.1 h;simp only[DV.flat,go_sem];try rfl
theorem are(r:Pr)(n:Bool)(a:aF)(h:a.length<900):CC 334 [.agg r.cells,cp n (ab.aN a) 32 14] (.val (.dv (.agg (kg r n a).cells) .no) .empty):=by obtain⟨⟨src,v,var,ty,⟨A,B,D,E,F,G,H,I,K⟩,z,u,L,T,ins⟩,done,⟨s,t,q3,q4,q5,q6,q7,⟨f,g,i,j,k,p6,m,o,q⟩⟩⟩:=r;have d1:=aI7;have d2:=aI8;simp only[bq,opsOf,f334,go_sem]at d1 d2;refine aK func334 ?_;cases a with|nil=>have e1:ai 0 0=V:=rfl;simp only[go_sem,f334,kg,ab.aN,e1,Pr.cells,Edge.cells,ab.cells,Expr.cells]|cons p a=>
 have y:ai (.ofNat (p::a).length) 0=C:=by rw[kO];simp only[wH,bU];exact wS ae
 have d:=EF (l:=[]) (new:=ab.aN (p::a)) (by simp[ab.jP];simp at h;omega);have e:=EF (l:=[.agg (ab.mk s t q3 q4 q5 q6 q7 ⟨f,g,i,j,k,p6,m,o,q⟩).cells]) (new:=ab.aN (p::a)) (by simp[ab.jP];simp at h;omega);have c:=aem n (p::a) ae;have b:=aem n ((ab.mk s t q3 q4 q5 q6 q7 ⟨f,g,i,j,k,p6,m,o,q⟩)::p::a) (by simp only[bU]at h|-;omega);have f1:=UK (p::a);simp only[ab.aN,ab.cells,Expr.cells,dk,fA,bU,go_sem]at d e c b f1 y;have w:∀(x:DV)a,cp n (x::a) 32 14=.ay (x::a) 32 14:=λ_ _=>rfl;simp only[w]at c b;simp only[go_sem,f334,kg,ab.aN,Pr.cells,Edge.cells,ab.cells,Expr.cells];apply sp<;>intro h<;>simp only[h,d,e,c,b,f1,d1,d2,go_sem]
def Pr.d(r:Pr):DV:=.agg r.cells
def xA(l:List Pr)(o:aX):SV:=.dv (cp V (l.map Pr.d) 283 32) o
def rZ(p:ab)(r:Pr):List Pr:=bif r.done then[r,⟨r.bw,C,.mk 4 V [p] 0 0 0 0 zE⟩]else[⟨r.bw,C,.mk 8 V [r.rest,p] 0 0 0 0 zE⟩]
theorem ael(p:ab)(r:Pr):CC 335 [.agg p.cells,r.d] (.val (xA (rZ p r) (.ex 283)) .empty):=by obtain⟨⟨src,d,var,ty,⟨a,b,e,f,g,i,j,l,m⟩,o,c,k,T,ins⟩,done,⟨y,z,q3,q4,q5,q6,q7,⟨n,q,s,t,u,p6,v,w,x⟩⟩⟩:=r;refine aK func335 ?_;simp only[go_sem,f335,Pr.d,Pr.cells,Edge.cells,ab.cells,Expr.cells,xA,rZ];apply sp<;>intro h<;>simp only[h,de,bP,Pr.d,Pr.cells,Edge.cells,ab.cells,Expr.cells,ab.aN,go_sem]<;>rfl
theorem aH4{n:Nat}(a:n<=l.length)(h:n<1200000):oz PP 25 (.ay l 32 14) Z (J (.int .i64 (.ofNat n))) Z=J (.ay (l.take n) 32 14,.no):=by unfold oz;grind[Proofs.Tryz.underlying25,wx,nT,nY,rB,bF]
theorem Z8{n:Nat}(a:n<=l.length)(h:n<1200000):oz PP 25 (.ay l 32 14) (J (.int .i64 (.ofNat n))) Z Z=J (.ay (l.drop n) 32 14,.no):=by simp_all[oz,wx,nY,rB]
def FH(r:Pr)(a:aF)(k:Nat):aF:=a.take k++((bif r.done then[]else[r.rest])++a.drop (k+1))
def FI(r:Pr)(a:aF)(k:Nat):Pr:=⟨r.bw,C,kq C 3 (FH r a k)⟩
theorem aqP(r:Pr)(op G a ty B t x w)(k:Nat)(hk:k<a.length)(h:a.length<800):CC 269 [r.d,.agg (ab.mk op G a ty B t x w).cells,iD (.ofNat k)] (.val (.dv (FI r a k).d .no) .empty):=by
 obtain⟨⟨src,z,S,wz,⟨U,W,X,Y,o5,o6,o7,o8,o9⟩,A,y,R,T,ins⟩,done,⟨o,s,q3,q4,q5,q6,q7,⟨b,c,d,e,f,p6,g,j,m⟩⟩⟩:=r;have d1:=aIV;simp only[bq,opsOf,f269,go_sem]at d1;have P:cp G (ab.aN a) 32 14=.ay (ab.aN a) 32 14:=by
  cases a;.grind
  rfl
 have H:=aH4 (l:=ab.aN a) (n:=k) (by grind[ab.jP]) ae;have I:=Z8 (l:=ab.aN a) (n:=k+1) (by grind[ab.jP]) ae;have Q:=xO (i:=k) ae;rw[show(ab.aN a).take k=ab.aN (a.take k)by simp[ab.nZ]]at H;rw[show(ab.aN a).drop (k+1)=ab.aN (a.drop (k+1))by simp[ab.nZ]]at I;have l1:(a.take k).length=k:=aj;have l2:k+(a.drop (k+1)).length<800:=aj;have f1:=UK (a.take k);have f2:=UK (a.drop (k+1));have D:=EF (l:=[]) (new:=ab.aN (a.take k)) (by grind[ab.jP]);have E:=EF (l:=ab.aN (a.take k)) (new:=[.agg (ab.mk o s q3 q4 q5 q6 q7 ⟨b,c,d,e,f,p6,g,j,m⟩).cells]) (by grind[ab.jP]);have u:=EF (l:=ab.aN (a.take k)) (new:=ab.aN (a.drop (k+1))) (by grind[ab.jP]);have v:=EF (l:=ab.aN (a.take k)++[.agg (ab.mk o s q3 q4 q5 q6 q7 ⟨b,c,d,e,f,p6,g,j,m⟩).cells]) (new:=ab.aN (a.drop (k+1))) (by grind[ab.jP]);rw[show ab.aN (a.take k)++[.agg (ab.mk o s q3 q4 q5 q6 q7 ⟨b,c,d,e,f,p6,g,j,m⟩).cells]++ab.aN (a.drop (k+1))=ab.aN (a.take k++([ab.mk o s q3 q4 q5 q6 q7 ⟨b,c,d,e,f,p6,g,j,m⟩]++a.drop (k+1)))by simp[ab.nZ]]at v;rw[<-ab.vC]at u;unfold FI FH;have g3:∃L,L=a.take k++a.drop (k+1):=⟨_,rfl⟩;have g4:∃L,L=a.take k++([ab.mk o s q3 q4 q5 q6 q7 ⟨b,c,d,e,f,p6,g,j,m⟩]++a.drop (k+1)):=⟨_,rfl⟩;obtain⟨K,g3⟩:=g3;obtain⟨M,g4⟩:=g4;rw[<-g3]at u;rw[<-g4]at v;have j3:(Pr.mk ⟨src,z,S,wz,⟨U,W,X,Y,o5,o6,o7,o8,o9⟩,A,y,R,T,ins⟩ V ⟨o,s,q3,q4,q5,q6,q7,⟨b,c,d,e,f,p6,g,j,m⟩⟩).rest=.mk o s q3 q4 q5 q6 q7 ⟨b,c,d,e,f,p6,g,j,m⟩:=rfl;simp only[ab.cells,Expr.cells,fA,dk,go_sem]at D E u v;refine aK func269 ?_;simp only[f269];simp only[go_sem,Pr.d,Pr.cells,Edge.cells,ab.cells,Expr.cells,P,H,f1,D];apply sp<;>intro h<;>simp only[h,I,Q,f2,E,u,v,go_sem]<;>simp only[fA,dk]at g4;case' h=>rw[<-g3];clear g3 g4 u v;revert K;intro L
 case' a=>rw[<-g4];clear g3 g4 u v;revert M;intro L
 all_goals
  rcases L with _|⟨p,_|⟨q,l⟩⟩;.have e1:ai 0 1=C:=rfl;simp only[e1,kq,ab.aN,eD,go_sem];rfl
  .have e1:ai (.ofNat 1) 1=V:=rfl;simp only[e1,kq,ab.aN,d1,go_sem]
  . have F:ai (.ofNat (p::q::l).length) 1=C:=by rfl
    simp only[bU]at F;simp only[F,kq,ab.aN,go_sem];rfl
def mZ(e:Edge)(n o d:Bool)(s p:Int):Edge:=⟨e.src,e.dst,e.var,e.ty,e.cond,bif o then⟨V,s::e.opens.l⟩else e.opens,bif d then⟨V,e.gK.l++[s]⟩else e.gK,e.gC,bif n then e.fx else⟨V,⟨s,p⟩::e.fx.l⟩,bif n then⟨V,s::e.inside.l⟩else e.inside⟩
def ud(r:Pr)(o s a:Int)(p:ab):Pr:=let e:=mZ r.bw (jA o) (bif ai o 5 then V else ai o 6) r.done s a
 bif r.done then⟨e,V,.mk 0 V [] 0 0 0 0 zE⟩else⟨e,C,jU (bif jA o then 9 else 10) p r.rest⟩
theorem amd{new:aA}(h:l.length+new.length<1000):iM 174 2 16 (.ay l 174 2) (.ex 174) new=J (.ay (l++new) 174 2,.ex 174):=by grind[wN,bF]
theorem flL(l:List fU):((l.map fU.d).all λy=>decide (y.flat.length=2))=V:=by rw[um];intro y h;obtain⟨z,_,rfl⟩:=List.mem_map.1 h;rfl
theorem aAy{c:aA}{s:List (Nat×aX)}{o:Nat×aX}(h:AM.isAgg P t=J C)(n:look (o::s) D=Z):gP P .copy t ⟨c,o::s⟩ D=(c[D]?).bind λd=>J (.dv d .no,⟨c,o::s⟩):=by
 unfold gP;rw[h];rcases b:c[D]? with _|d;.rfl
 have a:fg ⟨c,o::s⟩ D=.any\/fg ⟨c,o::s⟩ D=.no:=by grind[fg]
 rcases a with h|h<;>rw[h]<;>rfl
theorem onw{x:DV}:qn D (.ay (x::l) m 1) (.ex e)=[(D,.ex e)]:=rfl
theorem aCZ{s:Int}{l:bT}:qn D (cp V ((l++[s]).map iD) 3 1) (.ex 3)=[(D,.ex 3)]:=by cases l<;>rfl
attribute[go_sem]aAy onw aCZ
theorem lg{b:Bool}{n:Nat}{x:DV}:cp b (x::l) e n=.ay (x::l) e n:=rfl
theorem arf(r:Pr)(o n a t v s p c)(f:r.bw.inside.l.length<900)(g:r.bw.opens.l.length<900)(i:r.bw.gK.l.length<900)(E:r.bw.fx.l.length<900):CC 337 [.agg (ab.mk o n a t v s p c).cells,r.d] (.val (.dv (ud r o s p (.mk o n a t v s p c)).d .no) .empty):=by
 have e1:=K6 o n a t v s p c;have f1:=aen s r.bw.inside f;have f2:=aen s r.bw.opens g;have f3:=arl s r.bw.gK i;have f4:=amd (l:=[fU.d ⟨s,p⟩]) (new:=r.bw.fx.l.map fU.d) (by simp;omega);have f5:=flL r.bw.fx.l;have e9:=Uo 9 (.mk o n a t v s p c) r.rest;have ux:=Uo 10 (.mk o n a t v s p c) r.rest;obtain⟨⟨src,e,G,wz,⟨H,I,J,K,M,N,O,P,Q⟩,j,d,L,T,ins⟩,done,⟨q1,q2,q3,q4,q5,q6,q7,⟨R,S,U,V,W,p6,X,Y,Z⟩⟩⟩:=r;obtain⟨w,x,c3,y,z,A,B,C,D⟩:=c;have d1:=aI9;simp only[bq,opsOf,f337,go_sem]at d1;simp only[ab.cells,Expr.cells,fU.d,jU,mb,de,fA,dk,go_sem]at e1 f1 f2 f3 f4 f5 e9 ux;simp only[lg]at f1 f2;have r1:dB [(16,.ex 3)] 12 1=[(16,.ex 3)]:=rfl;have r2:dB [(15,.ex 174)] 12 1=[(15,.ex 174)]:=rfl;have k:dB [(16,.ex 3)] 13 1=[(16,.ex 3)]:=rfl;have m:dB [(15,.ex 174)] 13 1=[(15,.ex 174)]:=rfl;have q:dB [(12,.ex 3),(16,.ex 3)] 13 1=[(12,.ex 3),(16,.ex 3)]:=rfl;have u:dB [(12,.ex 3),(15,.ex 174)] 13 1=[(12,.ex 3),(15,.ex 174)]:=rfl;refine aK func337 ?_;simp only[f337];simp only[go_sem,Pr.d,Pr.cells,Edge.cells,ab.cells,Expr.cells,e1,ud,mZ,jU];generalize F:jA o=b at*;repeat'(with_reducible apply sp<;>intro h<;>simp only[h,f1,f2,f3,f4,f5,e9,ux,d1,r1,r2,k,m,q,u,go_sem])
 all_goals(try simp only[ab.cells,Expr.cells,lg,go_sem])<;>try rfl
theorem amE{a b:Bool}:nX PP .eql 4 (.bool a) (.bool b)=J (.bool (a==b)):=by rfl
attribute[go_sem]amE
def Bb(a b:Pr):Bool:=(a.done==b.done)&&(a.bw.same b.bw&&a.rest.same b.rest)
def sw(r:Pr)(l:List Pr):List Pr:=bif l.any (λx=>Bb x r)then l else l++[r]
structure tf(r:Pr):Prop where
 e:qz r.bw
 p:r.rest.cn<100000000
def ED:List Pr->aX|[]=>.any|_=>.ex 283
theorem aqR(l:List Pr)(r:Pr)(hl:l.length<10000)(p:∀x∈l,tf x):ev PP cf (.call 270 [cp V (l.map Pr.d) 283 32,r.d] (ED l) .empty)=J (.val (dz ((sw r l).map Pr.d) 283 32) .empty):=by
 have d1:=aIW;simp only[bq,opsOf,f270,go_sem]at d1;have z1:=λ(x:Pr)(a:x∈l)=>adU x.bw r.bw (p x a).e (by have:=(p x a).e.l;omega) (by have:=(p x a).e.o;omega) (by have:=(p x a).e.p;omega) (by have:=(p x a).e.i;omega);have z2:=λ(x:Pr)(a:x∈l)=>K7 x.rest r.rest (p x a).p;have b:l≠[]->iM 283 32 400 (.ay (l.map Pr.d) 283 32) (.ex 283) [r.d]=J (.ay (l.map Pr.d++[r.d]) 283 32,.ex 283):=by intro _;exact wN gD (by show(List.length (l.map Pr.d)+1)*400<=bF;rw[dU];unfold bF;omega) (by show List.length (l.map Pr.d)+1<=bF;rw[dU];unfold bF;omega)
 have w:sw r l=bif l.any (λx=>Bb x r)then l else l++[r]:=rfl;obtain⟨⟨src,d,var,ty,⟨f,g,j,q,s,u,v,y,A⟩,o,c,k,T,ins⟩,done,⟨L,M,q3,q4,q5,q6,q7,⟨B,D,E,F,G,p6,H,I,K⟩⟩⟩:=r;refine aK func270 ?_;simp only[f270];by_cases n:l=[]
 . subst n;simp only[go_sem,Pr.d,Pr.cells,Edge.cells,ab.cells,Expr.cells,ED,sw];refine dJ ([]:List Pr) (λi=>[(5,iS i)]) (λ_ _=>.val (dz [Pr.d ⟨⟨src,d,var,ty,⟨f,g,j,q,s,u,v,y,A⟩,o,c,k,T,ins⟩,done,⟨L,M,q3,q4,q5,q6,q7,⟨B,D,E,F,G,p6,H,I,K⟩⟩⟩] 283 32) .empty) gD rfl rfl ?_ (λi x l hi a w e=>?_);.simp only[go_sem,Pr.d,Pr.cells,Edge.cells,ab.cells,Expr.cells,pr]
   .simp at a
 . have hL:cp V (l.map Pr.d) 283 32=.ay (l.map Pr.d) 283 32:=by
    cases l;.exact absurd rfl n
    .rfl
   have hW:ED l=.ex 283:=by
    cases l;.exact absurd rfl n
    .rfl
   have Q:∀m:List Pr,dz ((l++m).map Pr.d) 283 32=.dv (.ay ((l++m).map Pr.d) 283 32) (.ex 283):=by
    intro m;cases l;.exact absurd rfl n
    .rfl
   have N:=Q [];rw[fy]at N;have b:=b n;simp only[Pr.d,Pr.cells,Edge.cells,ab.cells,Expr.cells,go_sem]at b;rw[w];rw[hL,hW];simp only[go_sem,Pr.d,Pr.cells,Edge.cells,ab.cells,Expr.cells];refine dJ l (λi=>[(5,iS i)]) (λ_ t=>.val (dz ((bif t.any λz=>Bb z ⟨⟨src,d,var,ty,⟨f,g,j,q,s,u,v,y,A⟩,o,c,k,T,ins⟩,done,⟨L,M,q3,q4,q5,q6,q7,⟨B,D,E,F,G,p6,H,I,K⟩⟩⟩then l else l++[⟨⟨src,d,var,ty,⟨f,g,j,q,s,u,v,y,A⟩,o,c,k,T,ins⟩,done,⟨L,M,q3,q4,q5,q6,q7,⟨B,D,E,F,G,p6,H,I,K⟩⟩⟩]).map Pr.d) 283 32) .empty) ae rfl rfl ?_ (λi x t hi a w e=>?_);.simp only[zM,bg,Q];simp only[go_sem,b,eI,de,bP,Pr.d,Pr.cells,Edge.cells,ab.cells,Expr.cells]
   .have R:=cI a;have O:=z1 x R;have P:=z2 x R;obtain⟨⟨aOh,X,nk,wz,⟨o1',o2',o3',WK,o5',o6',o7',WL,o9'⟩,aNT,U,S,aNJ,Y⟩,W,⟨q1',q2',q3',q4',q5',q6',q7',⟨p1',p2',p3',p4',A5,p6',p7',p8',p9'⟩⟩⟩:=x;simp only[Edge.d,Edge.cells,ab.cells,Expr.cells,go_sem]at O P;simp only[go_sem]at e;simp only[go_sem,d1,hi,a,Pr.d,Pr.cells,Edge.cells,ab.cells,Expr.cells,nv,Bb]at e|-;repeat'(with_reducible apply sp<;>intro h<;>simp only[h,hi,a,w,O,P,e,N,Pr.d,Pr.cells,Edge.cells,ab.cells,Expr.cells,go_sem])
def zP:ab:=.mk 0 V [] 0 0 0 0 zE
def HN(t v:Int)(c:Expr):Pr:=⟨⟨0,0,v,t,c,⟨V,[]⟩,⟨V,[]⟩,⟨V,[]⟩,⟨V,[]⟩,⟨V,[]⟩⟩,V,zP⟩
def Aa(e:Edge)(c:Expr):Edge:=⟨e.src,e.dst,e.var,e.ty,e.cond,e.opens,e.gK,⟨V,e.gC.l++[c]⟩,e.fx,e.inside⟩
def Bk(r:Pr)(p:ab)(c:Expr):Pr:=bif r.done then⟨Aa r.bw c,V,zP⟩else⟨r.bw,C,jU 7 p r.rest⟩
def rO(l:aF):ab:=l.headD zP
def kD:ab->Pr->List Pr|.mk o n args t v s p c,x=>bif ai o 1 then[kg x C (args.drop 1)]else bif ai o 4 then rZ (rO args) x else bif ai o 8 then rZ (rO (args.drop 1)) x else bif ai o 7 then[Bk x (.mk o n args t v s p c) c]else[ud x o s p (.mk o n args t v s p c)]
def tY(p a:ab)(x:Pr):List Pr:=bif x.done then[x,⟨x.bw,C,p⟩]else[⟨x.bw,C,.mk 8 V [x.rest,a] 0 0 0 0 zE⟩]
def yR:ab->Pr->List Pr|.mk o n args t v s p c,x=>bif ai o 4 then tY (.mk o n args t v s p c) (rO args) x else kD (.mk o n args t v s p c) x
def mi(u x:List Pr):List Pr:=x.foldl (λo r=>sw r o) u
def lu(a:Bool)(f:aF)(k:Nat)(x:Pr):Pr:=bif a then FI x f k else x
mutual
def eM : ab -> List Pr
  | .mk o n args t v s p c => bif ai o 0 then [HN t v c] else bif ai o 2 || ai o 3 then ou (ai o 3) args args 0 [] else mi [] ((wa args).flatMap (kD (.mk o n args t v s p c)))
def wa : aF -> List Pr
  | [] => []
  | a :: _ => eM a
def ou (b : Bool) (f : aF) : aF -> Nat -> List Pr -> List Pr
  | [], _, o => o
  | a :: l, k, o => ou b f l (k + 1) (mi o ((eM a).map (lu b f k)))
end
mutual
def dF : ab -> List Pr
  | .mk o n args t v s p c => bif ai o 0 then [HN t v c] else bif ai o 2 || ai o 3 then me (ai o 3) args args 0 else (xz args).flatMap (yR (.mk o n args t v s p c))
def xz : aF -> List Pr
  | [] => []
  | a :: _ => dF a
def me (b : Bool) (f : aF) : aF -> Nat -> List Pr
  | [], _ => []
  | a :: l, k => (dF a).map (lu b f k) ++ me b f l (k + 1)
end
structure gw(n w:Nat)(x:Pr):Prop where
 o:x.bw.opens.l.length<=n
 p:x.bw.gK.l.length<=n
 i:x.bw.inside.l.length<=n
 l:x.bw.fx.l.length<=n
 k:x.bw.gC.l.length<=n
 c:x.bw.cond.nn<=w
 e:∀e∈x.bw.gC.l,e.nn<=w
 r:x.rest.cn<=n*w
 m:x.rest.nn<=n*n
 b:∀q∈nodes x.rest,q.cond.nn<=w
 z:x.done=V->x.rest=zP
 s:x.bw.src=0
 d:x.bw.dst=0
theorem Expr.DC(e:Expr):1<=e.nn:=by cases e<;>simp[Expr.nn]
theorem gw.mono{n c d:Nat}(h:gw n c x)(a:n<=m)(b:c<=d):gw m d x:=⟨gv h.o a,gv h.p a,gv h.i a,gv h.l a,gv h.k a,gv h.c b,λe f=>gv (h.e e f) b,gv h.r (ph a b),gv h.m (ph a a),λq g=>gv (h.b q g) b,h.z,h.s,h.d⟩
theorem Sr:zE.nn=1:=rfl
theorem abn:zP.cn=2:=rfl
theorem Tv:∀a b:aF,ab.gi (a++b)=ab.gi a+ab.gi b|[],b=>by simp[ab.gi]|x::a,b=>by simp only[fA,ab.gi,Tv a b];omega
theorem aoj{f:aF}{k:Nat}{a:ab}(h:f[k]?=J a):ab.gi f=ab.gi (f.take k)+(a.cn+ab.gi (f.drop (k+1))):=by grind[G5,J9,ab.gi,Tv]
mutual
theorem OE : ∀ (p : ab), ∀ q ∈ nodes p, q.cond.nn <= p.cn
  | .mk o n args t v s a c, q, h => by
    rw [nodes] at h
    simp only [ab.cn]
    rcases List.mem_cons.1 h with rfl | h
    · simp only [ab.cond]; omega
    · have := KC args q h; omega
theorem KC : ∀ (l : aF), ∀ q ∈ dL l, q.cond.nn <= ab.gi l
  | [], q, h => by rw [dL] at h; exact absurd h gT
  | p :: l, q, h => by
    rw [dL, CF] at h
    simp only [ab.gi]
    rcases h with h | h
    · have := OE p q h; omega
    · have := KC l q h; omega
end
theorem WA:∀a b:aF,ab.aR (a++b)=ab.aR a+ab.aR b|[],b=>by simp[ab.aR]|x::a,b=>by simp only[fA,ab.aR,WA a b];omega
theorem aBQ{f:aF}{k:Nat}{a:ab}(h:f[k]?=J a):ab.aR f=ab.aR (f.take k)+(a.nn+ab.aR (f.drop (k+1))):=by grind[G5,J9,ab.aR,WA]
theorem WE:∀a b:aF,dL (a++b)=dL a++dL b|[],b=>by simp[dL]|x::a,b=>by simp only[fA,dL,WE a b,kr]
theorem ajR(n:Bool)(k:Int):∀l:aF,(kq n k l).nn<=1+ab.aR l|[]=>by simp[kq,ab.nn,ab.aR]|[p]=>by simp only[kq,ab.aR];omega|p::q::l=>by simp only[kq,ab.nn];omega
theorem ZV(n:Bool)(k:Int)(l:aF)(w:Nat)(b:1<=w)(h:∀q∈dL l,q.cond.nn<=w):∀q∈nodes (kq n k l),q.cond.nn<=w:=by
 have e:∀q∈nodes (ab.mk k n l 0 0 0 0 zE),q.cond.nn<=w:=by
  intro q a;rw[nodes]at a;rcases List.mem_cons.1 a with rfl|a;.exact b
  grind
 match l with|[]=>exact e|[p]=>intro q a;exact h q (by rw[dL];exact zQ _ a)|p::q::l=>exact e
theorem FO{n N:Nat}(h:n+1+T<=N):n*n+n+1+T<=N*N:=by have h:=ph h h;grind
theorem ajQ(n:Bool)(k:Int):∀l:aF,(kq n k l).cn<=2+ab.gi l|[]=>by simp[kq,ab.cn,Sr,ab.gi]|[p]=>by simp only[kq,ab.gi];omega|p::q::l=>by simp only[kq,ab.cn,Sr];omega
theorem FN{n c N C:Nat}(a:n+1<=N)(b:c+2+T<=C):n*c+c+2+T<=N*C:=by have h:=ph a b;grind
theorem ah6(k:Int)(o n a t v s p c)(q:ab):(jU k (.mk o n a t v s p c) q).cn=1+c.nn+q.cn:=by simp[jU,ab.cn,ab.gi]
theorem ah8(k:Int)(o n a t v s p c)(q:ab):(jU k (.mk o n a t v s p c) q).nn=1+q.nn:=by grind[jU,ab.nn,ab.aR]
theorem ah5(k:Int)(o n a t v s p c)(q:ab)(w:Nat)(b:c.nn<=w)(d:∀z∈nodes q,z.cond.nn<=w):∀z∈nodes (jU k (.mk o n a t v s p c) q),z.cond.nn<=w:=by
 intro z h;simp only[jU,nodes,dL,fy]at h;rcases List.mem_cons.1 h with rfl|h;.exact b
 grind
theorem RT(k:Int)(l:aF)(w:Nat)(b:1<=w)(h:∀q∈dL l,q.cond.nn<=w):∀z∈nodes (ab.mk k V l 0 0 0 0 zE),z.cond.nn<=w:=by
 intro z a;rw[nodes]at a;rcases List.mem_cons.1 a with rfl|a;.exact b
 grind
theorem abo:zP.nn=1:=rfl
theorem abm(w:Nat)(a:1<=w):∀z∈nodes zP,z.cond.nn<=w:=RT 0 [] w a (λq h=>absurd h gT)
theorem aey(t v:Int)(o:Expr)(n c:Nat)(a:1<=n)(b:o.nn<=c)(d:2<=c):gw n c (HN t v o):=⟨kH _,kH _,kH _,kH _,kH _,b,λ_ h=>absurd h gT,by show zP.cn<=_;rw[abn];have:=ph a d;omega,by show zP.nn<=_;rw[abo];have:=ph a a;omega,abm _ ae,λ_=>rfl,rfl,rfl⟩
theorem gw.rest{n c d:Nat}(h:gw n c x)(a:n<=m)(b:c<=d){q:ab}(g:q.cn<=m*d)(f:q.nn<=m*m)(e:∀z∈nodes q,z.cond.nn<=d):gw m d ⟨x.bw,C,q⟩:=let h:=h.mono a b
 ⟨h.o,h.p,h.i,h.l,h.k,h.c,h.e,g,f,e,λh=>mK h,h.s,h.d⟩
theorem aos{n c d:Nat}(h:gw n c x)(e:Bool)(l:aF)(i:ab.gi l=T)(f:n+1+ab.aR l<=m)(g:c+2+T<=d):gw m d (kg x e l):=by
 have j:=FN (show n+1<=m by omega) g;have hN:=FO f;have hr:=h.r;have o:=h.m;have k:∀b∈dL l,b.cond.nn<=d:=λb a=>by have:=KC l b a;omega
 rcases l with _|⟨p,l⟩;.exact h.mono ae ae
 refine h.rest (q:=bif x.done then kq e 1 (p::l)else kq e 1 (x.rest::p::l)) ae ae ?_ ?_ ?_;.grind[ajQ,ab.gi]
 .grind[ajR,ab.aR]
 . cases x.done
   . rw[bg];refine ZV e 1 _ d ae λb a=>?_;rw[dL,CF]at a;rcases a with a|a;.have:=h.b b a;omega
     grind
   grind[ZV]
theorem ayr{g i d:Nat}(h:gw g i x){f:aF}{k:Nat}{a:ab}(j:f[k]?=J a)(p:i=a.cn)(t:g=a.nn)(l:ab.aR f+1<=m)(o:2+ab.gi f<=d):gw m d (FI x f k):=by
 have u:=aoj j;have P:=aBQ j;have r:=FN (n:=g) (c:=i) (N:=m) (C:=d) (T:=ab.gi (f.take k)+ab.gi (f.drop (k+1))) ae ae;have hN:=FO (n:=g) (N:=m) (T:=ab.aR (f.take k)+ab.aR (f.drop (k+1))) ae;have hr:=h.r;have s:=h.m;have L:∀e∈dL (f.take k),e.cond.nn<=d:=λe b=>by have:=KC _ e b;omega
 have R:∀e∈dL (f.drop (k+1)),e.cond.nn<=d:=λe b=>by have:=KC _ e b;omega
 refine h.rest (q:=kq C 3 (FH x f k)) ae ae ?_ ?_ ?_;.grind[ajQ,FH,Tv,ab.gi]
 .grind[ajR,FH,WA,ab.aR]
 . refine ZV C 3 _ d ae λe b=>?_;unfold FH at b;rw[WE,WE]at b;rcases List.mem_append.1 b with b|b;.grind
   . rcases List.mem_append.1 b with b|b
     . cases hd:x.done;.rw[hd,bg]at b;simp only[dL,fy]at b;have:=h.b e b;omega
       grind[dL]
     grind
theorem aLr{n c d:Nat}(h:gw n c x)(g l r t v s p o)(f:n+1<=m)(i:1+o.nn+c<=d):gw m d (Bk x (.mk g l r t v s p o) o):=by
 have k:=Expr.DC o;have j:=FN (T:=o.nn-1) f (show c+2+(o.nn-1)<=d by omega);have hN:=FO (T:=0) f;have hr:=h.r;have q:=h.m;have z:=abn;have F:=abo;have a:=h.mono (show n<=m by omega) (show c<=d by omega);unfold Bk;cases x.done;.refine h.rest ae ae ?_ ?_ (ah5 _ _ _ _ _ _ _ _ _ _ _ ae a.b)<;>grind[ah6,ah8]
 . refine⟨a.o,a.p,a.i,a.l,?_,a.c,?_,aj,aj,abm _ ae,λ_=>rfl,a.s,a.d⟩;.have:=h.k;grind[Aa]
   . intro e b;simp only[Aa,aL,CF,Bx]at b;rcases b with b|rfl;.exact a.e e b
     omega
theorem aG1{n c d:Nat}(h:gw n c x)(y s p:Int)(Y w a A v r t o)(l:n+1<=m)(K:1+o.nn+c<=d):gw m d (ud x y s p (.mk Y w a A v r t o)):=by
 have M:=Expr.DC o;have L:=FN (T:=o.nn-1) l (show c+2+(o.nn-1)<=d by omega);have hN:=FO (T:=0) l;have hr:=h.r;have N:=h.m;have O:=abn;have F:=abo;have b:=h.mono (show n<=m by omega) (show c<=d by omega);have B:=h.o;have D:=h.p;have E:=h.i;have G:=h.l;have I:=h.k;have k:∀(g i j:Bool)(e:Bool)(q:ab),q.cn<=m*d->q.nn<=m*m->(∀z∈nodes q,z.cond.nn<=d)->(e=V->q=zP)->gw m d ⟨mZ x.bw g i j s p,e,q⟩:=by intro g i j e q u f P H;refine⟨?_,?_,?_,?_,?_,b.c,b.e,u,f,P,H,b.s,b.d⟩<;>grind[mZ]
 unfold ud;cases x.done;.refine k _ _ _ _ _ ?_ ?_ (ah5 _ _ _ _ _ _ _ _ _ _ _ ae b.b) (λh=>mK h)<;>grind[ah6,ah8]
 .exact k _ _ _ _ _ (by show zP.cn<=_;omega) (by show zP.nn<=_;omega) (abm _ ae) (λ_=>rfl)
theorem ajm{n c d:Nat}(h:gw n c x)(b:ab)(g:n+1<=m)(i:c+2<=d)(a:(b.cn<=c/\b.nn<=n)\/(c+2+b.cn<=d/\n+1+b.nn<=m)):∀y∈rZ b x,gw m d y:=by
 have hr:=h.r;have l:=h.m;have f:=Sr;have k:n*c+b.cn+2<=m*d:=by
   rcases a with a|a;.have:=FN (T:=0) g i;omega
   .have:=FN g a.1;omega
 have hN:n*n+b.nn+1<=m*m:=by
   rcases a with a|a;.have:=FO (T:=0) g;omega
   .have:=FO a.2;omega
 have C:∀z∈nodes b,z.cond.nn<=d:=λz f=>by have:=OE b z f;omega
 have L:∀z∈nodes x.rest,z.cond.nn<=d:=λz f=>by have:=h.b z f;omega
 unfold rZ;cases x.done;.intro y e;rw[bg,Bx]at e;rw[e];refine h.rest ae ae (by grind[ab.cn,ab.gi]) (by grind[ab.nn,ab.aR]) (RT _ _ _ ae λq j=>?_);grind[dL]
 . intro y e;rw[aL,List.mem_cons,Bx]at e;rcases e with rfl|rfl;.exact h.mono ae ae
   .refine h.rest ae ae (by grind[ab.cn,ab.gi]) (by grind[ab.nn,ab.aR]) (RT _ _ _ ae λq j=>?_);grind[dL]
theorem aFR{n c d:Nat}(h:gw n c x)(p a:ab)(f:n+1<=m)(i:c+2<=d)(l:a.cn<=c)(B:a.nn<=n)(o:p.cn<=d)(j:p.nn<=m):∀y∈tY p a x,gw m d y:=by
 have hr:=h.r;have k:=h.m;have g:=Sr;have r:=FN (T:=0) f i;have hN:=FO (T:=0) f;have s:d<=m*d:=by have:=ph (show 1<=m by omega) (bo d);omega
 have L:m<=m*m:=by have:=ph (show 1<=m by omega) (bo m);omega
 unfold tY;cases x.done
 . intro y e;rw[bg,Bx]at e;rw[e];refine h.rest ae ae (by grind[ab.cn,ab.gi]) (by grind[ab.nn,ab.aR]) (RT _ _ _ ae λq b=>?_);simp only[dL,fy,CF]at b;rcases b with b|b;.have:=h.b q b;omega
   .have:=OE a q b;omega
 . intro y e;rw[aL,List.mem_cons,Bx]at e;rcases e with rfl|rfl;.exact h.mono ae ae
   .exact h.rest ae ae ae ae (λz g=>by have:=OE p z g;omega)
theorem WV{o n a l t v s p c}(h:gw a.nn a.cn x)(i:ai o 8=V->l≠[]):∀y∈kD (.mk o n (a::l) t v s p c) x,gw (ab.nn (.mk o n (a::l) t v s p c)) (ab.cn (.mk o n (a::l) t v s p c)) y:=by
 have j:=Expr.DC c;have e1:ab.nn (.mk o n (a::l) t v s p c)=a.nn+ab.aR l+1:=by simp[ab.nn,ab.aR]
 have e2:ab.cn (.mk o n (a::l) t v s p c)=1+c.nn+(a.cn+ab.gi l):=by simp[ab.cn,ab.gi]
 rw[e1,e2];intro y d;rw[kD]at d;cases f:ai o 1 with|true=>rw[f,aL,Bx]at d;rw[d];exact aos h C _ rfl aj aj|false=>rw[f,bg]at d;cases g:ai o 4 with|true=>rw[g,aL]at d;exact ajm h _ ae ae (.inl ⟨bo _,bo _⟩) y d|false=>rw[g,bg]at d;cases e:ai o 8 with
 |true=>
 rw[e,aL]at d;refine ajm h _ ae ae (.inr ?_) y d;rcases l with _|⟨b,l⟩;.grind
 refine⟨?_,?_⟩;.show _+b.cn<=_;grind[ab.gi]
 .show _+b.nn<=_;grind[ab.aR]|false=>grind[aLr,aG1]
theorem aCW{o n a l t v s p c}(h:gw a.nn a.cn x)(e:ai o 8=V->l≠[]):∀y∈yR (.mk o n (a::l) t v s p c) x,gw (ab.nn (.mk o n (a::l) t v s p c)) (ab.cn (.mk o n (a::l) t v s p c)) y:=by intro y b;rw[yR]at b;cases d:ai o 4 with|true=>have f:=Expr.DC c;rw[d,aL]at b;exact aFR h _ _ (by simp[ab.nn,ab.aR]) (by grind[ab.cn,ab.gi]) (bo _) (bo _) (bo _) (bo _) y b|false=>grind[WV]
theorem JP:∀a out:List Pr,∃s,s.Sublist a/\mi out a=out++s
 |[],out=>⟨[],List.Sublist.refl _,(fy _).symm⟩|x::a,out=>by
  obtain⟨s,h,b⟩:=JP a (sw x out);rw[show mi out (x::a)=mi (sw x out) a from rfl,b];unfold sw;cases out.any λy=>Bb y x;.exact⟨x::s,h.cons_cons x,aO⟩
  .exact⟨s,h.cons x,rfl⟩
theorem aLz(o a b:List Pr):mi o (a++b)=mi (mi o a) b:=List.foldl_append
def kh(l:List Pr):Nat:=(l.filter Pr.done).length
theorem TE(a b:List Pr):kh (a++b)=kh a+kh b:=by simp[kh]
theorem adx{a b:List Pr}(h:a.Sublist b):kh a<=kh b:=(h.filter _).length_le
theorem WT(p:ab)(x:Pr):(kD p x).length<=1+(bif x.done then 1 else 0)/\kh (kD p x)<=(bif x.done then 1 else 0):=by
 obtain⟨op,nl,args,ty,var,scope,s,cond⟩:=p;rw[kD];have k:∀y:Pr,(y.done=V->x.done=V)->[y].length<=1+(bif x.done then 1 else 0)/\kh [y]<=(bif x.done then 1 else 0):=by grind[kh]
 have rep:∀b,(rZ b x).length<=1+(bif x.done then 1 else 0)/\kh (rZ b x)<=(bif x.done then 1 else 0):=by grind[rZ,kh]
 cases ai op 1;.grind[ud,Bk]
 .exact k _ (by unfold kg;grind)
theorem aCU(p:ab)(x:Pr):(yR p x).length<=1+(bif x.done then 1 else 0)/\kh (yR p x)<=(bif x.done then 1 else 0):=by obtain⟨op,nl,args,ty,var,scope,s,cond⟩:=p;grind[yR,WT,tY,kh]
theorem Pp{f:Pr->List Pr}(h:∀x,(f x).length<=1+(bif x.done then 1 else 0)/\kh (f x)<=(bif x.done then 1 else 0)):∀l:List Pr,(l.flatMap f).length<=l.length+kh l/\kh (l.flatMap f)<=kh l
 |[]=>⟨bo _,bo _⟩|x::l=>by
  obtain⟨a,b⟩:=Pp h l;obtain⟨c,d⟩:=h x;have e:kh (x::l)=(bif x.done then 1 else 0)+kh l:=by unfold kh;cases hd:x.done<;>simp[hd];omega
  rw[vu,db,TE,e,bU];omega
theorem ag7(a:Bool)(f:aF)(k:Nat)(l:List Pr):kh (l.map (lu a f k))<=kh l:=by unfold kh;induction l with|nil=>grind|cons x l i=>
 rw[de,zN,zN];have:(lu a f k x).done=V->x.done=V:=by
  cases a;.exact id
  .exactλh=>mK h
 grind
theorem NA{a b:Nat}:a*a+b*b<=(a+b)*(a+b):=aj
mutual
theorem Q7 : ∀ p : ab, (dF p).length <= p.nn * p.nn /\ kh (dF p) <= p.nn
  | .mk o n args t v s a c => by
    rw [dF, ab.nn]
    have I : ab.aR args * ab.aR args + 2 * ab.aR args + 1 = (ab.aR args + 1) * (ab.aR args + 1) := by
      rw [xT, Nat.mul_add]; omega
    cases ai o 0
    · rw [bg]
      cases ai o 2 || ai o 3
      · rw [bg]
        obtain ⟨h, b⟩ := aEw args
        obtain ⟨d, e⟩ := Pp (aCU (.mk o n args t v s a c)) (xz args)
        omega
      · rw [aL]
        obtain ⟨h, b⟩ := aiS (ai o 3) args args 0
        omega
    · rw [aL]
      show 1 <= _ /\ 1 <= _
      omega
theorem aEw : ∀ l : aF, (xz l).length <= ab.aR l * ab.aR l /\ kh (xz l) <= ab.aR l
  | [] => ⟨bo _, bo _⟩
  | a :: l => by
    obtain ⟨h, c⟩ := Q7 a
    have := NA (a := a.nn) (b := ab.aR l)
    rw [xz, ab.aR]
    omega
theorem aiS (c : Bool) (f : aF) : ∀ (l : aF) (k : Nat), (me c f l k).length <= ab.aR l * ab.aR l /\ kh (me c f l k) <= ab.aR l
  | [], _ => ⟨bo _, bo _⟩
  | a :: l, k => by
    obtain ⟨h, d⟩ := Q7 a
    obtain ⟨e, g⟩ := aiS c f l (k + 1)
    have := NA (a := a.nn) (b := ab.aR l)
    have := ag7 c f k (dF a)
    rw [me, ab.aR, db, TE, dU]
    omega
end
mutual
theorem Je : ∀ p : ab, (eM p).length <= p.nn * p.nn /\ kh (eM p) <= p.nn
  | .mk b n args t v c a o => by
    rw [eM, ab.nn]
    have I : ab.aR args * ab.aR args + 2 * ab.aR args + 1 = (ab.aR args + 1) * (ab.aR args + 1) := by
      rw [xT, Nat.mul_add]; omega
    cases ai b 0
    · rw [bg]
      cases ai b 2 || ai b 3
      · rw [bg]
        obtain ⟨h, d⟩ := aEy args
        obtain ⟨g, i⟩ := Pp (WT (.mk b n args t v c a o)) (wa args)
        obtain ⟨s, e, f⟩ := JP ((wa args).flatMap (kD (.mk b n args t v c a o))) []
        rw [f, dk]
        have := e.length_le
        have := adx e
        omega
      · rw [aL]
        obtain ⟨h, d⟩ := aiN (ai b 3) args args 0 []
        rw [show ([] : List Pr).length = 0 from rfl] at h
        rw [show kh [] = 0 from rfl] at d
        omega
    · rw [aL]
      show 1 <= _ /\ 1 <= _
      omega
theorem aEy : ∀ l : aF, (wa l).length <= ab.aR l * ab.aR l /\ kh (wa l) <= ab.aR l
  | [] => ⟨bo _, bo _⟩
  | a :: l => by
    obtain ⟨h, c⟩ := Je a
    have := NA (a := a.nn) (b := ab.aR l)
    rw [wa, ab.aR]
    omega
theorem aiN (c : Bool) (f : aF) : ∀ (l : aF) (k : Nat) (o : List Pr), (ou c f l k o).length <= o.length + ab.aR l * ab.aR l /\ kh (ou c f l k o) <= kh o + ab.aR l
  | [], _, _ => ⟨SB _ _, SB _ _⟩
  | a :: l, k, o => by
    obtain ⟨j, m⟩ := Je a
    obtain ⟨h, d⟩ := aiN c f l (k + 1) (mi o ((eM a).map (lu c f k)))
    obtain ⟨s, e, g⟩ := JP ((eM a).map (lu c f k)) o
    have i := e.length_le
    have n := adx e
    have := NA (a := a.nn) (b := ab.aR l)
    have := ag7 c f k (eM a)
    rw [g] at h d
    rw [ou, ab.aR, g]
    rw [db] at h
    rw [dU] at i
    rw [TE] at d
    omega
end
def tu(p:ab):Prop:=∀q∈nodes p,qC q.op q.args.length=V
theorem tu.yM{o n r t v s p c a}(h:tu (.mk o n r t v s p c))(b:a∈r):tu a:=λq d=>h q (by grind[nodes,ab.MF])
theorem tu.ar{o n a t v s p c}(h:tu (.mk o n a t v s p c)):qC o a.length=V:=h (.mk o n a t v s p c) (by simp[nodes])
theorem kz{a b:Int}(h:ai a b=V):a=b:=by grind[kO]
theorem ar8{o:Int}{n:Nat}(h:ai o 8=V)(a:qC o n=V):n=2:=by have:=kz h;subst this;have a:ai (.ofNat n) 2=V:=a;grind[kz]
theorem Oh{o:Int}{a:ab}{l:aF}(h:qC o (a::l).length=V):ai o 8=V->l≠[]:=by grind[ar8]
theorem V5{l:Bool}{d:Nat}{f:aF}{k:Nat}{a:ab}(h:gw a.nn a.cn x)(b:f[k]?=J a)(c:ab.aR f+1<=m)(e:2+ab.gi f<=d):gw m d (lu l f k x):=by
 cases l;.have:=ab.HB f a (cI b);have:=ab.lM f a (cI b);exact h.mono ae ae
 .exact ayr h b rfl rfl c e
theorem aiT(b:Bool)(f:aF)(m d:Nat)(g:ab.aR f+1<=m)(c:2+ab.gi f<=d):∀(l:aF)(k:Nat),f.drop k=l->(∀a∈l,∀y∈dF a,gw a.nn a.cn y)->∀y∈me b f l k,gw m d y
 |[],_,_,_,y,h=>by rw[me]at h;exact absurd h gT|a::l,k,hd,hr,y,h=>by
  have e:f[k]?=J a:=by rw[<-Bt,hd];rfl
  rw[me,CF]at h;rcases h with h|h;.obtain⟨x,j,rfl⟩:=List.mem_map.1 h;have:=ab.lM f a (cI e);exact V5 (hr a eQ x j) e ae c
  .exact aiT b f m d g c l (k+1) (by rw[<-zT,hd];rfl) (λa i=>hr a (iL _ i)) y h
theorem Jd:∀p:ab,tu p->∀y∈dF p,gw p.nn p.cn y|.mk o k args t v s n c,f,y,h=>by have j:=Expr.DC c;have i:∀a∈args,∀y∈dF a,gw a.nn a.cn y:=λa e=>Jd a (f.yM e);rw[dF]at h;cases b:ai o 0 with|true=>rw[b,aL,Bx]at h;rw[h];exact aey _ _ _ _ _ (by simp only[ab.nn];omega) (by simp only[ab.cn];omega) (by simp only[ab.cn];omega)|false=>rw[b,bg]at h;cases d:ai o 2||ai o 3 with|true=>rw[d,aL]at h;exact aiT _ args _ _ (by simp only[ab.nn];omega) (by simp only[ab.cn];omega) args 0 rfl i y h|false=>rw[d,bg]at h;cases args with|nil=>rw[xz]at h;exact absurd h gT|cons a l=>rw[xz]at h;obtain⟨x,g,h⟩:=List.mem_flatMap.1 h;exact aCW (i a eQ x g) (Oh f.ar) y h termination_by p=>kb p decreasing_by simp_wf;have:=jY e;omega
theorem R5{Q:Pr->Prop}{o xs:List Pr}(h:∀y∈o,Q y)(a:∀y∈xs,Q y):∀y∈mi o xs,Q y:=by obtain⟨s,b,c⟩:=JP xs o;grind
theorem aiP(b:Bool)(f:aF)(m d:Nat)(i:ab.aR f+1<=m)(e:2+ab.gi f<=d):∀(l:aF)(k:Nat)(o:List Pr),f.drop k=l->(∀a∈l,∀y∈eM a,gw a.nn a.cn y)->(∀y∈o,gw m d y)->∀y∈ou b f l k o,gw m d y
 |[],_,_,_,_,c,y,h=>by rw[ou]at h;exact c y h|a::l,k,o,hd,hr,c,y,h=>by
  have g:f[k]?=J a:=by rw[<-Bt,hd];rfl
  rw[ou]at h;refine aiP b f m d i e l (k+1) _ (by rw[<-zT,hd];rfl) (λa j=>hr a (iL _ j)) (R5 c λy p=>?_) y h;obtain⟨x,n,rfl⟩:=List.mem_map.1 p;have:=ab.lM f a (cI g);exact V5 (hr a eQ x n) g ae e
theorem Gd:∀p:ab,tu p->∀y∈eM p,gw p.nn p.cn y|.mk d q args t v s n c,i,y,b=>by have m:=Expr.DC c;have j:∀a∈args,∀y∈eM a,gw a.nn a.cn y:=λa g=>Gd a (i.yM g);rw[eM]at b;cases e:ai d 0 with|true=>rw[e,aL,Bx]at b;rw[b];exact aey _ _ _ _ _ (by simp only[ab.nn];omega) (by simp only[ab.cn];omega) (by simp only[ab.cn];omega)|false=>rw[e,bg]at b;cases f:ai d 2||ai d 3 with|true=>rw[f,aL]at b;exact aiP _ args _ _ (by simp only[ab.nn];omega) (by simp only[ab.cn];omega) args 0 [] rfl j (λy h=>absurd h gT) y b|false=>rw[f,bg]at b;refine R5 (Q:=gw _ _) (o:=[]) (λy h=>absurd h gT) (λy b=>?_) y b;cases args with|nil=>rw[wa]at b;exact absurd b gT|cons a l=>rw[wa]at b;obtain⟨x,k,b⟩:=List.mem_flatMap.1 b;exact WV (j a eQ x k) (Oh i.ar) y b termination_by p=>kb p decreasing_by simp_wf;have:=jY g;omega
theorem gw.ok{n w:Nat}(h:gw n w x)(b:n<=99)(c:w<=99999):tf x:=⟨⟨by have:=h.c;omega,by have:=h.k;omega,λe a=>by have:=h.e e a;omega,by have:=h.o;omega,by have:=h.p;omega,by have:=h.i;omega,by have:=h.l;omega⟩,by have:=h.r;have:=ph b c;omega⟩
theorem NT(r:Pr)(l:List Pr):sw r l≠[]:=by
 unfold sw;cases h:l.any (λx=>Bb x r);.simp
 grind
theorem WU(p:ab)(x:Pr):kD p x≠[]:=by obtain⟨op,nl,args,ty,var,scope,s,cond⟩:=p;grind[kD,rZ]
theorem abb:∀(s o:List Pr),o≠[]->mi o s≠[]|[],_,h=>h|x::s,o,_=>abb s (sw x o) (NT x o)
theorem akE{s:List Pr}(o:List Pr)(h:s≠[]):mi o s≠[]:=by
 rcases s with _|⟨x,s⟩;.grind
 exact abb s _ (NT x o)
theorem aiO(b:Bool)(f:aF):∀(l:aF)(k:Nat)(o:List Pr),o≠[]->ou b f l k o≠[]|[],_,_,h=>by rw[ou];exact h|a::l,k,o,h=>by rw[ou];exact aiO b f l (k+1) _ (abb _ _ h)
theorem Kr{o:Int}(a:ai o 0=C)(h:qC o 0=V):False:=by unfold qC at h;rw[a,bg]at h;cases b:ai o 1<;>cases c:ai o 2<;>cases d:ai o 3<;>cases e:ai o 8<;>rw[b,c,d]at h<;>try rw[e]at h<;>exact absurd h gD
theorem Xc:∀p:ab,tu p->eM p≠[]|.mk o g args t v s n c,d=>by have i:∀a∈args,eM a≠[]:=λa b=>Xc a (d.yM b);have f:=d.ar;rw[eM];cases e:ai o 0 with|true=>rw[aL];simp|false=>rw[bg];cases args with|nil=>exact absurd f (λh=>Kr e h)|cons a l=>have x:=i a eQ;cases ai o 2||ai o 3 with|true=>rw[aL,ou];exact aiO _ _ _ _ _ (akE _ (by simpa using x))|false=>rw[bg,wa];refine akE _ ?_;cases q:eM a with|nil=>exact absurd q x|cons y m=>rw[vu];exactλh=>WU _ y (List.append_eq_nil_iff.1 h).1 termination_by p=>kb p decreasing_by simp_wf;have:=jY b;omega
theorem gw.pat{n w:Nat}(h:gw n w x)(a:n<=99)(c:w<=99999):fY x.rest:=⟨by have:=h.m;have:=ph a a;omega,λq b=>by have:=h.b q b;omega⟩
section
variable{X Y σ:Type}{tr:X->List Y}{step:Y->σ->ah bz×σ}
def tV(r:X->List Y)(t:Y->σ->ah bz×σ)(x:X)(s:ah bz×σ):ah bz×(ah bz×σ):=((bB t (r x) s.2).1.map λ_=>.ret,bB t (r x) s.2)
theorem C3:∀(a:List X)(s:σ),bB (tV tr step) a (Z,s)=((bB step (a.flatMap tr) s).1.map λ_=>Code.ret,bB step (a.flatMap tr) s)|[],_=>rfl|x::a,s=>by rw[rN,vu,lT];simp only[tV];rcases h:bB step (tr x) s with⟨c,b⟩;cases c with|none=>exact C3 a b|some c=>rfl
theorem N8{d:List X}{s:σ}{x:X}{a:ah bz×σ}(h:qB (tV tr step) d (Z,s) x a):a.1=Z/\∀pre y post b,tr x=pre++y::post->bB step pre a.2=(Z,b)->qB step (d.flatMap tr) s y b:=by obtain⟨pre,post,rfl,e⟩:=h;rw[C3]at e;rcases f:bB _ _ s with⟨c,k⟩;rw[f]at e;cases c with|some c=>grind|none=>have e2:=(fH (λz=>z.2) e).symm;subst e2;refine⟨rfl,λp y g b i j=>⟨pre.flatMap tr++p,g++post.flatMap tr,?_,?_⟩⟩<;>grind[lT]
theorem Hi.lo{k:Nat}{b c:GH}(h:Hi k a b)(l:Lo m b c)(f:a.next<=m):Hi k a c:=⟨gv h.1 l.1,λi d e=>(l.2 i ae).trans (h.2 i d e)⟩
end
set_option maxHeartbeats 4000000
def Pr.rd(x:Pr):DV:=.agg (.bool x.done::x.rest.cells)
abbrev qJ:Pr->aA:=λx=>[x.bw.d,x.rd]
def Hh(p:ab):Prop:=∀g,∃h a c g',ev PP cf (.call 249 [.agg p.cells] .no g)=J (.val (.dv (.func h [] a) .no) g')/\Lo g.next g g'/\c g'/\(∀g1 g2,c g1->g1.next<=g2.next->(∀i,g.next<=i->i<g'.next->g2.get i=g1.get i)->c g2)/\vq qJ h [] a c (dF p)/\∀m,cf.ko h ([]++[.dK m]++a)=Z
theorem wW{X a:Type}{t:X->a->ah bz×a}(x:X)(s:a):bB t [x] s=t x s:=by rw[rN];rcases t x s with⟨c,b⟩;cases c<;>rfl
theorem ayj(b:Nat)(f l a t v o p c):vq qJ 321 [] [.ptr b 0] (acr . b (.mk f l a t v o p c)) [HN t v c]:=by intro n k i r step s U M g hr e;have h:g.get b=J _:=M _ _ _ hr;obtain⟨g2,e2,r2,d⟩:=U.run _ s g ⟨[],[],rfl,rfl⟩ hr e;rw[wW];refine⟨g2,?_,r2,d⟩;simp only[qJ,HN,Pr.rd,Edge.d,Edge.cells,ab.cells,Expr.cells,zP,ab.aN,Expr.aN,bP,pr,go_sem]at e2 h;refine aK func321 ?_;simp only[f321,go_sem,h,e2]
theorem atz{n:Nat}:(DV.dK n).flat=[.dK n]:=rfl
attribute[go_sem]atz
def ld(g:GH)(b:Nat)(p:ab):Prop:=g.get b=J (.box ⟨p.cells,[]⟩)/\b<g.next
theorem ld.lo{k b:Nat}{p:ab}(h:ld g b p)(l:Lo k g g')(a:b<k):ld g' b p:=⟨(l.2 b a).trans h.1,fj h.2 l.1⟩
structure zK{σ:Type}(k:Nat)(g0:GH)(iy ny:Nat)(cap:GH->Prop)(rel:ah bz->σ->GH->Prop)(cd:ah bz)(s:ah bz×σ)(g:GH):Prop where
 r:rel s.1 s.2 g
 c:cap g
 h:Hi k g0 g
 y:g.get iy=J (.box ⟨[.dK ny],[]⟩)e:cd=s.1.map λ_=>Code.ret
 n:iy<g.next
theorem zK.lo{a:Type}{k:Nat}{b:GH}{y n:Nat}{c:GH->Prop}{r:ah bz->a->GH->Prop}{d:ah bz}{s:ah bz×a}{e:Pr->aA}{p:Pr->a->Prop}{t:Pr->a->ah bz×a}(U:zX e p n k r t)(h:zK k b y n c r d s g)(l:Lo m g g')(j:k<=m)(i:b.next<=m)(o:y<m)(f:∀g1 g2,c g1->Lo m g1 g2->c g2):zK k b y n c r d s g':=⟨U.stay _ _ _ _ h.r (l.mono j),f _ _ h.c l,h.h.lo l i,(l.2 y o).trans h.y,h.e,fj h.n l.1⟩
structure nq(L:Nat)(a b:GH):Prop where
 n:a.next<=b.next
 g:∀i,i≠L->i<a.next->b.get i=a.get i
theorem nq.refl:nq L a a:=⟨bo _,λ_ _ _=>rfl⟩
theorem nq.set{b:GH}{o:GO}(h:nq L a b):nq L a (b.set L o):=⟨h.n,λi c d=>by rw[oP,if_neg c];exact h.g i c d⟩
theorem nq.sg{j:Nat}{b:GH}{o:GO}(h:nq L a b)(e:a.next<=j):nq L a (b.set j o):=⟨h.n,λi c d=>by rw[oP,if_neg ae];exact h.g i c d⟩
theorem nq.alloc{b:GH}{o:GO}(h:nq L a b):nq L a (b.alloc o):=⟨gv h.n (by simp[cL]),λi c d=>by have:=h.n;rw[pB,if_neg ae];exact h.g i c d⟩
theorem lG{b:GH}(h:nq L a b:=by repeat(first|exact nq.refl|refine nq.alloc ?_|refine nq.set ?_|refine nq.sg ?_ (by first|exact bo _|omega|(simp only[cL,dW];omega)))):nq L a b:=h
theorem nq.lo{k:Nat}{b:GH}(h:nq L a b)(d:k<=L)(c:L<a.next):Lo k a b:=⟨h.n,λi hi=>h.g i ae ae⟩
section
variable{σ:Type}{k n L:Nat}{ok:Pr->σ->Prop}{rel:ah bz->σ->GH->Prop}{step:Pr->σ->ah bz×σ}{cap:GH->Prop}{g0 g1 gA g2:GH}{iy:Nat}{s:σ}
theorem Sq(U:zX qJ ok n k rel step)(y:Pr)(s:σ)(c:ok y s)(f:rel Z s g1)(d:k<=L)(b:L<g1.next)(a:nq L g1 gA){Q:SV->GH->Prop}(h:∀g2,rel (step y s).1 (step y s).2 g2->Hi k gA g2->Sat (F (.val (.dv (.bool (step y s).1.isNone) .no) g2)) Q):Sat ((ev PP cf (.dK n (qJ y) gA)).bind F) Q:=by obtain⟨g2,e,r,g⟩:=U.run y s gA c (U.stay _ _ _ _ f (a.lo d b)) (by have:=a.n;omega);grind
theorem zy(U:zX qJ ok n k rel step)(y:Pr)(s:σ){a:aA}(e:qJ y=a)(c:ok y s)(r:rel Z s g1)(f:k<=L)(d:L<g1.next)(b:nq L g1 gA){Q:SV->GH->Prop}(h:∀g2,rel (step y s).1 (step y s).2 g2->Hi k gA g2->Sat (F (.val (.dv (.bool (step y s).1.isNone) .no) g2)) Q):Sat ((ev PP cf (.dK n a gA)).bind F) Q:=by subst e;exact Sq U y s c r f d b h
theorem zK.next(U:zX qJ ok n k rel step)(R:zK k g0 iy n cap rel Z (Z,s) g1)(d:nq L g1 gA)(b:Hi k gA g2)(l:k<=iy)(y:iy<L)(p:g0.next<=L)(m:L<g1.next)(g:∀g1 g2,cap g1->g1.next<=g2.next->(∀i,iy<i->i<L->g2.get i=g1.get i)->cap g2){c:ah bz}{f:σ}{o:GO}(r:rel c f g2):zK k g0 iy n cap rel (c.map λ_=>Code.ret) (c,f) (g2.set L o)/\Hi (L+1) g1 (g2.set L o):=by
 have q:=d.n;have F:=b.1;have e:∀i,k<=i->i≠L->i<g1.next->(g2.set L o).get i=g1.get i:=λi a h j=>by rw[oP,if_neg h,b.2 i a ae,d.g i h j]
 refine⟨⟨U.stay _ _ _ _ r (Lo.set ae),g _ _ R.c (by grind[dW]) aj,⟨by grind[dW],λi a h=>?_⟩,?_,rfl,by grind[dW]⟩,⟨by grind[dW],λi a h=>e i ae ae h⟩⟩;.rw[e i a ae ae];exact R.h.2 i a h
 .rw[e iy l ae ae];exact R.y
end
theorem ag6(a q c:ab)(l:aF)(O B:Nat)(hT:Hh a)(hq:q.args=c::l):vq qJ 385 [] [.ptr O 0,.ptr B 0] (λg=>ld g O a/\ld g B q) ((dF a).flatMap (tY q c)):=by
 intro n k σ E step s U gM g hr Q;obtain⟨⟨lV,mU⟩,⟨iR,pF⟩⟩:=gM _ _ _ hr;obtain⟨h,ca,cap,g1,e1,l1,c1,H,it,hp⟩:=hT (g.alloc (.box ⟨[.dK n],[]⟩));suffices hS:Sat (ev PP cf (.call 385 ([]++[.dK n]++[.ptr O 0,.ptr B 0]) .no g)) λv g'=>v=.tp []/\E (bB step ((dF a).flatMap (tY q c)) s).1 (bB step ((dF a).flatMap (tY q c)) s).2 g'/\Hi k g g' by obtain⟨v,g',e,rfl,r,h⟩:=hS;simp_all
 refine kp func385 ?_;have kB:(O=g.next)=False:=bW ae;have LJ:(B=g.next)=False:=bW ae;have xa:Lo g.next g g1:=(Lo.alloc (bo _)).trans (l1.mono (by simp[cL]));have cX:g.next<g1.next:=by have:=l1.1;grind[cL]
 have hy:g1.get g.next=J (.box ⟨[.dK n],[]⟩):=(l1.2 _ (by simp[cL])).trans (by simp[pB]);rw[cL]at H;simp only[f385];simp only[go_sem,lV,kB,e1];refine yX it (tV (tY q c) step) (zK k g g.next n cap E) (Z,s) hp rfl ⟨U.stay _ _ _ _ hr (xa.mono Q),c1,⟨ae,λi h1 P=>xa.2 i P⟩,hy,rfl,cX⟩ (λc s g' h=>h.c) (λc s g2 g3 h hl=>h.lo U hl ae ae cX (λg4 g5 m u=>H g4 g5 m u.1 λi _ hi=>u.2 i hi)) (λx s g2 hx R hN M=>?_) (λg2 R hN=>?_);.obtain⟨km,S⟩:=N8 hx;obtain⟨s0,s⟩:=s;simp only at km S;subst km;refine ze M rfl ?_;have T:=R.y;obtain⟨Ah,BL⟩:=gM _ _ _ R.r;have X:(g1.next=g2.next)=False:=bW ae;have Y:(g1.next=g2.next+1)=False:=bW ae;have z3:(g2.next=g1.next)=False:=bW ae;have z4:(g2.next+1=g1.next)=False:=bW ae;have z5:(g.next=g2.next)=False:=bW ae;have z6:(g.next=g2.next+1)=False:=bW ae;have z7:(g.next=g1.next)=False:=bW ae;have z8:(B=g2.next)=False:=bW ae;have z9:(B=g2.next+1)=False:=bW ae;have sZ:(B=g1.next)=False:=bW ae;have mj:(g2.next+1=g2.next)=False:=bW ae;have F:(g2.next=g2.next+1)=False:=bW ae;have d1:=aJc;simp only[bq,opsOf,f385,go_sem]at d1;obtain⟨y,w,args,A,j,p,f,d⟩:=q;obtain rfl:args=c::l:=hq;have G:=BL.1;simp only[ab.cells]at G;obtain⟨bw,done,rest⟩:=x;simp only[qJ,Pr.rd,Edge.d];cases done with
 |false=>
  simp only[go_sem,M,T,X,Y,z3,z4,z5,z6,z7,z8,z9,sZ,mj,F,G,d1];simp only[uo];have cY:=S [] ⟨bw,C,.mk 8 V [rest,c] 0 0 0 0 zE⟩ [] s rfl rfl;refine Sq U ⟨bw,C,.mk 8 V [rest,c] 0 0 0 0 zE⟩ s cY R.r (show k<=g1.next by omega) hN lG (λg3 N t=>?_);have D:=t.2 g1.next ae (by grind[cL,dW]);have W:=t.2 g.next ae (by grind[cL,dW]);simp only[go_sem,M,T,X,Y,z5,z6,z7]at D W;have fin:=λo=>R.next U lG t Q ae ae hN (λa b m u I=>H a b m u λi h7 K=>I i ae K) (o:=o) N;have ns:tV (tY (.mk y w (c::l) A j p f d) c) step ⟨bw,C,rest⟩ (Z,s)=((step ⟨bw,C,.mk 8 V [rest,c] 0 0 0 0 zE⟩ s).1.map λ_=>Code.ret,step ⟨bw,C,.mk 8 V [rest,c] 0 0 0 0 zE⟩ s):=by show((bB step [_] s).1.map _,bB step [_] s)=_;rw[wW]
  rw[ns];generalize step ⟨bw,C,.mk 8 V [rest,c] 0 0 0 0 zE⟩ s=z at*;obtain⟨c3,s3⟩:=z;cases c3 with|none=>simp only[pj,rD]at fin|-;simp only[go_sem,D];exact⟨trivial,(fin _).1,(fin _).2,rfl⟩|some c3=>simp only[pn,iE]at fin|-;simp only[go_sem,D];exact⟨trivial,(fin _).1,(fin _).2,rfl⟩
 |true=>
  have ns:tV (tY (.mk y w (c::l) A j p f d) c) step ⟨bw,V,rest⟩ (Z,s)=((match(step ⟨bw,V,rest⟩ s).1 with|none=>(step ⟨bw,C,.mk y w (c::l) A j p f d⟩ (step ⟨bw,V,rest⟩ s).2).1|some c=>J c).map λ_=>Code.ret,match(step ⟨bw,V,rest⟩ s).1 with|none=>step ⟨bw,C,.mk y w (c::l) A j p f d⟩ (step ⟨bw,V,rest⟩ s).2|some c=>(J c,(step ⟨bw,V,rest⟩ s).2)):=by show((bB step [_,_] s).1.map _,bB step [_,_] s)=_;grind[rN,wW]
  rw[ns];simp only[go_sem,M,T,X,Y,z3,z4,z5,z6,z7,mj,F];simp only[uo];have cY:=S [] ⟨bw,V,rest⟩ [⟨bw,C,.mk y w (c::l) A j p f d⟩] s rfl rfl;have L:=S [⟨bw,V,rest⟩] ⟨bw,C,.mk y w (c::l) A j p f d⟩ [] (step ⟨bw,V,rest⟩ s).2 rfl;rw[wW]at L;refine Sq U ⟨bw,V,rest⟩ s cY R.r (show k<=g1.next by omega) hN lG (λg3 N t=>?_);have PU:=t.1;simp only[cL,dW]at PU;have D:=t.2 g1.next ae (by grind[cL,dW]);have W:=t.2 g.next ae (by grind[cL,dW]);have q3:=t.2 g2.next ae (by simp only[cL,dW];omega);simp only[go_sem,M,T,X,Y,z3,z5,z6,z7,F]at D W q3;have fin:=λo=>R.next U lG t Q ae ae hN (λa b m u I=>H a b m u λi h7 K=>I i ae K) (o:=o) N;have uz:=λ(g4:GH)(m:Hi k g3 g4)c s o(r:E c s g4)=>R.next U lG (t.trans m) Q ae ae hN (λa b m u I=>H a b m u λi h7 K=>I i ae K) (o:=o) r;generalize step ⟨bw,V,rest⟩ s=z at*;obtain⟨c3,s3⟩:=z;cases c3 with|some c3=>simp only[pn,iE]at fin|-;simp only[go_sem,D];exact⟨trivial,(fin _).1,(fin _).2,rfl⟩|none=>simp only[pj]at fin L|-;have OD:=(gM _ _ _ N).2.1;simp only[ab.cells,ab.aN,lg]at OD;have L:=L trivial;simp only[go_sem,W,q3,OD];simp only[uo];refine Sq U ⟨bw,C,.mk y w (c::l) A j p f d⟩ s3 L N (show k<=g1.next by omega) ae nq.refl (λg4 r4 m=>?_);have q4:=(m.2 g1.next ae ae).trans D;have uz:=λo=>uz g4 m _ _ o r4;generalize step ⟨bw,C,.mk y w (c::l) A j p f d⟩ s3=z at*;obtain⟨c4,s4⟩:=z;cases c4 with|none=>simp only[pj,rD]at uz|-;simp only[go_sem,q4];exact⟨trivial,(uz _).1,(uz _).2,rfl⟩|some c4=>simp only[pn,iE]at uz|-;simp only[go_sem,q4];exact⟨trivial,(uz _).1,(uz _).2,rfl⟩
 .rw[C3]at R|-;obtain⟨r,_,P,_⟩:=R;revert r;cases(bB step ((dF a).flatMap (tY q c)) s).1 with|none=>intro r;simp only[rD,go_sem];exact⟨trivial,r,P⟩|some c=>intro r;simp only[iE,go_sem];exact⟨trivial,r,P⟩
section
variable{P:aM}{cf:cj}{rec:eK}{gs cr:an}{ops l:List aC}{os:Hd (List aC)}{e:Kx}{M:St}{k:eJ->ah bt}{i j:Nat}
def r2(P:aM)(c:cj)(r:eK)(g a:an)(s:Hd (List aC))(e:Kx):List Unit->List aC->(eJ->ah bt)->St->ah bt|[],o::l,k,M=>bif Kx.tC e (jI c M o.op)then rb P c r g a s (.mk (o::l) (.mk (o::l))) k M else Z|_::b,o::l,k,M=>(dN P c r g a l M o).bind (r2 P c r g a s e b l k)|_,[],_,_=>Z
def r1(P:aM)(c:cj)(r:eK)(g d:an)(s:Hd (List aC))(b:List Unit):List Unit->List aC->(eJ->ah bt)->St->ah bt|[],o::l,k,M=>(dN P c r g d l M o).bind (r2 P c r g d s (jI c M o.op) b l k)|_::a,o::l,k,M=>(dN P c r g d l M o).bind (r1 P c r g d s b a l k)|_,[],_,_=>Z
def Rf(P:aM)(c:cj)(r:eK)(g a:an)(o:Hd (List aC))(e:Kx)(b:List Unit)(l:Hd (List aC))(k:eJ->ah bt)(s:St):ah bt:=r2 P c r g a o e b l.get k s
def Nf(P:aM)(c:cj)(r:eK)(g d:an)(o:Hd (List aC))(b a:List Unit)(l:Hd (List aC))(k:eJ->ah bt)(s:St):ah bt:=r1 P c r g d o b a l.get k s
variable{d:ah Tmp}{op:Op}{ty:al}{pos:String}{af:Array Go.Edge}{a b:List Unit}
theorem aE6{t:Tg (⟨d,op,ty,pos,af,Z⟩::l)}:Nf P cf rec gs cr os b (()::a) (.mk (⟨d,op,ty,pos,af,Z⟩::l) t) k M=(dN P cf rec gs cr l M ⟨d,op,ty,pos,af,Z⟩).bind (Nf P cf rec gs cr os b a (.mk l (.mk l)) k):=(rfl)
theorem aE7{t:Tg (⟨d,op,ty,pos,af,Z⟩::l)}:Nf P cf rec gs cr os b [] (.mk (⟨d,op,ty,pos,af,Z⟩::l) t) k M=(dN P cf rec gs cr l M ⟨d,op,ty,pos,af,Z⟩).bind (Rf P cf rec gs cr os (jI cf M op) b (.mk l (.mk l)) k):=(rfl)
theorem aE8{t:Tg (⟨d,op,ty,pos,af,Z⟩::l)}:Rf P cf rec gs cr os e (()::b) (.mk (⟨d,op,ty,pos,af,Z⟩::l) t) k M=(dN P cf rec gs cr l M ⟨d,op,ty,pos,af,Z⟩).bind (Rf P cf rec gs cr os e b (.mk l (.mk l)) k):=(rfl)
theorem aE9{t:Tg (⟨d,op,ty,pos,af,Z⟩::l)}:Rf P cf rec gs cr os e [] (.mk (⟨d,op,ty,pos,af,Z⟩::l) t) k M=bif Kx.tC e (jI cf M op)then rb P cf rec gs cr os (.mk (⟨d,op,ty,pos,af,Z⟩::l) (.mk _)) k M else Z:=(rfl)
theorem axK{n x:Nat}(h:j<n):vR [(i,j)] x n=C:=by show((aw i x&&aw j n)||false)=C;grind[iW]
theorem at3{n:Nat}(h:i<n):E4 [(i,j)] n=C:=by show(aw i n||false)=C;grind[iW]
theorem ajC:∀(l:List aC)(n:Nat)(g:List (Nat×Kx))(M:St),j<n->i<n->uc P cf rec gs cr ops [(i,j)] l n g k M=rb P cf rec gs cr (.mk ops (.mk ops)) (.mk l (.mk l)) k M|[],_,_,_,_,_=>rfl|o::l,n,g,M,a,b=>by have h:=λg M=>ajC l (n+1) g M ae ae;unfold uc;show _=((zn ⟨ops⟩ M o).bind _).bind _;cases zn ⟨ops⟩ M o with|none=>rfl|some w=>simp only[cU];cases w with
 |true=>
 have:(g.all λe=>!(vR [(i,j)] e.1 n)||Kx.tC e.2 (jI cf M o.op))=V:=by rw[um];intro e _;rw[axK a];rfl
 rw[this];show(dN P cf rec gs cr l M o).bind _=(((dN P cf rec gs cr l M o).bind λs=>jW P cf rec gs cr C ⟨ops⟩ l 1 [] s).bind _);cases dN P cf rec gs cr l M o with|none=>rfl|some s=>show uc P cf rec gs cr ops [(i,j)] l (n+1) _ k s=(jW P cf rec gs cr C ⟨ops⟩ l 1 [] s).bind _;rw[h,Jn l 1 0];rfl
 |false=>show(aJ M o.dst (.tp [])).bind _=(((aJ M o.dst (.tp [])).bind λM=>jW P cf rec gs cr C ⟨ops⟩ l 1 [] M).bind _);cases aJ M o.dst (.tp [])with|none=>rfl|some s=>show uc P cf rec gs cr ops [(i,j)] l (n+1) _ k s=(jW P cf rec gs cr C ⟨ops⟩ l 1 [] s).bind _;rw[h,Jn l 1 0];rfl
def FQ(l:List aC)(n:Nat):Bool:=(l.take n).all λo=>o.guard.isNone
theorem QO{o:aC}{n:Nat}(h:FQ (o::l) (n+1)=V):o.guard=Z/\FQ l n=V:=by simp_all[FQ]
theorem NR{o:aC}(h:o.guard=Z):zn ⟨ops⟩ M o=J V:=by grind[zn]
theorem ajB{r:bt}(q:i<j):∀(b:List Unit)(l:List aC)(n:Nat)(M:St),n+b.length=j->i<n->FQ l (b.length+1)=V->r2 P cf rec gs cr (.mk ops (.mk ops)) e b l k M=J r->uc P cf rec gs cr ops [(i,j)] l n [(i,e)] k M=J r
 |[],[],_,_,_,_,_,h=>by cases h|_::_,[],_,_,_,_,_,h=>by cases h|[],o::l,n,M,m,hi,g,h=>by
  obtain⟨g1,g2⟩:=QO g;have p:n=j:=by simpa using m
  subst p;have a:(bif Kx.tC e (jI cf M o.op)then rb P cf rec gs cr (.mk ops (.mk ops)) (.mk (o::l) (.mk (o::l))) k M else Z)=J r:=h;cases f:Kx.tC e (jI cf M o.op)with|false=>rw[f]at a;cases a|true=>
   rw[f]at a;unfold uc;rw[NR g1];simp only[cU,aL];have:([(i,e)].all λe=>!(vR [(i,n)] e.1 n)||Kx.tC e.2 (jI cf M o.op))=V:=by show((!(vR [(i,n)] i n)||Kx.tC e (jI cf M o.op))&&V)=V;rw[f];simp
   rw[this,aL];have c:((zn ⟨ops⟩ M o).bind λw=>bif w then bif !C||IP ops [] 0 (jI cf M o.op)then(dN P cf rec gs cr l M o).bind λs=>jW P cf rec gs cr C ⟨ops⟩ l 1 [] s else Z else(aJ M o.dst (.tp [])).bind λM=>jW P cf rec gs cr C ⟨ops⟩ l 1 [] M).bind (aih k)=J r:=a;rw[NR g1]at c;simp only[cU,aL,GZ,N2]at c;cases d:dN P cf rec gs cr l M o with|none=>rw[d]at c;cases c|some s=>rw[d]at c;simp only[cU]at c|-;rw[ajC l (n+1) _ s ae ae];rw[Jn l 1 0]at c;exact c
 |u::b,o::l,n,M,m,hi,g,h=>by
  obtain⟨g1,g2⟩:=QO g;rw[bU]at m;have a:(dN P cf rec gs cr l M o).bind (r2 P cf rec gs cr (.mk ops (.mk ops)) e b l k)=J r:=h;unfold uc;rw[NR g1];simp only[cU,aL];have:([(i,e)].all λe=>!(vR [(i,j)] e.1 n)||Kx.tC e.2 (jI cf M o.op))=V:=by
   have:vR [(i,j)] i n=C:=by show((aw i i&&aw j n)||false)=C;rw[iW (show j≠n by omega)];simp
   show((!(vR [(i,j)] i n)||Kx.tC e (jI cf M o.op))&&V)=V;rw[this];rfl
  rw[this,aL,at3 hi];cases d:dN P cf rec gs cr l M o with|none=>rw[d]at a;cases a|some s=>rw[d]at a;exact ajB q b l (n+1) s ae ae g2 a
theorem ajA{r:bt}(q:i<j):∀(a:List Unit)(l:List aC)(n:Nat)(M:St),n+a.length=i->i+1+b.length=j->FQ l (a.length+1+(b.length+1))=V->r1 P cf rec gs cr (.mk ops (.mk ops)) b a l k M=J r->uc P cf rec gs cr ops [(i,j)] l n [] k M=J r
 |[],[],_,_,_,_,_,h=>by cases h|_::_,[],_,_,_,_,_,h=>by cases h|[],o::l,n,M,e,f,g,h=>by
  obtain⟨g1,g2⟩:=QO (n:=b.length+1) (by rw[<-g];congr 1;simp only[eD];omega);have x:n=i:=by simpa using e
  subst x;have c:(dN P cf rec gs cr l M o).bind (r2 P cf rec gs cr (.mk ops (.mk ops)) (jI cf M o.op) b l k)=J r:=h;unfold uc;rw[NR g1];simp only[cU,aL,nu];have:E4 [(n,j)] n=V:=by show(aw n n||false)=V;rw[show aw n n=V from nT n];rfl
  rw[this,aL];cases d:dN P cf rec gs cr l M o with|none=>rw[d]at c;cases c|some s=>rw[d]at c;exact ajB q b l (n+1) s ae ae g2 c
 |u::a,o::l,n,M,e,f,g,h=>by
  obtain⟨g1,g2⟩:=QO (n:=a.length+1+(b.length+1)) (by rw[<-g];congr 1;simp only[bU];omega);rw[bU]at e;have c:(dN P cf rec gs cr l M o).bind (r1 P cf rec gs cr (.mk ops (.mk ops)) b a l k)=J r:=h;unfold uc;rw[NR g1];simp only[cU,aL,nu];have:E4 [(i,j)] n=C:=by show(aw i n||false)=C;rw[iW (show i≠n by omega)];rfl
  rw[this,bg];cases d:dN P cf rec gs cr l M o with|none=>rw[d]at c;cases c|some s=>rw[d]at c;exact ajA q a l (n+1) s ae f g2 c
theorem aeD{e:ah Nat}{i:Nat}{r:bt}(a b:List Unit)(h:oK cf cB ops=V)(d:D6 cf ops=[(a.length,a.length+1+b.length)])(g:FQ ops (a.length+1+(b.length+1))=V)(c:Nf P cf rec (cf.uA M.fn) (cf.BN M.fn) (.mk ops (.mk ops)) b a (.mk ops (.mk ops)) (IW (cf.keep M.fn i) k) M=J r):exec P cf rec e (.region i ⟨ops⟩ V) M k=J r:=ao4 h d (ajA ae a ops 0 M ae rfl g c)
end
def Qs(g:GH)(w:Bool):SV->ah Kx|.dv (.ptr id _) _=>J (.pt (J id) g w)|.se ..=>bif w then J (.pt Z g V)else Z|_=>Z
theorem azx{c:cj}{s:St}{a:aH}:jI c s (.load t a)=(((cP c.aq s a).bind (Qs s.g C)).getD (.s (kindOf c s (.load t a)))):=by show(match cP c.aq s a with|some (.dv (.ptr id _) _)=>Kx.pt (J id) s.g C|_=>.s (kindOf c s (.load t a)))=_;cases cP c.aq s a with|none=>rfl|some v=>cases v with|dv d o=>cases d<;>rfl|_=>rfl
theorem azy{c:cj}{s:St}{a v:aH}:jI c s (.store t a v)=(((cP c.aq s a).bind (Qs s.g V)).getD (.s (kindOf c s (.store t a v)))):=by show(match cP c.aq s a with|some (.dv (.ptr id _) _)=>Kx.pt (J id) s.g V|some (.se ..)=>Kx.pt Z s.g V|_=>.s (kindOf c s (.store t a v)))=_;cases cP c.aq s a with|none=>rfl|some v=>cases v with|dv d o=>cases d<;>rfl|_=>rfl
theorem azw{i:Nat}{o:aX}:Qs g w (.dv (.ptr i D) o)=J (.pt (J i) g w):=(rfl)
theorem azv{s i o:Nat}:Qs g V (.se s i o)=J (.pt Z g V):=(rfl)
theorem afh{c:Type}{a b:c}:(J a).getD b=a:=rfl
theorem asV{x i:Nat}{a:Bool}:Kx.tC (.pt (J x) g w) (.pt (J i) g' a)=((g.get i).isSome&&!(aw x i)):=(rfl)
theorem asU{i:Nat}{a:Bool}:Kx.tC (.pt Z g w) (.pt (J i) g' a)=((g.get i).isSome&&V):=(rfl)
attribute[go_sem↓]aE6 aE7 aE8 aE9
attribute[go_sem]azx azy azw azv afh asV asU SC
set_option maxHeartbeats 1000000
theorem alH(l:bT)(s:Int):dz ((l++[s]).map iD) 3 1=.dv (cp V ((l++[s]).map iD) 3 1) (.ex 3):=by cases l<;>rfl
theorem aEO(l:bT):cF (l.map iD)=V:=lz (λ_=>rfl) l
theorem ark(e:Edge)(b k a y v s p c)(n o:Bool)(f:e.opens.l.length<100000000)(g:e.inside.l.length<100000000)(i:e.gK.l.length<100000000)(j:e.fx.l.length<100000000):CC 388 [.agg (ab.mk b k a y v s p c).cells,e.d,.bool n,.bool o] (.val (.dv (mZ e (jA b) o n s p).d .no) .empty):=by
 have k1:=Hz (d:=iD) (.inl rfl) (λ_=>rfl) [s] e.opens.l C e.opens.nl (by simp only[Bu];omega);have k2:=Hz (d:=iD) (.inl rfl) (λ_=>rfl) [s] e.inside.l C e.inside.nl (by simp only[Bu];omega);have k3:=Hz (d:=iD) (.inl rfl) (λ_=>rfl) e.gK.l [s] e.gK.nl C (by simp only[Bu];omega);have k4:=Hz (d:=fU.d) (.inr (.inl rfl)) (λ_=>rfl) [⟨s,p⟩] e.fx.l C e.fx.nl (by simp only[Bu];omega);clear f g i j;obtain⟨src,t,H,U,⟨I,K,M,N,O,P,Q,R,S⟩,m,l,L,T,ins⟩:=e;obtain⟨x,z,c3,A,B,D,E,F,G⟩:=c;rw[alH]at k3;simp only[de,bP,fA,dk,fU.d,lg,go_sem]at k1 k2 k3 k4;have r1:dB [(12,.ex 3)] 16 1=[(12,.ex 3)]:=rfl;have r2:dB [(12,.ex 3)] 15 1=[(12,.ex 3)]:=rfl;have r:dB [(16,.ex 3),(12,.ex 3)] 13 1=[(16,.ex 3),(12,.ex 3)]:=rfl;have q:dB [(15,.ex 174),(12,.ex 3)] 13 1=[(15,.ex 174),(12,.ex 3)]:=rfl;have u:dB [(16,.ex 3)] 13 1=[(16,.ex 3)]:=rfl;have w:dB [(15,.ex 174)] 13 1=[(15,.ex 174)]:=rfl;refine aK func388 ?_;simp only[f388];simp only[go_sem,Edge.d,Edge.cells,ab.cells,Expr.cells,mZ,jA];repeat'(with_reducible apply sp<;>intro h<;>simp only[h,k1,k2,k3,k4,aEO,r1,r2,r,q,u,w,go_sem])
 all_goals(simp only[lg,go_sem];try rfl)
theorem az3{u:jq}{f n:Nat}{s:cT}{l:dX}{d:ah Tmp}{i:Nat}{b:LB}(h:AM.isAgg P t=J V):xp P t u ⟨f,n,s,l,g⟩ d i D (.box b)=(gP P u t b D).bind λr=>aJ ⟨f,n,s,l,g.set i (.box r.2)⟩ d r.1:=by show(match u,fg b _,AM.isAgg P t with|.ref,.ex _,J C=>_|_,_,_=>_)=_;grind
attribute[go_sem]az3
theorem O8(k:Int)(p q:ab):∃g,CC 389 [.agg p.cells,iD k,.agg q.cells] (.val (.dv (.agg (jU k p q).cells) .no) g):=by obtain⟨op,nl,args,ty,var,scope,s,cond⟩:=p;have d1:=aGO;have d2:=aG4;simp only[bq,opsOf,f389,go_sem]at d1 d2;refine⟨⟨2,[(0,.box ⟨iD k::.ay [.agg q.cells] 32 14::iD ty::iD var::iD scope::iD s::cond.cells,[(1,.ty 32)]⟩),(1,.box ⟨q.cells,[]⟩)]⟩,?_⟩;refine aK func389 ?_;simp only[go_sem,f389,ab.cells,jU,ab.aN];refine aeD [()] [(),()] d2 d1 rfl ?_;simp only[go_sem];rfl
theorem abR{new:aA}(h:l.length+new.length<1000):iM 30 8 88 (.ay l 30 8) (.ex 30) new=J (.ay (l++new) 30 8,.ex 30):=by grind[wN,bF]
theorem flE(l:List Expr):((Expr.aN l).all λy=>decide (y.flat.length=8))=V:=by rw[um];intro y h;rw[Expr.nZ]at h;obtain⟨z,_,rfl⟩:=List.mem_map.1 h;simp only[DV.flat,go_sem];try rfl
theorem KW{n:Nat}:cp C l e n=.ay l e n:=by cases l<;>rfl
theorem encS{x:DV}{n:Nat}:cp V (l++[x]) e n=.ay (l++[x]) e n:=by cases l<;>rfl
theorem Pr.eN(r:Pr):r.cells.length=32:=by simp[Pr.cells,Edge.eN,ab.eN]
theorem Pr.pure(r:Pr):r.d.pure=V:=by show cF _=V;have h:cF _=V:=Edge.pure r.bw;grind[Pr.cells,DM,cF,DV.pure,ab.pure]
theorem aiV(l:List Pr):(cp V (l.map Pr.d) 283 32).pure=V:=xE (lz Pr.pure _)
theorem aEA(r:Pr)(o:aX):xA [r] o=.dv (.ay [.agg r.cells] 283 32) o:=rfl
theorem aqS(x:Pr)(d f a e t v c p o)(g:gw 800 100000000 x)(hl:e.length<800)(h8:ai d 8=V->e≠[]):CC 271 [.agg (ab.mk d f (a::e) t v c p o).cells,x.d] (.val (xA (kD (.mk d f (a::e) t v c p o) x) (.ex 283)) .empty):=by
 have d1:=aIZ;have d2:=aI0;have d3:=aI1;have d4:=aIX;have d5:=aIY;simp only[bq,opsOf,f271,go_sem]at d1 d2 d3 d4 d5;have e1:=are x C e ae;have e2:=ael a x;have e3:=ael (rO e) x;have e4:=Uo 7 (.mk d f (a::e) t v c p o) x.rest;have e5:=arf x d f (a::e) t v c p o (by have:=g.i;omega) (by have:=g.o;omega) (by have:=g.p;omega) (by have:=g.l;omega);have q:oz PP 25 (.ay (ab.aN (a::e)) 32 14) (J (.int .i64 1)) Z Z=_:=Z8 (l:=ab.aN (a::e)) (n:=1) (by simp[ab.jP]) ae;have r:=flE x.bw.gC.l;have i:=abR (l:=[]) (new:=Expr.aN x.bw.gC.l) (by rw[Expr.jP];have:=g.k;grind);have j:=abR (l:=Expr.aN x.bw.gC.l) (new:=[.agg o.cells]) (by rw[Expr.jP];have:=g.k;grind);have u:=Pr.eN (kg x C e);have y:cF (kg x C e).cells=V:=Pr.pure (kg x C e);have c3:=Pr.eN (ud x d c p (.mk d f (a::e) t v c p o));have z:cF (ud x d c p (.mk d f (a::e) t v c p o)).cells=V:=Pr.pure (ud x d c p (.mk d f (a::e) t v c p o));have Q:=aiV (rZ a x);have u3:=aiV (rZ (rO e) x);rw[xA]at e2 e3;rw[kD,List.drop_succ_cons,wJ,show rO (a::e)=a from rfl];have rest:∀R,(ai d 1=V->xA [kg x C e] (.ex 283)=R)->(ai d 1=C->ai d 4=V->xA (rZ a x) (.ex 283)=R)->(ai d 1=C->ai d 4=C->ai d 8=V->xA (rZ (rO e) x) (.ex 283)=R)->(ai d 1=C->ai d 4=C->ai d 8=C->ai d 7=V->xA [Bk x (.mk d f (a::e) t v c p o) o] (.ex 283)=R)->(ai d 1=C->ai d 4=C->ai d 8=C->ai d 7=C->xA [ud x d c p (.mk d f (a::e) t v c p o)] (.ex 283)=R)->CC 271 [.agg (ab.mk d f (a::e) t v c p o).cells,x.d] (.val R .empty):=by
  intro R k1 k2 k3 k4 k5;rw[aEA]at k1 k4 k5;rw[xA]at k2 k3;generalize cp V ((rZ a x).map Pr.d) 283 32=T at*;generalize cp V ((rZ (rO e) x).map Pr.d) 283 32=U at*;generalize(kg x C e).cells=S at*;generalize D:Bk x (.mk d f (a::e) t v c p o) o=w at*;rw[show(ud x d c p (.mk d f (a::e) t v c p o)).d=.agg (ud x d c p (.mk d f (a::e) t v c p o)).cells from rfl]at e5;generalize(ud x d c p (.mk d f (a::e) t v c p o)).cells=s at*;obtain⟨⟨src,B,nk,wz,⟨o1,o2,o3,o4,o5,o6,o7,o8,o9⟩,O,A,kL,kT,ins⟩,done,⟨q1,q2,q3,q4,q5,q6,q7,⟨p1,p2,p3,p4,p5,p6,p7,p8,p9⟩⟩⟩:=x;obtain⟨t1,t2,t3,t4,t5,t6,t7,t8,t9⟩:=o;obtain⟨W,X,Y,a4,a5,a6,a7,⟨E,F,G,H,I,K,L,M,N⟩⟩:=a;refine aK func271 ?_;simp only[f271];simp only[ab.aN,ab.cells,Expr.cells,Pr.d,Pr.cells,Edge.cells,List.drop_succ_cons,wJ,fA,dk,lg,KW,jU,go_sem]at e1 e2 e4 e5 q r i j;simp only[go_sem,Pr.d,Pr.cells,Edge.cells,ab.cells,Expr.cells,ab.aN,lg];apply sp<;>intro h<;>simp only[h,d1,e1,q,u,y,go_sem];.simp_all
  apply sp<;>intro k<;>simp only[k,d2,e2,Q,go_sem];.simp_all
  refine sp (λP=>?_) (λP=>?_);.cases e with|nil=>simp_all|cons b e=>obtain⟨m1,m2,m3,m4,m5,m6,m7,⟨E,F,G,H,I,K,L,M,N⟩⟩:=b;simp only[rO,List.headD,Pr.d,Pr.cells,Edge.cells,ab.cells,Expr.cells,fA,dk,go_sem]at e3;simp only[P,d3,e3,u3,ab.aN,ab.cells,Expr.cells,go_sem];simp_all
  simp only[P,go_sem];apply sp<;>intro m<;>simp only[m,go_sem]
  . have k4:=k4 h k P m;rw[<-D]at k4;apply sp<;>intro hd<;>simp only[hd,d4,d5,i,j,e4,go_sem];.rw[hd]at k4;simp only[Bk,Aa,aL,Pr.cells,Edge.cells,ab.cells,Expr.cells,vD,Expr.vC,Expr.aN,zP,fA,dk,go_sem]at k4;rw[<-k4,encS];rfl
    .rw[hd]at k4;simp only[Bk,jU,bg,Pr.cells,Edge.cells,ab.cells,Expr.cells,ab.aN,fA,dk,go_sem]at k4;rw[<-k4];rfl
  .simp only[e5,c3,z,go_sem];simp_all
 grind
set_option maxHeartbeats 4000000
theorem Edge.KT(e:Edge):List.drop 17 e.cells=[]:=by simp[Edge.eN]
theorem ab.KT(e:ab):List.drop 14 e.cells=[]:=by simp[ab.eN]
attribute[go_sem]Edge.KT Edge.eN ab.KT
theorem alF{x:DV}{n:Nat}:dz (l++[x]) e n=.dv (.ay (l++[x]) e n) (.ex e):=by cases l<;>rfl
theorem aym(q A a l B m p f j)(b:Nat)(hT:Hh a)(o1:ai q 1=C)(o4:ai q 4=C)(o8:ai q 8=C)(hz:∀x∈dF a,∃n w,n<100000000/\gw n w x):vq qJ 386 [] [.ptr b 0] (λg=>ld g b (.mk q A (a::l) B m p f j)) ((dF a).flatMap (kD (.mk q A (a::l) B m p f j))):=by
 intro n k σ rel step s U gM g hr S;obtain⟨lV,mU⟩:=gM _ _ _ hr;obtain⟨h,ca,cap,g1,e1,l1,c1,P,it,hp⟩:=hT (g.alloc (.box ⟨[.dK n],[]⟩));suffices hS:Sat (ev PP cf (.call 386 ([]++[.dK n]++[.ptr b 0]) .no g)) λv g'=>v=.tp []/\rel (bB step ((dF a).flatMap (kD (.mk q A (a::l) B m p f j))) s).1 (bB step ((dF a).flatMap (kD (.mk q A (a::l) B m p f j))) s).2 g'/\Hi k g g' by obtain⟨v,g',e,rfl,r,h⟩:=hS;simp_all
 refine kp func386 ?_;have kB:(b=g.next)=False:=bW ae;have xa:Lo g.next g g1:=(Lo.alloc (bo _)).trans (l1.mono (by simp[cL]));have cX:g.next<g1.next:=by have:=l1.1;grind[cL]
 have hy:g1.get g.next=J (.box ⟨[.dK n],[]⟩):=(l1.2 _ (by simp[cL])).trans (by simp[pB]);rw[cL]at P;simp only[ab.cells,ab.aN,lg]at lV;simp only[f386];simp only[go_sem,lV,kB,e1];refine yX it (tV (kD (.mk q A (a::l) B m p f j)) step) (zK k g g.next n cap rel) (Z,s) hp rfl ⟨U.stay _ _ _ _ hr (xa.mono S),c1,⟨ae,λi h1 h2=>xa.2 i h2⟩,hy,rfl,cX⟩ (λc s g' h=>h.c) (λc s g2 g3 h hl=>h.lo U hl ae ae cX (λg4 g5 F u=>P g4 g5 F u.1 λi _ hi=>u.2 i hi)) (λx s g2 hx R hN L=>?_) (λg2 R hN=>?_)
 . obtain⟨km,mA⟩:=N8 hx;obtain⟨s0,s⟩:=s;simp only at km mA;subst km;refine ze L rfl ?_;have X:=R.y;have Q:=(gM _ _ _ R.r).1;simp only[ab.cells,ab.aN,lg]at Q;have H:(g1.next=g2.next)=False:=bW ae;have I:(g1.next=g2.next+1)=False:=bW ae;have z3:(g2.next=g1.next)=False:=bW ae;have z4:(g2.next+1=g1.next)=False:=bW ae;have z5:(g.next=g2.next)=False:=bW ae;have z6:(g.next=g2.next+1)=False:=bW ae;have z7:(g.next=g1.next)=False:=bW ae;have z8:(b=g2.next)=False:=bW ae;have z9:(b=g2.next+1)=False:=bW ae;have sZ:(b=g1.next)=False:=bW ae;have W:(g2.next+1=g2.next)=False:=bW ae;have G:(g2.next=g2.next+1)=False:=bW ae;obtain⟨nb,wb,mV,hB⟩:=hz x hx.mem;have AL:=hB.z;obtain⟨y,yJ,AK⟩:∃y,kD (.mk q A (a::l) B m p f j) x=[y]/\y=bif ai q 7 then Bk x (.mk q A (a::l) B m p f j) j else ud x q p f (.mk q A (a::l) B m p f j):=by grind[kD]
   have Y:=mA [] y [] s yJ rfl;have ns:tV (kD (.mk q A (a::l) B m p f j)) step x (Z,s)=((step y s).1.map λ_=>Code.ret,step y s):=by grind[tV,wW]
   rw[ns];obtain⟨bw,done,rest⟩:=x;have k1:=anQ bw.gC.l [j] bw.gC.nl C (by have:=hB.k;grind);rw[Expr.vC,show Expr.aN [j]=[.agg j.cells]from rfl,alF]at k1;simp only[KW]at k1;have k3:=λd o=>ark bw q A (a::l) B m p f j d o (Hf hB.o mV) (Hf hB.i mV) (Hf hB.p mV) (Hf hB.l mV);clear hB mV;simp only[Edge.d,ab.cells,ab.aN,lg,go_sem]at k3;have k4:=λd o=>Edge.eN (mZ bw (jA q) o d p f);simp only[qJ,Pr.rd,Edge.d];simp only at AL;cases E:ai q 7 with
   |true=>rw[E,aL]at AK;obtain rfl:=kz E;cases done with
    |true=>
     obtain rfl:=AL rfl;have O:y=⟨Aa bw j,V,zP⟩:=AK;subst O;have ps:cF (Expr.aN bw.gC.l++[.agg j.cells])=V:=by simp[DM,Expr.qX,cF,DV.pure,Expr.pure]
     have hE:vD ⟨V,bw.gC.l++[j]⟩=.ay (Expr.aN bw.gC.l++[.agg j.cells]) 30 8:=by rw[vD,Expr.vC];exact encS
     obtain⟨src,dst,nk,wz,⟨o1,o2,o3,WK,o5,o6,o7,WL,o9⟩,ops,cls,kL,kT,ins⟩:=bw;simp only[go_sem,L,X,H,I,z3,z4,z5,z6,z7,z8,z9,sZ,W,G,Q,Edge.cells,Expr.cells,E,k1,ps];simp only[uo];refine zy U ⟨Aa ⟨src,dst,nk,wz,⟨o1,o2,o3,WK,o5,o6,o7,WL,o9⟩,ops,cls,kL,kT,ins⟩ j,V,zP⟩ s (by simp only[qJ,Pr.rd,Edge.d,Aa,Edge.cells,Expr.cells,hE];rfl) Y R.r (show k<=g1.next by omega) hN lG (λg3 N D=>?_);have t:=D.2 g1.next ae (by grind[cL,dW]);simp only[go_sem,L,H,I]at t;have fin:=λo=>R.next U lG D S ae ae hN (λa b F u K=>P a b F u λi E M=>K i ae M) (o:=o) N;generalize step ⟨Aa ⟨src,dst,nk,wz,⟨o1,o2,o3,WK,o5,o6,o7,WL,o9⟩,ops,cls,kL,kT,ins⟩ j,V,zP⟩ s=z at*;obtain⟨c3,s3⟩:=z;cases c3 with|none=>simp only[pj,rD]at fin|-;simp only[go_sem,t];exact⟨trivial,(fin _).1,(fin _).2,rfl⟩|some c3=>simp only[pn,iE]at fin|-;simp only[go_sem,t];exact⟨trivial,(fin _).1,(fin _).2,rfl⟩
    |false=>have O:y=⟨bw,C,jU 7 (.mk 7 A (a::l) B m p f j) rest⟩:=AK;subst O;obtain⟨gz,k2⟩:=O8 7 (.mk 7 A (a::l) B m p f j) rest;simp only[ab.cells,ab.aN,lg,go_sem]at k2;simp only[go_sem,L,X,H,I,z3,z4,z5,z6,z7,z8,z9,sZ,W,G,Q,E,k2];simp only[uo];refine zy U ⟨bw,C,jU 7 (.mk 7 A (a::l) B m p f j) rest⟩ s rfl Y R.r (show k<=g1.next by omega) hN lG (λg3 N D=>?_);have t:=D.2 g1.next ae (by grind[cL,dW]);simp only[go_sem,L,H,I]at t;have fin:=λo=>R.next U lG D S ae ae hN (λa b F u K=>P a b F u λi E M=>K i ae M) (o:=o) N;generalize step ⟨bw,C,jU 7 (.mk 7 A (a::l) B m p f j) rest⟩ s=z at*;obtain⟨c3,s3⟩:=z;cases c3 with|none=>simp only[pj,rD]at fin|-;simp only[go_sem,t];exact⟨trivial,(fin _).1,(fin _).2,rfl⟩|some c3=>simp only[pn,iE]at fin|-;simp only[go_sem,t];exact⟨trivial,(fin _).1,(fin _).2,rfl⟩
   |false=>rw[E,bg]at AK;have T:y=bif done then⟨mZ bw (jA q) (bif ai q 5 then V else ai q 6) done p f,V,zP⟩else⟨mZ bw (jA q) (bif ai q 5 then V else ai q 6) done p f,C,jU (bif jA q then 9 else 10) (.mk q A (a::l) B m p f j) rest⟩:=AK;cases u:ai q 5 with
    |true=>obtain rfl:=kz u;have k3:=k3 done V;cases done with
     |true=>obtain rfl:=AL rfl;have O:y=⟨mZ bw (jA 5) V V p f,V,zP⟩:=T;subst O;generalize mZ bw (jA 5) V V p f=e9 at*;simp only[go_sem,L,X,H,I,z3,z4,z5,z6,z7,z8,z9,sZ,W,G,Q,E,u,k3];simp only[uo];refine zy U ⟨e9,V,zP⟩ s rfl Y R.r (show k<=g1.next by omega) hN lG (λg3 N D=>?_);have t:=D.2 g1.next ae (by grind[cL,dW]);simp only[go_sem,L,H,I]at t;have fin:=λo=>R.next U lG D S ae ae hN (λa b F u K=>P a b F u λi E M=>K i ae M) (o:=o) N;generalize step ⟨e9,V,zP⟩ s=z at*;obtain⟨c3,s3⟩:=z;cases c3 with|none=>simp only[pj,rD]at fin|-;simp only[go_sem,t];exact⟨trivial,(fin _).1,(fin _).2,rfl⟩|some c3=>simp only[pn,iE]at fin|-;simp only[go_sem,t];exact⟨trivial,(fin _).1,(fin _).2,rfl⟩
     |false=>have O:y=⟨mZ bw (jA 5) V C p f,C,jU 9 (.mk 5 A (a::l) B m p f j) rest⟩:=T;subst O;obtain⟨gz,k2⟩:=O8 9 (.mk 5 A (a::l) B m p f j) rest;simp only[ab.cells,ab.aN,lg,go_sem]at k2;generalize mZ bw (jA 5) V C p f=e9 at*;simp only[go_sem,L,X,H,I,z3,z4,z5,z6,z7,z8,z9,sZ,W,G,Q,E,u,k3,k2];simp only[uo];refine zy U ⟨e9,C,jU 9 (.mk 5 A (a::l) B m p f j) rest⟩ s rfl Y R.r (show k<=g1.next by omega) hN lG (λg3 N D=>?_);have t:=D.2 g1.next ae (by grind[cL,dW]);simp only[go_sem,L,H,I]at t;have fin:=λo=>R.next U lG D S ae ae hN (λa b F u K=>P a b F u λi E M=>K i ae M) (o:=o) N;generalize step ⟨e9,C,jU 9 (.mk 5 A (a::l) B m p f j) rest⟩ s=z at*;obtain⟨c3,s3⟩:=z;cases c3 with|none=>simp only[pj,rD]at fin|-;simp only[go_sem,t];exact⟨trivial,(fin _).1,(fin _).2,rfl⟩|some c3=>simp only[pn,iE]at fin|-;simp only[go_sem,t];exact⟨trivial,(fin _).1,(fin _).2,rfl⟩
    |false=>cases h9:ai q 9 with
     |true=>obtain rfl:=kz h9;have k3:=k3 done C;cases done with
      |true=>obtain rfl:=AL rfl;have O:y=⟨mZ bw (jA 9) C V p f,V,zP⟩:=T;subst O;generalize mZ bw (jA 9) C V p f=e9 at*;simp only[go_sem,L,X,H,I,z3,z4,z5,z6,z7,z8,z9,sZ,W,G,Q,E,u,h9,k3];simp only[uo];refine zy U ⟨e9,V,zP⟩ s rfl Y R.r (show k<=g1.next by omega) hN lG (λg3 N D=>?_);have t:=D.2 g1.next ae (by grind[cL,dW]);simp only[go_sem,L,H,I]at t;have fin:=λo=>R.next U lG D S ae ae hN (λa b F u K=>P a b F u λi E M=>K i ae M) (o:=o) N;generalize step ⟨e9,V,zP⟩ s=z at*;obtain⟨c3,s3⟩:=z;cases c3 with|none=>simp only[pj,rD]at fin|-;simp only[go_sem,t];exact⟨trivial,(fin _).1,(fin _).2,rfl⟩|some c3=>simp only[pn,iE]at fin|-;simp only[go_sem,t];exact⟨trivial,(fin _).1,(fin _).2,rfl⟩
      |false=>have O:y=⟨mZ bw (jA 9) C C p f,C,jU 9 (.mk 9 A (a::l) B m p f j) rest⟩:=T;subst O;obtain⟨gz,k2⟩:=O8 9 (.mk 9 A (a::l) B m p f j) rest;simp only[ab.cells,ab.aN,lg,go_sem]at k2;generalize mZ bw (jA 9) C C p f=e9 at*;simp only[go_sem,L,X,H,I,z3,z4,z5,z6,z7,z8,z9,sZ,W,G,Q,E,u,h9,k3,k2];simp only[uo];refine zy U ⟨e9,C,jU 9 (.mk 9 A (a::l) B m p f j) rest⟩ s rfl Y R.r (show k<=g1.next by omega) hN lG (λg3 N D=>?_);have t:=D.2 g1.next ae (by grind[cL,dW]);simp only[go_sem,L,H,I]at t;have fin:=λo=>R.next U lG D S ae ae hN (λa b F u K=>P a b F u λi E M=>K i ae M) (o:=o) N;generalize step ⟨e9,C,jU 9 (.mk 9 A (a::l) B m p f j) rest⟩ s=z at*;obtain⟨c3,s3⟩:=z;cases c3 with|none=>simp only[pj,rD]at fin|-;simp only[go_sem,t];exact⟨trivial,(fin _).1,(fin _).2,rfl⟩|some c3=>simp only[pn,iE]at fin|-;simp only[go_sem,t];exact⟨trivial,(fin _).1,(fin _).2,rfl⟩
     |false=>
      have Iq:jA q=C:=by unfold jA;simp only[u,h9];rfl
      rw[Iq]at T k3;simp only[u,bg]at T;have k3:=k3 done (ai q 6);cases done with
      |true=>obtain rfl:=AL rfl;have O:y=⟨mZ bw C (ai q 6) V p f,V,zP⟩:=T;subst O;generalize mZ bw C (ai q 6) V p f=e9 at*;simp only[go_sem,L,X,H,I,z3,z4,z5,z6,z7,z8,z9,sZ,W,G,Q,E,u,h9,k3];simp only[uo];refine zy U ⟨e9,V,zP⟩ s rfl Y R.r (show k<=g1.next by omega) hN lG (λg3 N D=>?_);have t:=D.2 g1.next ae (by simp only[cL,dW];omega);simp only[go_sem,L,H,I]at t;have fin:=λo=>R.next U lG D S ae ae hN (λa b F u K=>P a b F u λi E M=>K i ae M) (o:=o) N;generalize step ⟨e9,V,zP⟩ s=z at*;obtain⟨c3,s3⟩:=z;cases c3 with|none=>simp only[pj,rD]at fin|-;simp only[go_sem,t];exact⟨trivial,(fin _).1,(fin _).2,rfl⟩|some c3=>simp only[pn,iE]at fin|-;simp only[go_sem,t];exact⟨trivial,(fin _).1,(fin _).2,rfl⟩
      |false=>have O:y=⟨mZ bw C (ai q 6) C p f,C,jU 10 (.mk q A (a::l) B m p f j) rest⟩:=T;subst O;obtain⟨gz,k2⟩:=O8 10 (.mk q A (a::l) B m p f j) rest;simp only[ab.cells,ab.aN,lg,go_sem]at k2;generalize mZ bw C (ai q 6) C p f=e9 at*;simp only[go_sem,L,X,H,I,z3,z4,z5,z6,z7,z8,z9,sZ,W,G,Q,E,u,h9,k3,k2];simp only[uo];refine zy U ⟨e9,C,jU 10 (.mk q A (a::l) B m p f j) rest⟩ s rfl Y R.r (show k<=g1.next by omega) hN lG (λg3 N D=>?_);have t:=D.2 g1.next ae (by simp only[cL,dW];omega);simp only[go_sem,L,H,I]at t;have fin:=λo=>R.next U lG D S ae ae hN (λa b F u K=>P a b F u λi E M=>K i ae M) (o:=o) N;generalize step ⟨e9,C,jU 10 (.mk q A (a::l) B m p f j) rest⟩ s=z at*;obtain⟨c3,s3⟩:=z;cases c3 with|none=>simp only[pj,rD]at fin|-;simp only[go_sem,t];exact⟨trivial,(fin _).1,(fin _).2,rfl⟩|some c3=>simp only[pn,iE]at fin|-;simp only[go_sem,t];exact⟨trivial,(fin _).1,(fin _).2,rfl⟩
 .rw[C3]at R|-;obtain⟨r,_,h2,_⟩:=R;revert r;cases(bB step ((dF a).flatMap (kD (.mk q A (a::l) B m p f j))) s).1 with|none=>intro r;simp only[rD,go_sem];exact⟨trivial,r,h2⟩|some c=>intro r;simp only[iE,go_sem];exact⟨trivial,r,h2⟩
set_option maxHeartbeats 1000000
theorem amJ:nX PP .eql 25 (.ay l 32 14) .nl=J (.bool C):=by rfl
theorem amI:nX PP .eql 24 (.ay l 3 1) .nl=J (.bool C):=by rfl
theorem amM:nX PP .eql 24 .nl .nl=J (.bool V):=by rfl
attribute[go_sem]amJ amI amM
theorem aeo(a:aF)(h:a.length<900):CC 439 [.ay (ab.aN a) 32 14] (.val (.dv (.ay (ab.aN a) 32 14) (.ex 32)) .empty):=by have b:=EF (l:=[]) (new:=ab.aN a) (by grind[ab.jP]);refine aK func439 ?_;simp only[f439];simp only[go_sem,b,f1]
theorem arR(a:bT)(h:a.length<900):CC 92 [.ay (a.map iD) 3 1] (.val (.dv (.ay (a.map iD) 3 1) (.ex 3)) .empty):=by have b:=Hl (e:=3) (l:=[]) (new:=a.map iD) aj;have f1:=UJ a;refine aK func92 ?_;simp only[f92];simp only[go_sem,b,f1]
theorem akf{n:Nat}(h:n<1000000000):su n=V:=by simp_all[su]
theorem aru(l:aA)(x:DV)(h:l.length<1000000000):ev PP cf (.call 440 [.ay l 32 14,iD 0,.ay [x] 32 14] (.ex 32) .empty)=J (.val (.dv (.ay (x::l) 32 14) .no) .empty):=by refine EV ?_ rfl;show(bif su _ then J _ else J _)=_;grind[akf]
theorem arv(l:aA)(i j:Nat)(h:l.length<1000000000)(a:i<j)(b:j<=l.length):ev PP cf (.call 442 [.ay l 32 14,iD (.ofNat i),iD (.ofNat j)] (.ex 32) .empty)=J (.val (.dv (.ay (l.take i++l.drop j) 32 14) .no) .empty):=by refine EV ?_ rfl;show(bif su _&&(cM i j&&bV j _)then J _ else J _)=_;grind[akf,fB,du]
theorem ari(r:Pr)(l:aF)(h:l.length<900)(z:r.done=V->r.rest=zP):CC 383 [r.rd,.ay (ab.aN l) 32 14] (.val (.dv (kg r C l).rd .no) .empty):=by have e1:=aeo l h;have i:ev PP cf (.call 440 [.ay (ab.aN l) 32 14,iD 0,.ay [.agg r.rest.cells] 32 14] (.ex 32) .empty)=J (.val (.dv (.ay (ab.aN (r.rest::l)) 32 14) .no) .empty):=aru _ _ (by grind[ab.jP]);have e2:=O9 C 1 (r.rest::l) aj;have e3:=O9 C 1 l ae;rw[KW]at e2 e3;refine aK func383 ?_;obtain⟨bw,done,rest⟩:=r;simp only[f383];cases done with
 |true=>
 obtain rfl:=z rfl;simp only[go_sem,Pr.rd,e1];rcases l with _|⟨p,l⟩;.rfl
 have q:ai (.ofNat (p::l).length) 0=C:=by rfl
 simp only[e3,go_sem,kg]|false=>simp only[go_sem,Pr.rd,e1,i,e2];cases l<;>rfl
theorem aJN{f n s i:Nat}{a:cT}{l:dX}{d:ah Tmp}{x:aH}{v:DV}{o:aX}:RJ P t ⟨f,n,a,l,g⟩ d x v o (.se s i D)=(nB (aQ share ⟨f,n,a,l,g⟩ x) s).bind λy=>(y.1[i]?).bind λe=>(bC P t).bind λc=>bif aw v.flat.length c&&bV (D+c) e.flat.length then(reshape e (pR e.flat D v.flat)).bind λb=>aJ {aQ share ⟨f,n,a,l,g⟩ x with sl:=put (cV (aQ share ⟨f,n,a,l,g⟩ x).sl) s (.dv (.ay (jo y.1 i b) y.2.1 y.2.2) (.ex y.2.1))} d (.tp [])else Z:=(rfl)
theorem aFX{c:aA}:reshape (.agg l) c=J (.agg c):=by rfl
attribute[go_sem]aJN aFX
theorem arj(r:Pr)(a:aF)(k:Nat)(b:k<a.length)(h:a.length<900):CC 384 [.ay (ab.aN a) 32 14,iD (.ofNat k),r.rd] (.val (.dv (FI r a k).rd .no) .empty):=by
 have e1:=aeo _ h;have w:=xO (i:=k) ae;have d:ev PP cf (.call 442 [.ay (ab.aN a) 32 14,iD (.ofNat k),iD (.ofNat (k+1))] (.ex 32) .empty)=J (.val (.dv (.ay (ab.aN (a.take k++a.drop (k+1))) 32 14) .no) .empty):=by rw[arv _ _ _ (by grind[ab.jP]) ae (by grind[ab.jP]),ab.vC,ab.nZ,ab.nZ,ab.nZ,List.map_take,List.map_drop]
 have e2:=O9 C 3 (a.take k++a.drop (k+1)) aj;have e3:=O9 C 3 (a.take k++([r.rest]++a.drop (k+1))) aj;rw[KW]at e2 e3;have s:List.take k (ab.aN a)++DV.agg r.rest.cells::List.drop (k+1) (ab.aN a)=ab.aN (a.take k++([r.rest]++a.drop (k+1))):=by simp[ab.nZ]
 have A:=ki b;obtain⟨x,c⟩:∃x,a[k]?=J x:=⟨_,eZ b⟩;refine aK func384 ?_;obtain⟨bw,done,rest⟩:=r;simp only[fA,dk]at e3 s;simp only[f384];cases done with|true=>simp only[go_sem,Pr.rd,e1,w,d,e2];rfl|false=>simp only[go_sem,Pr.rd,e1,A,c,s,e3];rfl
set_option maxHeartbeats 4000000
theorem apj{k:eJ->ah bt}{s:St}(p:ah bz):(HG k s p).bind F=HG (λo=>(k o).bind F) s p:=by
 rcases p with _|c;.rfl
 cases c<;>rfl
theorem ajq{f:cj}{i:eK}{e:ah Nat}{p:List Tmp}{a b:Hd bz}{s:St}{k:eJ->ah bt}{d:DV}:(Ro P f i e p a b s k d).bind F=Ro P f i e p a b s (λo=>(k o).bind F) d:=by cases d with
 |func h first c=>show(bif(f.ko h (first++[.dK s.g.next]++c)).isSome||!(Cm e s.g)then Z else Option.bind _ _).bind F=bif(f.ko h (first++[.dK s.g.next]++c)).isSome||!(Cm e s.g)then Z else Option.bind _ _;cases((f.ko h (first++[.dK s.g.next]++c)).isSome||!(Cm e s.g))with|true=>rfl|false=>
 simp only[bg,uo];congr 1;funext r;rcases r with⟨v,g⟩|_
 . show(match g.get s.g.next with|some (.loop r)=>_|_=>Z).bind F=_;simp only;rcases g.get s.g.next with _|o;.rfl
   cases o<;>grind[apj]
 rfl|_=>rfl
theorem C1{b c:Type}{f:b->c}:∀l:List b,(l.flatMap λy=>[f y])=l.map f|[]=>rfl|a::l=>by rw[vu,C1 l];rfl
structure BrI{σ:Type}(k n:Nat)(g0:GH)(rel:ah bz->σ->GH->Prop)(step:Pr->σ->ah bz×σ)(s0:σ)(X Y:List Pr)(s:σ×GH):Prop where
 r:rel Z s.1 s.2
 h:Hi k g0 s.2
 y:s.2.get g0.next=J (.box ⟨[.dK n],[]⟩)n:g0.next<s.2.next
 f:bB step Y s.1=bB step X s0
 d:∃dn,X=dn++Y/\bB step dn s0=(Z,s.1)
theorem ayk(j:Bool)(nl d ty aa A K E)(b:Nat)(hl:d.length<900)(hT:∀a∈d,Hh a):vq qJ 382 [] [.ptr b 0] (λg=>ld g b (.mk (bif j then 3 else 2) nl d ty aa A K E)) (me j d d 0):=by
 intro n k σ w step s U gM g hr hk;suffices hS:Sat (ev PP cf (.call 382 ([]++[.dK n]++[.ptr b 0]) .no g)) λv g'=>v=.tp []/\w (bB step (me j d d 0) s).1 (bB step (me j d d 0) s).2 g'/\Hi k g g' by obtain⟨v,g',e,rfl,r,h⟩:=hS;simp_all
 obtain⟨lV,mU⟩:=gM _ _ _ hr;have kB:(b=g.next)=False:=bW ae;refine kp func382 ?_;simp only[ab.cells]at lV;simp only[f382];simp only[go_sem,lV,kB];refine vX d (s,g.alloc (.box ⟨[.dK n],[]⟩)) (λi _=>[(10,iS i)]) (λs=>s.2) (λi l p=>BrI k n g w step s (me j d d 0) (me j d l i) p) ae rfl rfl ⟨U.stay _ _ _ _ hr (Lo.alloc hk),Hi.alloc,by simp[pB],by simp[cL],rfl,[],rfl,rfl⟩ (λp hI=>?_) (λi x l p hi hx hw hI P=>?_);.obtain⟨r,O,_,_,f,_⟩:=hI;rw[me]at f;rw[<-f];simp only[go_sem];exact⟨trivial,r,O⟩
 . obtain⟨Q,g1⟩:=p;obtain⟨nK,gj,yJ,pF,yu,F,qd,nJ⟩:=hI;simp only at nK gj yJ pF yu nJ;have H:∃B,B=((((g1.alloc (.box ⟨[iD 0],[]⟩)).alloc (.box ⟨[iD 0,.nl,iD 0,iD 0,iD 0,iD 0,iD 0,.nl,iD 0,iD 0,iD 0,iD 0,iD 0,.str []],[]⟩)).set g1.next (.box ⟨[iD (.ofNat i)],[]⟩)).set (g1.next+1) (.box ⟨x.cells,[]⟩)):=⟨_,rfl⟩;obtain⟨B,H⟩:=H;obtain⟨h,ca,Y,g2,e1,l1,c1,cs,it,hp⟩:=hT x (cI hx) B;obtain⟨iR,PU⟩:=gM _ _ _ nK;simp only[ab.cells]at iR;have y1:(g1.next=g1.next+1)=False:=bW ae;have y2:(g1.next+1=g1.next)=False:=bW ae;have y3:(b=g1.next)=False:=bW ae;have y4:(b=g1.next+1)=False:=bW ae;have o1:ai (bif j then 3 else 2) 1=C:=by cases j<;>rfl
   have o3:ai (bif j then 3 else 2) 3=j:=by cases j<;>rfl
   have Fa:B.next=g1.next+2:=by rw[H];rfl
   have lB:Lo g1.next g1 B:=by rw[H];exact((Lo.alloc (bo _)).trans ((Lo.alloc (by simp[cL])).trans ((Lo.set (bo _)).trans (Lo.set ae))))
   have yB:B.get g1.next=J (.box ⟨[iD (.ofNat i)],[]⟩):=by rw[H];simp only[go_sem,y1]
   simp only[go_sem,hi,hx,iR,y1,y2,y3,y4,o1];rw[<-H];simp only[go_sem,e1];rw[ajq];have cX:g.next<g1.next:=pF;have l2:Lo g1.next g1 g2:=lB.trans (l1.mono ae);have hn4:=l1.1;have oV:g2.get g.next=J (.box ⟨[.dK n],[]⟩):=(l2.2 _ cX).trans yJ;have lZ:g2.get g1.next=J (.box ⟨[iD (.ofNat i)],[]⟩):=(l1.2 _ ae).trans yB;refine yX it (tV (λy=>[lu j d i y]) step) (zK k g g.next n (λg'=>Y g'/\g'.get g1.next=J (.box ⟨[iD (.ofNat i)],[]⟩)/\g1.next<g'.next) w) (Z,Q) hp rfl ⟨U.stay _ _ _ _ nK (l2.mono ae),⟨c1,lZ,ae⟩,gj.lo l2 ae,oV,rfl,ae⟩ (λc s g' h=>h.c.1) (λc s g3 g4 h hl=>h.lo U hl ae ae ae (λg5 g6 t m=>⟨cs g5 g6 t.1 m.1 λi _ hi=>m.2 i hi,(m.2 _ ae).trans t.2.1,fj t.2.2 m.1⟩)) (λy q g3 hy R hN L=>?_) (λg3 R hN=>?_)
   . obtain⟨km,mA⟩:=N8 hy;obtain⟨s0,q⟩:=q;simp only at km mA;subst km;have VJ:∀y p,qB step ((dF x).flatMap λy=>[lu j d i y]) Q y p->qB step (me j d d 0) s y p:=by
      rintro y p⟨pre,post,p1,p2⟩;refine⟨F++pre,post++me j d l (i+1),?_,?_⟩;.grind[C1,me]
      grind[lT]
     have cY:=VJ _ _ (mA [] (lu j d i y) [] q rfl rfl);have ns:tV (λy=>[lu j d i y]) step y (Z,q)=((step (lu j d i y) q).1.map λ_=>Code.ret,step (lu j d i y) q):=by simp[tV,wW]
     rw[ns];refine ze L rfl ?_;have AK:=R.y;have Qe:=R.c.2.1;obtain⟨N,OD⟩:=gM _ _ _ R.r;simp only[ab.cells]at N;have X:cp nl (ab.aN d) 32 14=.ay (ab.aN d) 32 14:=by
      cases d;.simp_all
      rfl
     have e4:=arj y d i (rX hi) hl;have S:(g2.next=g3.next)=False:=bW ae;have T:(g2.next=g3.next+1)=False:=bW ae;have z3:(g3.next=g2.next)=False:=bW ae;have z4:(g3.next+1=g2.next)=False:=bW ae;have z5:(g.next=g3.next)=False:=bW ae;have z6:(g.next=g3.next+1)=False:=bW ae;have z7:(g.next=g2.next)=False:=bW ae;have z8:(b=g3.next)=False:=bW ae;have z9:(b=g3.next+1)=False:=bW ae;have sZ:(b=g2.next)=False:=bW ae;have mj:(g3.next+1=g3.next)=False:=bW ae;have M:(g3.next=g3.next+1)=False:=bW ae;have z13:(g1.next=g3.next)=False:=bW ae;have z14:(g1.next=g3.next+1)=False:=bW ae;have z15:(g1.next=g2.next)=False:=bW ae;simp only[qJ,Pr.rd,Edge.d]at e4|-;simp only[go_sem]at e4;generalize sP:lu j d i y=y' at*;cases j with
     |false=>have D:y=y':=sP;subst D;have n1:ai 2 1=C:=rfl;have n2:ai 2 3=C:=rfl;simp only[go_sem,n1,n2,L,AK,N,S,T,z3,z4,z5,z6,z7,z8,z9,sZ,mj,M];simp only[uo];refine zy U y q rfl cY R.r (show k<=g2.next by omega) hN lG (λg4 r4 t=>?_);have u:=t.2 g2.next ae (by grind[cL,dW]);simp only[go_sem,L,S,T]at u;have fin:=λo=>R.next U lG t hk ae ae hN (λa b m G I=>⟨cs a b m.1 G λi h8 h9=>I i ae h9,(I _ ae ae).trans m.2.1,fj m.2.2 G⟩) (o:=o) r4;generalize step y q=z at*;obtain⟨c3,s4⟩:=z;cases c3 with|none=>simp only[pj,rD]at fin|-;simp only[go_sem,u];exact⟨trivial,(fin _).1,(fin _).2,rfl⟩|some c3=>simp only[pn,iE]at fin|-;simp only[go_sem,u];exact⟨trivial,(fin _).1,(fin _).2,rfl⟩
     |true=>have D:FI y d i=y':=sP;have n1:ai 3 1=C:=rfl;have n2:ai 3 3=V:=rfl;obtain⟨e9,d9,r9⟩:=y';have hed:y.bw=e9:=fH Pr.bw D;subst hed;rw[D]at e4;simp only[go_sem,X,L,S,T,z8,z9,sZ,mj]at N e4|-;simp only[go_sem,N,e4,n1,n2,AK,Qe,z3,z4,z5,z6,z7,z8,z9,sZ,mj,M,z13,z14,z15];simp only[uo];refine zy U ⟨y.bw,d9,r9⟩ q rfl cY R.r (show k<=g2.next by omega) hN lG (λg4 r4 t=>?_);have u:=t.2 g2.next ae (by simp only[cL,dW];omega);simp only[go_sem,L,S,T]at u;have fin:=λo=>R.next U lG t hk ae ae hN (λa b m G I=>⟨cs a b m.1 G λi h8 h9=>I i ae h9,(I _ ae ae).trans m.2.1,fj m.2.2 G⟩) (o:=o) r4;generalize step ⟨y.bw,d9,r9⟩ q=z at*;obtain⟨c3,s4⟩:=z;cases c3 with|none=>simp only[pj,rD]at fin|-;simp only[go_sem,u];exact⟨trivial,(fin _).1,(fin _).2,rfl⟩|some c3=>simp only[pn,iE]at fin|-;simp only[go_sem,u];exact⟨trivial,(fin _).1,(fin _).2,rfl⟩
   .rw[C3,C1]at R;rw[C3,C1];have W:=yu;rw[me,lT]at W;have Lv:∀p,bB step ((dF x).map (lu j d i)) Q=(Z,p)->∃F,me j d d 0=F++me j d l (i+1)/\bB step F s=(Z,p):=λp h=>⟨F++(dF x).map (lu j d i),by rw[qd,me,kr],by rw[lT,nJ];exact h⟩;obtain⟨r,_,O,D,_,Vq⟩:=R;generalize bB step ((dF x).map (lu j d i)) Q=z at*;obtain⟨cz,sz⟩:=z;cases cz with|none=>have P:=P (sz,g3) ⟨r,O,D,Vq,W,Lv _ rfl⟩;simp only[rD];simp only[go_sem]at P;simp only[go_sem,hw,P]|some cz=>simp only[iE,go_sem];rw[<-W];exact⟨trivial,r,O⟩
theorem ayl(nl a d ty aa t E w)(b:Nat)(hl:d.length<800)(cA:d≠[])(hT:Hh a)(hz:∀x∈dF a,x.done=V->x.rest=zP):vq qJ 382 [] [.ptr b 0] (λg=>ld g b (.mk 1 nl (a::d) ty aa t E w)) ((dF a).map λy=>kg y C d):=by
 intro n k σ j step s U M g hr hk;suffices hS:Sat (ev PP cf (.call 382 ([]++[.dK n]++[.ptr b 0]) .no g)) λv g'=>v=.tp []/\j (bB step ((dF a).map λy=>kg y C d) s).1 (bB step ((dF a).map λy=>kg y C d) s).2 g'/\Hi k g g' by obtain⟨v,g',e,rfl,r,h⟩:=hS;simp_all
 obtain⟨lV,mU⟩:=M _ _ _ hr;have kB:(b=g.next)=False:=bW ae;have xb:1<=d.length:=by grind
 have d1:=aJb;simp only[bq,opsOf,f382,go_sem]at d1;have Y:ai 1 1=V:=rfl;refine kp func382 ?_;simp only[ab.cells,ab.aN,lg]at lV;simp only[f382];simp only[go_sem,lV,kB];refine vX (a::d) (s,g.alloc (.box ⟨[.dK n],[]⟩)) (λi _=>[(10,iS i)]) (λs=>s.2) (λi _ f=>(i=0/\BrI k n g j step s ((dF a).map λy=>kg y C d) ((dF a).map λy=>kg y C d) f)\/(i=1/\j Z f.1 f.2/\Hi k g f.2/\g.next<f.2.next/\bB step ((dF a).map λy=>kg y C d) s=(Z,f.1))) aj rfl rfl (.inl ⟨rfl,U.stay _ _ _ _ hr (Lo.alloc hk),Hi.alloc,by simp[pB],by simp[cL],rfl,[],rfl,rfl⟩) (λf I=>?_) (λi x m f hi hx hw I G=>?_);.simp_all
 . obtain⟨s1,g1⟩:=f;have H:∃B,B=((((g1.alloc (.box ⟨[iD 0],[]⟩)).alloc (.box ⟨[iD 0,.nl,iD 0,iD 0,iD 0,iD 0,iD 0,.nl,iD 0,iD 0,iD 0,iD 0,iD 0,.str []],[]⟩)).set g1.next (.box ⟨[iD (.ofNat i)],[]⟩)).set (g1.next+1) (.box ⟨x.cells,[]⟩)):=⟨_,rfl⟩;obtain⟨B,H⟩:=H;rcases I with⟨P,I⟩|⟨P,K,A,L,hf⟩;rotate_left 1
   . simp only at K A L hf;obtain⟨D,PU⟩:=M _ _ _ K;simp only[ab.cells]at D;have O:(g1.next=g1.next+1)=False:=bW ae;have y2:(g1.next+1=g1.next)=False:=bW ae;have y3:(b=g1.next)=False:=bW ae;have y4:(b=g1.next+1)=False:=bW ae;have X:ao 0 (.ofNat i)=V:=by rw[P];rfl
     have nL:(DV.agg a.cells::ab.aN d)[i]?=J (.agg x.cells):=by grind[ab.nZ]
     have S:(i<(DV.agg a.cells::ab.aN d).length)=True:=by grind
     simp only[bU]at hi S;simp only[go_sem,hi,nL,D,O,y2,y3,y4,Y,X];rw[hf];simp only[go_sem];refine⟨trivial,U.stay _ _ _ _ K ?_,A.lo (m:=g1.next) ?_ ae⟩;all_goals exact((Lo.alloc ae).trans ((Lo.alloc (by grind[cL])).trans ((Lo.set ae).trans (Lo.set ae))))
   . obtain⟨K,A,yJ,L,yu,dn,qd,nJ⟩:=I;simp only at K A yJ L yu nJ;have BY:a=x:=aj;subst BY;obtain⟨h,ca,Q,g2,e1,l1,c1,cs,it,hp⟩:=hT B;obtain⟨D,PU⟩:=M _ _ _ K;simp only[ab.cells]at D;have O:(g1.next=g1.next+1)=False:=bW ae;have y2:(g1.next+1=g1.next)=False:=bW ae;have y3:(b=g1.next)=False:=bW ae;have y4:(b=g1.next+1)=False:=bW ae;have X:ao 0 (.ofNat i)=C:=by rw[P];rfl
     have Fa:B.next=g1.next+2:=by rw[H];rfl
     have lB:Lo g1.next g1 B:=by rw[H];exact((Lo.alloc (bo _)).trans ((Lo.alloc (by simp[cL])).trans ((Lo.set (bo _)).trans (Lo.set ae))))
     have yB:B.get g1.next=J (.box ⟨[iD (.ofNat i)],[]⟩):=by rw[H];simp only[go_sem,O]
     have nL:(DV.agg a.cells::ab.aN d)[i]?=J (.agg a.cells):=aj;have S:(i<(DV.agg a.cells::ab.aN d).length)=True:=by grind
     simp only[bU]at hi S;simp only[go_sem,hi,nL,D,O,y2,y3,y4,Y,X];rw[<-H];simp only[go_sem,e1];rw[ajq];have cX:g.next<g1.next:=L;have l2:Lo g1.next g1 g2:=lB.trans (l1.mono ae);have hn4:=l1.1;have oV:g2.get g.next=J (.box ⟨[.dK n],[]⟩):=(l2.2 _ cX).trans yJ;have lZ:g2.get g1.next=J (.box ⟨[iD (.ofNat i)],[]⟩):=(l1.2 _ ae).trans yB;refine yX it (tV (λy=>[kg y C d]) step) (zK k g g.next n (λg'=>Q g'/\g'.get g1.next=J (.box ⟨[iD (.ofNat i)],[]⟩)/\g1.next<g'.next) j) (Z,s1) hp rfl ⟨U.stay _ _ _ _ K (l2.mono ae),⟨c1,lZ,ae⟩,A.lo l2 ae,oV,rfl,ae⟩ (λc s g' h=>h.c.1) (λc s g3 g4 h hl=>h.lo U hl ae ae ae (λg5 g6 u p=>⟨cs g5 g6 u.1 p.1 λi _ hi=>p.2 i hi,(p.2 _ ae).trans u.2.1,fj u.2.2 p.1⟩)) (λy q g3 hy R hN T=>?_) (λg3 R hN=>?_)
     . obtain⟨km,mA⟩:=N8 hy;obtain⟨s0,q⟩:=q;simp only at km mA;subst km;have VJ:∀y f,qB step ((dF a).flatMap λy=>[kg y C d]) s1 y f->qB step ((dF a).map λy=>kg y C d) s y f:=by
        rintro y f⟨pre,post,p1,p2⟩;refine⟨dn++pre,post,?_,?_⟩;.grind[C1]
        grind[lT]
       have cY:=VJ _ _ (mA [] (kg y C d) [] q rfl rfl);have ns:tV (λy=>[kg y C d]) step y (Z,q)=((step (kg y C d) q).1.map λ_=>Code.ret,step (kg y C d) q):=by simp[tV,wW]
       rw[ns];have W:=hz y hy.mem;refine ze T rfl ?_;have AK:=R.y;have Qe:=R.c.2.1;obtain⟨BL,OD⟩:=M _ _ _ R.r;simp only[ab.cells,ab.aN,lg]at BL;have e4:=ari y d ae W;have s9:oz PP 25 (.ay (ab.aN (a::d)) 32 14) (J (.int .i64 1)) Z Z=_:=Z8 (l:=ab.aN (a::d)) (n:=1) (by simp[ab.jP]) ae;have z1:(g2.next=g3.next)=False:=bW ae;have z2:(g2.next=g3.next+1)=False:=bW ae;have z3:(g3.next=g2.next)=False:=bW ae;have z4:(g3.next+1=g2.next)=False:=bW ae;have z5:(g.next=g3.next)=False:=bW ae;have z6:(g.next=g3.next+1)=False:=bW ae;have z7:(g.next=g2.next)=False:=bW ae;have z8:(b=g3.next)=False:=bW ae;have z9:(b=g3.next+1)=False:=bW ae;have sZ:(b=g2.next)=False:=bW ae;have mj:(g3.next+1=g3.next)=False:=bW ae;have z12:(g3.next=g3.next+1)=False:=bW ae;have z13:(g1.next=g3.next)=False:=bW ae;have z14:(g1.next=g3.next+1)=False:=bW ae;have z15:(g1.next=g2.next)=False:=bW ae;have F:∃d9 N,kg y C d=⟨y.bw,d9,N⟩:=by simp[kg]
       obtain⟨d9,N,F⟩:=F;rw[F]at cY e4;rw[F];simp only[qJ,Pr.rd,Edge.d]at e4|-;simp only[ab.aN,List.drop_succ_cons,wJ]at s9;try simp only[go_sem]at e4
       simp only[go_sem,T,AK,BL,z1,z2,z3,z4,z5,z6,z7,z8,z9,sZ,mj,z12,Y,d1,s9,e4];simp only[uo];refine zy U ⟨y.bw,d9,N⟩ q rfl cY R.r (show k<=g2.next by omega) hN lG (λg4 r4 u=>?_);have q1:=u.2 g2.next ae (by grind[cL,dW]);simp only[go_sem,T,z1,z2]at q1;have fin:=λo=>R.next U lG u hk ae ae hN (λa b p h6 h7=>⟨cs a b p.1 h6 λi h8 h9=>h7 i ae h9,(h7 _ ae ae).trans p.2.1,fj p.2.2 h6⟩) (o:=o) r4;generalize step ⟨y.bw,d9,N⟩ q=z at*;obtain⟨c3,s4⟩:=z;cases c3 with|none=>simp only[pj,rD]at fin|-;simp only[go_sem,q1];exact⟨trivial,(fin _).1,(fin _).2,rfl⟩|some c3=>simp only[pn,iE]at fin|-;simp only[go_sem,q1];exact⟨trivial,(fin _).1,(fin _).2,rfl⟩
     .rw[C3,C1]at R;rw[C3,C1];rw[yu]at R|-;obtain⟨r,_,h2,F,_,Vq⟩:=R;generalize bB step ((dF a).map λy=>kg y C d) s=z at*;obtain⟨cz,sz⟩:=z;cases cz with|none=>have G:=G (sz,g3) (.inr ⟨ae,r,h2,by show g.next<g3.next;omega,rfl⟩);simp only[rD];simp only[go_sem]at G;simp only[go_sem,hw,G]|some cz=>simp only[iE,go_sem];exact⟨trivial,r,h2⟩
end Go.VM
